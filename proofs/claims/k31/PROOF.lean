import PyProof.Rows.All
import Wide.All
import OpenK.AllK
import Wide.FinOn
import PySem.Challenge.RW_pressletters_k31_costs_of_texts
import HandS.ForMost
import HandS.Strs
import HandS.SetKeys
import HandS.TupMul
import HandS.ForExc
import HandS.Walk
import HandS.Zip
import HandS.TupAny
import HandS.Style
import HandS.FStr
import HandS.TryOnly
import HandS.HotCalls
import HandS.IsInst
import KE.GoesEnum
import HandS.SortInts
import HandS.RevTup
import HandS.ExcIs
set_option Elab.async false
set_option linter.all false
set_option maxRecDepth 100000
set_option maxHeartbeats 4000000

namespace DLs
open PySem PySem.Spec PyProof.Rows

/-- how many differ -/
def dcount : List Str → List Str → Nat
  | _, [] => 0
  | seen, x :: r => (if seen.any (· == x) = true then 0 else 1) + dcount (seen ++ [x]) r
theorem dcount_cons (seen : List Str) (x : Str) (r : List Str) : dcount seen (x :: r) = (if seen.any (· == x) = true then 0 else 1) + dcount (seen ++ [x]) r := rfl
theorem dcount_le : ∀ (xs seen : List Str), dcount seen xs ≤ xs.length
  | [], _ => Nat.le_refl _
  | x :: r, seen => by
    unfold dcount
    have h := dcount_le r (seen ++ [x])
    rw [List.length_cons]
    split <;> omega
section
variable {prog : Program} {w : World} {A : Around} {R : Result → Shared → Prop} {I : Addr} {fp wr : List Addr} {G : Array GenState → Array GenState → Prop} {n : Nat} {P : Nat → Value → Prop} {St : Nat → Shared → Prop}
theorem loopStrD (W : WalksS prog w A.in1 I fp wr G n P St) (S : Addr) (hSf : S ∉ fp) (xs : List Str) (hsz : xs.length = n) (hn1 : n < 4000)
    (hval : ∀ i v, P i v → ∃ t, v = .str (xs.getD i Str.empty) t) :
    ∀ (k i m : Nat) (s : Shared), n - i = k → i ≤ n → m ≤ i → St i s →
      s.heap.SetOf (PySem.strKind prog w) S (fun k' => (xs.take i).any (· == k')) m →
      (∀ s', Moved (S :: wr) G s s' → s'.heap.SetOf (PySem.strKind prog w) S (fun k' => (xs.take n).any (· == k')) (m + dcount (xs.take i) (xs.drop i)) → R (.ok (.ret .none)) s') →
      codeAny (model prog w) A (.builtin "set.update.loop" ⟨[.ref S, .ref I], []⟩) R s := by
  have hSw : S ∉ wr := fun h => hSf (W.sub _ h)
  have hsub : ∀ b ∈ wr, b ∈ S :: wr := fun b hb => List.mem_cons_of_mem _ hb
  intro k
  induction k with
  | zero =>
    intro i m s hk hi hm hst hS hR
    have hin : i = n := by omega
    subst hin
    refine codeAny_builtin PyProof.Rows.F.entry_set_update_loop ?_
    rw [Around.under_plainId PyProof.Rows.F.plain_set_update_loop _]
    show wpAny _ A.in1 (pyNext (.ref I) >>= _) _ _ s
    refine wpAny_bind (W.done s _ _ hst fun s' hmv => ?_)
    show wpAny _ A.in1 (ret Value.none) _ _ s'
    refine wpAny_pure (hR s' (hmv.mono hsub) ?_)
    rw [List.drop_of_length_le (by omega)]
    show s'.heap.SetOf _ _ _ (m + 0)
    obtain ⟨o, es, ep, t, ho, rest⟩ := hS
    exact ⟨o, es, ep, t, hmv.heap S _ hSw ho, rest⟩
  | succ k ih =>
    intro i m s hk hi hm hst hS hR
    have hlt : i < n := by omega
    have hlx : i < xs.length := by omega
    refine codeAny_builtin PyProof.Rows.F.entry_set_update_loop ?_
    rw [Around.under_plainId PyProof.Rows.F.plain_set_update_loop _]
    show wpAny _ A.in1 (pyNext (.ref I) >>= _) _ _ s
    refine wpAny_bind (W.item i s _ _ hlt hst fun v s' hP hst' hmv => ?_)
    obtain ⟨t, rfl⟩ := hval i v hP
    have hS' : s'.heap.SetOf (PySem.strKind prog w) S (fun k' => (xs.take i).any (· == k')) m := by
      obtain ⟨o, es, ep, tb, ho, rest⟩ := hS
      exact ⟨o, es, ep, tb, hmv.heap S _ hSw ho, rest⟩
    show wpAny _ A.in1 (holding [Value.str (xs.getD i Str.empty) t] (setAdd S (.str (xs.getD i Str.empty) t)) >>= _) _ _ s'
    refine wpAny_bind (wpAny_holding ?_)
    unfold setAdd
    refine wpAny_holding ?_
    refine wpAny_bind ((PySem.strKind prog w).pyHash (k := xs.getD i Str.empty) (strKind_is _ _ _ _) ?_)
    refine wpAny_setAddHashed_of (knd := PySem.strKind prog w) (s := { s' with toks := s'.toks + 1 }) (strKind_is _ _ _ _) rfl hS' (by unfold scanBound; omega) fun h' hsb hS2 => ?_
    have ex : xs.getD i Str.empty = xs[i] := by
      rw [List.getD_eq_getElem?_getD, List.getElem?_eq_getElem hlx]
      rfl
    have et : xs.take (i + 1) = xs.take i ++ [xs[i]] := by
      rw [List.take_add_one, List.getElem?_eq_getElem hlx]
      rfl
    have ed : xs.drop i = xs[i] :: xs.drop (i + 1) := List.drop_eq_getElem_cons hlx
    have hSi : h'.SetOf (PySem.strKind prog w) S (fun k' => (xs.take (i + 1)).any (· == k')) (if (xs.take i).any (· == xs[i]) = true then m else m + 1) := by
      refine SetOf_congr hS2 (fun k' => ?_) ?_
      · rw [et, List.any_append, ex]
        by_cases e : k' = xs[i]
        · subst e
          simp
        · have hb : (xs[i] == k') = false := beq_eq_false_iff_ne.mpr fun h' => e h'.symm
          simp [hb, e]
      · rw [ex]
    refine wpAny_pure ⟨plainId_quiet PyProof.Rows.F.plain_set_update_loop _, ih (i + 1) _ _ (by omega) hlt (by split <;> omega) (W.frame _ s' _ _ hst' (Nat.le_succ _) fun b hb o e => ?_) hSi fun s'' hm'' hS'' => ?_⟩
    · rw [hsb.2 b (fun h : b = S => hSf (by rw [← h]; exact hb))]
      exact e
    · refine hR s'' (Moved.trans W.gtrans ((hmv.mono hsub).then_heap (Nat.le_succ _) fun b o hb e => ?_) hm'') ?_
      · rw [hsb.2 b (fun h : b = S => hb (by rw [h]; exact List.mem_cons_self))]
        exact e
      · refine SetOf_congr hS'' (fun _ => rfl) ?_
        rw [ed, dcount_cons, et]
        split <;> omega
end
def signs (x : Str) : List Str := x.cps.toList.map fun c => ⟨#[c]⟩
section
variable {prog : Program} {w : World} {A : Around} {E : Value → Shared → Prop} {s : Shared}
theorem sub_str_set : isSubtype (.type "str") (.type "set") = pure false := by rw [isSubtype_type]; kernel_rfl
theorem sub_str_frozenset : isSubtype (.type "str") (.type "frozenset") = pure false := by rw [isSubtype_type]; kernel_rfl
set_option maxHeartbeats 8000000 in
/-- set(text) -/
theorem call_set_str {x : Str} {t : Tok} {Q : Value → Shared → Prop}
    (hh : A.handled = none) (hn1 : x.cps.size < 4000)
    (h : ∀ (h' : Heap) (tk : Nat), h'.SetOf (PySem.strKind prog w) s.heap.objs.size (fun k' => (signs x).any (· == k')) (dcount [] (signs x)) →
      (∀ b o, b < s.heap.objs.size → s.heap.get? b = some o → h'.get? b = some o) → Q (.ref s.heap.objs.size) { s with heap := h', toks := tk }) :
    wpAny (model prog w) A (call (.type "set") [.str x t]) Q E s := by
  obtain ⟨c, tl, hmro⟩ := PySem.F.called_set.mro
  have hmade := PySem.F.called_set.made
  have hsub := PySem.F.called_set.sub
  refine wpAny_call (codeAny_of_tree ?_)
  show wpAny _ _ (callAny (.type "set") _) _ _ _
  refine wpAny_pure ⟨Code.quiet_builtin _ (by decide +kernel), codeAny_builtin PySem.F.entry_type_call ?_⟩
  rw [Around.under_plain (weight_type_call_type "set" [.str x t] []) rfl]
  have h1 := PySem.F.called_set.notType
  have h2 := PySem.F.called_set.canCreate
  have hct := PySem.F.typeCall_set_1 (.str x t)
  repeat (any_goals (first | assumption | wp_step))
  refine codeAny_mono (code_set_new_1 (.str x t) (E := E) (Q₁ := fun obj s₁ => ∃ led : Bool, obj = .ref s.heap.objs.size ∧ s₁ = { s with heap := s.heap.push { cls := .type "set", dict := none, data := .set #[] 0 (.fresh 0 0 led) } }) fun led => ⟨led, rfl, rfl⟩) fun r s₁ hr => ?_
  cases r with
  | error e => exact hr
  | ok fl =>
    cases fl with
    | ret obj =>
      obtain ⟨led, rfl, rfl⟩ := hr
      have hS : (s.heap.push { cls := .type "set", dict := none, data := .set #[] 0 (.fresh 0 0 led) }).get? s.heap.objs.size = some { cls := .type "set", dict := none, data := .set #[] 0 (.fresh 0 0 led) } := Heap.get?_push_size _ rfl
      have hT : Shared.TypeIs { s with heap := s.heap.push { cls := .type "set", dict := none, data := .set #[] 0 (.fresh 0 0 led) } } (.ref s.heap.objs.size) "set" := ⟨_, hS, rfl⟩
      have hli := PySem.F.called_set.init.lookup
      have hbi := PySem.F.called_set.init.bind (.ref s.heap.objs.size)
      repeat (any_goals (first | assumption | wp_step))
      refine codeAny_mono (codeAny_call_builtin (R := wants (fun r s₂ => r = .none ∧ ∃ h' tk, s₂ = { s with heap := h', toks := tk } ∧
          h'.SetOf (PySem.strKind prog w) s.heap.objs.size (fun k' => (signs x).any (· == k')) (dcount [] (signs x)) ∧
          (∀ b o, b < s.heap.objs.size → s.heap.get? b = some o → h'.get? b = some o)) E) PySem.F.called_set.init.plain PySem.F.entry_set_init (check_set_init_1 hT ?_)) fun r₂ s₂ hr₂ => ?_
      · have hsls := sub_str_set
        have hslf := sub_str_frozenset
        have hne : (Value.type "str" == Value.type "dict") = false := by decide
        unfold Builtin.«set.__init__» noKeywords Builtin.Frozenset.updateFrom
        generalize hPI : pyIter = PI
        wp_walk
        subst hPI
        refine wpAny_pyIter_strU ?_
        refine wpAny_bind (wpAny_runValue ?_)
        have hh3 : A.in1.in1.in1.handled = none := by simp [hh]
        have hSf : s.heap.objs.size ∉ [(s.heap.push { cls := .type "set", dict := none, data := .set #[] 0 (.fresh 0 0 led) }).objs.size] := by
          rw [Heap.size_push]
          simp only [List.mem_singleton]
          exact Nat.ne_of_lt (Nat.lt_succ_self _)
        have hsz : (signs x).length = x.cps.size := by
          unfold signs
          rw [List.length_map, Array.length_toList]
        have hval : ∀ (i : Nat) (v : Value), SignAt x i v → ∃ t, v = .str ((signs x).getD i Str.empty) t := fun i v ⟨c, u, hc, hv⟩ => ⟨u, by
          rw [hv]
          unfold signs
          rw [List.getD_eq_getElem?_getD, List.getElem?_map, Array.getElem?_toList, hc]
          rfl⟩
        have W : Walks prog w A.in1.in1.in1 (s.heap.push { cls := .type "set", dict := none, data := .set #[] 0 (.fresh 0 0 led) }).objs.size [(s.heap.push { cls := .type "set", dict := none, data := .set #[] 0 (.fresh 0 0 led) }).objs.size] [(s.heap.push { cls := .type "set", dict := none, data := .set #[] 0 (.fresh 0 0 led) }).objs.size] x.cps.size (SignAt x)
            (fun i h => h.IsStrIter (s.heap.push { cls := .type "set", dict := none, data := .set #[] 0 (.fresh 0 0 led) }).objs.size (strIterType x) x t i) := by
          cases ha : x.cps.all (· < 128)
          · rw [show strIterType x = "str_iterator" by simp [strIterType, ha]]
            exact Walks.strWide hh3 _ x t
          · rw [show strIterType x = "str_ascii_iterator" by simp [strIterType, ha]]
            exact Walks.strAscii hh3 _ x t
        refine loopStrD W.toS s.heap.objs.size hSf (signs x) hsz hn1 hval (x.cps.size - 0) 0 0 _ (by omega) (Nat.zero_le _) (Nat.le_refl _)
          ⟨_, Heap.get?_push_size _ rfl, rfl, rfl⟩ ?hS0 ?hR
        case hS0 =>
          have hget : ((s.heap.push { cls := .type "set", dict := none, data := .set #[] 0 (.fresh 0 0 led) }).push { cls := .type (strIterType x), data := .fields #[.str x t, .int 0 0] }).get? s.heap.objs.size
              = some { cls := .type "set", dict := none, data := .set #[] 0 (.fresh 0 0 led) } := Heap.get?_push_of_some _ hS
          exact PyProof.Rows.SetOf_congr ((PyProof.Rows.setObjOf_fresh (knd := PySem.strKind prog w) led).setOf hget (by unfold scanBound; omega)) (fun _ => rfl) rfl
        case hR =>
          intro s' hm hS'
          obtain ⟨h', g', d', tk', os'⟩ := s'
          have eg : g' = s.gens := hm.gens
          have ed : d' = s.drawn := hm.drawn
          have eo : os' = s.os := hm.os
          subst eg; subst ed; subst eo
          show wpAny _ _ _ _ _ _
          refine wpAny_pure ?_
          show wpAny _ _ (ret Value.none) _ _ _
          refine wpAny_pure ⟨rfl, h', tk', rfl, ?_, fun b o hb e => ?_⟩
          · refine SetOf_congr hS' (fun k' => ?_) ?_
            · rw [List.take_of_length_le (by omega)]
            · rw [Nat.zero_add, List.take_zero, List.drop_zero]
          · have hb1 : b ≠ s.heap.objs.size := Nat.ne_of_lt hb
            have hb2 : b ≠ (s.heap.push { cls := .type "set", dict := none, data := .set #[] 0 (.fresh 0 0 led) }).objs.size := by
              rw [Heap.size_push]
              exact Nat.ne_of_lt (Nat.lt_succ_of_lt hb)
            exact hm.heap b o (by simp only [List.mem_cons, List.mem_singleton, List.not_mem_nil, or_false, not_or]; exact ⟨hb1, hb2⟩) (Heap.get?_push_of_some _ (Heap.get?_push_of_some _ e))
      · cases r₂ with
        | error e => exact hr₂
        | ok fl₂ =>
          cases fl₂ with
          | ret r =>
            obtain ⟨rfl, h', tk, rfl, hS', hk'⟩ := hr₂
            repeat (any_goals (first | assumption | wp_step))
            exact h _ _ hS' hk'
          | _ => exact hr₂.elim
    | _ => exact hr.elim
end
end DLs

namespace DLs
open PySem PySem.Spec PyProof.Rows L2
/-! tuple * int, whatever the int -/
theorem tuple_mulSame (l : Addr) (items : Array Value) (n : Nat) (sl : Array (Option Value)) (dd : Option Addr) (x : Int) (u : Tok) (c0 : (decide (x < -(2 ^ 63)) || decide (x ≥ 2 ^ 63)) = false) (c1 : (items.isEmpty || x == 1) = true) :
    Meets (Builtin.«tuple.__mul__» ⟨[.ref l, .int x u], []⟩) (fun _ R s => s.heap.get? l = some { cls := .type "tuple", dict := dd, data := .seq items n, slots := sl } ∧ R (.ok (.ret (Value.ref l))) s) :=
  .of_wp fun prog w A R s h => by
    obtain ⟨hp, g, d, tk, os⟩ := s
    obtain ⟨hl, h⟩ := h
    have f1 := AutoSeq1.idx_int
    wp_walk using wpAny_loadPart' hl
    repeat (first
      | (refine wpAny_ite_false (decide_eq_false (by rw [c0]; exact Bool.false_ne_true)) ?_; wp_walk using wpAny_loadPart' hl)
      | (refine wpAny_ite_true (decide_eq_true c1) ?_; wp_walk using wpAny_loadPart' hl))
    exact ⟨_, rfl, h⟩
theorem tuple_mulNone (l : Addr) (items : Array Value) (n : Nat) (sl : Array (Option Value)) (dd : Option Addr) (x : Int) (u : Tok) (c0 : (decide (x < -(2 ^ 63)) || decide (x ≥ 2 ^ 63)) = false) (c1 : (items.isEmpty || x == 1) = false) (c2 : (decide (x ≤ 0) || items.isEmpty) = true) :
    Meets (Builtin.«tuple.__mul__» ⟨[.ref l, .int x u], []⟩) (fun _ R s => s.heap.get? l = some { cls := .type "tuple", dict := dd, data := .seq items n, slots := sl } ∧
      R (.ok (.ret (Value.ref s.heap.objs.size))) { s with heap := s.heap.push { cls := Value.type "tuple", data := Data.seq #[] }, toks := s.toks }) :=
  .of_wp fun prog w A R s h => by
    obtain ⟨hp, g, d, tk, os⟩ := s
    obtain ⟨hl, h⟩ := h
    have f1 := AutoSeq1.idx_int
    wp_walk using wpAny_loadPart' hl
    repeat (first
      | (refine wpAny_ite_false (decide_eq_false (by rw [c0]; exact Bool.false_ne_true)) ?_; wp_walk using wpAny_loadPart' hl)
      | (refine wpAny_ite_false (decide_eq_false (by rw [c1]; exact Bool.false_ne_true)) ?_; wp_walk using wpAny_loadPart' hl)
      | (refine wpAny_ite_true (decide_eq_true c2) ?_; wp_walk using wpAny_loadPart' hl))
    exact ⟨_, rfl, h⟩
def rRepA (K : PySem.W.Frag) : R2 := fun x y H Q => ∃ l k xs, x = .ref l ∧ y = .int k ∧ SqT K H l xs ∧ -(2 ^ 62) ≤ k ∧ k ≤ 1000 ∧ xs.length ≤ 1000 ∧
  ((xs = [] ∨ k = 1) → Q (.ref l) H) ∧ (¬ (xs = [] ∨ k = 1) → ∀ p, H p = none → Q (.ref p) (upd H p (.tup (List.replicate k.toNat xs).flatten)))
theorem op_repA {X : Cx} : OpR X (binaryOp .Mult) (rRepA X.K) := by
  intro pins s σ H x y v u Q I rx ry h
  obtain ⟨l, k, xs, rfl, rfl, hT, h1, h2, hz, q1, q2⟩ := h
  by_cases hs : xs = [] ∨ k = 1
  · cases rx
    obtain ⟨t, rfl⟩ := ry
    obtain ⟨its, r, ⟨⟨cls, dd, data, sl⟩, ho, hc, n, hd⟩, hsz⟩ := I.tuple hT
    simp only at hc hd
    subst hc hd
    have hle : its.length = xs.length := r.length.symm
    have c0 : (decide (k < -(2 ^ 63)) || decide (k ≥ 2 ^ 63)) = false := by
      rw [decide_eq_false (by omega), decide_eq_false (by omega)] <;> rfl
    have c1 : (its.toArray.isEmpty || k == 1) = true := by
      rcases hs with e | e
      · have e2 : its = [] := by
          cases its with
          | nil => rfl
          | cons a b => rw [e] at hle; cases hle
        rw [e2]
        rfl
      · rw [e]
        simp
    refine wpAny_binaryOp_repeat_ref (T := "tuple") (U := "int") (by decide) ⟨_, ho, rfl⟩ (fun s' => typeIs_int s' k t) noFill_tuple_mul F.fills_int_mul F.slot_int_rmul repeat_tuple F.slot_int_index.lookup
      (call_meets F.slot_int_rmul (typeIs_int s k t) F.entry_int_rmul (F.args_int_rmul_2 _ _) (int_rmul_tuple k t l its.toArray n dd sl)
        ⟨ho, rfl, ⟨_, ho, rfl⟩, call_meets F.slot_tuple_mul ⟨_, ho, rfl⟩ F.entry_tuple_mul (F.args_tuple_mul_2 _ _) (tuple_mulSame l its.toArray n sl dd k t c0 c1) ⟨ho, ?_⟩⟩)
    exact ⟨.ref l, H, I, rfl, q1 hs⟩
  · by_cases hk : 2 ≤ k
    · exact op_repT pins s σ H _ _ v u Q I rx ry ⟨l, k, xs, rfl, rfl, hT, fun e => hs (.inl e), hk, h2, hz, q2 hs⟩
    · have hk0 : k ≤ 0 := by
        have : k ≠ 1 := fun e => hs (.inr e)
        omega
      cases rx
      obtain ⟨t, rfl⟩ := ry
      obtain ⟨its, r, ⟨⟨cls, dd, data, sl⟩, ho, hc, n, hd⟩, hsz⟩ := I.tuple hT
      simp only at hc hd
      subst hc hd
      have hle : its.length = xs.length := r.length.symm
      have c0 : (decide (k < -(2 ^ 63)) || decide (k ≥ 2 ^ 63)) = false := by
        rw [decide_eq_false (by omega), decide_eq_false (by omega)] <;> rfl
      have c1 : (its.toArray.isEmpty || k == 1) = false := by
        have hi : its.toArray.isEmpty = false := by
          cases its with
          | nil => exact absurd (List.eq_nil_of_length_eq_zero hle.symm) (fun e => hs (.inl e))
          | cons a b => rfl
        rw [hi, Bool.false_or]
        exact beq_eq_false_iff_ne.mpr (by omega)
      have c2 : (decide (k ≤ 0) || its.toArray.isEmpty) = true := by
        rw [decide_eq_true hk0] <;> rfl
      refine wpAny_binaryOp_repeat_ref (T := "tuple") (U := "int") (by decide) ⟨_, ho, rfl⟩ (fun s' => typeIs_int s' k t) noFill_tuple_mul F.fills_int_mul F.slot_int_rmul repeat_tuple F.slot_int_index.lookup
        (call_meets F.slot_int_rmul (typeIs_int s k t) F.entry_int_rmul (F.args_int_rmul_2 _ _) (int_rmul_tuple k t l its.toArray n dd sl)
          ⟨ho, rfl, ⟨_, ho, rfl⟩, call_meets F.slot_tuple_mul ⟨_, ho, rfl⟩ F.entry_tuple_mul (F.args_tuple_mul_2 _ _) (tuple_mulNone l its.toArray n sl dd k t c0 c1 c2) ⟨ho, ?_⟩⟩)
      have e0 : k.toNat = 0 := by omega
      have z := q2 hs s.heap.objs.size I.fresh
      rw [e0] at z
      exact ⟨.ref s.heap.objs.size, _, I.laid (t' := s.toks) (o := .tup []) (fun b ob q => Heap.get?_push_of_some _ q) (Nat.le_refl _) ⟨Nat.zero_le _, [], .nil, IsTup.new _ _⟩, rfl, z⟩
end DLs

/-! DL: a layer over HandS by data: frozen values are PyData, slots may own lists and dicts. -/
namespace DL
open PySem PySem.Spec PyProof.Rows L2

abbrev D := PyData
abbrev HSt := L2.St
def kD : Key → D
  | .inl i => .int i
  | .inr x => .str x

/-! ### what stands for what -/
mutual
inductive Rp (F : Hp) : V → D → Prop
  | non : Rp F .non .none
  | bl (b : Bool) : Rp F (.bl b) (.bool b)
  | int (i : Int) : Rp F (.int i) (.int i)
  | str (x : Str) : Rp F (.str x) (.str x)
  | lst {a : Addr} {xs : List V} {ds : List D} : F a = some (.lst xs) → RpA F xs ds → Rp F (.ref a) (.list ds)
  | tup {a : Addr} {xs : List V} {ds : List D} : F a = some (.tup xs) → RpA F xs ds → Rp F (.ref a) (.tuple ds)
  | dic {a : Addr} {o : Obj} {kvs : List (Key × V)} {ds : List (D × D)} : F a = some (.frz o (.dK kvs)) → RpK F kvs ds → Rp F (.ref a) (.dict ds)
  | dicT {a : Addr} {o : Obj} {kvs : List (List Key × V)} {ds : List (D × D)} {hn : ds ≠ []} : F a = some (.frz o (.dT kvs)) → RpT F kvs ds → Rp F (.ref a) (.dict ds)
inductive RpA (F : Hp) : List V → List D → Prop
  | nil : RpA F [] []
  | cons {v : V} {d : D} {vs : List V} {ds : List D} : Rp F v d → RpA F vs ds → RpA F (v :: vs) (d :: ds)
inductive RpK (F : Hp) : List (Key × V) → List (D × D) → Prop
  | nil : RpK F [] []
  | cons {k : Key} {v : V} {d : D} {vs : List (Key × V)} {ds : List (D × D)} : Rp F v d → RpK F vs ds → RpK F ((k, v) :: vs) ((kD k, d) :: ds)
inductive RpT (F : Hp) : List (List Key × V) → List (D × D) → Prop
  | nil : RpT F [] []
  | cons {k : List Key} {v : V} {d : D} {vs : List (List Key × V)} {ds : List (D × D)} : Rp F v d → RpT F vs ds → RpT F ((k, v) :: vs) ((.tuple (k.map kD), d) :: ds)
end

mutual
theorem Rp.mono {F F' : Hp} (e : Same F F') : ∀ {v : V} {d : D}, Rp F v d → Rp F' v d
  | _, _, .non => .non
  | _, _, .bl b => .bl b
  | _, _, .int i => .int i
  | _, _, .str x => .str x
  | _, _, .lst h r => .lst (e _ _ h) (RpA.mono e r)
  | _, _, .tup h r => .tup (e _ _ h) (RpA.mono e r)
  | _, _, .dic h r => .dic (e _ _ h) (RpK.mono e r)
  | _, _, .dicT (hn := hn) h r => .dicT (hn := hn) (e _ _ h) (RpT.mono e r)
theorem RpA.mono {F F' : Hp} (e : Same F F') : ∀ {v : List V} {d : List D}, RpA F v d → RpA F' v d
  | _, _, .nil => .nil
  | _, _, .cons h r => .cons (Rp.mono e h) (RpA.mono e r)
theorem RpK.mono {F F' : Hp} (e : Same F F') : ∀ {v : List (Key × V)} {d : List (D × D)}, RpK F v d → RpK F' v d
  | _, _, .nil => .nil
  | _, _, .cons h r => .cons (Rp.mono e h) (RpK.mono e r)
theorem RpT.mono {F F' : Hp} (e : Same F F') : ∀ {v : List (List Key × V)} {d : List (D × D)}, RpT F v d → RpT F' v d
  | _, _, .nil => .nil
  | _, _, .cons h r => .cons (Rp.mono e h) (RpT.mono e r)
end

theorem RpA.len {F : Hp} : ∀ {vs : List V} {ds : List D}, RpA F vs ds → vs.length = ds.length
  | _, _, .nil => rfl
  | _, _, .cons _ r => by rw [List.length_cons, List.length_cons, RpA.len r]
theorem RpA.get {F : Hp} : ∀ {vs : List V} {ds : List D} {i : Nat} {d : D}, RpA F vs ds → ds[i]? = some d → ∃ v, vs[i]? = some v ∧ Rp F v d
  | _, _, _, _, .nil, e => by simp at e
  | _, _, 0, _, .cons h _, e => by
    simp at e
    subst e
    exact ⟨_, rfl, h⟩
  | _, _, i + 1, d, .cons _ r, e => by
    obtain ⟨v, h1, h2⟩ := RpA.get (i := i) (d := d) r (by simpa using e)
    exact ⟨v, by simpa using h1, h2⟩
theorem RpA.app {F : Hp} : ∀ {vs ws : List V} {ds es : List D}, RpA F vs ds → RpA F ws es → RpA F (vs ++ ws) (ds ++ es)
  | _, _, _, _, .nil, s => s
  | _, _, _, _, .cons h r, s => .cons h (RpA.app r s)
theorem RpA.one {F : Hp} {v : V} {d : D} (h : Rp F v d) : RpA F [v] [d] := .cons h .nil
theorem RpA.set {F : Hp} {v : V} {d : D} (h : Rp F v d) : ∀ {vs : List V} {ds : List D} (i : Nat), RpA F vs ds → RpA F (vs.set i v) (ds.set i d)
  | _, _, _, .nil => .nil
  | _, _, 0, .cons _ r => .cons h r
  | _, _, i + 1, .cons q r => .cons q (RpA.set h i r)
theorem RpA.drop {F : Hp} : ∀ {vs : List V} {ds : List D} (i : Nat), RpA F vs ds → RpA F (vs.drop i) (ds.drop i)
  | _, _, 0, r => r
  | _, _, _ + 1, .nil => .nil
  | _, _, i + 1, .cons _ r => RpA.drop i r
theorem RpA.take {F : Hp} : ∀ {vs : List V} {ds : List D} (i : Nat), RpA F vs ds → RpA F (vs.take i) (ds.take i)
  | _, _, 0, _ => .nil
  | _, _, _ + 1, .nil => .nil
  | _, _, i + 1, .cons h r => .cons h (RpA.take i r)
theorem RpA.rev {F : Hp} : ∀ {vs : List V} {ds : List D}, RpA F vs ds → RpA F vs.reverse ds.reverse
  | _, _, .nil => .nil
  | _, _, .cons h r => by
    rw [List.reverse_cons, List.reverse_cons]
    exact RpA.app (RpA.rev r) (.one h)
theorem RpA.era {F : Hp} : ∀ {vs : List V} {ds : List D} (i : Nat), RpA F vs ds → RpA F (vs.eraseIdx i) (ds.eraseIdx i)
  | _, _, _, .nil => .nil
  | _, _, 0, .cons _ r => r
  | _, _, i + 1, .cons h r => .cons h (RpA.era i r)
theorem RpA.rep {F : Hp} {vs : List V} {ds : List D} (h : RpA F vs ds) : ∀ k : Nat, RpA F (List.replicate k vs).flatten (List.replicate k ds).flatten
  | 0 => .nil
  | k + 1 => by
    rw [List.replicate_succ, List.replicate_succ, List.flatten_cons, List.flatten_cons]
    exact RpA.app h (RpA.rep h k)
theorem RpA.ints {F : Hp} : ∀ (ns : List Int), RpA F (ns.map V.int) (ns.map PyData.int)
  | [] => .nil
  | n :: ns => .cons (.int n) (RpA.ints ns)
theorem RpA.strs {F : Hp} : ∀ (ns : List Str), RpA F (ns.map V.str) (ns.map PyData.str)
  | [] => .nil
  | n :: ns => .cons (.str n) (RpA.strs ns)
theorem RpA.of_ints {F : Hp} : ∀ {vs : List V} {ns : List Int}, RpA F vs (ns.map PyData.int) → vs = ns.map V.int
  | _, [], .nil => rfl
  | _, n :: ns, .cons h r => by
    cases h
    rw [RpA.of_ints r]
    rfl
theorem RpA.of_strs {F : Hp} : ∀ {vs : List V} {ns : List Str}, RpA F vs (ns.map PyData.str) → vs = ns.map V.str
  | _, [], .nil => rfl
  | _, n :: ns, .cons h r => by
    cases h
    rw [RpA.of_strs r]
    rfl
theorem RpA.of_bools {F : Hp} : ∀ {vs : List V} {ns : List Bool}, RpA F vs (ns.map PyData.bool) → vs = ns.map V.bl
  | _, [], .nil => rfl
  | _, n :: ns, .cons h r => by
    cases h
    rw [RpA.of_bools r]
    rfl

/-! ### growth -/
def IsTp (o : Option HO) : Prop := ∃ xs, o = some (.tup xs)
/-- from frozen F in H to frozen F' in H' -/
structure Gw (F H F' H' : Hp) : Prop where
  hh : Same H H'
  ff : Same F F'
  fh : Same F' H'
  nw : ∀ a, F' a ≠ none → F a ≠ none ∨ H a = none ∨ IsTp (F' a)
theorem Same.none {H H' : Hp} (e : Same H H') {a : Addr} (h : H' a = Option.none) : H a = Option.none := e.free h
theorem Gw.refl {F H : Hp} (h : Same F H) : Gw F H F H := ⟨Same.refl _, Same.refl _, h, fun _ h => .inl h⟩
theorem Gw.trans {F H F1 H1 F2 H2 : Hp} (a : Gw F H F1 H1) (b : Gw F1 H1 F2 H2) : Gw F H F2 H2 :=
  ⟨a.hh.trans b.hh, a.ff.trans b.ff, b.fh, fun x h => by
    rcases b.nw x h with h | h | h
    · rcases a.nw x h with h | h | ⟨xs, h⟩
      · exact .inl h
      · exact .inr (.inl h)
      · exact .inr (.inr ⟨xs, b.ff _ _ h⟩)
    · exact .inr (.inl (a.hh.free h))
    · exact .inr (.inr h)⟩
theorem same_new {H : Hp} {p : Addr} {o : HO} (h : H p = none) : Same H (upd H p o) := fun a u e => by
  rw [upd_ne (ne_of_none e h)]
  exact e
theorem Gw.new {F H : Hp} (h : Same F H) {p : Addr} (hp : H p = none) (o : HO) : Gw F H (upd F p o) (upd H p o) :=
  ⟨same_new hp, same_new (h.free hp), fun a u e => by
    by_cases ha : a = p
    · subst ha
      rw [upd_same] at e
      rw [upd_same]
      exact e
    · rw [upd_ne ha] at e
      rw [upd_ne ha]
      exact h a u e, fun a e => by
    by_cases ha : a = p
    · subst ha
      exact .inr (.inl hp)
    · rw [upd_ne ha] at e
      exact .inl e⟩
/-- a new object that stays unknown -/
theorem Gw.junk {F H : Hp} (h : Same F H) {p : Addr} (hp : H p = none) (o : HO) : Gw F H F (upd H p o) :=
  ⟨same_new hp, Same.refl _, h.trans (same_new hp), fun _ h => .inl h⟩

/-! ### slots -/
inductive Sl where
  | no
  | va (d : D)
  | ow (ds : List D)
  | od (kvs : List (D × D))
  | ot (kvs : List (D × D))
  | src (a : Addr)
  | scr (ns : List Int)
  | raw (v : V)
def Sl.own : Sl → Bool
  | .ow _ => true
  | .od _ => true
  | .ot _ => true
  | .src _ => true
  | _ => false
/-- a source of drawn numbers -/
def SrcAt (H : Hp) (a : Addr) : Prop := ∃ c s p : Int, H a = some (.lst [.int c, .int s, .int p]) ∧ 0 ≤ c ∧ 0 ≤ s ∧ s < 1099511627776 ∧ 0 < p ∧ p < 1099511627776
def SlOk (K : PySem.W.Frag) (B F H : Hp) : Sl → Option V → Prop
  | .no, _ => True
  | .va d, o => ∃ v, o = some v ∧ Rp F v d
  | .ow ds, o => ∃ a vs, o = some (.ref a) ∧ B a = none ∧ F a = none ∧ H a = some (.lst vs) ∧ RpA F vs ds
  | .od ds, o => ∃ a vs, o = some (.ref a) ∧ B a = none ∧ F a = none ∧ H a = some (.dK vs) ∧ RpK F vs ds
  | .ot ds, o => ∃ a vs, o = some (.ref a) ∧ B a = none ∧ F a = none ∧ H a = some (.dT vs) ∧ RpT F vs ds
  | .src a, o => o = some (.ref a) ∧ B a = none ∧ F a = none ∧ SrcAt H a
  | .scr ns, o => ∃ a, o = some (.ref a) ∧ SqL K F a (ns.map V.int)
  | .raw v, o => o = some v
structure StOk (K : PySem.W.Frag) (B F0 F : Hp) (ρ : List Sl) (σ : HSt) (H : Hp) : Prop where
  bg : Same B H
  up : Same F0 F
  st : Same F H
  nw : ∀ a, F a ≠ none → F0 a ≠ none ∨ B a = none ∨ IsTp (F a)
  len : σ.length = ρ.length
  sl : ∀ (i : Nat) (s : Sl) (o : Option V), ρ[i]? = some s → σ[i]? = some o → SlOk K B F H s o
  ap : ∀ (i j : Nat) (s t : Sl) (a : Addr), i ≠ j → ρ[i]? = some s → ρ[j]? = some t → s.own = true → t.own = true → σ[i]? = some (some (.ref a)) → σ[j]? = some (some (.ref a)) → False
section
variable {K : PySem.W.Frag} {B F0 F H F' H' : Hp} {ρ : List Sl} {σ : HSt}
theorem SrcAt.mono {a : Addr} (e : Same H H') (h : SrcAt H a) : SrcAt H' a := by
  obtain ⟨c, s, p, h1, h2⟩ := h
  exact ⟨c, s, p, e _ _ h1, h2⟩
theorem SrcAt.ne {a : Addr} (h : SrcAt H a) : H a ≠ none := by
  obtain ⟨c, s, p, h1, h2⟩ := h
  rw [h1]
  exact fun z => nomatch z
theorem Gw.none (g : Gw F H F' H') {a : Addr} {u : HO} (h : F a = Option.none) (hn : H a = some u) (ht : ∀ xs, u ≠ .tup xs) : F' a = Option.none := by
  cases q : F' a with
  | none => rfl
  | some o =>
    rcases g.nw a (by rw [q]; exact fun z => nomatch z) with z | z | ⟨xs, z⟩
    · exact absurd h z
    · rw [hn] at z
      cases z
    · have e := (g.fh _ _ z).symm.trans (g.hh _ _ hn)
      cases e
      exact absurd rfl (ht xs)
theorem SlOk.gw {s : Sl} {o : Option V} (g : Gw F H F' H') (h : SlOk K B F H s o) : SlOk K B F' H' s o := by
  cases s with
  | no => trivial
  | va d =>
    obtain ⟨v, h1, h2⟩ := h
    exact ⟨v, h1, h2.mono g.ff⟩
  | ow ds =>
    obtain ⟨a, vs, h1, h2, h3, h4, h5⟩ := h
    exact ⟨a, vs, h1, h2, g.none h3 h4 (fun _ z => nomatch z), g.hh _ _ h4, h5.mono g.ff⟩
  | od ds =>
    obtain ⟨a, vs, h1, h2, h3, h4, h5⟩ := h
    exact ⟨a, vs, h1, h2, g.none h3 h4 (fun _ z => nomatch z), g.hh _ _ h4, h5.mono g.ff⟩
  | ot ds =>
    obtain ⟨a, vs, h1, h2, h3, h4, h5⟩ := h
    exact ⟨a, vs, h1, h2, g.none h3 h4 (fun _ z => nomatch z), g.hh _ _ h4, h5.mono g.ff⟩
  | src a =>
    obtain ⟨h1, h2, h3, h4⟩ := h
    obtain ⟨c, s, p, h5, _⟩ := id h4
    exact ⟨h1, h2, g.none h3 h5 (fun _ z => nomatch z), h4.mono g.hh⟩
  | raw v => exact h
  | scr ns =>
    obtain ⟨a, h1, h2⟩ := h
    exact ⟨a, h1, g.ff.seq h2⟩
theorem StOk.gw (h : StOk K B F0 F ρ σ H) (g : Gw F H F' H') : StOk K B F0 F' ρ σ H' where
  bg := h.bg.trans g.hh
  up := h.up.trans g.ff
  st := g.fh
  nw := fun a e => by
    rcases g.nw a e with z | z | z
    · rcases h.nw a z with z | z | ⟨xs, z⟩
      · exact .inl z
      · exact .inr (.inl z)
      · exact .inr (.inr ⟨xs, g.ff _ _ z⟩)
    · exact .inr (.inl (h.bg.free z))
    · exact .inr (.inr z)
  len := h.len
  sl := fun i s o h1 h2 => (h.sl i s o h1 h2).gw g
  ap := h.ap
/-- a slot is stored -/
theorem StOk.set (h : StOk K B F0 F ρ σ H) {i : Nat} {s : Sl} {o : Option V} (hs : SlOk K B F H s o) (ha : s.own = true → ∀ (j : Nat) (t : Sl) (a : Addr), j ≠ i → ρ[j]? = some t → t.own = true → o = some (.ref a) → σ[j]? = some (some (.ref a)) → False) :
    StOk K B F0 F (ρ.set i s) (σ.set i o) H where
  bg := h.bg
  up := h.up
  st := h.st
  nw := h.nw
  len := by rw [List.length_set, List.length_set, h.len]
  sl := fun j t u h1 h2 => by
    by_cases e : i = j
    · subst e
      rw [List.getElem?_set_self'] at h1 h2
      cases e1 : ρ[i]? with
      | none => rw [e1] at h1; cases h1
      | some x =>
        cases e2 : σ[i]? with
        | none => rw [e2] at h2; cases h2
        | some y =>
          rw [e1] at h1
          rw [e2] at h2
          cases h1
          cases h2
          exact hs
    · rw [List.getElem?_set_ne e] at h1 h2
      exact h.sl j t u h1 h2
  ap := fun j k t u a hjk h1 h2 h3 h4 h5 h6 => by
    by_cases e : i = j
    · subst e
      rw [List.getElem?_set_ne hjk] at h2 h6
      rw [List.getElem?_set_self'] at h1 h5
      cases e1 : ρ[i]? with
      | none => rw [e1] at h1; cases h1
      | some x =>
        cases e2 : σ[i]? with
        | none => rw [e2] at h5; cases h5
        | some y =>
          rw [e1] at h1
          rw [e2] at h5
          cases h1
          have e3 : o = some (.ref a) := Option.some.inj h5
          exact ha h3 k u a hjk.symm h2 h4 e3 h6
    · rw [List.getElem?_set_ne e] at h1 h5
      by_cases e' : i = k
      · subst e'
        rw [List.getElem?_set_self'] at h2 h6
        cases e1 : ρ[i]? with
        | none => rw [e1] at h2; cases h2
        | some x =>
          cases e2 : σ[i]? with
          | none => rw [e2] at h6; cases h6
          | some y =>
            rw [e1] at h2
            rw [e2] at h6
            cases h2
            have e3 : o = some (.ref a) := Option.some.inj h6
            exact ha h4 j t a hjk h1 h3 e3 h5
      · rw [List.getElem?_set_ne e'] at h2 h6
        exact h.ap j k t u a hjk h1 h2 h3 h4 h5 h6
theorem StOk.setVa (h : StOk K B F0 F ρ σ H) {i : Nat} {v : V} {d : D} (r : Rp F v d) : StOk K B F0 F (ρ.set i (.va d)) (σ.set i (some v)) H :=
  h.set ⟨v, rfl, r⟩ fun z => nomatch z
theorem StOk.setNo (h : StOk K B F0 F ρ σ H) {i : Nat} {o : Option V} : StOk K B F0 F (ρ.set i .no) (σ.set i o) H :=
  h.set trivial fun z => nomatch z
/-- where an own slot stands -/
theorem SlOk.ownAt {s : Sl} {a : Addr} (h : SlOk K B F H s (some (.ref a))) (ho : s.own = true) : B a = none ∧ F a = none ∧ H a ≠ none := by
  cases s with
  | no => cases ho
  | va d => cases ho
  | raw v => cases ho
  | scr ns => cases ho
  | ow ds =>
    obtain ⟨b, vs, h1, h2, h3, h4, h5⟩ := h
    cases h1
    exact ⟨h2, h3, by rw [h4]; exact fun z => nomatch z⟩
  | od ds =>
    obtain ⟨b, vs, h1, h2, h3, h4, h5⟩ := h
    cases h1
    exact ⟨h2, h3, by rw [h4]; exact fun z => nomatch z⟩
  | ot ds =>
    obtain ⟨b, vs, h1, h2, h3, h4, h5⟩ := h
    cases h1
    exact ⟨h2, h3, by rw [h4]; exact fun z => nomatch z⟩
  | src b =>
    obtain ⟨h1, h2, h3, h4⟩ := h
    cases h1
    exact ⟨h2, h3, h4.ne⟩
/-- a new object taken into a slot as its own -/
theorem StOk.setOwn (h : StOk K B F0 F ρ σ H) {i : Nat} {s : Sl} {p : Addr} {o : HO} (hp : H p = none) (hs : SlOk K B F (upd H p o) s (some (.ref p))) : StOk K B F0 F (ρ.set i s) (σ.set i (some (.ref p))) (upd H p o) :=
  (h.gw (Gw.junk h.st hp o)).set hs fun _ j t a _ h1 h2 h3 h4 => by
    cases h3
    exact ((h.sl j t _ h1 h4).ownAt h2).2.2 hp
/-- the object of an own slot is written -/
theorem StOk.write (h : StOk K B F0 F ρ σ H) {i : Nat} {s s' : Sl} {p : Addr} {o : HO} (hi : ρ[i]? = some s) (ho : s.own = true) (hσ : σ[i]? = some (some (.ref p))) (hs : SlOk K B F (upd H p o) s' (some (.ref p))) :
    StOk K B F0 F (ρ.set i s') σ (upd H p o) := by
  obtain ⟨b1, f1, n1⟩ := (h.sl i s _ hi hσ).ownAt ho
  have sameOff : ∀ (X : Hp), X p = none → Same X H → Same X (upd H p o) := fun X hx e a u ha => by
    rw [upd_ne (ne_of_none ha hx)]
    exact e a u ha
  have hne : ∀ (j : Nat) (t : Sl) (a : Addr), j ≠ i → ρ[j]? = some t → t.own = true → σ[j]? = some (some (.ref a)) → a ≠ p := fun j t a hj h1 h2 h3 e => by
    subst e
    exact h.ap j i t s a hj h1 hi h2 ho h3 hσ
  have h1 : StOk K B F0 F (ρ.set i .no) σ (upd H p o) := {
    bg := sameOff B b1 h.bg
    up := h.up
    st := sameOff F f1 h.st
    nw := h.nw
    len := by rw [List.length_set, h.len]
    sl := fun j t u g1 g2 => by
      by_cases e : i = j
      · subst e
        rw [List.getElem?_set_self', hi] at g1
        cases g1
        trivial
      · rw [List.getElem?_set_ne e] at g1
        have q := h.sl j t u g1 g2
        cases t with
        | no => trivial
        | va d => exact q
        | raw v => exact q
        | scr ns => exact q
        | ow ds =>
          obtain ⟨a, vs, q1, q2, q3, q4, q5⟩ := q
          subst q1
          exact ⟨a, vs, rfl, q2, q3, by rw [upd_ne (hne j _ a (Ne.symm e) g1 rfl g2)]; exact q4, q5⟩
        | od ds =>
          obtain ⟨a, vs, q1, q2, q3, q4, q5⟩ := q
          subst q1
          exact ⟨a, vs, rfl, q2, q3, by rw [upd_ne (hne j _ a (Ne.symm e) g1 rfl g2)]; exact q4, q5⟩
        | ot ds =>
          obtain ⟨a, vs, q1, q2, q3, q4, q5⟩ := q
          subst q1
          exact ⟨a, vs, rfl, q2, q3, by rw [upd_ne (hne j _ a (Ne.symm e) g1 rfl g2)]; exact q4, q5⟩
        | src a =>
          obtain ⟨q1, q2, q3, c, s, w, q4, q5⟩ := q
          subst q1
          exact ⟨rfl, q2, q3, c, s, w, by rw [upd_ne (hne j _ a (Ne.symm e) g1 rfl g2)]; exact q4, q5⟩
    ap := fun j k t u a hjk g1 g2 g3 g4 g5 g6 => by
      by_cases e : i = j
      · subst e
        rw [List.getElem?_set_self', hi] at g1
        cases g1
        cases g3
      · rw [List.getElem?_set_ne e] at g1
        by_cases e' : i = k
        · subst e'
          rw [List.getElem?_set_self', hi] at g2
          cases g2
          cases g4
        · rw [List.getElem?_set_ne e'] at g2
          exact h.ap j k t u a hjk g1 g2 g3 g4 g5 g6 }
  have h2 := h1.set (i := i) (o := some (.ref p)) hs fun _ j t a hj g1 g2 g3 g4 => by
    rw [List.getElem?_set_ne (Ne.symm hj)] at g1
    cases g3
    exact hne j t p hj g1 g2 g4 rfl
  rw [List.set_set] at h2
  have e : σ.set i (some (.ref p)) = σ := by
    apply List.ext_getElem?
    intro j
    by_cases hj : i = j
    · subst hj
      rw [List.getElem?_set_self', hσ]
      rfl
    · rw [List.getElem?_set_ne hj]
  rw [e] at h2
  exact h2
theorem set_id {α : Type} {l : List α} {i : Nat} {x : α} (h : l[i]? = some x) : l.set i x = l := by
  apply List.ext_getElem?
  intro j
  by_cases hj : i = j
  · subst hj
    rw [List.getElem?_set_self', h]
    rfl
  · rw [List.getElem?_set_ne hj]
/-- an own list is frozen -/
theorem StOk.freeze (h : StOk K B F0 F ρ σ H) {i : Nat} {ds : List D} (hi : ρ[i]? = some (.ow ds)) : ∃ p F', σ[i]? = some (some (.ref p)) ∧ Same F F' ∧ StOk K B F0 F' (ρ.set i (.va (.list ds))) σ H ∧ Rp F' (.ref p) (.list ds) := by
  have hl : i < σ.length := by
    rw [h.len]
    exact (List.getElem?_eq_some_iff.mp hi).1
  obtain ⟨p, vs, q1, q2, q3, q4, q5⟩ := h.sl i _ _ hi (List.getElem?_eq_getElem hl)
  have hσ : σ[i]? = some (some (.ref p)) := by rw [List.getElem?_eq_getElem hl, q1]
  have s1 : Same F (upd F p (.lst vs)) := same_new q3
  have hr : Rp (upd F p (.lst vs)) (.ref p) (.list ds) := .lst upd_same (q5.mono s1)
  refine ⟨p, upd F p (.lst vs), hσ, s1, ?_, hr⟩
  have h1 : StOk K B F0 F (ρ.set i .no) (σ.set i (some (.ref p))) H := h.setNo
  rw [set_id hσ] at h1
  have h2 : StOk K B F0 (upd F p (.lst vs)) (ρ.set i .no) σ H := {
    bg := h1.bg
    up := h1.up.trans s1
    st := fun a u e => by
      by_cases ha : a = p
      · subst ha
        rw [upd_same] at e
        cases e
        exact q4
      · rw [upd_ne ha] at e
        exact h1.st a u e
    nw := fun a e => by
      by_cases ha : a = p
      · subst ha
        exact .inr (.inl q2)
      · rw [upd_ne ha] at e
        rw [upd_ne ha]
        exact h1.nw a e
    len := h1.len
    sl := fun j t u g1 g2 => by
      have q := h1.sl j t u g1 g2
      have hne : ∀ (a : Addr), t.own = true → u = some (.ref a) → a ≠ p := fun a ho hu e => by
        subst e
        subst hu
        by_cases e' : i = j
        · subst e'
          rw [List.getElem?_set_self', hi] at g1
          cases g1
          cases ho
        · rw [List.getElem?_set_ne e'] at g1
          exact h.ap i j _ t a e' hi g1 rfl ho hσ g2
      cases t with
      | no => trivial
      | va d =>
        obtain ⟨v, z1, z2⟩ := q
        exact ⟨v, z1, z2.mono s1⟩
      | raw v => exact q
      | scr ns =>
        obtain ⟨a, z1, z2⟩ := q
        exact ⟨a, z1, s1.seq z2⟩
      | ow ds =>
        obtain ⟨a, vs, z1, z2, z3, z4, z5⟩ := q
        exact ⟨a, vs, z1, z2, by rw [upd_ne (hne a rfl z1)]; exact z3, z4, z5.mono s1⟩
      | od ds =>
        obtain ⟨a, vs, z1, z2, z3, z4, z5⟩ := q
        exact ⟨a, vs, z1, z2, by rw [upd_ne (hne a rfl z1)]; exact z3, z4, z5.mono s1⟩
      | ot ds =>
        obtain ⟨a, vs, z1, z2, z3, z4, z5⟩ := q
        exact ⟨a, vs, z1, z2, by rw [upd_ne (hne a rfl z1)]; exact z3, z4, z5.mono s1⟩
      | src a =>
        obtain ⟨z1, z2, z3, z4⟩ := q
        exact ⟨z1, z2, by rw [upd_ne (hne a rfl z1)]; exact z3, z4⟩
    ap := h1.ap }
  have h3 := h2.setVa (i := i) hr
  rw [List.set_set, set_id hσ] at h3
  exact h3
end
end DL

namespace DL
open PySem PySem.Spec PyProof.Rows L2

/-! ### judgements by data -/
abbrev DE := List Sl → (D → List Sl → Prop) → Prop
abbrev DT := List Sl → (Bool → List Sl → Prop) → Prop
abbrev DA := List Sl → (List D → List Sl → Prop) → Prop
def DMono (f : DE) : Prop := ∀ ρ (Q Q' : D → List Sl → Prop), (∀ d ρ', Q d ρ' → Q' d ρ') → f ρ Q → f ρ Q'
def TMono (f : DT) : Prop := ∀ ρ (Q Q' : Bool → List Sl → Prop), (∀ d ρ', Q d ρ' → Q' d ρ') → f ρ Q → f ρ Q'
def AMono (f : DA) : Prop := ∀ ρ (Q Q' : List D → List Sl → Prop), (∀ d ρ', Q d ρ' → Q' d ρ') → f ρ Q → f ρ Q'
def lE (K : PySem.W.Frag) (B F0 : Hp) (f : DE) : TE := fun σ H Q => ∃ F ρ, StOk K B F0 F ρ σ H ∧ f ρ fun d ρ' => ∀ v F' H', StOk K B F0 F' ρ' σ H' → Same F F' → Rp F' v d → Q v H'
def lT (K : PySem.W.Frag) (B F0 : Hp) (f : DT) : TT := fun σ H Q => ∃ F ρ, StOk K B F0 F ρ σ H ∧ f ρ fun b ρ' => ∀ F' H', StOk K B F0 F' ρ' σ H' → Same F F' → Q b H'
def lA (K : PySem.W.Frag) (B F0 : Hp) (f : DA) : TA := fun σ H Q => ∃ F ρ, StOk K B F0 F ρ σ H ∧ f ρ fun ds ρ' => ∀ vs F' H', StOk K B F0 F' ρ' σ H' → Same F F' → RpA F' vs ds → Q vs H'
structure DX (X : Cx) (B0 : Hp) (e : Expr) (f : DE) : Prop where
  run : ∀ B F0, Same B0 B → PE X e (lE X.K B F0 f)
  mono : DMono f
structure DXt (X : Cx) (B0 : Hp) (e : Expr) (f : DT) : Prop where
  run : ∀ B F0, Same B0 B → PT X e (lT X.K B F0 f)
  mono : TMono f
structure DXw (X : Cx) (B0 : Hp) (e : Expr) (f : DT) : Prop where
  run : ∀ B F0, Same B0 B → PW X e (lT X.K B F0 f)
  mono : TMono f
structure DXa (X : Cx) (B0 : Hp) (es : List Expr) (f : DA) : Prop where
  run : ∀ B F0, Same B0 B → PA X es (lA X.K B F0 f)
  mono : AMono f

theorem pe_imp {X : Cx} {e : Expr} {t t' : TE} (h : PE X e t) (i : ∀ σ H Q, t' σ H Q → t σ H Q) : PE X e t' := ⟨fun pins s σ H Q I hw => h.run pins s σ H Q I (i σ H Q hw)⟩
theorem pt_imp {X : Cx} {e : Expr} {t t' : TT} (h : PT X e t) (i : ∀ σ H Q, t' σ H Q → t σ H Q) : PT X e t' := ⟨fun pins s σ H Q I hw => h.run pins s σ H Q I (i σ H Q hw)⟩
theorem pw_imp {X : Cx} {e : Expr} {t t' : TT} (h : PW X e t) (i : ∀ σ H Q, t' σ H Q → t σ H Q) : PW X e t' := ⟨fun wh pins s σ H Q I hw => h.run wh pins s σ H Q I (i σ H Q hw)⟩
theorem pa_imp {X : Cx} {e : List Expr} {t t' : TA} (h : PA X e t) (i : ∀ σ H Q, t' σ H Q → t σ H Q) : PA X e t' := ⟨fun pos pins s σ H Q I hw => h.run pos pins s σ H Q I (i σ H Q hw)⟩
theorem pe_impI {X : Cx} {e : Expr} {t t' : TE} (h : PE X e t) (i : ∀ pins s σ H Q, Inv X pins σ H s → t' σ H Q → t σ H Q) : PE X e t' := ⟨fun pins s σ H Q I hw => h.run pins s σ H Q I (i pins s σ H Q I hw)⟩

/-! ### names and constants -/
def sg (ρ : List Sl) (i : Nat) : Sl := ρ.getD i .no
/-- a name as a value: what it owns is frozen -/
def dVar (i : Nat) : DE := fun ρ Q => match sg ρ i with
  | .va d => Q d ρ
  | .ow ds => Q (.list ds) (ρ.set i (.va (.list ds)))
  | _ => False
def dC (d : D) : DE := fun ρ Q => Q d ρ
theorem sg_some {ρ : List Sl} {i : Nat} {s : Sl} (h : sg ρ i = s) (hn : s ≠ .no) : ρ[i]? = some s := by
  unfold sg at h
  rw [List.getD_eq_getElem?_getD] at h
  cases e : ρ[i]? with
  | none => rw [e] at h; exact absurd h.symm hn
  | some x => rw [e] at h; exact congrArg some h
theorem StOk.val {K : PySem.W.Frag} {B F0 F H : Hp} {ρ : List Sl} {σ : HSt} (h : StOk K B F0 F ρ σ H) {i : Nat} {d : D} (hi : ρ[i]? = some (.va d)) : ∃ v, σ[i]? = some (some v) ∧ Rp F v d := by
  have hl : i < σ.length := by
    rw [h.len]
    exact (List.getElem?_eq_some_iff.mp hi).1
  obtain ⟨v, q1, q2⟩ := h.sl i _ _ hi (List.getElem?_eq_getElem hl)
  exact ⟨v, by rw [List.getElem?_eq_getElem hl, q1], q2⟩
section
variable {X : Cx} {B0 : Hp} {a b c e : Expr} {fa fb fc : DE} {pos : Pos}
theorem x_var {i : Nat} (h : PE X e (tVar i)) : DX X B0 e (dVar i) where
  run B F0 hB := pe_imp h fun σ H Q ⟨F, ρ, ok, q⟩ => by
    unfold dVar at q
    cases hs : sg ρ i with
    | va d =>
      rw [hs] at q
      obtain ⟨v, h1, h2⟩ := ok.val (sg_some hs (fun z => nomatch z))
      exact ⟨v, h1, q v F H ok (Same.refl _) h2⟩
    | ow ds =>
      rw [hs] at q
      obtain ⟨p, F', h1, h2, h3, h4⟩ := ok.freeze (sg_some hs (fun z => nomatch z))
      exact ⟨.ref p, h1, q _ F' H h3 h2 h4⟩
    | no => rw [hs] at q; exact q.elim
    | od _ => rw [hs] at q; exact q.elim
    | ot _ => rw [hs] at q; exact q.elim
    | src _ => rw [hs] at q; exact q.elim
    | scr _ => rw [hs] at q; exact q.elim
    | raw _ => rw [hs] at q; exact q.elim
  mono ρ Q Q' hq h := by
    unfold dVar at h ⊢
    split at h
    · exact hq _ _ h
    · exact hq _ _ h
    · exact h
theorem x_c {v : V} {d : D} (h : PE X e (tC v)) (r : ∀ F, Rp F v d) : DX X B0 e (dC d) where
  run B F0 hB := pe_imp h fun σ H Q ⟨F, ρ, ok, q⟩ => q v F H ok (Same.refl _) (r F)
  mono ρ Q Q' hq h := hq _ _ h
theorem x_int {i : Int} {j : Nat} : DX X B0 (.Constant (.int i) j pos) (dC (.int i)) := x_c pe_int fun _ => .int _
theorem x_bl {i : Bool} {j : Nat} : DX X B0 (.Constant (.bool i) j pos) (dC (.bool i)) := x_c pe_bl fun _ => .bl _
theorem x_non {j : Nat} : DX X B0 (.Constant .none j pos) (dC .none) := x_c pe_non fun _ => .non
theorem x_str {x : Str} {j : Nat} : DX X B0 (.Constant (.str x) j pos) (dC (.str x)) := x_c pe_str fun _ => .str _

/-! ### argument lists -/
def dNil : DA := fun ρ Q => Q [] ρ
def dCons (f : DE) (fa : DA) : DA := fun ρ Q => f ρ fun d ρ1 => fa ρ1 fun ds ρ2 => Q (d :: ds) ρ2
theorem x_nil : DXa X B0 [] dNil where
  run B F0 hB := pa_imp pa_nil fun σ H Q ⟨F, ρ, ok, q⟩ => q [] F H ok (Same.refl _) .nil
  mono ρ Q Q' hq h := hq _ _ h
theorem x_cons {es : List Expr} {fs : DA} (ha : DX X B0 e fa) (hr : DXa X B0 es fs) (hs : starEach (e :: es) X.env = (false, eval e X.env) :: starEach es X.env := by rfl) : DXa X B0 (e :: es) (dCons fa fs) where
  run B F0 hB := pa_imp (pa_cons (ha.run B F0 hB) (hr.run B F0 hB) hs) fun σ H Q ⟨F, ρ, ok, h⟩ =>
    ⟨F, ρ, ok, ha.mono ρ _ _ (fun dx ρ1 h1 x F1 H1 ok1 s1 rx => ⟨F1, ρ1, ok1, hr.mono _ _ _ (fun dy ρ2 h2 y F2 H2 ok2 s2 ry => h2 _ F2 H2 ok2 (s1.trans s2) (.cons (rx.mono s2) ry)) h1⟩) h⟩
  mono ρ Q Q' hq h := ha.mono _ _ _ (fun d ρ1 h1 => hr.mono _ _ _ (fun ds ρ2 h2 => hq _ _ h2) h1) h

/-! ### operations by values -/
abbrev G1 := D → (D → Prop) → Prop
abbrev G2 := D → D → (D → Prop) → Prop
abbrev GL := List D → (D → Prop) → Prop
/-- what is wanted behind an operation -/
def Post (F H : Hp) (Q : VK) (d : D) : Prop := ∀ v F' H', Gw F H F' H' → Rp F' v d → Q v H'
def rD1 (g : G1) : V → Hp → VK → Prop := fun x H Q => ∃ F dx, Same F H ∧ Rp F x dx ∧ g dx (Post F H Q)
def rD2 (g : G2) : R2 := fun x y H Q => ∃ F dx dy, Same F H ∧ Rp F x dx ∧ Rp F y dy ∧ g dx dy (Post F H Q)
def rDL (g : GL) : List V → Hp → VK → Prop := fun xs H Q => ∃ F ds, Same F H ∧ RpA F xs ds ∧ g ds (Post F H Q)
def rDM (g : D → GL) : V → List V → Hp → VK → Prop := fun x xs H Q => ∃ F dx ds, Same F H ∧ Rp F x dx ∧ RpA F xs ds ∧ g dx ds (Post F H Q)
def Mo1 (g : G1) : Prop := ∀ x (P P' : D → Prop), (∀ d, P d → P' d) → g x P → g x P'
def Mo2 (g : G2) : Prop := ∀ x y (P P' : D → Prop), (∀ d, P d → P' d) → g x y P → g x y P'
def MoL (g : GL) : Prop := ∀ x (P P' : D → Prop), (∀ d, P d → P' d) → g x P → g x P'
structure Op2 (X : Cx) (f : Value → Value → Sem Value) (g : G2) : Prop where
  run : OpR X f (rD2 g)
  mono : Mo2 g
structure Op1 (X : Cx) (f : Value → Sem Value) (g : G1) : Prop where
  run : UnR X f (rD1 g)
  mono : Mo1 g
structure OpC (X : Cx) (f : Value) (g : GL) : Prop where
  run : CallR X f (rDL g)
  mono : MoL g
structure OpI (X : Cx) (g : G2) : Prop where
  run : IxR X (rD2 g)
  mono : Mo2 g
structure OpM (X : Cx) (id : String) (g : D → GL) : Prop where
  run : MtR X id (rDM g)
  mono : ∀ d, MoL (g d)
def dOp (g : G2) (fa fb : DE) : DE := fun ρ Q => fa ρ fun x ρ1 => fb ρ1 fun y ρ2 => g x y fun d => Q d ρ2
def dUn (g : G1) (fa : DE) : DE := fun ρ Q => fa ρ fun x ρ1 => g x fun d => Q d ρ1
def dCall (g : GL) (fs : DA) : DE := fun ρ Q => fs ρ fun xs ρ1 => g xs fun d => Q d ρ1
theorem dOp_mono {g : G2} (hg : Mo2 g) (ha : DMono fa) (hb : DMono fb) : DMono (dOp g fa fb) := fun ρ Q Q' hq h =>
  ha _ _ _ (fun d ρ1 h1 => hb _ _ _ (fun y ρ2 h2 => hg _ _ _ _ (fun z h3 => hq _ _ h3) h2) h1) h
/-- what two operands give, read by HandS -/
theorem lE_op {B F0 : Hp} {g : G2} (hg : Mo2 g) (ma : DMono fa) (mb : DMono fb) {σ : HSt} {H : Hp} {Q : VK} (h : lE X.K B F0 (dOp g fa fb) σ H Q) : tOp (rD2 g) (lE X.K B F0 fa) (lE X.K B F0 fb) σ H Q := by
  obtain ⟨F, ρ, ok, h⟩ := h
  exact ⟨F, ρ, ok, ma ρ _ _ (fun dx ρ1 h1 x F1 H1 ok1 s1 rx => ⟨F1, ρ1, ok1, mb _ _ _ (fun dy ρ2 h2 y F2 H2 ok2 s2 ry => ⟨F2, dx, dy, ok2.st, rx.mono s2, ry,
    hg _ _ _ _ (fun d h3 v F3 H3 g3 rv => h3 v F3 H3 (ok2.gw g3) ((s1.trans s2).trans g3.ff) rv) h2⟩) h1⟩) h⟩
theorem x_op {op : Operator} {g : G2} (ho : Op2 X (binaryOp op) g) (ha : DX X B0 a fa) (hb : DX X B0 b fb) : DX X B0 (.BinOp a op b pos) (dOp g fa fb) where
  run B F0 hB := pe_imp (pe_op ho.run (ha.run B F0 hB) (hb.run B F0 hB)) fun σ H Q h => lE_op ho.mono ha.mono hb.mono h
  mono := dOp_mono ho.mono ha.mono hb.mono
theorem x_un {op : UnaryOp} {g : G1} (ho : Op1 X (unaryOp op) g) (ha : DX X B0 a fa) : DX X B0 (.UnaryOp op a pos) (dUn g fa) where
  run B F0 hB := pe_imp (pe_un ho.run (ha.run B F0 hB)) fun σ H Q ⟨F, ρ, ok, h⟩ =>
    ⟨F, ρ, ok, ha.mono ρ _ _ (fun dx ρ1 h1 x F1 H1 ok1 s1 rx => ⟨F1, dx, ok1.st, rx, ho.mono _ _ _ (fun d h3 v F3 H3 g3 rv => h3 v F3 H3 (ok1.gw g3) (s1.trans g3.ff) rv) h1⟩) h⟩
  mono ρ Q Q' hq h := ha.mono _ _ _ (fun d ρ1 h1 => ho.mono _ _ _ (fun z h3 => hq _ _ h3) h1) h
theorem x_cmp {op : CmpOp} {g : G2} (ho : Op2 X (compareOp op) g) (ha : DX X B0 a fa) (hb : DX X B0 b fb) (hm : behindInMarks op b = false) : DX X B0 (.Compare a [op] [b] pos) (dOp g fa fb) where
  run B F0 hB := pe_imp (pe_cmpR ho.run (ha.run B F0 hB) (hb.run B F0 hB) hm) fun σ H Q h => lE_op ho.mono ha.mono hb.mono h
  mono := dOp_mono ho.mono ha.mono hb.mono
theorem x_ix {g : G2} (ho : OpI X g) (ha : DX X B0 a fa) (hb : DX X B0 b fb) (hs : PlainIx b) : DX X B0 (.Subscript a b pos) (dOp g fa fb) where
  run B F0 hB := pe_imp (pe_ix ho.run (ha.run B F0 hB) (hb.run B F0 hB) hs) fun σ H Q h => lE_op ho.mono ha.mono hb.mono h
  mono := dOp_mono ho.mono ha.mono hb.mono
theorem lE_call {B F0 : Hp} {g : GL} (hg : MoL g) {fs : DA} (ma : AMono fs) {σ : HSt} {H : Hp} {Q : VK} (h : lE X.K B F0 (dCall g fs) σ H Q) : tCB (rDL g) (lA X.K B F0 fs) σ H Q := by
  obtain ⟨F, ρ, ok, h⟩ := h
  exact ⟨F, ρ, ok, ma ρ _ _ (fun dx ρ1 h1 x F1 H1 ok1 s1 rx => ⟨F1, dx, ok1.st, rx, hg _ _ _ (fun d h3 v F3 H3 g3 rv => h3 v F3 H3 (ok1.gw g3) (s1.trans g3.ff) rv) h1⟩) h⟩
theorem dCall_mono {g : GL} {fs : DA} (hg : MoL g) (ha : AMono fs) : DMono (dCall g fs) := fun ρ Q Q' hq h => ha _ _ _ (fun d ρ1 h1 => hg _ _ _ (fun z h3 => hq _ _ h3) h1) h
/-- a built-in function, a built-in type, called by its name -/
theorem x_blt {x : Str} {p : Pos} {es : List Expr} {id : String} {g : GL} {fs : DA} (hc : OpC X (.builtin id) g) (hg : Gl X x) (hm : X.mg x = none) (hv : bootBuiltins x = some (.builtin id)) (ha : DXa X B0 (e :: es) fs) (hn : x ≠ "__name__" := by decide) (hdb : (x == ("__debug__" : Str)) = false := by decide)
    (he : starEach (e :: es) X.env = (false, eval e X.env) :: starEach es X.env := by rfl) (hpl : (backTo pos (starEach es X.env)).any (·.1) = false := by rfl) : DX X B0 (.Call (.Name x p) (e :: es) [] pos) (dCall g fs) where
  run B F0 hB := pe_imp (pe_callB hc.run hg hm hv (ha.run B F0 hB) hn hdb he hpl) fun σ H Q h => lE_call hc.mono ha.mono h
  mono := dCall_mono hc.mono ha.mono
theorem x_typ {x : Str} {p : Pos} {es : List Expr} {id : String} {g : GL} {fs : DA} (hc : OpC X (.type id) g) (hg : Gl X x) (hm : X.mg x = none) (hv : bootBuiltins x = some (.type id)) (ha : DXa X B0 (e :: es) fs) (hn : x ≠ "__name__" := by decide) (hdb : (x == ("__debug__" : Str)) = false := by decide)
    (he : starEach (e :: es) X.env = (false, eval e X.env) :: starEach es X.env := by rfl) (hpl : (backTo pos (starEach es X.env)).any (·.1) = false := by rfl) : DX X B0 (.Call (.Name x p) (e :: es) [] pos) (dCall g fs) where
  run B F0 hB := pe_imp (pe_callTy hc.run hg hm hv (ha.run B F0 hB) hn hdb he hpl) fun σ H Q h => lE_call hc.mono ha.mono h
  mono := dCall_mono hc.mono ha.mono

/-! ### displays -/
def dTup (fs : DA) : DE := fun ρ Q => fs ρ fun ds ρ' => ds.length ≤ sizeLine ∧ Q (.tuple ds) ρ'
def dLst (fs : DA) : DE := fun ρ Q => fs ρ fun ds ρ' => ds.length ≤ sizeLine ∧ Q (.list ds) ρ'
theorem x_tup {es : List Expr} {fs : DA} {x1 : Nat} (h : DXa X B0 es fs) : DX X B0 (.Tuple es x1 pos) (dTup fs) where
  run B F0 hB := pe_imp (pe_tup (h.run B F0 hB)) fun σ H Q ⟨F, ρ, ok, q⟩ => ⟨F, ρ, ok, h.mono _ _ _ (fun ds ρ1 h1 vs F1 H1 ok1 s1 rs => ⟨by rw [rs.len]; exact h1.1, fun p hp =>
    have g := Gw.new ok1.st hp (.tup vs)
    h1.2 _ _ _ (ok1.gw g) (s1.trans g.ff) (.tup upd_same (rs.mono g.ff))⟩) q⟩
  mono ρ Q Q' hq q := h.mono _ _ _ (fun ds ρ1 h1 => ⟨h1.1, hq _ _ h1.2⟩) q
theorem x_lst {es : List Expr} {fs : DA} (h : DXa X B0 es fs) : DX X B0 (.List es pos) (dLst fs) where
  run B F0 hB := pe_imp (pe_lst (h.run B F0 hB)) fun σ H Q ⟨F, ρ, ok, q⟩ => ⟨F, ρ, ok, h.mono _ _ _ (fun ds ρ1 h1 vs F1 H1 ok1 s1 rs => ⟨by rw [rs.len]; exact h1.1, fun p hp =>
    have g := Gw.new ok1.st hp (.lst vs)
    h1.2 _ _ _ (ok1.gw g) (s1.trans g.ff) (.lst upd_same (rs.mono g.ff))⟩) q⟩
  mono ρ Q Q' hq q := h.mono _ _ _ (fun ds ρ1 h1 => ⟨h1.1, hq _ _ h1.2⟩) q

/-! ### and, or, not, if as values; tests -/
def asB (d : D) (P : Bool → Prop) : Prop := match d with
  | .bool b => P b
  | _ => False
theorem asB_mono {d : D} {P P' : Bool → Prop} (h : ∀ b, P b → P' b) (q : asB d P) : asB d P' := by
  cases d with
  | bool b => exact h b q
  | none => exact q
  | int i => exact q
  | str x => exact q
  | list x => exact q
  | tuple x => exact q
  | dict x => exact q
theorem asB_rp {d : D} {P : Bool → Prop} {F : Hp} {v : V} (r : Rp F v d) (q : asB d P) : ∃ b, v = .bl b ∧ d = .bool b ∧ P b := by
  cases r with
  | bl b => exact ⟨b, rfl, rfl, q⟩
  | non => exact q.elim
  | int i => exact q.elim
  | str x => exact q.elim
  | lst _ _ => exact q.elim
  | tup _ _ => exact q.elim
  | dic _ _ => exact q.elim
  | dicT _ _ => exact q.elim
def dAnd (fa fb : DE) : DE := fun ρ Q => fa ρ fun x ρ1 => asB x fun k => if k = true then fb ρ1 Q else Q (.bool false) ρ1
def dOr (fa fb : DE) : DE := fun ρ Q => fa ρ fun x ρ1 => asB x fun k => if k = true then Q (.bool true) ρ1 else fb ρ1 Q
def dNot (fa : DE) : DE := fun ρ Q => fa ρ fun x ρ1 => asB x fun k => Q (.bool (!k)) ρ1
theorem x_one {op : BoolOp} (h : DX X B0 a fa) : DX X B0 (.BoolOp op [a] pos) fa where
  run B F0 hB := pe_one (h.run B F0 hB)
  mono := h.mono
theorem x_and {rest : List Expr} (ha : DX X B0 a fa) (hb : DX X B0 (.BoolOp .And (b :: rest) pos) fb) : DX X B0 (.BoolOp .And (a :: b :: rest) pos) (dAnd fa fb) where
  run B F0 hB := pe_imp (pe_and (ha.run B F0 hB) (hb.run B F0 hB)) fun σ H Q ⟨F, ρ, ok, h⟩ =>
    ⟨F, ρ, ok, ha.mono ρ _ _ (fun dx ρ1 h1 x F1 H1 ok1 s1 rx => by
      obtain ⟨k, rfl, rfl, h2⟩ := asB_rp rx h1
      refine ⟨k, rfl, ?_⟩
      cases k with
      | true => exact ⟨F1, ρ1, ok1, hb.mono _ _ _ (fun d ρ2 h3 v F2 H2 ok2 s2 => h3 v F2 H2 ok2 (s1.trans s2)) h2⟩
      | false => exact h2 _ F1 H1 ok1 s1 (.bl _)) h⟩
  mono ρ Q Q' hq h := ha.mono _ _ _ (fun d ρ1 h1 => asB_mono (fun k h2 => by
    cases k with
    | true => exact hb.mono _ _ _ hq h2
    | false => exact hq _ _ h2) h1) h
theorem x_or {rest : List Expr} (ha : DX X B0 a fa) (hb : DX X B0 (.BoolOp .Or (b :: rest) pos) fb) : DX X B0 (.BoolOp .Or (a :: b :: rest) pos) (dOr fa fb) where
  run B F0 hB := pe_imp (pe_or (ha.run B F0 hB) (hb.run B F0 hB)) fun σ H Q ⟨F, ρ, ok, h⟩ =>
    ⟨F, ρ, ok, ha.mono ρ _ _ (fun dx ρ1 h1 x F1 H1 ok1 s1 rx => by
      obtain ⟨k, rfl, rfl, h2⟩ := asB_rp rx h1
      refine ⟨k, rfl, ?_⟩
      cases k with
      | false => exact ⟨F1, ρ1, ok1, hb.mono _ _ _ (fun d ρ2 h3 v F2 H2 ok2 s2 => h3 v F2 H2 ok2 (s1.trans s2)) h2⟩
      | true => exact h2 _ F1 H1 ok1 s1 (.bl _)) h⟩
  mono ρ Q Q' hq h := ha.mono _ _ _ (fun d ρ1 h1 => asB_mono (fun k h2 => by
    cases k with
    | false => exact hb.mono _ _ _ hq h2
    | true => exact hq _ _ h2) h1) h
theorem x_not (ha : DX X B0 a fa) : DX X B0 (.UnaryOp .Not a pos) (dNot fa) where
  run B F0 hB := pe_imp (pe_not (ha.run B F0 hB)) fun σ H Q ⟨F, ρ, ok, h⟩ =>
    ⟨F, ρ, ok, ha.mono ρ _ _ (fun dx ρ1 h1 x F1 H1 ok1 s1 rx => by
      obtain ⟨k, rfl, rfl, h2⟩ := asB_rp rx h1
      exact ⟨k, rfl, h2 _ F1 H1 ok1 s1 (.bl _)⟩) h⟩
  mono ρ Q Q' hq h := ha.mono _ _ _ (fun d ρ1 h1 => asB_mono (fun k h2 => hq _ _ h2) h1) h
def dTest (fa : DE) : DT := fun ρ Q => fa ρ fun x ρ1 => asB x fun k => Q k ρ1
theorem dTest_mono (ha : DMono fa) : TMono (dTest fa) := fun ρ Q Q' hq h => ha _ _ _ (fun d ρ1 h1 => asB_mono (fun k h2 => hq _ _ h2) h1) h
theorem lT_test {B F0 : Hp} (ma : DMono fa) {σ : HSt} {H : Hp} {Q : Bool → Hp → Prop} (h : lT X.K B F0 (dTest fa) σ H Q) : lE X.K B F0 fa σ H fun x H1 => ∃ c, x = .bl c ∧ Q c H1 := by
  obtain ⟨F, ρ, ok, h⟩ := h
  exact ⟨F, ρ, ok, ma ρ _ _ (fun dx ρ1 h1 x F1 H1 ok1 s1 rx => by
      obtain ⟨k, rfl, rfl, h2⟩ := asB_rp rx h1
      exact ⟨k, rfl, h2 F1 H1 ok1 s1⟩) h⟩
theorem t_val (ha : DX X B0 e fa) (he : ∀ whole, isTrue e X.env whole = (do let v ← whole; standAt e.pos; holding [v] (truthy v)) := by intro _; rfl) : DXt X B0 e (dTest fa) where
  run B F0 hB := pt_imp (pt_val (ha.run B F0 hB) he) fun σ H Q h => lT_test ha.mono h
  mono := dTest_mono ha.mono
theorem t_cmp {op : CmpOp} {g : G2} (ho : Op2 X (compareOp op) g) (ha : DX X B0 a fa) (hb : DX X B0 b fb) (hm : behindInMarks op b = false) : DXt X B0 (.Compare a [op] [b] pos) (dTest (dOp g fa fb)) where
  run B F0 hB := pt_imp (pt_cmpR ho.run (ha.run B F0 hB) (hb.run B F0 hB) hm) fun σ H Q h => lE_op ho.mono ha.mono hb.mono (lT_test (dOp_mono ho.mono ha.mono hb.mono) h)
  mono := dTest_mono (dOp_mono ho.mono ha.mono hb.mono)
def dTAnd (ta tb : DT) : DT := fun ρ Q => ta ρ fun k ρ1 => if k = true then tb ρ1 Q else Q false ρ1
def dTOr (ta tb : DT) : DT := fun ρ Q => ta ρ fun k ρ1 => if k = true then Q true ρ1 else tb ρ1 Q
def dTNot (ta : DT) : DT := fun ρ Q => ta ρ fun k ρ1 => Q (!k) ρ1
variable {ta tb : DT}
theorem t_and1 (ha : DXt X B0 a ta) : DXw X B0 (.BoolOp .And [a] pos) ta := ⟨fun B F0 hB => pw_and1 (ha.run B F0 hB), ha.mono⟩
theorem t_or1 (ha : DXt X B0 a ta) : DXw X B0 (.BoolOp .Or [a] pos) ta := ⟨fun B F0 hB => pw_or1 (ha.run B F0 hB), ha.mono⟩
theorem dTAnd_mono (ha : TMono ta) (hb : TMono tb) : TMono (dTAnd ta tb) := fun ρ Q Q' hq h => ha _ _ _ (fun k ρ1 h1 => by
  cases k with
  | true => exact hb _ _ _ hq h1
  | false => exact hq _ _ h1) h
theorem dTOr_mono (ha : TMono ta) (hb : TMono tb) : TMono (dTOr ta tb) := fun ρ Q Q' hq h => ha _ _ _ (fun k ρ1 h1 => by
  cases k with
  | false => exact hb _ _ _ hq h1
  | true => exact hq _ _ h1) h
theorem t_and {rest : List Expr} (ha : DXt X B0 a ta) (hb : DXw X B0 (.BoolOp .And (b :: rest) pos) tb) : DXw X B0 (.BoolOp .And (a :: b :: rest) pos) (dTAnd ta tb) where
  run B F0 hB := pw_imp (pw_and (ha.run B F0 hB) (hb.run B F0 hB)) fun σ H Q ⟨F, ρ, ok, h⟩ => ⟨F, ρ, ok, ha.mono _ _ _ (fun k ρ1 h1 F1 H1 ok1 s1 => by
    cases k with
    | true => exact ⟨F1, ρ1, ok1, hb.mono _ _ _ (fun d ρ2 h3 F2 H2 ok2 s2 => h3 F2 H2 ok2 (s1.trans s2)) h1⟩
    | false => exact h1 F1 H1 ok1 s1) h⟩
  mono := dTAnd_mono ha.mono hb.mono
theorem t_or {rest : List Expr} (ha : DXt X B0 a ta) (hb : DXw X B0 (.BoolOp .Or (b :: rest) pos) tb) : DXw X B0 (.BoolOp .Or (a :: b :: rest) pos) (dTOr ta tb) where
  run B F0 hB := pw_imp (pw_or (ha.run B F0 hB) (hb.run B F0 hB)) fun σ H Q ⟨F, ρ, ok, h⟩ => ⟨F, ρ, ok, ha.mono _ _ _ (fun k ρ1 h1 F1 H1 ok1 s1 => by
    cases k with
    | false => exact ⟨F1, ρ1, ok1, hb.mono _ _ _ (fun d ρ2 h3 F2 H2 ok2 s2 => h3 F2 H2 ok2 (s1.trans s2)) h1⟩
    | true => exact h1 F1 H1 ok1 s1) h⟩
  mono := dTOr_mono ha.mono hb.mono
theorem DXw.pt (h : DXw X B0 e ta) : DXt X B0 e ta := ⟨fun B F0 hB => (h.run B F0 hB).pt, h.mono⟩
theorem t_not (ha : DXt X B0 a ta) : DXt X B0 (.UnaryOp .Not a pos) (dTNot ta) where
  run B F0 hB := pt_imp (pt_not (ha.run B F0 hB)) fun σ H Q ⟨F, ρ, ok, h⟩ => ⟨F, ρ, ok, h⟩
  mono ρ Q Q' hq h := ha.mono _ _ _ (fun k ρ1 h1 => hq _ _ h1) h
def dIf (tc : DT) (fa fb : DE) : DE := fun ρ Q => tc ρ fun k ρ1 => if k = true then fa ρ1 Q else fb ρ1 Q
theorem x_if (hc : DXt X B0 c ta) (ha : DX X B0 a fa) (hb : DX X B0 b fb) : DX X B0 (.IfExp c a b pos) (dIf ta fa fb) where
  run B F0 hB := pe_imp (pe_ifExp (hc.run B F0 hB) (ha.run B F0 hB) (hb.run B F0 hB)) fun σ H Q ⟨F, ρ, ok, h⟩ => ⟨F, ρ, ok, hc.mono _ _ _ (fun k ρ1 h1 F1 H1 ok1 s1 => by
    cases k with
    | true => exact ⟨F1, ρ1, ok1, ha.mono _ _ _ (fun d ρ2 h3 v F2 H2 ok2 s2 => h3 v F2 H2 ok2 (s1.trans s2)) h1⟩
    | false => exact ⟨F1, ρ1, ok1, hb.mono _ _ _ (fun d ρ2 h3 v F2 H2 ok2 s2 => h3 v F2 H2 ok2 (s1.trans s2)) h1⟩) h⟩
  mono ρ Q Q' hq h := hc.mono _ _ _ (fun k ρ1 h1 => by
    cases k with
    | true => exact ha.mono _ _ _ hq h1
    | false => exact hb.mono _ _ _ hq h1) h
/-- a < b < c -/
def dChain (g g' : G2) (fa fb fc : DE) : DE := fun ρ Q => fa ρ fun x ρ1 => fb ρ1 fun y ρ2 => g x y fun z => asB z fun k => if k = true then fc ρ2 fun w ρ3 => g' y w fun d => Q d ρ3 else Q (.bool false) ρ2
theorem dChain_mono {g g' : G2} (hg : Mo2 g) (hg' : Mo2 g') (ha : DMono fa) (hb : DMono fb) (hc : DMono fc) : DMono (dChain g g' fa fb fc) := fun ρ Q Q' hq h =>
  ha _ _ _ (fun d ρ1 h1 => hb _ _ _ (fun y ρ2 h2 => hg _ _ _ _ (fun z h3 => asB_mono (fun k h4 => by
    cases k with
    | true => exact hc _ _ _ (fun w ρ3 h5 => hg' _ _ _ _ (fun _ h6 => hq _ _ h6) h5) h4
    | false => exact hq _ _ h4) h3) h2) h1) h
theorem lE_chain {B F0 : Hp} {g g' : G2} (hg : Mo2 g) (hg' : Mo2 g') (ma : DMono fa) (mb : DMono fb) (mc : DMono fc) {σ : HSt} {H : Hp} {Q : VK} (h : lE X.K B F0 (dChain g g' fa fb fc) σ H Q) :
    tChain (rD2 g) (rD2 g') (lE X.K B F0 fa) (lE X.K B F0 fb) (lE X.K B F0 fc) σ H Q := by
  obtain ⟨F, ρ, ok, h⟩ := h
  refine ⟨F, ρ, ok, ma ρ _ _ (fun dx ρ1 h1 x F1 H1 ok1 s1 rx => ⟨F1, ρ1, ok1, mb _ _ _ (fun dy ρ2 h2 y F2 H2 ok2 s2 ry => ⟨F2, dx, dy, ok2.st, rx.mono s2, ry,
    hg _ _ _ _ (fun d h3 v F3 H3 g3 rv => ?_) h2⟩) h1⟩) h⟩
  obtain ⟨k, rfl, rfl, h4⟩ := asB_rp rv h3
  refine ⟨k, rfl, ?_⟩
  cases k with
  | true => exact ⟨F3, ρ2, ok2.gw g3, mc _ _ _ (fun dw ρ4 h5 w F4 H4 ok4 s4 rw4 => ⟨F4, dy, dw, ok4.st, ry.mono (g3.ff.trans s4), rw4, hg' _ _ _ _ (fun d h6 v F5 H5 g5 r5 => h6 v F5 H5 (ok4.gw g5) ((((s1.trans s2).trans g3.ff).trans s4).trans g5.ff) r5) h5⟩) h4⟩
  | false => exact h4 _ F3 H3 (ok2.gw g3) ((s1.trans s2).trans g3.ff) (.bl _)
theorem x_chain {op op' : CmpOp} {g g' : G2} (ho : Op2 X (compareOp op) g) (ho' : Op2 X (compareOp op') g') (ha : DX X B0 a fa) (hb : DX X B0 b fb) (hc : DX X B0 c fc) (hm : lastMarks [op, op'] [b, c] = false := by with_unfolding_all rfl) : DX X B0 (.Compare a [op, op'] [b, c] pos) (dChain g g' fa fb fc) where
  run B F0 hB := pe_imp (pe_chain ho.run ho'.run (ha.run B F0 hB) (hb.run B F0 hB) (hc.run B F0 hB) hm) fun σ H Q h => lE_chain ho.mono ho'.mono ha.mono hb.mono hc.mono h
  mono := dChain_mono ho.mono ho'.mono ha.mono hb.mono hc.mono
theorem t_chain {op op' : CmpOp} {g g' : G2} (ho : Op2 X (compareOp op) g) (ho' : Op2 X (compareOp op') g') (ha : DX X B0 a fa) (hb : DX X B0 b fb) (hc : DX X B0 c fc) (hm : lastMarks [op, op'] [b, c] = false := by with_unfolding_all rfl) : DXt X B0 (.Compare a [op, op'] [b, c] pos) (dTest (dChain g g' fa fb fc)) where
  run B F0 hB := pt_imp (pt_chain ho.run ho'.run (ha.run B F0 hB) (hb.run B F0 hB) (hc.run B F0 hB) hm) fun σ H Q h => lE_chain ho.mono ho'.mono ha.mono hb.mono hc.mono (lT_test (dChain_mono ho.mono ho'.mono ha.mono hb.mono hc.mono) h)
  mono := dTest_mono (dChain_mono ho.mono ho'.mono ha.mono hb.mono hc.mono)
end
end DL

namespace DL
open PySem PySem.Spec PyProof.Rows L2

/-! ### statements -/
structure DEnds where
  nx : List Sl → Prop
  rt : D → List Sl → Prop
  bk : List Sl → Prop := fun _ => False
  ct : List Sl → Prop := fun _ => False
  ro : List D → List Sl → Prop := fun _ _ => False
abbrev DS := DEnds → List Sl → Prop
structure DEnds.le (a b : DEnds) : Prop where
  nx : ∀ ρ, a.nx ρ → b.nx ρ
  rt : ∀ d ρ, a.rt d ρ → b.rt d ρ
  bk : ∀ ρ, a.bk ρ → b.bk ρ
  ct : ∀ ρ, a.ct ρ → b.ct ρ
  ro : ∀ d ρ, a.ro d ρ → b.ro d ρ
theorem DEnds.le.refl (a : DEnds) : a.le a := ⟨fun _ h => h, fun _ _ h => h, fun _ h => h, fun _ h => h, fun _ _ h => h⟩
def SMono (t : DS) : Prop := ∀ (a b : DEnds) ρ, a.le b → t a ρ → t b ρ
structure EndsOk (K : PySem.W.Frag) (B F0 : Hp) (DD : DEnds) (E : Ends) : Prop where
  nx : ∀ σ F ρ H, StOk K B F0 F ρ σ H → DD.nx ρ → E.nx σ H
  rt : ∀ σ F ρ H v d, StOk K B F0 F ρ σ H → Rp F v d → DD.rt d ρ → E.rt v H
  bk : ∀ σ F ρ H, StOk K B F0 F ρ σ H → DD.bk ρ → E.bk σ H
  ct : ∀ σ F ρ H, StOk K B F0 F ρ σ H → DD.ct ρ → E.ct σ H
  ro : ∀ σ F ρ H p vs ds, StOk K B F0 F ρ σ H → H p = some (.lst vs) → B p = none → F p = none → RpA F vs ds → DD.ro ds ρ → E.rt (.ref p) H
def lS (K : PySem.W.Frag) (B F0 : Hp) (t : DS) : TS := fun E σ H => ∃ F ρ DD, StOk K B F0 F ρ σ H ∧ EndsOk K B F0 DD E ∧ t DD ρ
structure DXs (X : Cx) (B0 : Hp) (st : Stmt) (t : DS) : Prop where
  run : ∀ B F0, Same B0 B → PS X st (lS X.K B F0 t)
  mono : SMono t
structure DXb (X : Cx) (B0 : Hp) (st : List Stmt) (t : DS) : Prop where
  run : ∀ B F0, Same B0 B → PSs X st (lS X.K B F0 t)
  mono : SMono t
theorem ps_imp {X : Cx} {e : Stmt} {t t' : TS} (h : PS X e t) (i : ∀ E σ H, t' E σ H → t E σ H) : PS X e t' := ⟨fun pins s σ H E I hw => h.run pins s σ H E I (i E σ H hw)⟩
theorem pss_imp {X : Cx} {e : List Stmt} {t t' : TS} (h : PSs X e t) (i : ∀ E σ H, t' E σ H → t E σ H) : PSs X e t' := ⟨fun pins s σ H E I hw => h.run pins s σ H E I (i E σ H hw)⟩
/-- the same over any background and ground -/
def lSx (K : PySem.W.Frag) (B0 : Hp) (t : DS) : TS := fun E σ H => ∃ B F0, Same B0 B ∧ lS K B F0 t E σ H
def lEx (K : PySem.W.Frag) (B0 : Hp) (t : DE) : TE := fun σ H Q => ∃ B F0, Same B0 B ∧ lE K B F0 t σ H Q
def lTx (K : PySem.W.Frag) (B0 : Hp) (t : DT) : TT := fun σ H Q => ∃ B F0, Same B0 B ∧ lT K B F0 t σ H Q
def lAx (K : PySem.W.Frag) (B0 : Hp) (t : DA) : TA := fun σ H Q => ∃ B F0, Same B0 B ∧ lA K B F0 t σ H Q
section
variable {X : Cx} {B0 : Hp} {st : Stmt} {sts : List Stmt} {t u : DS} {e : Expr} {f : DE} {c : DT} {pos : Pos}
theorem DXb.ex (h : DXb X B0 sts t) : PSs X sts (lSx X.K B0 t) := ⟨fun pins s σ H E I ⟨B, F0, hB, q⟩ => (h.run B F0 hB).run pins s σ H E I q⟩
theorem DX.ex (h : DX X B0 e f) : PE X e (lEx X.K B0 f) := ⟨fun pins s σ H E I ⟨B, F0, hB, q⟩ => (h.run B F0 hB).run pins s σ H E I q⟩
theorem DXt.ex (h : DXt X B0 e c) : PT X e (lTx X.K B0 c) := ⟨fun pins s σ H E I ⟨B, F0, hB, q⟩ => (h.run B F0 hB).run pins s σ H E I q⟩

def dNext : DS := fun DD ρ => DD.nx ρ
def dSeq (t u : DS) : DS := fun DD ρ => t { DD with nx := u DD } ρ
def dRet (f : DE) : DS := fun DD ρ => f ρ fun d ρ' => DD.rt d ρ'
def dRetN : DS := fun DD ρ => DD.rt .none ρ
def dBreak : DS := fun DD ρ => DD.bk ρ
def dCont : DS := fun DD ρ => DD.ct ρ
def dDrop (f : DE) : DS := fun DD ρ => f ρ fun _ ρ' => DD.nx ρ'
def dIfS (c : DT) (t u : DS) : DS := fun DD ρ => c ρ fun b ρ' => if b = true then t DD ρ' else u DD ρ'
theorem b_nil : DXb X B0 [] dNext := ⟨fun B F0 hB => pss_imp pss_nil fun E σ H ⟨F, ρ, DD, ok, en, q⟩ => en.nx _ _ _ _ ok q, fun a b ρ l h => l.nx _ h⟩
theorem dSeq_mono (ht : SMono t) (hu : SMono u) : SMono (dSeq t u) := fun a b ρ l h => ht { a with nx := u a } { b with nx := u b } ρ ⟨fun ρ' h1 => hu _ _ _ l h1, l.rt, l.bk, l.ct, l.ro⟩ h
theorem b_cons (ht : DXs X B0 st t) (hu : DXb X B0 sts u) : DXb X B0 (st :: sts) (dSeq t u) where
  run B F0 hB := pss_imp (pss_cons (ht.run B F0 hB) (hu.run B F0 hB)) fun E σ H ⟨F, ρ, DD, ok, en, q⟩ =>
    ⟨F, ρ, { DD with nx := u DD }, ok, ⟨fun σ' F' ρ' H' ok' q' => ⟨F', ρ', DD, ok', en, q'⟩, en.rt, en.bk, en.ct, en.ro⟩, q⟩
  mono := dSeq_mono ht.mono hu.mono
theorem b_one (ht : DXs X B0 st t) : DXb X B0 [st] t := ⟨fun B F0 hB => pss_one (ht.run B F0 hB), ht.mono⟩
theorem s_ret (h : DX X B0 e f) : DXs X B0 (.Return (some e) pos) (dRet f) where
  run B F0 hB := ps_imp (ps_ret (h.run B F0 hB)) fun E σ H ⟨F, ρ, DD, ok, en, q⟩ => ⟨F, ρ, ok, h.mono _ _ _ (fun d ρ' q' v F' H' ok' _ r => en.rt _ _ _ _ _ _ ok' r q') q⟩
  mono a b ρ l q := h.mono _ _ _ (fun d ρ' q' => l.rt _ _ q') q
theorem s_retN : DXs X B0 (.Return none pos) dRetN where
  run B F0 hB := ps_imp ps_retN fun E σ H ⟨F, ρ, DD, ok, en, q⟩ => en.rt _ _ _ _ _ _ ok .non q
  mono a b ρ l q := l.rt _ _ q
theorem s_break : DXs X B0 (.Break pos) dBreak := ⟨fun B F0 hB => ps_imp ps_break fun E σ H ⟨F, ρ, DD, ok, en, q⟩ => en.bk _ _ _ _ ok q, fun a b ρ l q => l.bk _ q⟩
theorem s_cont : DXs X B0 (.Continue pos) dCont := ⟨fun B F0 hB => ps_imp ps_continue fun E σ H ⟨F, ρ, DD, ok, en, q⟩ => en.ct _ _ _ _ ok q, fun a b ρ l q => l.ct _ q⟩
theorem s_expr (h : DX X B0 e f) (hs : swapsWith e none pos.line X.env = pure false := by rfl) : DXs X B0 (.Expr e pos) (dDrop f) where
  run B F0 hB := ps_imp (ps_expr (h.run B F0 hB) hs) fun E σ H ⟨F, ρ, DD, ok, en, q⟩ => ⟨F, ρ, ok, h.mono _ _ _ (fun d ρ' q' v F' H' ok' _ r => en.nx _ _ _ _ ok' q') q⟩
  mono a b ρ l q := h.mono _ _ _ (fun d ρ' q' => l.nx _ q') q
theorem s_if {ce : Expr} {as bs : List Stmt} (hc : DXt X B0 ce c) (ha : DXb X B0 as t) (hb : DXb X B0 bs u) : DXs X B0 (.If ce as bs pos) (dIfS c t u) where
  run B F0 hB := ps_imp (ps_if (hc.run B F0 hB) (ha.run B F0 hB) (hb.run B F0 hB)) fun E σ H ⟨F, ρ, DD, ok, en, q⟩ => ⟨F, ρ, ok, hc.mono _ _ _ (fun k ρ' q' F' H' ok' _ => by
    cases k with
    | true => exact ⟨F', ρ', DD, ok', en, q'⟩
    | false => exact ⟨F', ρ', DD, ok', en, q'⟩) q⟩
  mono a b ρ l q := hc.mono _ _ _ (fun k ρ' q' => by
    cases k with
    | true => exact ha.mono _ _ _ l q'
    | false => exact hb.mono _ _ _ l q') q

/-! ### targets -/
abbrev DG := D → List Sl → (List Sl → Prop) → Prop
abbrev DGs := List D → List Sl → (List Sl → Prop) → Prop
/-- outside the places vs alike -/
def Agr (vs : List Nat) (σ σ' : HSt) : Prop := σ'.length = σ.length ∧ ∀ i, i ∉ vs → σ'[i]? = σ[i]?
theorem Agr.refl {vs : List Nat} {σ : HSt} : Agr vs σ σ := ⟨rfl, fun _ _ => rfl⟩
theorem Agr.trans {vs : List Nat} {σ σ1 σ2 : HSt} (a : Agr vs σ σ1) (b : Agr vs σ1 σ2) : Agr vs σ σ2 := ⟨b.1.trans a.1, fun i h => (b.2 i h).trans (a.2 i h)⟩
def lG (K : PySem.W.Frag) (B F0 : Hp) (vs : List Nat) (g : DG) : TG := fun v σ H Q => ∃ F ρ d, StOk K B F0 F ρ σ H ∧ Rp F v d ∧ g d ρ fun ρ' => ∀ σ' F' H', StOk K B F0 F' ρ' σ' H' → Same F F' → Agr vs σ σ' → Q σ' H'
def lGs (K : PySem.W.Frag) (B F0 : Hp) (vs : List Nat) (g : DGs) : TGs := fun v σ H Q => ∃ F ρ d, StOk K B F0 F ρ σ H ∧ RpA F v d ∧ g d ρ fun ρ' => ∀ σ' F' H', StOk K B F0 F' ρ' σ' H' → Same F F' → Agr vs σ σ' → Q σ' H'
structure DXg (X : Cx) (B0 : Hp) (tg : Expr) (vs : List Nat) (g : DG) : Prop where
  run : ∀ B F0, Same B0 B → PG X tg (lG X.K B F0 vs g)
  mono : ∀ d ρ (Q Q' : List Sl → Prop), (∀ ρ', Q ρ' → Q' ρ') → g d ρ Q → g d ρ Q'
structure DXgs (X : Cx) (B0 : Hp) (tg : List Expr) (vs : List Nat) (g : DGs) : Prop where
  run : ∀ B F0, Same B0 B → PGs X tg (lGs X.K B F0 vs g)
  mono : ∀ d ρ (Q Q' : List Sl → Prop), (∀ ρ', Q ρ' → Q' ρ') → g d ρ Q → g d ρ Q'
def dgName (i : Nat) : DG := fun d ρ Q => Q (ρ.set i (.va d))
def dgNil : DGs := fun ds ρ Q => ds = [] ∧ Q ρ
def dgCons (g : DG) (gs : DGs) : DGs := fun ds ρ Q => match ds with
  | d :: r => g d ρ fun ρ' => gs r ρ' Q
  | [] => False
def dgTup (gs : DGs) : DG := fun d ρ Q => match d with
  | .tuple ds => gs ds ρ Q
  | _ => False
theorem pg_imp {tg : Expr} {g g' : TG} (h : PG X tg g) (i : ∀ v σ H Q, g' v σ H Q → g v σ H Q) : PG X tg g' := ⟨fun pins s σ H v u Q I r hw => h.run pins s σ H v u Q I r (i v σ H Q hw)⟩
theorem pgs_imp {tg : List Expr} {g g' : TGs} (h : PGs X tg g) (i : ∀ v σ H Q, g' v σ H Q → g v σ H Q) : PGs X tg g' := ⟨fun pins s σ H v u Q I r hw => h.run pins s σ H v u Q I r (i v σ H Q hw)⟩
def lGx (K : PySem.W.Frag) (B0 : Hp) (vs : List Nat) (g : DG) : TG := fun v σ H Q => ∃ B F0, Same B0 B ∧ lG K B F0 vs g v σ H Q
theorem DXg.ex {tg : Expr} {vs : List Nat} {g : DG} (h : DXg X B0 tg vs g) : PG X tg (lGx X.K B0 vs g) := ⟨fun pins s σ H v u Q I r ⟨B, F0, hB, q⟩ => (h.run B F0 hB).run pins s σ H v u Q I r q⟩
theorem agr_set {vs : List Nat} {σ : HSt} {i : Nat} {o : Option V} (h : i ∈ vs) : Agr vs σ (σ.set i o) := ⟨List.length_set, fun j hj => List.getElem?_set_ne fun e => hj (by rw [← e]; exact h)⟩
theorem g_name {i : Nat} {x : Str} {vs : List Nat} (hv : i ∈ vs) (hN : X.N.Nodup) (hi : X.N[i]? = some x) (hx : Loc X.env.scope x) (hf : X.fn x = true ∨ X.env.scope.names.lookup x = some .local := by first | exact .inl rfl | exact .inr rfl | assumption) : DXg X B0 (.Name x pos) vs (dgName i) where
  run B F0 hB := pg_imp (pg_name hN hi hx hf) fun v σ H Q ⟨F, ρ, d, ok, r, q⟩ => q _ F H (ok.setVa r) (Same.refl _) (agr_set hv)
  mono d ρ Q Q' hq h := hq _ h
theorem g_nil {vs : List Nat} : DXgs X B0 [] vs dgNil where
  run B F0 hB := pgs_imp pgs_nil fun v σ H Q ⟨F, ρ, d, ok, r, q⟩ => by
    obtain ⟨rfl, q⟩ := q
    cases r
    exact ⟨rfl, q σ F H ok (Same.refl _) .refl⟩
  mono d ρ Q Q' hq h := ⟨h.1, hq _ h.2⟩
theorem g_cons {es : List Expr} {g : DG} {gs : DGs} {vs : List Nat} (h1 : DXg X B0 e vs g) (h2 : DXgs X B0 es vs gs) (hs : (assignEach (e :: es) X.env).map (·.2) = assign e X.env :: (assignEach es X.env).map (·.2) := by rfl) : DXgs X B0 (e :: es) vs (dgCons g gs) where
  run B F0 hB := pgs_imp (pgs_cons (h1.run B F0 hB) (h2.run B F0 hB) hs) fun v σ H Q ⟨F, ρ, d, ok, r, q⟩ => by
    cases r with
    | nil => exact q.elim
    | cons r1 rr => exact ⟨_, _, rfl, F, ρ, _, ok, r1, h1.mono _ _ _ _ (fun ρ' q' σ' F' H' ok' s' a' => ⟨F', ρ', _, ok', rr.mono s', h2.mono _ _ _ _ (fun ρ2 q2 σ2 F2 H2 ok2 s2 a2 => q2 σ2 F2 H2 ok2 (s'.trans s2) (a'.trans a2)) q'⟩) q⟩
  mono d ρ Q Q' hq h := by
    cases d with
    | nil => exact h
    | cons d r => exact h1.mono _ _ _ _ (fun ρ' h' => h2.mono _ _ _ _ hq h') h
theorem g_tup {es : List Expr} {k : Nat} {gs : DGs} {vs : List Nat} {n : Nat} (hc : X.calm = true) (h : DXgs X B0 es vs gs) (hn : (assignEach es X.env).length = n := by rfl) (hst : (assignEach es X.env).findIdx? (·.1) = none := by rfl) (hl : ∀ ds ρ Q, gs ds ρ Q → ds.length = n) : DXg X B0 (.Tuple es k pos) vs (dgTup gs) where
  run B F0 hB := pg_imp (pg_tup hc (h.run B F0 hB) hn hst) fun v σ H Q ⟨F, ρ, d, ok, r, q⟩ => by
    cases r with
    | tup ha rs => exact ⟨_, _, rfl, .of (ok.st _ _ ha), by rw [rs.len]; exact hl _ _ _ q, F, ρ, _, ok, rs, q⟩
    | bl b => exact q.elim
    | non => exact q.elim
    | int i => exact q.elim
    | str x => exact q.elim
    | lst _ _ => exact q.elim
    | dic _ _ => exact q.elim
    | dicT _ _ => exact q.elim
  mono d ρ Q Q' hq q := by
    cases d with
    | tuple ds => exact h.mono _ _ _ _ hq q
    | none => exact q
    | int i => exact q
    | str x => exact q
    | list x => exact q
    | bool x => exact q
    | dict x => exact q
theorem len_nil {ds : List D} {ρ : List Sl} {Q : List Sl → Prop} (h : dgNil ds ρ Q) : ds.length = 0 := by
  rw [h.1]
  rfl
theorem len_cons {i n : Nat} {gs : DGs} (hl : ∀ ds ρ Q, gs ds ρ Q → ds.length = n) : ∀ ds ρ Q, dgCons (dgName i) gs ds ρ Q → ds.length = n + 1 := fun ds ρ Q h => by
  cases ds with
  | nil => exact h.elim
  | cons d r => exact congrArg (· + 1) (hl _ _ _ h)
theorem len_consG {g : DG} {n : Nat} {gs : DGs} (hg : ∀ d ρ Q, g d ρ Q → ∃ ρ', Q ρ') (hl : ∀ ds ρ Q, gs ds ρ Q → ds.length = n) : ∀ ds ρ Q, dgCons g gs ds ρ Q → ds.length = n + 1 := fun ds ρ Q h => by
  cases ds with
  | nil => exact h.elim
  | cons d r =>
    obtain ⟨ρ', h'⟩ := hg _ _ _ h
    exact congrArg (· + 1) (hl _ _ _ h')

/-! ### assignments -/
def dAsg (f : DE) (g : DG) : DS := fun DD ρ => f ρ fun d ρ' => g d ρ' DD.nx
theorem dAsg_mono {g : DG} (hf : DMono f) (hg : ∀ d ρ (Q Q' : List Sl → Prop), (∀ ρ', Q ρ' → Q' ρ') → g d ρ Q → g d ρ Q') : SMono (dAsg f g) := fun a b ρ l q => hf _ _ _ (fun d ρ' q' => hg _ _ _ _ l.nx q') q
theorem lS_asg {B F0 : Hp} {g : DG} {vs : List Nat} (mf : DMono f) (mg : ∀ d ρ (Q Q' : List Sl → Prop), (∀ ρ', Q ρ' → Q' ρ') → g d ρ Q → g d ρ Q') {E : Ends} {σ : HSt} {H : Hp} (h : lS X.K B F0 (dAsg f g) E σ H) : tAsg (lE X.K B F0 f) (lG X.K B F0 vs g) E σ H := by
  obtain ⟨F, ρ, DD, ok, en, q⟩ := h
  exact ⟨F, ρ, ok, mf _ _ _ (fun d ρ' q' v F' H' ok' _ r => ⟨F', ρ', d, ok', r, mg _ _ _ _ (fun ρ2 q2 σ2 F2 H2 ok2 _ _ => en.nx _ _ _ _ ok2 q2) q'⟩) q⟩
theorem s_asg {tg : Expr} {g : DG} {vs : List Nat} (he : DX X B0 e f) (hg : DXg X B0 tg vs g) (hs : swapsWithSole [tg] e pos.line X.env = pure false := by rfl) (hw : swappedStores [tg] e X.env = pure none := by rfl) (h1 : (assignEach [tg] X.env).map (·.2) = [assign tg X.env] := by rfl) : DXs X B0 (.Assign [tg] e pos) (dAsg f g) where
  run B F0 hB := ps_imp (ps_asg (he.run B F0 hB) (hg.run B F0 hB) hs hw h1) fun E σ H q => lS_asg he.mono hg.mono q
  mono := dAsg_mono he.mono hg.mono
theorem s_set {i : Nat} {x : Str} {pos' : Pos} (hN : X.N.Nodup) (hi : X.N[i]? = some x) (hx : Loc X.env.scope x) (he : DX X B0 e f) (hs : swapsWith e (some (.Name x pos')) pos.line X.env = pure false := by rfl) (hf : X.fn x = true ∨ X.env.scope.names.lookup x = some .local := by first | exact .inl rfl | exact .inr rfl | assumption) :
    DXs X B0 (.Assign [.Name x pos'] e pos) (dAsg f (dgName i)) where
  run B F0 hB := ps_imp (ps_set hN hi hx (he.run B F0 hB) hs hf) fun E σ H ⟨F, ρ, DD, ok, en, q⟩ => ⟨F, ρ, ok, he.mono _ _ _ (fun d ρ' q' v F' H' ok' _ r => en.nx _ _ _ _ (ok'.setVa r) q') q⟩
  mono := dAsg_mono he.mono fun d ρ Q Q' hq h => hq _ h
/-- a, b = x, y: two names -/
def dPar (i j : Nat) (fs : DA) : DS := fun DD ρ => fs ρ fun ds ρ' => match ds with
  | [d, e] => DD.nx ((ρ'.set i (.va d)).set j (.va e))
  | _ => False
theorem s_par {i j : Nat} {x y : Str} {a b : Expr} {fs : DA} {px py pt : Pos} {kt k2 pt2} (hc : X.calm = true) (hN : X.N.Nodup) (hi : X.N[i]? = some x) (hj : X.N[j]? = some y) (hij : i ≠ j)
    (hx : X.env.scope.names.lookup x = some .local) (hy : X.env.scope.names.lookup y = some .local) (ha : DXa X B0 [a, b] fs) (hw : swappedStores [.Tuple [.Name x px, .Name y py] kt pt] (.Tuple [a, b] k2 pt2) X.env = pure (some [x, y]) := by rfl)
    (hs : swapsWithSole [.Tuple [.Name x px, .Name y py] kt pt] (.Tuple [a, b] k2 pt2) pos.line X.env = pure false := by rfl) : DXs X B0 (.Assign [.Tuple [.Name x px, .Name y py] kt pt] (.Tuple [a, b] k2 pt2) pos) (dPar i j fs) where
  run B F0 hB := ps_imp (ps_par hc hN hi hj hij hx hy (ha.run B F0 hB) hw hs) fun E σ H ⟨F, ρ, DD, ok, en, q⟩ => ⟨F, ρ, ok, ha.mono _ _ _ (fun ds ρ' q' vs F' H' ok' _ r => by
    cases r with
    | nil => exact q'.elim
    | cons r1 r =>
      cases r with
      | nil => exact q'.elim
      | cons r2 r =>
        cases r with
        | cons _ _ => exact q'.elim
        | nil => exact ⟨_, _, rfl, en.nx _ _ _ _ ((ok'.setVa r1).setVa r2) q'⟩) q⟩
  mono a b ρ l q := ha.mono _ _ _ (fun ds ρ' q' => by
    match ds, q' with
    | [d, e], q' => exact l.nx _ q') q

/-! ### loops -/
def dWhile (c : DT) (t : DS) : DS := fun DD ρ => ∃ W : Nat → List Sl → Prop, (∃ m, W m ρ) ∧ ∀ m ρ, W m ρ → c ρ fun b ρ' => if b = true then t { nx := fun ρ2 => ∃ m', m' < m ∧ W m' ρ2, ct := fun ρ2 => ∃ m', m' < m ∧ W m' ρ2, bk := DD.nx, rt := DD.rt, ro := DD.ro } ρ' else DD.nx ρ'
theorem s_while {ce : Expr} {body : List Stmt} (hp : PassesOwn (model X.prog X.w) X.A X.env X.xe) (hc : DXt X B0 ce c) (hb : DXb X B0 body t) : DXs X B0 (.While ce body [] pos) (dWhile c t) where
  run B F0 hB := ps_imp (ps_while hp (hc.run B F0 hB) (hb.run B F0 hB)) fun E σ H ⟨F, ρ, DD, ok, en, W, ⟨m, hm⟩, q⟩ =>
    ⟨fun m σ H => ∃ F ρ, StOk X.K B F0 F ρ σ H ∧ W m ρ, ⟨m, F, ρ, ok, hm⟩, fun m σ' H' ⟨F1, ρ1, ok1, w1⟩ => ⟨F1, ρ1, ok1, hc.mono _ _ _ (fun k ρ2 q2 F2 H2 ok2 _ => by
      cases k with
      | false => exact en.nx _ _ _ _ ok2 q2
      | true => exact ⟨fun σ' H' => ∃ m', m' < m ∧ ∃ F ρ, StOk X.K B F0 F ρ σ' H' ∧ W m' ρ, fun _ _ h => h, F2, ρ2, { nx := fun ρ2 => ∃ m', m' < m ∧ W m' ρ2, ct := fun ρ2 => ∃ m', m' < m ∧ W m' ρ2, bk := DD.nx, rt := DD.rt, ro := DD.ro }, ok2, ⟨fun σ' F' ρ' H' ok' ⟨m', l, w⟩ => ⟨m', l, F', ρ', ok', w⟩, en.rt, en.nx, fun σ' F' ρ' H' ok' ⟨m', l, w⟩ => ⟨m', l, F', ρ', ok', w⟩, en.ro⟩, q2⟩) (q m ρ1 w1)⟩⟩
  mono a b ρ l q := by
    obtain ⟨W, hm, q⟩ := q
    refine ⟨W, hm, fun m ρ w => hc.mono _ _ _ (fun k ρ' q' => ?_) (q m ρ w)⟩
    cases k with
    | true => exact hb.mono { nx := fun ρ2 => ∃ m', m' < m ∧ W m' ρ2, ct := fun ρ2 => ∃ m', m' < m ∧ W m' ρ2, bk := a.nx, rt := a.rt, ro := a.ro } _ _ ⟨fun _ h => h, l.rt, l.nx, fun _ h => h, l.ro⟩ q'
    | false => exact l.nx _ q'

/-- n turns over the items -/
structure WalkD (J : It) (F : Hp) (items : List D) : Prop where
  goes : ∀ i H, i < items.length → Same F H → J.go i H
  stops : ∀ H, Same F H → J.stop items.length H
  yields : ∀ (i : Nat) (F1 H : Hp) (x : V) (H' : Hp) (d : D), items[i]? = some d → Same F F1 → Same F1 H → J.yld i H x H' → ∃ F2, Gw F1 H F2 H' ∧ Rp F2 x d
abbrev DI := DA
def lI (K : PySem.W.Frag) (B F0 : Hp) (it : DI) : TI := fun σ H R => ∃ F ρ, StOk K B F0 F ρ σ H ∧ it ρ fun items ρ' => ∀ J F' H', StOk K B F0 F' ρ' σ H' → Same F F' → WalkD J F' items → R J H'
structure DXi (X : Cx) (B0 : Hp) (tg e : Expr) (it : DI) : Prop where
  run : ∀ B F0, Same B0 B → PI X tg e (lI X.K B F0 it)
  mono : AMono it
theorem pi_imp {tg : Expr} {g g' : TI} (h : PI X tg e g) (i : ∀ σ H Q, g' σ H Q → g σ H Q) : PI X tg e g' := ⟨fun pins s σ H Q I hw => h.run pins s σ H Q I (i σ H Q hw)⟩
def dForL (g : DG) (t : DS) : List D → DEnds → List Sl → Prop
  | [], DD, ρ => DD.nx ρ
  | d :: ds, DD, ρ => g d ρ fun ρ1 => t { nx := dForL g t ds DD, rt := DD.rt, bk := DD.nx, ct := dForL g t ds DD, ro := DD.ro } ρ1
def dFor (it : DI) (g : DG) (t : DS) : DS := fun DD ρ => it ρ fun items ρ' => dForL g t items DD ρ'
theorem dForL_mono {g : DG} (mg : ∀ d ρ (Q Q' : List Sl → Prop), (∀ ρ', Q ρ' → Q' ρ') → g d ρ Q → g d ρ Q') (mt : SMono t) : ∀ (ds : List D) (a b : DEnds) (ρ : List Sl), a.le b → dForL g t ds a ρ → dForL g t ds b ρ
  | [], a, b, ρ, l, h => l.nx _ h
  | d :: ds, a, b, ρ, l, h => mg _ _ _ _ (fun ρ' h' => mt { nx := dForL g t ds a, rt := a.rt, bk := a.nx, ct := dForL g t ds a, ro := a.ro } _ _ ⟨fun ρ2 h2 => dForL_mono mg mt ds a b ρ2 l h2, l.rt, l.nx, fun ρ2 h2 => dForL_mono mg mt ds a b ρ2 l h2, l.ro⟩ h') h
theorem StOk.rebase {K : PySem.W.Frag} {B F0 F1 F H : Hp} {ρ : List Sl} {σ : HSt} (h : StOk K B F1 F ρ σ H) (h1 : Same F0 F1) (n1 : ∀ a, F1 a ≠ none → F0 a ≠ none ∨ B a = none ∨ IsTp (F1 a)) : StOk K B F0 F ρ σ H :=
  { h with
    up := h1.trans h.up
    nw := fun a e => (h.nw a e).elim (fun z => (n1 a z).elim .inl fun q => .inr (q.elim .inl fun ⟨xs, w⟩ => .inr ⟨xs, h.up _ _ w⟩)) fun z => .inr z }
theorem StOk.here {K : PySem.W.Frag} {B F0 F H : Hp} {ρ : List Sl} {σ : HSt} (h : StOk K B F0 F ρ σ H) : StOk K B F F ρ σ H :=
  { h with up := Same.refl _, nw := fun a e => .inl e }
theorem EndsOk.rebase {K : PySem.W.Frag} {B F0 F1 : Hp} {DD : DEnds} {E : Ends} (h : EndsOk K B F0 DD E) (h1 : Same F0 F1) (n1 : ∀ a, F1 a ≠ none → F0 a ≠ none ∨ B a = none ∨ IsTp (F1 a)) : EndsOk K B F1 DD E :=
  ⟨fun σ F ρ H ok q => h.nx _ _ _ _ (StOk.rebase ok h1 n1) q, fun σ F ρ H v d ok r q => h.rt _ _ _ _ _ _ (StOk.rebase ok h1 n1) r q, fun σ F ρ H ok q => h.bk _ _ _ _ (StOk.rebase ok h1 n1) q, fun σ F ρ H ok q => h.ct _ _ _ _ (StOk.rebase ok h1 n1) q, fun σ F ρ H p vs ds ok q1 q2 q3 q4 q => h.ro _ _ _ _ _ _ _ (StOk.rebase ok h1 n1) q1 q2 q3 q4 q⟩
theorem s_for {tg iter : Expr} {body : List Stmt} {it : DI} {g : DG} {vs : List Nat} (hp : PassesOwn (model X.prog X.w) X.A X.env X.xe) (hc : X.calm = true) (hi : DXi X B0 tg iter it) (hg : DXg X B0 tg vs g) (hb : DXb X B0 body t) (hs : ∀ x, foldedSetIterable iter X.env x = pure x := by intro _; rfl) : DXs X B0 (.For tg iter body [] pos) (dFor it g t) where
  run B F0 hB := ps_imp (ps_for hp hc (hi.run B F0 hB) hg.ex hb.ex hs) fun E σ H ⟨F, ρ, DD, ok, en, q⟩ => ⟨F, ρ, ok, hi.mono _ _ _ (fun items ρ1 q1 J F1 H1 ok1 _ w => by
    have en1 := en.rebase ok1.up ok1.nw
    refine ⟨fun i m σ H => m = items.length - i ∧ i ≤ items.length ∧ ∃ F ρ, StOk X.K B F1 F ρ σ H ∧ dForL g t (items.drop i) DD ρ, ⟨_, rfl, Nat.zero_le _, F1, ρ1, ok1.here, q1⟩, ?_⟩
    rintro i m σ H ⟨rfl, hi, F2, ρ2, ok2, q2⟩
    by_cases hlt : i < items.length
    · refine .inr ⟨w.goes i H hlt (ok2.up.trans ok2.st), fun σ H => i + 1 ≤ items.length ∧ ∃ F ρ, StOk X.K B F1 F ρ σ H ∧ dForL g t (items.drop (i + 1)) DD ρ, fun σ' H' ⟨h1, h2⟩ => ⟨items.length - (i + 1), by omega, rfl, h1, h2⟩, fun x H' y => ?_⟩
      have hd : items[i]? = some items[i] := List.getElem?_eq_getElem hlt
      obtain ⟨F3, g3, r3⟩ := w.yields i F2 H x H' _ hd ok2.up ok2.st y
      rw [List.drop_eq_getElem_cons hlt] at q2
      refine ⟨B, F1, hB, F3, ρ2, items[i], ok2.gw g3, r3, hg.mono _ _ _ _ (fun ρ3 q3 σ3 F4 H4 ok4 _ _ => ⟨B, F1, hB, F4, ρ3, { nx := dForL g t (items.drop (i + 1)) DD, rt := DD.rt, bk := DD.nx, ct := dForL g t (items.drop (i + 1)) DD, ro := DD.ro }, ok4, ⟨fun σ' F' ρ' H' ok' q' => ⟨hlt, F', ρ', ok', q'⟩, en1.rt, en1.nx, fun σ' F' ρ' H' ok' q' => ⟨hlt, F', ρ', ok', q'⟩, en1.ro⟩, q3⟩) q2⟩
    · have e : i = items.length := by omega
      subst e
      rw [List.drop_length] at q2
      exact .inl ⟨w.stops H (ok2.up.trans ok2.st), en1.nx _ _ _ _ ok2 q2⟩) q⟩
  mono a b ρ l q := hi.mono _ _ _ (fun items ρ' q' => dForL_mono hg.mono hb.mono _ _ _ _ l q') q
end
end DL

namespace DL
open PySem PySem.Spec PyProof.Rows L2

/-! ### what is walked -/
def chars (x : Str) : List D := x.cps.toList.map fun c => .str ⟨#[c]⟩
def itemsP (d : D) (P : List D → Prop) : Prop := match d with
  | .list ds => P ds
  | .tuple ds => P ds
  | .str x => P (chars x)
  | .dict kvs => P (kvs.map (·.1))
  | _ => False
theorem itemsP_mono {d : D} {P P' : List D → Prop} (h : ∀ b, P b → P' b) (q : itemsP d P) : itemsP d P' := by
  cases d with
  | list b => exact h _ q
  | tuple b => exact h _ q
  | str b => exact h _ q
  | dict b => exact h _ q
  | none => exact q
  | int i => exact q
  | bool x => exact q
def dIter (f : DE) : DI := fun ρ Q => f ρ fun d ρ' => itemsP d fun items => Q items ρ'
theorem rp_key {F : Hp} : ∀ k : Key, Rp F (kV k) (kD k)
  | .inl i => .int i
  | .inr x => .str x
theorem rpa_keys {F : Hp} : ∀ k : List Key, RpA F (k.map kV) (k.map kD)
  | [] => .nil
  | k :: r => .cons (rp_key k) (rpa_keys r)
theorem rpk_get {F : Hp} : ∀ {kvs : List (Key × V)} {ds : List (D × D)} {i : Nat} {d : D}, RpK F kvs ds → (ds.map (·.1))[i]? = some d → ∃ k v, kvs[i]? = some (k, v) ∧ d = kD k
  | _, _, _, _, .nil, e => by simp at e
  | _, _, 0, _, .cons h _, e => by
    simp at e
    subst e
    exact ⟨_, _, rfl, rfl⟩
  | _, _, i + 1, d, .cons _ r, e => by
    obtain ⟨k, v, h1, h2⟩ := rpk_get (i := i) (d := d) r (by simpa using e)
    exact ⟨k, v, by simpa using h1, h2⟩
theorem rpt_get {F : Hp} : ∀ {kvs : List (List Key × V)} {ds : List (D × D)} {i : Nat} {d : D}, RpT F kvs ds → (ds.map (·.1))[i]? = some d → ∃ k v, kvs[i]? = some (k, v) ∧ d = .tuple (k.map kD)
  | _, _, _, _, .nil, e => by simp at e
  | _, _, 0, _, .cons h _, e => by
    simp at e
    subst e
    exact ⟨_, _, rfl, rfl⟩
  | _, _, i + 1, d, .cons _ r, e => by
    obtain ⟨k, v, h1, h2⟩ := rpt_get (i := i) (d := d) r (by simpa using e)
    exact ⟨k, v, by simpa using h1, h2⟩
theorem rpk_len {F : Hp} : ∀ {kvs : List (Key × V)} {ds : List (D × D)}, RpK F kvs ds → kvs.length = ds.length
  | _, _, .nil => rfl
  | _, _, .cons _ r => by rw [List.length_cons, List.length_cons, rpk_len r]
theorem rpt_len {F : Hp} : ∀ {kvs : List (List Key × V)} {ds : List (D × D)}, RpT F kvs ds → kvs.length = ds.length
  | _, _, .nil => rfl
  | _, _, .cons _ r => by rw [List.length_cons, List.length_cons, rpt_len r]
theorem wd_list {K : PySem.W.Frag} {F : Hp} {a : Addr} {xs : List V} {ds : List D} (h : F a = some (.lst xs)) (r : RpA F xs ds) : WalkD (Itl K a) F ds where
  goes i H hi s := ⟨xs, xs[i]'(by rw [r.len]; exact hi), .of (s _ _ h), List.getElem?_eq_getElem _⟩
  stops H s := ⟨xs, .of (s _ _ h), by rw [r.len]; exact Nat.le_refl _⟩
  yields i F1 H x H' d hd s1 s2 y := by
    obtain ⟨rfl, hy⟩ := y
    obtain ⟨v, hv, rv⟩ := r.get hd
    have e := (hy xs (.of (s2 _ _ (s1 _ _ h)))).symm.trans hv
    cases e
    exact ⟨F1, Gw.refl s2, rv.mono s1⟩
theorem wd_tup {K : PySem.W.Frag} {F : Hp} {a : Addr} {xs : List V} {ds : List D} (h : F a = some (.tup xs)) (r : RpA F xs ds) : WalkD (Itt K a) F ds where
  goes i H hi s := ⟨xs, xs[i]'(by rw [r.len]; exact hi), .of (s _ _ h), List.getElem?_eq_getElem _⟩
  stops H s := ⟨xs, .of (s _ _ h), by rw [r.len]; exact Nat.le_refl _⟩
  yields i F1 H x H' d hd s1 s2 y := by
    obtain ⟨rfl, hy⟩ := y
    obtain ⟨v, hv, rv⟩ := r.get hd
    have e := (hy xs (.of (s2 _ _ (s1 _ _ h)))).symm.trans hv
    cases e
    exact ⟨F1, Gw.refl s2, rv.mono s1⟩
theorem chars_len (x : Str) : (chars x).length = x.cps.size := by
  unfold chars
  rw [List.length_map, Array.length_toList]
theorem wd_str {F : Hp} {x : Str} : WalkD (Its x) F (chars x) where
  goes i H hi s := by
    rw [chars_len] at hi
    exact hi
  stops H s := by
    rw [chars_len]
    exact Nat.le_refl _
  yields i F1 H v H' d hd s1 s2 y := by
    obtain ⟨rfl, c, hc, rfl⟩ := y
    unfold chars at hd
    rw [List.getElem?_map, Array.getElem?_toList, hc] at hd
    cases hd
    exact ⟨F1, Gw.refl s2, .str _⟩
theorem wd_range {F : Hp} {lo : Int} {n : Nat} : WalkD (Itr lo n) F ((List.range n).map fun i : Nat => .int (lo + (i : Int))) where
  goes i H hi s := by
    rw [List.length_map, List.length_range] at hi
    exact hi
  stops H s := by
    rw [List.length_map, List.length_range]
    exact Nat.le_refl _
  yields i F1 H v H' d hd s1 s2 y := by
    obtain ⟨rfl, rfl⟩ := y
    rw [List.getElem?_map] at hd
    cases e : (List.range n)[i]? with
    | none => rw [e] at hd; cases hd
    | some j =>
      rw [e] at hd
      cases hd
      have e2 := List.getElem?_eq_some_iff.mp e
      obtain ⟨_, e2⟩ := e2
      rw [List.getElem_range] at e2
      subst e2
      exact ⟨F1, Gw.refl s2, .int _⟩
theorem wd_rangeC {F : Hp} {lo c : Int} {n : Nat} : WalkD (Itc lo c n) F ((List.range n).map fun i : Nat => .int (lo + (i : Int) * c)) where
  goes i H hi s := by
    rw [List.length_map, List.length_range] at hi
    exact hi
  stops H s := by
    rw [List.length_map, List.length_range]
    exact Nat.le_refl _
  yields i F1 H v H' d hd s1 s2 y := by
    obtain ⟨rfl, rfl⟩ := y
    rw [List.getElem?_map] at hd
    cases e : (List.range n)[i]? with
    | none => rw [e] at hd; cases hd
    | some j =>
      rw [e] at hd
      cases hd
      have e2 := List.getElem?_eq_some_iff.mp e
      obtain ⟨_, e2⟩ := e2
      rw [List.getElem_range] at e2
      subst e2
      exact ⟨F1, Gw.refl s2, .int _⟩
theorem wd_keys {F : Hp} {a : Addr} {o : Obj} {kvs : List (Key × V)} {ds : List (D × D)} (h : F a = some (.frz o (.dK kvs))) (r : RpK F kvs ds) : WalkD (Itk a o kvs) F (ds.map (·.1)) where
  goes i H hi s := ⟨s _ _ h, by rw [rpk_len r]; rw [List.length_map] at hi; exact hi⟩
  stops H s := ⟨s _ _ h, by rw [rpk_len r, List.length_map]; exact Nat.le_refl _⟩
  yields i F1 H x H' d hd s1 s2 y := by
    obtain ⟨rfl, k, v, hy, rfl⟩ := y
    obtain ⟨k', v', h1, rfl⟩ := rpk_get r hd
    have e := h1.symm.trans hy
    cases e
    exact ⟨F1, Gw.refl s2, rp_key _⟩
/-- a known tuple is frozen -/
theorem Gw.tup {F H : Hp} (s : Same F H) {q : Addr} {xs : List V} (hq : H q = some (.tup xs)) : Gw F H (upd F q (.tup xs)) H := by
  have hs : ∀ a u, F a = some u → (upd F q (.tup xs)) a = some u := fun a u e => by
    by_cases ha : a = q
    · subst ha
      rw [upd_same]
      exact (s _ _ e).symm.trans hq |>.symm
    · rw [upd_ne ha]
      exact e
  refine ⟨Same.refl _, hs, fun a u e => ?_, fun a e => ?_⟩
  · by_cases ha : a = q
    · subst ha
      rw [upd_same] at e
      cases e
      exact hq
    · rw [upd_ne ha] at e
      exact s _ _ e
  · by_cases ha : a = q
    · subst ha
      exact .inr (.inr ⟨xs, upd_same⟩)
    · rw [upd_ne ha] at e
      exact .inl e
theorem wd_keysT {F : Hp} {a : Addr} {o : Obj} {kvs : List (List Key × V)} {ds : List (D × D)} (h : F a = some (.frz o (.dT kvs))) (r : RpT F kvs ds) : WalkD (Itkt a o kvs) F (ds.map (·.1)) where
  goes i H hi s := ⟨s _ _ h, by rw [rpt_len r]; rw [List.length_map] at hi; exact hi⟩
  stops H s := ⟨s _ _ h, by rw [rpt_len r, List.length_map]; exact Nat.le_refl _⟩
  yields i F1 H x H' d hd s1 s2 y := by
    obtain ⟨rfl, k, v, q, hy, rfl, hq⟩ := y
    obtain ⟨k', v', h1, rfl⟩ := rpt_get r hd
    have e := h1.symm.trans hy
    cases e
    exact ⟨_, Gw.tup s2 hq, .tup upd_same (rpa_keys _)⟩
theorem wpAny_iter_any {X : Cx} {tg : Expr} {pins : List (Addr × Obj)} {σ : HSt} {F H : Hp} {s1 : Shared} {x : V} {v : Value} {d : D} {R : It → Hp → Prop} (I1 : Inv X pins σ H s1) (r1 : RelV x v) (st : Same F H) (rp : Rp F x d)  (q : itemsP d fun items => ∀ J, WalkD J F items → R J H) : wpAny (model X.prog X.w) X.A (pyIter v) (PIE X pins σ tg R) X.xe s1 := by
  have fr : ∀ b ∈ [s1.heap.objs.size], FpOk X pins H b := fun b hb => by
    have e : b = s1.heap.objs.size := by simpa using hb
    subst e
    exact I1.fpOk (Nat.le_refl _) (I1.hok.fresh (Nat.le_refl _))
  cases rp with
  | non => exact q.elim
  | bl b => exact q.elim
  | int i => exact q.elim
  | str x =>
    obtain ⟨t, rfl⟩ := r1
    cases ha : x.cps.all (· < 128)
    · exact wpAny_pyIter_wide ha (pi_one (tk := s1.toks) I1 _ (turn_str _ x t "str_iterator" (.inr rfl)) ⟨_, Heap.get?_push_size _ rfl, rfl, rfl⟩ (q _ wd_str))
    · exact wpAny_pyIter_ascii ha (pi_one (tk := s1.toks) I1 _ (turn_str _ x t "str_ascii_iterator" (.inl rfl)) ⟨_, Heap.get?_push_size _ rfl, rfl, rfl⟩ (q _ wd_str))
  | lst h r =>
    cases r1
    obtain ⟨its, rv, p, hz⟩ := I1.list (.of (st _ _ h))
    refine wpAny_pyIter_list p.isList ?_
    exact ⟨s1.heap.objs.size, [s1.heap.objs.size], _, _, H, rfl, I1.kept (t' := s1.toks) fun b o e => Heap.get?_push_of_some _ e, turn_list _ _, ⟨_, Heap.get?_push_size _ rfl, rfl, rfl⟩, fr, q _ (wd_list h r)⟩
  | @tup a xs ds h r =>
    cases r1
    obtain ⟨its, rv, p, hz⟩ := I1.tuple (.of (st _ _ h))
    refine wpAny_pyIter_tuple (show s1.heap.IsTuple a its.toArray from p) ?_
    exact ⟨s1.heap.objs.size, [s1.heap.objs.size], _, _, H, rfl, I1.kept (t' := s1.toks) fun b o e => Heap.get?_push_of_some _ e, turn_tuple _ _, ⟨_, Heap.get?_push_size _ rfl, rfl, rfl⟩, fr, q _ (wd_tup h r)⟩
  | @dic a o kvs ds h r =>
    cases r1
    obtain ⟨hs, hgd, hx, es, ep, vs, hdt, hsz, kv, hm⟩ := I1.frzK (st _ _ h)
    refine iter_keys hs hgd hx hdt (pi_one (tk := s1.toks) I1 _ (turn_keys _ hdt) ⟨_, Heap.get?_push_size _ rfl, rfl, ?_⟩ (q _ (wd_keys h r)))
    rw [hsz] <;> rfl
  | @dicT a o kvs ds hn h r =>
    cases r1
    obtain ⟨hs, hgd, hx, es, ep, hdt, hsz, ent⟩ := I1.frzT (st _ _ h)
    refine iter_keys hs hgd hx hdt (pi_one (tk := s1.toks) I1 _ (turn_keysT _ hdt) ⟨_, Heap.get?_push_size _ rfl, rfl, ?_⟩ (q _ (wd_keysT h r)))
    rw [hsz] <;> rfl
end DL

namespace DL
open PySem PySem.Spec PyProof.Rows L2
section
variable {X : Cx} {B0 : Hp} {e tg iter elt : Expr} {es : List Expr} {f fe : DE} {fs : DA} {pos : Pos}
/-- over a list, a tuple, a text, a dict -/
theorem i_any (h : DX X B0 e f) : DXi X B0 tg e (dIter f) where
  run B F0 hB := ⟨fun pins s σ H R I ⟨F, ρ, ok, q⟩ => by
    have h1 := (h.run B F0 hB).run pins s σ H (fun x H1 => ∃ F1 d, Same F1 H1 ∧ Rp F1 x d ∧ itemsP d fun items => ∀ J, WalkD J F1 items → R J H1) I
      ⟨F, ρ, ok, h.mono _ _ _ (fun d ρ' q' v F' H' ok' s' r => ⟨F', d, ok'.st, r, itemsP_mono (fun items hi J w => hi J F' H' ok' s' w) q'⟩) q⟩
    exact thn h1 fun v s1 ⟨x, H1, I1, r1, F1, d, st, rp, q⟩ => wpAny_iter_any I1 r1 st rp q⟩
  mono ρ Q Q' hq q := h.mono _ _ _ (fun d ρ' q' => itemsP_mono (fun items => hq items ρ') q') q
def asI (d : D) (P : Int → Prop) : Prop := match d with
  | .int i => P i
  | _ => False
theorem asI_rp {d : D} {P : Int → Prop} {F : Hp} {v : V} (r : Rp F v d) (q : asI d P) : ∃ i, v = .int i ∧ d = .int i ∧ P i := by
  cases r with
  | int b => exact ⟨b, rfl, rfl, q⟩
  | non => exact q.elim
  | bl i => exact q.elim
  | str x => exact q.elim
  | lst _ _ => exact q.elim
  | tup _ _ => exact q.elim
  | dic _ _ => exact q.elim
  | dicT _ _ => exact q.elim
theorem asI_mono {d : D} {P P' : Int → Prop} (h : ∀ b, P b → P' b) (q : asI d P) : asI d P' := by
  cases d with
  | int b => exact h b q
  | none => exact q
  | bool i => exact q
  | str x => exact q
  | list x => exact q
  | tuple x => exact q
  | dict x => exact q
def rng (lo : Int) (n : Nat) (c : Int) : List D := (List.range n).map fun i : Nat => .int (lo + (i : Int) * c)
def rng1 (lo : Int) (n : Nat) : List D := (List.range n).map fun i : Nat => .int (lo + (i : Int))
def dRng1 (fs : DA) : DI := fun ρ Q => fs ρ fun ds ρ' => match ds with
  | [d] => asI d fun j => (-(2 ^ 62) ≤ j ∧ j < 2 ^ 62) ∧ Q (rng1 0 j.toNat) ρ'
  | _ => False
def dRng2 (fs : DA) : DI := fun ρ Q => fs ρ fun ds ρ' => match ds with
  | [d, d2] => asI d fun i => asI d2 fun j => (-(2 ^ 62) ≤ i ∧ i < 2 ^ 62 ∧ -(2 ^ 62) ≤ j ∧ j < 2 ^ 62) ∧ Q (rng1 i (j - i).toNat) ρ'
  | _ => False
def dRng3 (fs : DA) : DI := fun ρ Q => fs ρ fun ds ρ' => match ds with
  | [d, d2, d3] => asI d fun i => asI d2 fun j => asI d3 fun c => ∃ n, RgC i j c n ∧ Q (rng i n c) ρ'
  | _ => False
theorem i_rng1 {a : Expr} {p : Pos} (hg : Gl X "range") (hm : X.mg "range" = none) (ha : DXa X B0 [a] fs) (hs : starEach [a] X.env = [(false, eval a X.env)] := by rfl) : DXi X B0 tg (.Call (.Name "range" p) [a] [] pos) (dRng1 fs) where
  run B F0 hB := pi_imp (pi_range1 hg hm (ha.run B F0 hB) hs) fun σ H R ⟨F, ρ, ok, q⟩ => ⟨F, ρ, ok, ha.mono _ _ _ (fun ds ρ' q' vs F' H' ok' s' r => by
    match ds, r, q' with
    | [d], .cons r .nil, q' =>
      obtain ⟨j, rfl, rfl, hb, q'⟩ := asI_rp r q'
      exact ⟨j, rfl, hb.1, hb.2, q' _ F' H' ok' s' wd_range⟩) q⟩
  mono ρ Q Q' hq q := ha.mono _ _ _ (fun ds ρ' q' => by
    match ds, q' with
    | [d], q' => exact asI_mono (fun j h => ⟨h.1, hq _ _ h.2⟩) q') q
theorem i_rng2 {a b : Expr} {p : Pos} (hg : Gl X "range") (hm : X.mg "range" = none) (ha : DXa X B0 [a, b] fs) (hs : starEach [a, b] X.env = [(false, eval a X.env), (false, eval b X.env)] := by rfl) (hs2 : starEach [b] X.env = [(false, eval b X.env)] := by rfl) : DXi X B0 tg (.Call (.Name "range" p) [a, b] [] pos) (dRng2 fs) where
  run B F0 hB := pi_imp (pi_range2 hg hm (ha.run B F0 hB) hs hs2) fun σ H R ⟨F, ρ, ok, q⟩ => ⟨F, ρ, ok, ha.mono _ _ _ (fun ds ρ' q' vs F' H' ok' s' r => by
    match ds, r, q' with
    | [d, d2], .cons r (.cons r2 .nil), q' =>
      obtain ⟨i, rfl, rfl, q'⟩ := asI_rp r q'
      obtain ⟨j, rfl, rfl, hb, q'⟩ := asI_rp r2 q'
      exact ⟨i, j, rfl, hb, q' _ F' H' ok' s' wd_range⟩) q⟩
  mono ρ Q Q' hq q := ha.mono _ _ _ (fun ds ρ' q' => by
    match ds, q' with
    | [d, d2], q' => exact asI_mono (fun i h => asI_mono (fun j h => ⟨h.1, hq _ _ h.2⟩) h) q') q
theorem i_rng3 {a b c : Expr} {p : Pos} (hg : Gl X "range") (hm : X.mg "range" = none) (ha : DXa X B0 [a, b, c] fs) (hs : starEach [a, b, c] X.env = (false, eval a X.env) :: starEach [b, c] X.env := by rfl) (hpl : (backTo pos (starEach [b, c] X.env)).any (·.1) = false := by rfl) : DXi X B0 tg (.Call (.Name "range" p) [a, b, c] [] pos) (dRng3 fs) where
  run B F0 hB := pi_imp (pi_range3 hg hm (ha.run B F0 hB) hs hpl) fun σ H R ⟨F, ρ, ok, q⟩ => ⟨F, ρ, ok, ha.mono _ _ _ (fun ds ρ' q' vs F' H' ok' s' r => by
    match ds, r, q' with
    | [d, d2, d3], .cons r (.cons r2 (.cons r3 .nil)), q' =>
      obtain ⟨i, rfl, rfl, q'⟩ := asI_rp r q'
      obtain ⟨j, rfl, rfl, q'⟩ := asI_rp r2 q'
      obtain ⟨c, rfl, rfl, n, hr, q'⟩ := asI_rp r3 q'
      exact ⟨i, j, c, n, rfl, hr, q' _ F' H' ok' s' wd_rangeC⟩) q⟩
  mono ρ Q Q' hq q := ha.mono _ _ _ (fun ds ρ' q' => by
    match ds, q' with
    | [d, d2, d3], q' => exact asI_mono (fun i h => asI_mono (fun j h => asI_mono (fun c ⟨n, h⟩ => ⟨n, h.1, hq _ _ h.2⟩) h) h) q') q

/-! ### list comprehensions -/
def wipeS (ρ : List Sl) : List Nat → List Sl
  | [] => ρ
  | v :: vs => (wipeS ρ vs).set v .no
def keepV (s : Sl) : Sl := match s with
  | .va d => .va d
  | _ => .no
def unwipe (ρ : List Sl) : List Sl → List Nat → List Sl
  | ρ', [] => ρ'
  | ρ', v :: vs => unwipe ρ (ρ'.set v (keepV (sg ρ v))) vs
theorem StOk.wipe {K : PySem.W.Frag} {B F0 F H : Hp} {ρ : List Sl} {σ : HSt} (h : StOk K B F0 F ρ σ H) : ∀ vs : List Nat, StOk K B F0 F (wipeS ρ vs) (L2.wipe σ vs) H
  | [] => h
  | v :: vs => (h.wipe vs).setNo
theorem wipe_get {σ : HSt} {v : Nat} {vs : List Nat} (h : v ∉ vs) : (L2.wipe σ vs)[v]? = σ[v]? := wipe_out h
theorem StOk.unwipe {K : PySem.W.Frag} {B F0 F1 F H H1 : Hp} {ρ : List Sl} {σ : HSt} (h1 : StOk K B F0 F1 ρ σ H1) (s : Same F1 F) : ∀ (vs : List Nat) (ρ' : List Sl), vs.Nodup → StOk K B F0 F ρ' (L2.wipe σ vs) H → StOk K B F0 F (unwipe ρ ρ' vs) σ H
  | [], ρ', _, h => h
  | v :: vs, ρ', nd, h => by
    have nd' := List.nodup_cons.mp nd
    refine StOk.unwipe h1 s vs _ nd'.2 ?_
    by_cases hv : v < σ.length
    · have hl : v < (L2.wipe σ vs).length := by
        rw [wipe_length]
        exact hv
      have e0 : (L2.wipe σ vs)[v]? = some σ[v] := by
        rw [wipe_get nd'.1]
        exact List.getElem?_eq_getElem hv
      have e : L2.wipe σ vs = (L2.wipe σ (v :: vs)).set v σ[v] := by
        show L2.wipe σ vs = ((L2.wipe σ vs).set v none).set v σ[v]
        rw [List.set_set, set_id e0]
      rw [e]
      refine h.set ?_ ?_
      · unfold keepV
        cases hs : sg ρ v with
        | va d =>
          obtain ⟨x, hx, rx⟩ := h1.val (sg_some hs (fun z => nomatch z))
          rw [List.getElem?_eq_getElem hv] at hx
          exact ⟨x, Option.some.inj hx, rx.mono s⟩
        | no => trivial
        | ow _ => trivial
        | od _ => trivial
        | ot _ => trivial
        | src _ => trivial
        | scr _ => trivial
        | raw _ => trivial
      · unfold keepV
        cases hs : sg ρ v <;> exact fun z => nomatch z
    · have hl : v ≥ (L2.wipe σ vs).length := by
        rw [wipe_length]
        omega
      have e1 : L2.wipe σ (v :: vs) = L2.wipe σ vs := List.set_eq_of_length_le hl
      rw [e1] at h
      have e2 : ρ'.set v (keepV (sg ρ v)) = ρ' := List.set_eq_of_length_le (by
        rw [← h.len]
        exact hl)
      rw [e2]
      exact h
/-- the list at the background's D is written -/
theorem StOk.bgWrite {K : PySem.W.Frag} {B F1 F H : Hp} {ρ : List Sl} {σ : HSt} {Dd : Addr} {xs ys : List V} (h : StOk K (upd B Dd (.lst xs)) F1 F ρ σ H) (f1 : F1 Dd = none) : StOk K (upd B Dd (.lst ys)) F1 F ρ σ (upd H Dd (.lst ys)) := by
  have hD : H Dd = some (.lst xs) := h.bg _ _ upd_same
  have hF : F Dd = none := by
    cases q : F Dd with
    | none => rfl
    | some o =>
      rcases h.nw Dd (by rw [q]; exact fun z => nomatch z) with z | z | ⟨ts, z⟩
      · exact absurd f1 z
      · rw [upd_same] at z
        cases z
      · have e := (h.st _ _ z).symm.trans hD
        cases e
  have ne : ∀ a, (upd B Dd (.lst xs)) a = none → a ≠ Dd := fun a e z => by
    subst z
    rw [upd_same] at e
    cases e
  have bn : ∀ a, (upd B Dd (.lst xs)) a = none → (upd B Dd (.lst ys)) a = none := fun a e => by
    have n := ne a e
    rw [upd_ne n] at e ⊢
    exact e
  exact {
    bg := fun a u e => by
      by_cases ha : a = Dd
      · subst ha
        rw [upd_same] at e ⊢
        exact e
      · rw [upd_ne ha] at e ⊢
        exact h.bg a u (by rw [upd_ne ha]; exact e)
    up := h.up
    st := fun a u e => by
      have ha : a ≠ Dd := fun z => by
        subst z
        rw [hF] at e
        cases e
      rw [upd_ne ha]
      exact h.st a u e
    nw := fun a e => (h.nw a e).elim .inl fun q => .inr (q.elim (fun z => .inl (bn a z)) .inr)
    len := h.len
    sl := fun i s o h1 h2 => by
      have q := h.sl i s o h1 h2
      cases s with
      | no => trivial
      | va d => exact q
      | raw v => exact q
      | scr ns => exact q
      | ow ds =>
        obtain ⟨a, vs, q1, q2, q3, q4, q5⟩ := q
        exact ⟨a, vs, q1, bn a q2, q3, by rw [upd_ne (ne a q2)]; exact q4, q5⟩
      | od ds =>
        obtain ⟨a, vs, q1, q2, q3, q4, q5⟩ := q
        exact ⟨a, vs, q1, bn a q2, q3, by rw [upd_ne (ne a q2)]; exact q4, q5⟩
      | ot ds =>
        obtain ⟨a, vs, q1, q2, q3, q4, q5⟩ := q
        exact ⟨a, vs, q1, bn a q2, q3, by rw [upd_ne (ne a q2)]; exact q4, q5⟩
      | src a =>
        obtain ⟨q1, q2, q3, c, s, w, q4, q5⟩ := q
        exact ⟨q1, bn a q2, q3, c, s, w, by rw [upd_ne (ne a q2)]; exact q4, q5⟩
    ap := h.ap }
/-- a new list behind the background -/
theorem StOk.bgNew {K : PySem.W.Frag} {B F0 F H : Hp} {ρ : List Sl} {σ : HSt} {Dd : Addr} {ys : List V} (h : StOk K B F0 F ρ σ H) (hD : H Dd = none) : StOk K (upd B Dd (.lst ys)) F F ρ σ (upd H Dd (.lst ys)) := by
  have g := h.gw (Gw.junk h.st hD (.lst ys))
  have bn : ∀ a, B a = none → (upd H Dd (.lst ys)) a ≠ none → a ≠ Dd → (upd B Dd (.lst ys)) a = none := fun a e _ z => by
    rw [upd_ne z]
    exact e
  have ow : ∀ a u, H a = some u → a ≠ Dd := fun a u e z => by
    subst z
    rw [hD] at e
    cases e
  exact {
    bg := fun a u e => by
      by_cases ha : a = Dd
      · subst ha
        rw [upd_same] at e ⊢
        exact e
      · rw [upd_ne ha] at e
        exact g.bg a u e
    up := Same.refl _
    st := g.st
    nw := fun a e => .inl e
    len := h.len
    sl := fun i s o h1 h2 => by
      have q := h.sl i s o h1 h2
      cases s with
      | no => trivial
      | va d => exact q
      | raw v => exact q
      | scr ns => exact q
      | ow ds =>
        obtain ⟨a, vs, q1, q2, q3, q4, q5⟩ := q
        have n := ow a _ q4
        exact ⟨a, vs, q1, by rw [upd_ne n]; exact q2, q3, by rw [upd_ne n]; exact q4, q5⟩
      | od ds =>
        obtain ⟨a, vs, q1, q2, q3, q4, q5⟩ := q
        have n := ow a _ q4
        exact ⟨a, vs, q1, by rw [upd_ne n]; exact q2, q3, by rw [upd_ne n]; exact q4, q5⟩
      | ot ds =>
        obtain ⟨a, vs, q1, q2, q3, q4, q5⟩ := q
        have n := ow a _ q4
        exact ⟨a, vs, q1, by rw [upd_ne n]; exact q2, q3, by rw [upd_ne n]; exact q4, q5⟩
      | src a =>
        obtain ⟨q1, q2, q3, c, s, w, q4, q5⟩ := q
        have n := ow a _ q4
        exact ⟨q1, by rw [upd_ne n]; exact q2, q3, c, s, w, by rw [upd_ne n]; exact q4, q5⟩
    ap := h.ap }
/-- .. is done: it is frozen -/
theorem StOk.bgDone {K : PySem.W.Frag} {B F0 F1 F H : Hp} {ρ : List Sl} {σ : HSt} {Dd : Addr} {xs : List V} (h : StOk K (upd B Dd (.lst xs)) F1 F ρ σ H) (f1 : F1 Dd = none) (b0 : B Dd = none) (s1 : Same F0 F1) (n1 : ∀ a, F1 a ≠ none → F0 a ≠ none ∨ B a = none ∨ IsTp (F1 a)) :
    StOk K B F0 (upd F Dd (.lst xs)) ρ σ H ∧ Same F (upd F Dd (.lst xs)) := by
  have hD : H Dd = some (.lst xs) := h.bg _ _ upd_same
  have hF : F Dd = none := by
    cases q : F Dd with
    | none => rfl
    | some o =>
      rcases h.nw Dd (by rw [q]; exact fun z => nomatch z) with z | z | ⟨ts, z⟩
      · exact absurd f1 z
      · rw [upd_same] at z
        cases z
      · have e := (h.st _ _ z).symm.trans hD
        cases e
  have sF : Same F (upd F Dd (.lst xs)) := same_new hF
  have ne : ∀ a, (upd B Dd (.lst xs)) a = none → a ≠ Dd := fun a e z => by
    subst z
    rw [upd_same] at e
    cases e
  have bn : ∀ a, (upd B Dd (.lst xs)) a = none → B a = none := fun a e => by
    rw [upd_ne (ne a e)] at e
    exact e
  refine ⟨{
    bg := fun a u e => h.bg a u (by rw [upd_ne (ne_of_none e b0)]; exact e)
    up := (s1.trans h.up).trans sF
    st := fun a u e => by
      by_cases ha : a = Dd
      · subst ha
        rw [upd_same] at e
        cases e
        exact hD
      · rw [upd_ne ha] at e
        exact h.st a u e
    nw := fun a e => by
      by_cases ha : a = Dd
      · subst ha
        exact .inr (.inl b0)
      · rw [upd_ne ha] at e
        rw [upd_ne ha]
        rcases h.nw a e with z | z | z
        · rcases n1 a z with w | w | ⟨ts, w⟩
          · exact .inl w
          · exact .inr (.inl w)
          · exact .inr (.inr ⟨ts, h.up _ _ w⟩)
        · exact .inr (.inl (bn a z))
        · exact .inr (.inr z)
    len := h.len
    sl := fun i s o h1 h2 => by
      have q := h.sl i s o h1 h2
      cases s with
      | no => trivial
      | va d =>
        obtain ⟨v, q1, q2⟩ := q
        exact ⟨v, q1, q2.mono sF⟩
      | raw v => exact q
      | scr ns =>
        obtain ⟨a, q1, q2⟩ := q
        exact ⟨a, q1, sF.seq q2⟩
      | ow ds =>
        obtain ⟨a, vs, q1, q2, q3, q4, q5⟩ := q
        exact ⟨a, vs, q1, bn a q2, by rw [upd_ne (ne a q2)]; exact q3, q4, q5.mono sF⟩
      | od ds =>
        obtain ⟨a, vs, q1, q2, q3, q4, q5⟩ := q
        exact ⟨a, vs, q1, bn a q2, by rw [upd_ne (ne a q2)]; exact q3, q4, q5.mono sF⟩
      | ot ds =>
        obtain ⟨a, vs, q1, q2, q3, q4, q5⟩ := q
        exact ⟨a, vs, q1, bn a q2, by rw [upd_ne (ne a q2)]; exact q3, q4, q5.mono sF⟩
      | src a =>
        obtain ⟨q1, q2, q3, q4⟩ := q
        exact ⟨q1, bn a q2, by rw [upd_ne (ne a q2)]; exact q3, q4⟩
    ap := h.ap }, sF⟩
/-- the turns: what is made so far, the slots -/
def dLcL (g : DG) (tt : DT) (fe : DE) (vs : List Nat) (Q : List D → List Sl → Prop) : List D → List D → List Sl → Prop
  | [], acc, ρ => Q acc ρ
  | d :: ds, acc, ρ => g d ρ fun ρ1 => tt ρ1 fun b ρ2 => if b = true then fe ρ2 fun y ρ3 => acc.length < sizeLine ∧ dLcL g tt fe vs Q ds (acc ++ [y]) (wipeS ρ3 vs) else dLcL g tt fe vs Q ds acc (wipeS ρ2 vs)
def dLc (it : DI) (g : DG) (tt : DT) (fe : DE) (vs : List Nat) : DE := fun ρ Q => it ρ fun items ρ1 => dLcL g tt fe vs (fun ds ρ' => Q (.list ds) (unwipe ρ1 ρ' vs)) items [] (wipeS ρ1 vs)
/-- a clause's tests -/
structure DXts (X : Cx) (B0 : Hp) (ifs : List Expr) (c : DT) : Prop where
  run : ∀ B F0, Same B0 B → PTs X ifs (lT X.K B F0 c)
  mono : TMono c
def dYes : DT := fun ρ Q => Q true ρ
theorem ts_nil : DXts X B0 [] dYes where
  run B F0 hB := ⟨fun pins s σ H Q I ⟨F, ρ, ok, q⟩ => pts_nil.run pins s σ H Q I (q F H ok (Same.refl _))⟩
  mono ρ Q Q' hq h := hq _ _ h
theorem ts_one {c : Expr} {t : DT} (h : DXt X B0 c t) : DXts X B0 [c] t where
  run B F0 hB := pts_one (h.run B F0 hB)
  mono := h.mono
theorem DXts.ex {ifs : List Expr} {c : DT} (h : DXts X B0 ifs c) : PTs X ifs (lTx X.K B0 c) := ⟨fun pins s σ H E I ⟨B, F0, hB, q⟩ => (h.run B F0 hB).run pins s σ H E I q⟩
theorem dLcL_mono {g : DG} {tt : DT} {vs : List Nat} (mg : ∀ d ρ (Q Q' : List Sl → Prop), (∀ ρ', Q ρ' → Q' ρ') → g d ρ Q → g d ρ Q') (mt : TMono tt) (me : DMono fe) {Q Q' : List D → List Sl → Prop} (hq : ∀ d ρ, Q d ρ → Q' d ρ) : ∀ (ds acc : List D) (ρ : List Sl), dLcL g tt fe vs Q ds acc ρ → dLcL g tt fe vs Q' ds acc ρ
  | [], acc, ρ, h => hq _ _ h
  | d :: ds, acc, ρ, h => mg _ _ _ _ (fun ρ1 h1 => mt _ _ _ (fun b ρ2 h2 => by
    cases b with
    | true => exact me _ _ _ (fun y ρ3 h3 => ⟨h3.1, dLcL_mono mg mt me hq ds _ _ h3.2⟩) h2
    | false => exact dLcL_mono mg mt me hq ds _ _ h2) h1) h
theorem agr_wipe {vs : List Nat} {σ σ2 : HSt} (a : Agr vs (L2.wipe σ vs) σ2) : L2.wipe σ2 vs = L2.wipe σ vs := by
  have hw : ∀ (τ : HSt) (ws : List Nat) (i : Nat), i ∈ ws → i < τ.length → (L2.wipe τ ws)[i]? = some none := fun τ ws i => by
    induction ws with
    | nil => exact fun h => nomatch h
    | cons w ws ih =>
      intro h hl
      show ((L2.wipe τ ws).set w none)[i]? = some none
      by_cases e : w = i
      · subst e
        rw [List.getElem?_set_self (by rw [wipe_length]; exact hl)]
      · rw [List.getElem?_set_ne e]
        rcases List.mem_cons.mp h with z | z
        · exact absurd z.symm e
        · exact ih z hl
  have l2 : σ2.length = σ.length := by rw [a.1, wipe_length]
  apply List.ext_getElem?
  intro i
  by_cases hi : i ∈ vs
  · by_cases hl : i < σ.length
    · rw [hw σ2 vs i hi (by omega), hw σ vs i hi hl]
    · rw [List.getElem?_eq_none (by rw [wipe_length]; omega), List.getElem?_eq_none (by rw [wipe_length]; omega)]
  · rw [wipe_out hi, a.2 i hi]
theorem lE_lc {it : DI} {g : DG} {tt : DT} {vs : List Nat} {B F0 : Hp} (hB : Same B0 B) (nd : vs.Nodup) (mi : AMono it) (mg : ∀ d ρ (Q Q' : List Sl → Prop), (∀ ρ', Q ρ' → Q' ρ') → g d ρ Q → g d ρ Q') (mt : TMono tt) (me : DMono fe) {σ : HSt} {H : Hp} {Q : VK} (h : lE X.K B F0 (dLc it g tt fe vs) σ H Q) :
    tLc (lI X.K B F0 it) (lGx X.K B0 vs g) (lTx X.K B0 tt) (lEx X.K B0 fe) vs σ H Q := by
  obtain ⟨F, ρ, ok, h⟩ := h
  refine ⟨F, ρ, ok, mi _ _ _ (fun items ρ1 q J F1 H1 ok1 s1 w => ?_) h⟩
  intro Dd hD
  have f1 : F1 Dd = none := ok1.st.free hD
  have b0 : B Dd = none := ok1.bg.free hD
  have hBD : ∀ xs, Same B0 (upd B Dd (.lst xs)) := fun xs a u e => by
    rw [upd_ne (ne_of_none (hB _ _ e) b0)]
    exact hB _ _ e
  refine ⟨fun i m H => m = items.length - i ∧ i ≤ items.length ∧ ∃ F ρw accd accv, StOk X.K (upd B Dd (.lst accv)) F1 F ρw (L2.wipe σ vs) H ∧ RpA F accv accd ∧ dLcL g tt fe vs (fun ds ρ' => ∀ v F' H', StOk X.K B F0 F' (unwipe ρ1 ρ' vs) σ H' → Same F1 F' → Rp F' v (.list ds) → Q v H') (items.drop i) accd ρw,
    ⟨_, rfl, Nat.zero_le _, F1, wipeS ρ1 vs, [], [], (ok1.bgNew hD).wipe vs, .nil, ?_⟩, ?_⟩
  · refine dLcL_mono mg mt me (fun ds ρ' h v F' H' ok' s' r => ?_) _ _ _ q
    exact h v F' H' ok' (s1.trans s') r
  · rintro i m H2 ⟨rfl, hi, F2, ρ2, accd, accv, ok2, ra, q2⟩
    by_cases hlt : i < items.length
    · have hd : items[i]? = some items[i] := List.getElem?_eq_getElem hlt
      rw [List.drop_eq_getElem_cons hlt] at q2
      refine .inr ⟨w.goes i H2 hlt (ok2.up.trans ok2.st), fun H => i + 1 ≤ items.length ∧ ∃ F ρw accd accv, StOk X.K (upd B Dd (.lst accv)) F1 F ρw (L2.wipe σ vs) H ∧ RpA F accv accd ∧ dLcL g tt fe vs (fun ds ρ' => ∀ v F' H', StOk X.K B F0 F' (unwipe ρ1 ρ' vs) σ H' → Same F1 F' → Rp F' v (.list ds) → Q v H') (items.drop (i + 1)) accd ρw,
        fun H' ⟨h1, h2⟩ => ⟨items.length - (i + 1), by omega, rfl, h1, h2⟩, fun x H' y => ?_⟩
      obtain ⟨F3, g3, r3⟩ := w.yields i F2 H2 x H' _ hd ok2.up ok2.st y
      refine ⟨upd B Dd (.lst accv), F1, hBD _, F3, ρ2, items[i], ok2.gw g3, r3, mg _ _ _ _ (fun ρ4 q4 σ4 F4 H4 ok4 s4 a4 => ?_) q2⟩
      refine ⟨agr_wipe a4, upd B Dd (.lst accv), F1, hBD _, F4, ρ4, ok4, mt _ _ _ (fun b ρ5 q5 F5 H5 ok5 s5 => ?_) q4⟩
      have ra5 : RpA F5 accv accd := ra.mono ((g3.ff.trans s4).trans s5)
      cases b with
      | true =>
        refine ⟨upd B Dd (.lst accv), F1, hBD _, F5, ρ5, ok5, me _ _ _ (fun y ρ6 q6 v6 F6 H6 ok6 s6 r6 => ?_) q5⟩
        refine ⟨accv, ok6.bg _ _ upd_same, by rw [ra.len]; exact q6.1, hlt, F6, _, accd ++ [y], accv ++ [v6], ?_, (ra5.mono s6).app (.one r6), q6.2⟩
        have z := (ok6.bgWrite (ys := accv ++ [v6]) f1).wipe vs
        rw [agr_wipe a4] at z
        exact z
      | false =>
        have z := ok5.wipe vs
        rw [agr_wipe a4] at z
        exact ⟨hlt, F5, _, accd, accv, z, ra5, q5⟩
    · have e : i = items.length := by omega
      subst e
      rw [List.drop_length] at q2
      obtain ⟨ok3, s3⟩ := ok2.bgDone f1 b0 ok1.up ok1.nw
      exact .inl ⟨w.stops H2 (ok2.up.trans ok2.st), q2 _ _ H2 (StOk.unwipe ok1 (ok2.up.trans s3) vs _ nd ok3) (ok2.up.trans s3) (.lst upd_same (ra.mono s3))⟩
theorem dLc_mono {it : DI} {g : DG} {tt : DT} {vs : List Nat} (mi : AMono it) (mg : ∀ d ρ (Q Q' : List Sl → Prop), (∀ ρ', Q ρ' → Q' ρ') → g d ρ Q → g d ρ Q') (mt : TMono tt) (me : DMono fe) : DMono (dLc it g tt fe vs) := fun ρ Q Q' hq h => mi _ _ _ (fun items ρ' q => dLcL_mono mg mt me (fun ds ρ2 => hq _ _) _ _ _ q) h
theorem x_lc {ifs : List Expr} {scope : Scope} {own : List (Str × Nat)} {it : DI} {g : DG} {tt : DT} (hc : X.calm = true) (hN : X.N.Nodup) (hi : DXi X B0 tg iter it) (ok : BlkOk X.N X.env.scope scope own)
    (hg : ∀ (s : Shared) (H : Hp) (C : Addr) (cl : List (Str × Addr)) (fp : List Addr), DXg (X.blk s H scope (compEnvC scope cl C X.env) fp) B0 tg (own.map (·.2)) g)
    (ht : ∀ (s : Shared) (H : Hp) (C : Addr) (cl : List (Str × Addr)) (fp : List Addr), DXts (X.blk s H scope (compEnvC scope cl C X.env) fp) B0 ifs tt)
    (he : ∀ (s : Shared) (H : Hp) (C : Addr) (cl : List (Str × Addr)) (fp : List Addr), DX (X.blk s H scope (compEnvC scope cl C X.env) fp) B0 elt fe)
    (nd : (own.map (·.2)).Nodup := by decide) (hs : ∀ x, foldedSetIterable iter X.env x = pure x := by intro _; rfl) : DX X B0 (.ListComp elt [⟨tg, iter, ifs, 0⟩] scope pos) (dLc it g tt fe (own.map (·.2))) where
  run B F0 hB := pe_imp (pe_lc hc hN (hi.run B F0 hB) ok (fun s H C cl fp => (hg s H C cl fp).ex) (fun s H C cl fp => (ht s H C cl fp).ex) (fun s H C cl fp => (he s H C cl fp).ex) hs) fun σ H Q h =>
    lE_lc (X := X) hB nd hi.mono (hg ({} : Shared) H 0 [] []).mono (ht ({} : Shared) H 0 [] []).mono (he ({} : Shared) H 0 [] []).mono h
  mono := dLc_mono hi.mono (hg ({} : Shared) B0 0 [] []).mono (ht ({} : Shared) B0 0 [] []).mono (he ({} : Shared) B0 0 [] []).mono
end
end DL

namespace DL
open PySem PySem.Spec PyProof.Rows L2

/-! ### lists of one's own -/
structure OwnL (B F : Hp) (ρ : List Sl) (σ : HSt) (H : Hp) (p : Addr) (o : HO) : Prop where
  hp : H p = some o
  hb : B p = none
  hf : F p = none
  ha : ∀ (i : Nat) (s : Sl), ρ[i]? = some s → s.own = true → σ[i]? = some (some (.ref p)) → False
abbrev DO := List Sl → (List D → List Sl → Prop) → Prop
def lO (K : PySem.W.Frag) (B F0 : Hp) (f : DO) : TE := fun σ H Q => ∃ F ρ, StOk K B F0 F ρ σ H ∧ f ρ fun ds ρ' => ∀ p vs F' H', StOk K B F0 F' ρ' σ H' → Same F F' → OwnL B F' ρ' σ H' p (.lst vs) → RpA F' vs ds → Q (.ref p) H'
structure DXo (X : Cx) (B0 : Hp) (e : Expr) (f : DO) : Prop where
  run : ∀ B F0, Same B0 B → PE X e (lO X.K B F0 f)
  mono : AMono f
section
variable {K : PySem.W.Frag} {B F0 F H : Hp} {ρ : List Sl} {σ : HSt} {p : Addr} {o : HO}
theorem StOk.newOwn (h : StOk K B F0 F ρ σ H) (hp : H p = none) (o : HO) : StOk K B F0 F ρ σ (upd H p o) ∧ OwnL B F ρ σ (upd H p o) p o :=
  ⟨h.gw (Gw.junk h.st hp o), upd_same, h.bg.free hp, h.st.free hp, fun i s h1 h2 h3 => ((h.sl i s _ h1 h3).ownAt h2).2.2 hp⟩
theorem StOk.takeOwn (h : StOk K B F0 F ρ σ H) {i : Nat} {vs : List V} {ds : List D} (w : OwnL B F ρ σ H p (.lst vs)) (r : RpA F vs ds) : StOk K B F0 F (ρ.set i (.ow ds)) (σ.set i (some (.ref p))) H :=
  h.set ⟨p, vs, rfl, w.hb, w.hf, w.hp, r⟩ fun _ j t a _ h1 h2 h3 h4 => by
    cases h3
    exact w.ha j t h1 h2 h4
theorem StOk.takeOd (h : StOk K B F0 F ρ σ H) {i : Nat} {vs : List (Key × V)} {ds : List (D × D)} (w : OwnL B F ρ σ H p (.dK vs)) (r : RpK F vs ds) : StOk K B F0 F (ρ.set i (.od ds)) (σ.set i (some (.ref p))) H :=
  h.set ⟨p, vs, rfl, w.hb, w.hf, w.hp, r⟩ fun _ j t a _ h1 h2 h3 h4 => by
    cases h3
    exact w.ha j t h1 h2 h4
/-- an own object among the background -/
theorem StOk.toBg (h : StOk K B F0 F ρ σ H) (w : OwnL B F ρ σ H p o) : StOk K (upd B p o) F F ρ σ H := by
  have ne : ∀ (i : Nat) (s : Sl) (a : Addr), ρ[i]? = some s → s.own = true → σ[i]? = some (some (.ref a)) → a ≠ p := fun i s a h1 h2 h3 e => by
    subst e
    exact w.ha i s h1 h2 h3
  exact {
    bg := fun a u e => by
      by_cases ha : a = p
      · subst ha
        rw [upd_same] at e
        cases e
        exact w.hp
      · rw [upd_ne ha] at e
        exact h.bg a u e
    up := Same.refl _
    st := h.st
    nw := fun a e => .inl e
    len := h.len
    sl := fun i s x h1 h2 => by
      have q := h.sl i s x h1 h2
      cases s with
      | no => trivial
      | va d => exact q
      | raw v => exact q
      | scr ns => exact q
      | ow ds =>
        obtain ⟨a, vs, q1, q2, q3, q4, q5⟩ := q
        subst q1
        exact ⟨a, vs, rfl, by rw [upd_ne (ne i _ a h1 rfl h2)]; exact q2, q3, q4, q5⟩
      | od ds =>
        obtain ⟨a, vs, q1, q2, q3, q4, q5⟩ := q
        subst q1
        exact ⟨a, vs, rfl, by rw [upd_ne (ne i _ a h1 rfl h2)]; exact q2, q3, q4, q5⟩
      | ot ds =>
        obtain ⟨a, vs, q1, q2, q3, q4, q5⟩ := q
        subst q1
        exact ⟨a, vs, rfl, by rw [upd_ne (ne i _ a h1 rfl h2)]; exact q2, q3, q4, q5⟩
      | src a =>
        obtain ⟨q1, q2, q3, q4⟩ := q
        subst q1
        exact ⟨rfl, by rw [upd_ne (ne i _ a h1 rfl h2)]; exact q2, q3, q4⟩
    ap := h.ap }
/-- .. and back -/
theorem StOk.ofBg {F1 F' H' : Hp} {ρ' : List Sl} {σ' : HSt} (h : StOk K (upd B p o) F1 F' ρ' σ' H') (f1 : F1 p = none) (b0 : B p = none) (nt : ∀ xs, o ≠ .tup xs) (s1 : Same F0 F1) (n1 : ∀ a, F1 a ≠ none → F0 a ≠ none ∨ B a = none ∨ IsTp (F1 a)) : StOk K B F0 F' ρ' σ' H' ∧ OwnL B F' ρ' σ' H' p o := by
  have hD : H' p = some o := h.bg _ _ upd_same
  have hF : F' p = none := by
    cases q : F' p with
    | none => rfl
    | some u =>
      rcases h.nw p (by rw [q]; exact fun z => nomatch z) with z | z | ⟨ts, z⟩
      · exact absurd f1 z
      · rw [upd_same] at z
        cases z
      · have e := (h.st _ _ z).symm.trans hD
        cases e
        exact absurd rfl (nt ts)
  have ne : ∀ a, (upd B p o) a = none → a ≠ p := fun a e z => by
    subst z
    rw [upd_same] at e
    cases e
  have bn : ∀ a, (upd B p o) a = none → B a = none := fun a e => by
    rw [upd_ne (ne a e)] at e
    exact e
  refine ⟨{
    bg := fun a u e => h.bg a u (by rw [upd_ne (ne_of_none e b0)]; exact e)
    up := s1.trans h.up
    st := h.st
    nw := fun a e => by
      rcases h.nw a e with z | z | z
      · rcases n1 a z with w | w | ⟨ts, w⟩
        · exact .inl w
        · exact .inr (.inl w)
        · exact .inr (.inr ⟨ts, h.up _ _ w⟩)
      · exact .inr (.inl (bn a z))
      · exact .inr (.inr z)
    len := h.len
    sl := fun i s x h1 h2 => by
      have q := h.sl i s x h1 h2
      cases s with
      | no => trivial
      | va d => exact q
      | raw v => exact q
      | scr ns => exact q
      | ow ds =>
        obtain ⟨a, vs, q1, q2, q3, q4, q5⟩ := q
        exact ⟨a, vs, q1, bn a q2, q3, q4, q5⟩
      | od ds =>
        obtain ⟨a, vs, q1, q2, q3, q4, q5⟩ := q
        exact ⟨a, vs, q1, bn a q2, q3, q4, q5⟩
      | ot ds =>
        obtain ⟨a, vs, q1, q2, q3, q4, q5⟩ := q
        exact ⟨a, vs, q1, bn a q2, q3, q4, q5⟩
      | src a =>
        obtain ⟨q1, q2, q3, q4⟩ := q
        exact ⟨q1, bn a q2, q3, q4⟩
    ap := h.ap }, hD, b0, hF, fun i s h1 h2 h3 => ?_⟩
  obtain ⟨q1, _, _⟩ := (h.sl i s _ h1 h3).ownAt h2
  rw [upd_same] at q1
  cases q1
end
section
variable {X : Cx} {B0 : Hp} {a b c e : Expr} {fa fb : DE} {fo go : DO} {fs : DA} {pos : Pos}
theorem o_lst {es : List Expr} (h : DXa X B0 es fs) : DXo X B0 (.List es pos) (fun ρ Q => fs ρ fun ds ρ' => ds.length ≤ sizeLine ∧ Q ds ρ') where
  run B F0 hB := pe_imp (pe_lst (h.run B F0 hB)) fun σ H Q ⟨F, ρ, ok, q⟩ => ⟨F, ρ, ok, h.mono _ _ _ (fun ds ρ1 h1 vs F1 H1 ok1 s1 rs => ⟨by rw [rs.len]; exact h1.1, fun p hp =>
    h1.2 p vs F1 _ (ok1.newOwn hp _).1 s1 (ok1.newOwn hp _).2 rs⟩) q⟩
  mono ρ Q Q' hq q := h.mono _ _ _ (fun ds ρ1 h1 => ⟨h1.1, hq _ _ h1.2⟩) q
/-- [..] * n: a new list -/
theorem o_rep (ha : DX X B0 a fa) (hb : DX X B0 b fb) : DXo X B0 (.BinOp a .Mult b pos) (fun ρ Q => fa ρ fun d ρ1 => fb ρ1 fun n ρ2 => ∃ ds k, d = .list ds ∧ n = .int k ∧ (-(2 ^ 63) ≤ k ∧ k < 2 ^ 63 ∧ ds.length * k.toNat ≤ sizeLine) ∧ Q (List.replicate k.toNat ds).flatten ρ2) where
  run B F0 hB := pe_imp (pe_op op_rep (ha.run B F0 hB) (hb.run B F0 hB)) fun σ H Q ⟨F, ρ, ok, q⟩ => ⟨F, ρ, ok, ha.mono _ _ _ (fun d ρ1 h1 x F1 H1 ok1 s1 r1 => ⟨F1, ρ1, ok1, hb.mono _ _ _ (fun n ρ2 h2 y F2 H2 ok2 s2 r2 => by
    obtain ⟨ds, k, rfl, rfl, ⟨k1, k2, k3⟩, h3⟩ := h2
    cases r2
    cases r1 with
    | lst hp rp => exact ⟨_, k, _, rfl, rfl, ok2.st _ _ (s2 _ _ hp), k1, k2, by rw [rp.len]; exact k3, fun p hn => h3 p _ F2 _ (ok2.newOwn hn _).1 (s1.trans s2) (ok2.newOwn hn _).2 ((rp.mono s2).rep _)⟩) h1⟩) q⟩
  mono ρ Q Q' hq q := ha.mono _ _ _ (fun d ρ1 h1 => hb.mono _ _ _ (fun n ρ2 ⟨ds, k, e1, e2, h3, h4⟩ => ⟨ds, k, e1, e2, h3, hq _ _ h4⟩) h1) q
def dOwn (i : Nat) (f : DO) : DS := fun DD ρ => f ρ fun ds ρ' => DD.nx (ρ'.set i (.ow ds))
theorem s_own {i : Nat} {x : Str} {pos' : Pos} (hN : X.N.Nodup) (hi : X.N[i]? = some x) (hx : Loc X.env.scope x) (he : DXo X B0 e fo) (hs : swapsWith e (some (.Name x pos')) pos.line X.env = pure false := by rfl) (hf : X.fn x = true ∨ X.env.scope.names.lookup x = some .local := by first | exact .inl rfl | exact .inr rfl | assumption) :
    DXs X B0 (.Assign [.Name x pos'] e pos) (dOwn i fo) where
  run B F0 hB := ps_imp (ps_set hN hi hx (he.run B F0 hB) hs hf) fun E σ H ⟨F, ρ, DD, ok, en, q⟩ => ⟨F, ρ, ok, he.mono _ _ _ (fun ds ρ' q' p vs F' H' ok' _ w r => en.nx _ _ _ _ (ok'.takeOwn w r) q') q⟩
  mono a b ρ l q := he.mono _ _ _ (fun d ρ' q' => l.nx _ q') q
/-- a, b = e, [..] -/
def dParEO (i j : Nat) (f : DE) (g : DO) : DS := fun DD ρ => f ρ fun d ρ1 => g ρ1 fun ds ρ2 => DD.nx ((ρ2.set i (.va d)).set j (.ow ds))
theorem own_set {B F H : Hp} {ρ : List Sl} {σ : HSt} {p : Addr} {o : HO} {i : Nat} {s : Sl} {x : Option V} (w : OwnL B F ρ σ H p o) (hx : s.own = true → x ≠ some (.ref p)) : OwnL B F (ρ.set i s) (σ.set i x) H p o :=
  ⟨w.hp, w.hb, w.hf, fun j t h1 h2 h3 => by
    by_cases e : i = j
    · subst e
      rw [List.getElem?_set_self'] at h1 h3
      cases e1 : ρ[i]? with
      | none => rw [e1] at h1; cases h1
      | some y =>
        cases e2 : σ[i]? with
        | none => rw [e2] at h3; cases h3
        | some z =>
          rw [e1] at h1
          rw [e2] at h3
          cases h1
          exact hx h2 (Option.some.inj h3)
    · rw [List.getElem?_set_ne e] at h1 h3
      exact w.ha j t h1 h2 h3⟩
theorem s_parEO {i j : Nat} {x y : Str} {px py pt : Pos} {kt k2 pt2} (hc : X.calm = true) (hN : X.N.Nodup) (hi : X.N[i]? = some x) (hj : X.N[j]? = some y) (hij : i ≠ j)
    (hx : X.env.scope.names.lookup x = some .local) (hy : X.env.scope.names.lookup y = some .local) (ha : DX X B0 a fa) (hb : DXo X B0 b fo) (hsa : starEach [a, b] X.env = (false, eval a X.env) :: starEach [b] X.env := by rfl) (hsb : starEach [b] X.env = (false, eval b X.env) :: starEach [] X.env := by rfl) (hw : swappedStores [.Tuple [.Name x px, .Name y py] kt pt] (.Tuple [a, b] k2 pt2) X.env = pure (some [x, y]) := by rfl)
    (hs : swapsWithSole [.Tuple [.Name x px, .Name y py] kt pt] (.Tuple [a, b] k2 pt2) pos.line X.env = pure false := by rfl) : DXs X B0 (.Assign [.Tuple [.Name x px, .Name y py] kt pt] (.Tuple [a, b] k2 pt2) pos) (dParEO i j fa fo) where
  run B F0 hB := ps_imp (ps_par hc hN hi hj hij hx hy (pa_cons (ha.run B F0 hB) (pa_cons (hb.run B F0 hB) pa_nil hsb) hsa) hw hs) fun E σ H ⟨F, ρ, DD, ok, en, q⟩ => ⟨F, ρ, ok, ha.mono _ _ _ (fun d ρ1 q1 v F1 H1 ok1 s1 r1 => ⟨F1, ρ1, ok1, hb.mono _ _ _ (fun ds ρ2 q2 p vs F2 H2 ok2 s2 w r2 => 
    ⟨_, _, rfl, en.nx _ _ _ _ ((ok2.setVa (r1.mono s2)).takeOwn (own_set w (fun z => nomatch z)) r2) q2⟩) q1⟩) q⟩
  mono a b ρ l q := ha.mono _ _ _ (fun d ρ' q' => hb.mono _ _ _ (fun ds ρ2 q2 => l.nx _ q2) q') q
/-- a, b = [..], e -/
def dParOE (i j : Nat) (g : DO) (f : DE) : DS := fun DD ρ => g ρ fun ds ρ1 => f ρ1 fun d ρ2 => DD.nx ((ρ2.set i (.ow ds)).set j (.va d))
theorem same_bg {B p o} {B0 B1 : Hp} (hB : Same B0 B) (b0 : B p = none) : Same B0 (upd B p o) := fun a u e => by
  rw [upd_ne (ne_of_none (hB _ _ e) b0)]
  exact hB _ _ e
theorem s_parOE {i j : Nat} {x y : Str} {px py pt : Pos} {kt k2 pt2} (hc : X.calm = true) (hN : X.N.Nodup) (hi : X.N[i]? = some x) (hj : X.N[j]? = some y) (hij : i ≠ j)
    (hx : X.env.scope.names.lookup x = some .local) (hy : X.env.scope.names.lookup y = some .local) (ha : DXo X B0 a fo) (hb : DX X B0 b fb) (hsa : starEach [a, b] X.env = (false, eval a X.env) :: starEach [b] X.env := by rfl) (hsb : starEach [b] X.env = (false, eval b X.env) :: starEach [] X.env := by rfl) (hw : swappedStores [.Tuple [.Name x px, .Name y py] kt pt] (.Tuple [a, b] k2 pt2) X.env = pure (some [x, y]) := by rfl)
    (hs : swapsWithSole [.Tuple [.Name x px, .Name y py] kt pt] (.Tuple [a, b] k2 pt2) pos.line X.env = pure false := by rfl) : DXs X B0 (.Assign [.Tuple [.Name x px, .Name y py] kt pt] (.Tuple [a, b] k2 pt2) pos) (dParOE i j fo fb) where
  run B F0 hB := ps_imp (ps_par hc hN hi hj hij hx hy (pa_cons (ha.run B F0 hB) (pa_cons hb.ex pa_nil hsb) hsa) hw hs) fun E σ H ⟨F, ρ, DD, ok, en, q⟩ => ⟨F, ρ, ok, ha.mono _ _ _ (fun ds ρ1 q1 p vs F1 H1 ok1 s1 w r1 => 
    ⟨upd B p (.lst vs), F1, same_bg (B1 := B) hB w.hb, F1, ρ1, ok1.toBg w, hb.mono _ _ _ (fun d ρ2 q2 v F2 H2 ok2 s2 r2 => by
      obtain ⟨ok3, w3⟩ := ok2.ofBg w.hf w.hb (fun _ z => nomatch z) ok1.up ok1.nw
      exact ⟨_, _, rfl, en.nx _ _ _ _ ((ok3.takeOwn w3 (r1.mono s2)).setVa r2) q2⟩) q1⟩) q⟩
  mono a b ρ l q := ha.mono _ _ _ (fun d ρ' q' => hb.mono _ _ _ (fun ds ρ2 q2 => l.nx _ q2) q') q
/-- a, b = [..], [..] -/
def dParOO (i j : Nat) (g g' : DO) : DS := fun DD ρ => g ρ fun ds ρ1 => g' ρ1 fun es ρ2 => DD.nx ((ρ2.set i (.ow ds)).set j (.ow es))
theorem DXo.ex (h : DXo X B0 e fo) : PE X e (fun σ H Q => ∃ B F0, Same B0 B ∧ lO X.K B F0 fo σ H Q) := ⟨fun pins s σ H E I ⟨B, F0, hB, q⟩ => (h.run B F0 hB).run pins s σ H E I q⟩
theorem s_parOO {i j : Nat} {x y : Str} {px py pt : Pos} {kt k2 pt2} (hc : X.calm = true) (hN : X.N.Nodup) (hi : X.N[i]? = some x) (hj : X.N[j]? = some y) (hij : i ≠ j)
    (hx : X.env.scope.names.lookup x = some .local) (hy : X.env.scope.names.lookup y = some .local) (ha : DXo X B0 a fo) (hb : DXo X B0 b go) (hsa : starEach [a, b] X.env = (false, eval a X.env) :: starEach [b] X.env := by rfl) (hsb : starEach [b] X.env = (false, eval b X.env) :: starEach [] X.env := by rfl) (hw : swappedStores [.Tuple [.Name x px, .Name y py] kt pt] (.Tuple [a, b] k2 pt2) X.env = pure (some [x, y]) := by rfl)
    (hs : swapsWithSole [.Tuple [.Name x px, .Name y py] kt pt] (.Tuple [a, b] k2 pt2) pos.line X.env = pure false := by rfl) : DXs X B0 (.Assign [.Tuple [.Name x px, .Name y py] kt pt] (.Tuple [a, b] k2 pt2) pos) (dParOO i j fo go) where
  run B F0 hB := ps_imp (ps_par hc hN hi hj hij hx hy (pa_cons (ha.run B F0 hB) (pa_cons hb.ex pa_nil hsb) hsa) hw hs) fun E σ H ⟨F, ρ, DD, ok, en, q⟩ => ⟨F, ρ, ok, ha.mono _ _ _ (fun ds ρ1 q1 p vs F1 H1 ok1 s1 w r1 => 
    ⟨upd B p (.lst vs), F1, same_bg (B1 := B) hB w.hb, F1, ρ1, ok1.toBg w, hb.mono _ _ _ (fun es ρ2 q2 p2 vs2 F2 H2 ok2 s2 w2 r2 => by
      obtain ⟨ok3, w3⟩ := ok2.ofBg w.hf w.hb (fun _ z => nomatch z) ok1.up ok1.nw
      have ne : p2 ≠ p := fun z => by
        have q := w2.hb
        rw [z, upd_same] at q
        cases q
      have w2' : OwnL B F2 ρ2 σ H2 p2 (.lst vs2) := ⟨w2.hp, by have q := w2.hb; rw [upd_ne ne] at q; exact q, w2.hf, w2.ha⟩
      exact ⟨_, _, rfl, en.nx _ _ _ _ ((ok3.takeOwn w3 (r1.mono s2)).takeOwn (own_set w2' (fun _ z => by cases z; exact ne rfl)) r2) q2⟩) q1⟩) q⟩
  mono a b ρ l q := ha.mono _ _ _ (fun d ρ' q' => hb.mono _ _ _ (fun ds ρ2 q2 => l.nx _ q2) q') q

/-! ### what is read of one's own list, dict -/
theorem StOk.ownL {K : PySem.W.Frag} {B F0 F H : Hp} {ρ : List Sl} {σ : HSt} (h : StOk K B F0 F ρ σ H) {i : Nat} {ds : List D} (hi : sg ρ i = .ow ds) : ∃ p vs, σ[i]? = some (some (.ref p)) ∧ H p = some (.lst vs) ∧ RpA F vs ds ∧ B p = none ∧ F p = none := by
  have hi' := sg_some hi (fun z => nomatch z)
  have hl : i < σ.length := by
    rw [h.len]
    exact (List.getElem?_eq_some_iff.mp hi').1
  obtain ⟨p, vs, q1, q2, q3, q4, q5⟩ := h.sl i _ _ hi' (List.getElem?_eq_getElem hl)
  exact ⟨p, vs, by rw [List.getElem?_eq_getElem hl, q1], q4, q5, q2, q3⟩
theorem StOk.ownD {K : PySem.W.Frag} {B F0 F H : Hp} {ρ : List Sl} {σ : HSt} (h : StOk K B F0 F ρ σ H) {i : Nat} {ds : List (D × D)} (hi : sg ρ i = .od ds) : ∃ p vs, σ[i]? = some (some (.ref p)) ∧ H p = some (.dK vs) ∧ RpK F vs ds ∧ B p = none ∧ F p = none := by
  have hi' := sg_some hi (fun z => nomatch z)
  have hl : i < σ.length := by
    rw [h.len]
    exact (List.getElem?_eq_some_iff.mp hi').1
  obtain ⟨p, vs, q1, q2, q3, q4, q5⟩ := h.sl i _ _ hi' (List.getElem?_eq_getElem hl)
  exact ⟨p, vs, by rw [List.getElem?_eq_getElem hl, q1], q4, q5, q2, q3⟩
/-- len(x) -/
def dLenV (i : Nat) : DE := fun ρ Q => match sg ρ i with
  | .ow ds => Q (.int ds.length) ρ
  | _ => False
theorem x_lenV {i : Nat} {p : Pos} (hg : Gl X "len") (hm : X.mg "len" = none) (hv : PE X a (tVar i)) (hs : starEach [a] X.env = (false, eval a X.env) :: starEach [] X.env := by rfl) : DX X B0 (.Call (.Name "len" p) [a] [] pos) (dLenV i) where
  run B F0 hB := pe_imp (pe_callB call_len_seq hg hm PySem.boot_len (pa_cons hv pa_nil hs) (by decide) (by decide) hs) fun σ H Q ⟨F, ρ, ok, q⟩ => by
    unfold dLenV at q
    split at q
    · rename_i ds hi
      obtain ⟨p, vs, h1, h2, h3, _⟩ := ok.ownL hi
      exact ⟨_, h1, p, vs, rfl, .inl (.of h2), q _ F H ok (Same.refl _) (by rw [h3.len]; exact .int _)⟩
    · exact q.elim
  mono ρ Q Q' hq q := by
    unfold dLenV at q ⊢
    split at q
    · exact hq _ _ q
    · exact q
/-- x[e] -/
def dIdxV (i : Nat) (f : DE) : DE := fun ρ Q => match sg ρ i with
  | .ow _ => f ρ fun d ρ' => asI d fun k => match sg ρ' i with
    | .ow ds => ∃ v, atI ds k = some v ∧ Q v ρ'
    | _ => False
  | _ => False
theorem atI_rp {F : Hp} {vs : List V} {ds : List D} {k : Int} {d : D} (r : RpA F vs ds) (h : atI ds k = some d) : ∃ v, atI vs k = some v ∧ Rp F v d := by
  unfold atI at h ⊢
  rw [r.len]
  cases e : ixN ds.length k with
  | none => rw [e] at h; cases h
  | some j =>
    rw [e] at h
    exact r.get h
theorem x_idxV {i : Nat} (hv : PE X a (tVar i)) (hb : DX X B0 b fb) (hs : PlainIx b) : DX X B0 (.Subscript a b pos) (dIdxV i fb) where
  run B F0 hB := pe_imp (pe_ix ix_list hv (hb.run B F0 hB) hs) fun σ H Q ⟨F, ρ, ok, q⟩ => by
    unfold dIdxV at q
    split at q
    · rename_i ds0 hi0
      obtain ⟨p0, vs0, h10, _⟩ := ok.ownL hi0
      refine ⟨_, h10, F, ρ, ok, hb.mono _ _ _ (fun d ρ' q' v F' H' ok' s' r => ?_) q⟩
      obtain ⟨k, rfl, rfl, q'⟩ := asI_rp r q'
      split at q'
      · rename_i ds hi
        obtain ⟨p, vs, h1, h2, h3, _⟩ := ok'.ownL hi
        obtain ⟨x, hx, q'⟩ := q'
        rw [h10] at h1
        cases h1
        obtain ⟨y, hy, ry⟩ := atI_rp h3 hx
        exact ⟨p0, vs, k, y, rfl, rfl, .of h2, hy, q' _ F' H' ok' s' ry⟩
      · exact q'.elim
    · exact q.elim
  mono ρ Q Q' hq q := by
    unfold dIdxV at q ⊢
    split at q
    · refine hb.mono _ _ _ (fun d ρ' q' => asI_mono (fun k h => ?_) q') q
      split at h
      · exact ⟨h.choose, h.choose_spec.1, hq _ _ h.choose_spec.2⟩
      · exact h
    · exact q

/-! ### what is written -/
/-- x.append(e) -/
def dApp (i : Nat) (f : DE) : DS := fun DD ρ => match sg ρ i with
  | .ow _ => f ρ fun d ρ' => match sg ρ' i with
    | .ow ds => ds.length < sizeLine ∧ DD.nx (ρ'.set i (.ow (ds ++ [d])))
    | _ => False
  | _ => False
theorem StOk.writeL {K : PySem.W.Frag} {B F0 F H : Hp} {ρ : List Sl} {σ : HSt} (h : StOk K B F0 F ρ σ H) {i : Nat} {ds es : List D} {p : Addr} {ws : List V} (hi : sg ρ i = .ow ds) (hσ : σ[i]? = some (some (.ref p))) (r : RpA F ws es) : StOk K B F0 F (ρ.set i (.ow es)) σ (upd H p (.lst ws)) := by
  obtain ⟨p', vs, h1, h2, h3, h4, h5⟩ := h.ownL hi
  rw [hσ] at h1
  cases h1
  exact h.write (sg_some hi (fun z => nomatch z)) rfl hσ ⟨p, ws, rfl, h4, h5, upd_same, r⟩
theorem s_app {i : Nat} {apos cpos spos : Pos} (hv : PE X a (tVar i)) (he : DX X B0 e fa) (hs : starEach [e] X.env = (false, eval e X.env) :: starEach [] X.env := by rfl) (hbase : attributeBase a "append" X.env (eval a X.env) = eval a X.env := by rfl)
    (hfew : ((backTo cpos (starEach [e] X.env)).all (fun x => !x.1) && (backToKw cpos (keywordEach [] X.env)).all (fun x => x.1.isSome) && decide ([e].length + ([] : List Keyword).length + (if ([] : List Keyword).isEmpty then 0 else 1) < 30)) = true := by rfl)
    (hline : (apos.endLine == cpos.line) = true := by rfl) (hpl : (backTo cpos (starEach [] X.env)).any (·.1) = false := by rfl) (hsw : swapsWith (.Call (.Attribute a "append" apos) [e] [] cpos) none spos.line X.env = pure false := by rfl) : DXs X B0 (.Expr (.Call (.Attribute a "append" apos) [e] [] cpos) spos) (dApp i fa) where
  run B F0 hB := ps_imp (ps_expr (pe_bm PySem.F.plainAttrs_list PySem.F.slot_list_append PySem.F.type_list_append mt_append hv (pa_cons (he.run B F0 hB) pa_nil hs) hbase hfew hline hs hpl) hsw) fun E σ H ⟨F, ρ, DD, ok, en, q⟩ => by
    unfold dApp at q
    split at q
    · rename_i ds0 hi0
      obtain ⟨p0, vs0, h10, h20, _⟩ := ok.ownL hi0
      refine ⟨_, h10, .inl ⟨rfl, _, .of h20⟩, F, ρ, ok, he.mono _ _ _ (fun d ρ' q' v F' H' ok' s' r => ?_) q⟩
      split at q'
      · rename_i ds hi
        obtain ⟨p, vs, h1, h2, h3, _⟩ := ok'.ownL hi
        rw [h10] at h1
        cases h1
        exact ⟨p0, vs, v, rfl, rfl, h2, by rw [h3.len]; exact q'.1, en.nx _ _ _ _ (ok'.writeL hi h10 (h3.app (.one r))) q'.2⟩
      · exact q'.elim
    · exact q.elim
  mono a b ρ l q := by
    unfold dApp at q ⊢
    split at q
    · refine he.mono _ _ _ (fun d ρ' q' => ?_) q
      split at q'
      · exact ⟨q'.1, l.nx _ q'.2⟩
      · exact q'
    · exact q
/-- x[k] = e -/
def dSetI (i : Nat) (fk f : DE) : DS := fun DD ρ => f ρ fun d ρ1 => match sg ρ1 i with
  | .ow _ => fk ρ1 fun k ρ2 => asI k fun k => match sg ρ2 i with
    | .ow ds => ∃ j, ixN ds.length k = some j ∧ DD.nx (ρ2.set i (.ow (ds.set j d)))
    | _ => False
  | _ => False
theorem s_setI {i : Nat} {tpos : Pos} (hv : PE X a (tVar i)) (hk : DX X B0 b fb) (he : DX X B0 e fa) (hs : swapsWithSole [.Subscript a b tpos] e pos.line X.env = pure false := by rfl) (hw : swappedStores [.Subscript a b tpos] e X.env = pure none := by rfl) (h1 : (assignEach [.Subscript a b tpos] X.env).map (·.2) = [assign (.Subscript a b tpos) X.env] := by rfl)
    (hq : ∀ v, assign (.Subscript a b tpos) X.env v = (do let ov ← holding [v] (eval a X.env); let iv ← holding [v, ov] (eval b X.env); standAt tpos; holding [v, ov, iv] (setItem ov iv v); release [v, ov, iv] []) := by intro _; rfl) : DXs X B0 (.Assign [.Subscript a b tpos] e pos) (dSetI i fb fa) where
  run B F0 hB := ps_imp (ps_asg (he.run B F0 hB) (pg_sub hv (hk.run B F0 hB) set_list hq) hs hw h1) fun E σ H ⟨F, ρ, DD, ok, en, q⟩ => ⟨F, ρ, ok, he.mono _ _ _ (fun d ρ1 q1 v F1 H1 ok1 s1 r1 => by
    split at q1
    · rename_i ds0 hi0
      obtain ⟨p0, vs0, h10, h20, _⟩ := ok1.ownL hi0
      refine ⟨_, h10, F1, ρ1, ok1, hk.mono _ _ _ (fun kd ρ2 q2 kv F2 H2 ok2 s2 r2 => ?_) q1⟩
      obtain ⟨k, rfl, rfl, q2⟩ := asI_rp r2 q2
      split at q2
      · rename_i ds hi
        obtain ⟨p, vs, h1, h2, h3, _⟩ := ok2.ownL hi
        obtain ⟨j, hj, q2⟩ := q2
        rw [h10] at h1
        cases h1
        exact ⟨p0, vs, k, j, rfl, rfl, h2, by rw [h3.len]; exact hj, en.nx _ _ _ _ (ok2.writeL hi h10 (h3.set (r1.mono s2) j)) q2⟩
      · exact q2.elim
    · exact q1.elim) q⟩
  mono a b ρ l q := he.mono _ _ _ (fun d ρ1 q1 => by
    split at q1
    · refine hk.mono _ _ _ (fun kd ρ2 q2 => asI_mono (fun k h => ?_) q2) q1
      split at h
      · exact ⟨h.choose, h.choose_spec.1, l.nx _ h.choose_spec.2⟩
      · exact h
    · exact q1) q
/-- x.pop(e) as a value -/
def dPopAt (i : Nat) (f : DE) : DE := fun ρ Q => match sg ρ i with
  | .ow _ => f ρ fun d ρ' => asI d fun k => match sg ρ' i with
    | .ow ds => (-(2 ^ 63) ≤ k ∧ k < 2 ^ 63) ∧ ∃ j v, seqIndex? k ds.length = some j ∧ ds[j]? = some v ∧ Q v (ρ'.set i (.ow (ds.eraseIdx j)))
    | _ => False
  | _ => False
theorem x_popAt {i : Nat} {apos cpos : Pos} (hv : PE X a (tVar i)) (he : DX X B0 e fa) (hs : starEach [e] X.env = (false, eval e X.env) :: starEach [] X.env := by rfl) (hbase : attributeBase a "pop" X.env (eval a X.env) = eval a X.env := by rfl)
    (hfew : ((backTo cpos (starEach [e] X.env)).all (fun x => !x.1) && (backToKw cpos (keywordEach [] X.env)).all (fun x => x.1.isSome) && decide ([e].length + ([] : List Keyword).length + (if ([] : List Keyword).isEmpty then 0 else 1) < 30)) = true := by rfl)
    (hline : (apos.endLine == cpos.line) = true := by rfl) (hpl : (backTo cpos (starEach [] X.env)).any (·.1) = false := by rfl) : DX X B0 (.Call (.Attribute a "pop" apos) [e] [] cpos) (dPopAt i fa) where
  run B F0 hB := pe_imp (pe_bm PySem.F.plainAttrs_list PySem.F.slot_list_pop PySem.F.type_list_pop mt_popAt hv (pa_cons (he.run B F0 hB) pa_nil hs) hbase hfew hline hs hpl) fun σ H Q ⟨F, ρ, ok, q⟩ => by
    unfold dPopAt at q
    split at q
    · rename_i ds0 hi0
      obtain ⟨p0, vs0, h10, h20, _⟩ := ok.ownL hi0
      refine ⟨_, h10, .inl ⟨rfl, _, .of h20⟩, F, ρ, ok, he.mono _ _ _ (fun d ρ' q' v F' H' ok' s' r => ?_) q⟩
      obtain ⟨k, rfl, rfl, q'⟩ := asI_rp r q'
      split at q'
      · rename_i ds hi
        obtain ⟨p, vs, h1, h2, h3, _⟩ := ok'.ownL hi
        rw [h10] at h1
        cases h1
        obtain ⟨⟨k1, k2⟩, j, y, hj, hy, q'⟩ := q'
        obtain ⟨z, hz, rz⟩ := h3.get hy
        exact ⟨p0, vs, k, j, z, rfl, rfl, h2, k1, k2, by rw [h3.len]; exact hj, hz, q' _ F' _ (ok'.writeL hi h10 (h3.era j)) s' rz⟩
      · exact q'.elim
    · exact q.elim
  mono ρ Q Q' hq q := by
    unfold dPopAt at q ⊢
    split at q
    · refine he.mono _ _ _ (fun d ρ' q' => asI_mono (fun k h => ?_) q') q
      split at h
      · obtain ⟨k1, j, v, h1, h2, h3⟩ := h
        exact ⟨k1, j, v, h1, h2, hq _ _ h3⟩
      · exact h
    · exact q
end
end DL

namespace DL
open PySem PySem.Spec PyProof.Rows L2

theorem takes0N {X : Cx} : L2N.Takes X (fun _ _ _ _ => False) := fun _ _ x => by
  obtain ⟨_, _, _, _, _, _, _, _, _, _, _, _, _, _, _, _, h⟩ := x
  exact h.elim
theorem okXN {P : Program} {w : World} {K : PySem.W.Frag} {mg : Str → Option Value} {base : Heap} {x qual : Str} {st : Stmt} {f : Addr} {fd : FuncData} {N ps : List Str} {k : Nat} {sp : Sp} (F : Fun K x qual st f fd) (S : FnScope N ps (defScope st)) (len : ∀ vs H Q E, sp vs H Q E → vs.length = ps.length)
    (hbody : ∀ (cdv : Value) (A : Around) (outer : List Env) (s : Shared) (H : Hp) (vs : List V) (Q : VK) (E : XK), Room k (A.deeper (envOfC qual (defScope st) s.heap.objs.size f cdv)) → sp vs H Q E →
      ∃ t, PSs (cxOf (L2N.CX P w) P w K mg base N qual (defScope st) f cdv A outer s H E) (defBody st) t ∧ t { nx := fun _ H' => Q .non H', rt := Q } (L2.start N vs) H) : FnOk P w K mg base (L2N.CX P w) (k + 1) f fd ps sp := by
  obtain ⟨oc, od, kV, doc, pm, an, cdv, ct, osl, rfl, lk, hcd⟩ := F.ex
  exact fn_of lk hcd S len fun A outer s H vs Q E hr hsp => hbody cdv A outer s H vs Q E hr hsp
/-! ### promises by data -/
/-- arguments, the answer that is wanted, the errors (by their class's name) that are wanted -/
abbrev DP := List D → (D → Prop) → (Str → Prop) → Prop
def MoP (d : DP) : Prop := ∀ ds (Q Q' : D → Prop) (W W' : Str → Prop), (∀ r, Q r → Q' r) → (∀ n, W n → W' n) → d ds Q W → d ds Q' W'
def toSp (mg : Str → Option Value) (d : DP) : Sp := fun vs H Q E => ∃ F ds, Same F H ∧ RpA F vs ds ∧ d ds (Post F H Q) fun nm => ∀ C H', mg nm = some (.ref C) → Same H H' → E (.ref C) none H'
/-- growth but for a -/
structure GwX (a : Addr) (F H F' H' : Hp) : Prop where
  hh : ∀ b o, b ≠ a → H b = some o → H' b = some o
  ff : Same F F'
  fh : Same F' H'
  nw : ∀ b, F' b ≠ none → F b ≠ none ∨ H b = none ∨ IsTp (F' b)
/-- the first argument a source of numbers, which turns -/
def toSpS (d : DP) : Sp := fun vs H Q E => ∃ F a vs' ds, vs = .ref a :: vs' ∧ F a = none ∧ SrcAt H a ∧ Same F H ∧ RpA F vs' ds ∧ d ds (fun r => ∀ v F' H', GwX a F H F' H' → SrcAt H' a → Rp F' v r → Q v H') fun _ => False
abbrev FnD (P : Program) (w : World) (K : PySem.W.Frag) (mg : Str → Option Value) (base : Heap) (k : Nat) (f : Addr) (fd : FuncData) (ps : List Str) (d : DP) : Prop := FnOk P w K mg base (L2N.CX P w) k f fd ps (toSp mg d)
abbrev FnS (P : Program) (w : World) (K : PySem.W.Frag) (mg : Str → Option Value) (base : Heap) (k : Nat) (f : Addr) (fd : FuncData) (ps : List Str) (d : DP) : Prop := FnOk P w K mg base (L2N.CX P w) k f fd ps (toSpS d)
/-- the errors that are wanted here -/
def XW (X : Cx) (B0 : Hp) (W : Str → Prop) : Prop := ∃ U : WX, L2N.Takes X U ∧ ∀ σ nm C H', W nm → X.mg nm = some (.ref C) → Same B0 H' → U (.ref C) none σ H'
theorem xw_none {X : Cx} {B0 : Hp} : XW X B0 (fun _ => False) := ⟨fun _ _ _ _ => False, takes0N, fun _ _ _ _ h => h.elim⟩
section
variable {X : Cx} {B0 : Hp} {a b c e : Expr} {es : List Expr} {fa fb : DE} {fs : DA} {pos p : Pos} {x : Str} {f : Addr} {fd : FuncData} {ps : List Str} {d : DP} {k : Nat} {W : Str → Prop}
def dFn (d : DP) (W : Str → Prop) (fs : DA) : DE := fun ρ Q => fs ρ fun ds ρ' => d ds (fun r => Q r ρ') W
theorem x_call (G : FnD X.prog X.w X.K X.mg X.base k f fd ps d) (hd : MoP d) (hr : Room k X.A) (hg : Gl X x) (hm : X.mg x = some (.ref f)) (hk : PySem.W.keepIn X.K (.ref f) = true) (hb : Binds X.K fd ps []) (hw : XW X B0 W) (ha : DXa X B0 (e :: es) fs)
    (hdb : (x == ("__debug__" : Str)) = false := by decide) (he : starEach (e :: es) X.env = (false, eval e X.env) :: starEach es X.env := by rfl) (hpl : (backTo pos (starEach es X.env)).any (·.1) = false := by rfl) : DX X B0 (.Call (.Name x p) (e :: es) [] pos) (dFn d W fs) where
  run B F0 hB := by
    obtain ⟨U, tk, hU⟩ := hw
    exact pe_imp (pe_callS G hr hg hm hk hb (L2N.passAt tk) (ha.run B F0 hB) hdb he hpl) fun σ H Q ⟨F, ρ, ok, h⟩ => ⟨F, ρ, ok, ha.mono _ _ _ (fun ds ρ' h' vs F' H' ok' s' r => ⟨F', ds, ok'.st, r,
      hd _ _ _ _ _ (fun r' h3 v F3 H3 g3 rv => h3 v F3 H3 (ok'.gw g3) (s'.trans g3.ff) rv) (fun nm h3 C H3 hc s3 => hU σ nm C H3 h3 hc ((hB.trans ok'.bg).trans s3)) h'⟩) h⟩
  mono ρ Q Q' hq h := ha.mono _ _ _ (fun ds ρ' h' => hd _ _ _ _ _ (fun r h3 => hq _ _ h3) (fun _ h3 => h3) h') h
theorem StOk.gwx {K : PySem.W.Frag} {B F0 F H F' H' : Hp} {ρ : List Sl} {σ : HSt} {q : Addr} {i : Nat} (h : StOk K B F0 F ρ σ H) (hi : ρ[i]? = some (.src q)) (hσ : σ[i]? = some (some (.ref q))) (g : GwX q F H F' H') (hs : SrcAt H' q) : StOk K B F0 F' ρ σ H' := by
  obtain ⟨_, hBq, hFq, hS⟩ := h.sl i _ _ hi hσ
  have ne : ∀ (j : Nat) (s : Sl) (b : Addr), j ≠ i → ρ[j]? = some s → s.own = true → σ[j]? = some (some (.ref b)) → b ≠ q := fun j s b hj h1 h2 h3 e => by
    subst e
    exact h.ap j i s _ b hj h1 hi h2 rfl h3 hσ
  have fn : ∀ (b : Addr) (u : HO), F b = none → b ≠ q → H b = some u → (∀ xs, u ≠ .tup xs) → F' b = none := fun b u hf hb hu ht => by
    cases z : F' b with
    | none => rfl
    | some o =>
      rcases g.nw b (by rw [z]; exact fun z => nomatch z) with w | w | ⟨xs, w⟩
      · exact absurd hf w
      · rw [hu] at w
        cases w
      · have e := (g.fh _ _ w).symm.trans (g.hh _ _ hb hu)
        cases e
        exact absurd rfl (ht xs)
  exact {
    bg := fun b u e => g.hh b u (ne_of_none e hBq) (h.bg b u e)
    up := h.up.trans g.ff
    st := g.fh
    nw := fun b e => by
      rcases g.nw b e with z | z | z
      · rcases h.nw b z with z | z | ⟨xs, z⟩
        · exact .inl z
        · exact .inr (.inl z)
        · exact .inr (.inr ⟨xs, g.ff _ _ z⟩)
      · exact .inr (.inl (h.bg.free z))
      · exact .inr (.inr z)
    len := h.len
    sl := fun j s o h1 h2 => by
      have z := h.sl j s o h1 h2
      cases s with
      | no => trivial
      | va d =>
        obtain ⟨v, z1, z2⟩ := z
        exact ⟨v, z1, z2.mono g.ff⟩
      | raw v => exact z
      | scr ns =>
        obtain ⟨b, z1, z2⟩ := z
        exact ⟨b, z1, g.ff.seq z2⟩
      | ow ds =>
        have hj : j ≠ i := fun e => by
          subst e
          rw [hi] at h1
          cases h1
        obtain ⟨b, vs, z1, z2, z3, z4, z5⟩ := z
        subst z1
        have n := ne j _ b hj h1 rfl h2
        exact ⟨b, vs, rfl, z2, fn b _ z3 n z4 (fun _ w => nomatch w), g.hh _ _ n z4, z5.mono g.ff⟩
      | od ds =>
        have hj : j ≠ i := fun e => by
          subst e
          rw [hi] at h1
          cases h1
        obtain ⟨b, vs, z1, z2, z3, z4, z5⟩ := z
        subst z1
        have n := ne j _ b hj h1 rfl h2
        exact ⟨b, vs, rfl, z2, fn b _ z3 n z4 (fun _ w => nomatch w), g.hh _ _ n z4, z5.mono g.ff⟩
      | ot ds =>
        have hj : j ≠ i := fun e => by
          subst e
          rw [hi] at h1
          cases h1
        obtain ⟨b, vs, z1, z2, z3, z4, z5⟩ := z
        subst z1
        have n := ne j _ b hj h1 rfl h2
        exact ⟨b, vs, rfl, z2, fn b _ z3 n z4 (fun _ w => nomatch w), g.hh _ _ n z4, z5.mono g.ff⟩
      | src b =>
        obtain ⟨z1, z2, z3, z4⟩ := z
        subst z1
        by_cases hj : j = i
        · subst hj
          rw [hi] at h1
          cases h1
          refine ⟨rfl, z2, ?_, hs⟩
          cases w : F' q with
          | none => rfl
          | some o =>
            obtain ⟨c, s, t, z5, _⟩ := id z4
            obtain ⟨c', s', t', z6, _⟩ := id hs
            rcases g.nw q (by rw [w]; exact fun z => nomatch z) with y | y | ⟨xs, y⟩
            · exact absurd z3 y
            · rw [z5] at y
              cases y
            · have e := (g.fh _ _ y).symm.trans z6
              cases e
        · have n := ne j _ b hj h1 rfl h2
          obtain ⟨c, s, t, z5, z6⟩ := id z4
          exact ⟨rfl, z2, fn b _ z3 n z5 (fun _ w => nomatch w), c, s, t, g.hh _ _ n z5, z6⟩
    ap := h.ap }
/-- f(source, ..), the source in slot i -/
def dFnS (d : DP) (i : Nat) (fs : DA) : DE := fun ρ Q => match sg ρ i with
  | .src q => fs ρ fun ds ρ' => sg ρ' i = .src q ∧ d ds (fun r => Q r ρ') fun _ => False
  | _ => False
theorem StOk.srcAt {K : PySem.W.Frag} {B F0 F H : Hp} {ρ : List Sl} {σ : HSt} (h : StOk K B F0 F ρ σ H) {i : Nat} {q : Addr} (hi : sg ρ i = .src q) : σ[i]? = some (some (.ref q)) ∧ B q = none ∧ F q = none ∧ SrcAt H q := by
  have hi' := sg_some hi (fun z => nomatch z)
  have hl : i < σ.length := by
    rw [h.len]
    exact (List.getElem?_eq_some_iff.mp hi').1
  obtain ⟨q1, q2, q3, q4⟩ := h.sl i _ _ hi' (List.getElem?_eq_getElem hl)
  exact ⟨by rw [List.getElem?_eq_getElem hl, q1], q2, q3, q4⟩
theorem x_callS {i : Nat} (G : FnS X.prog X.w X.K X.mg X.base k f fd ps d) (hd : MoP d) (hr : Room k X.A) (hg : Gl X x) (hm : X.mg x = some (.ref f)) (hk : PySem.W.keepIn X.K (.ref f) = true) (hb : Binds X.K fd ps []) (hv : PE X e (tVar i)) (ha : DXa X B0 es fs)
    (hdb : (x == ("__debug__" : Str)) = false := by decide) (he : starEach (e :: es) X.env = (false, eval e X.env) :: starEach es X.env := by rfl) (hpl : (backTo pos (starEach es X.env)).any (·.1) = false := by rfl) : DX X B0 (.Call (.Name x p) (e :: es) [] pos) (dFnS d i fs) where
  run B F0 hB := pe_imp (pe_callS G hr hg hm hk hb (L2N.passAt takes0N) (pa_cons hv (ha.run B F0 hB) he) hdb he hpl) fun σ H Q ⟨F, ρ, ok, h⟩ => by
    unfold dFnS at h
    split at h
    · rename_i q hi
      obtain ⟨h1, _⟩ := ok.srcAt hi
      refine ⟨_, h1, F, ρ, ok, ha.mono _ _ _ (fun ds ρ' h' vs F' H' ok' s' r => ?_) h⟩
      obtain ⟨hi', h'⟩ := h'
      obtain ⟨_, h2, h3, h4⟩ := ok'.srcAt hi'
      exact ⟨F', q, vs, ds, rfl, h3, h4, ok'.st, r, hd _ _ _ _ _ (fun r' h5 v F3 H3 g3 s3 rv => h5 v F3 H3 (ok'.gwx (sg_some hi' (fun z => nomatch z)) h1 g3 s3) (s'.trans g3.ff) rv) (fun _ z => z) h'⟩
    · exact h.elim
  mono ρ Q Q' hq h := by
    unfold dFnS at h ⊢
    split at h
    · exact ha.mono _ _ _ (fun ds ρ' h' => ⟨h'.1, hd _ _ _ _ _ (fun r h3 => hq _ _ h3) (fun _ h3 => h3) h'.2⟩) h
    · exact h

/-! ### raise -/
structure ExcK (K : PySem.W.Frag) (mg : Str → Option Value) (nm : Str) (C : Addr) : Prop where
  g : mg nm = some (.ref C)
  x : PySem.W.excIn K C [.type "ValueError", .type "Exception", .type "BaseException", .type "object"] "ValueError.__new__" = true
  kp : PySem.W.keepIn K (.ref C) = true
  b : PySem.W.subIn K (.ref C) (.type "BaseException") = some true
  t : PySem.W.typeIn K (.ref C) = some (.type "type")
def dRaise (W : Str → Prop) (nm : Str) : DS := fun _ _ => W nm
theorem s_raise {m : Str} {j : Nat} {C : Addr} {p p2 pos' : Pos} (hc : X.calm = true) (ex : ExcK X.K X.mg x C) (hw : XW X B0 W) (hg : Gl X x) (hdb : (x == ("__debug__" : Str)) = false := by decide) : DXs X B0 (.Raise (some (.Call (.Name x p) [.Constant (.str m) j p2] [] pos')) none pos) (dRaise W x) where
  run B F0 hB := by
    obtain ⟨U, tk, hU⟩ := hw
    exact ps_imp (L2N.ps_raise hc tk (L2N.pmk_own PySem.F.excBase_ValueError ex.x ex.g ex.kp (raises_own ex.b ex.t) hg hdb)) fun E σ H ⟨F, ρ, DD, ok, en, q⟩ => hU σ x C H q ex.g (hB.trans ok.bg)
  mono a b ρ l q := q
end

/-! ### a def by its body -/
def startS (N : List Str) (ds : List D) : List Sl := ds.map Sl.va ++ List.replicate (N.length - ds.length) .no
section
variable {P : Program} {w : World} {K : PySem.W.Frag} {mg : Str → Option Value} {base : Heap}
theorem start_ok {H F : Hp} {N : List Str} {vs : List V} {ds : List D} (s : Same F H) (r : RpA F vs ds) : StOk K H F F (startS N ds) (L2.start N vs) H where
  bg := Same.refl _
  up := Same.refl _
  st := s
  nw a e := .inl e
  len := by
    unfold startS L2.start
    simp [r.len]
  sl i t o h1 h2 := by
    unfold startS at h1
    unfold L2.start at h2
    by_cases hi : i < ds.length
    · rw [List.getElem?_append_left (by rw [List.length_map]; exact hi), List.getElem?_map, List.getElem?_eq_getElem hi] at h1
      cases h1
      obtain ⟨v, hv, rv⟩ := r.get (List.getElem?_eq_getElem hi)
      rw [List.getElem?_append_left (by rw [List.length_map, r.len]; exact hi), List.getElem?_map, hv] at h2
      cases h2
      exact ⟨v, rfl, rv⟩
    · rw [List.getElem?_append_right (by rw [List.length_map]; omega), List.getElem?_replicate] at h1
      split at h1
      · cases h1
        trivial
      · cases h1
  ap i j t u a hij h1 h2 h3 := by
    unfold startS at h1
    by_cases hi : i < ds.length
    · rw [List.getElem?_append_left (by rw [List.length_map]; exact hi), List.getElem?_map, List.getElem?_eq_getElem hi] at h1
      cases h1
      cases h3
    · rw [List.getElem?_append_right (by rw [List.length_map]; omega), List.getElem?_replicate] at h1
      split at h1
      · cases h1
        cases h3
      · cases h1
def endsD (Q : D → Prop) : DEnds := { nx := fun _ => Q .none, rt := fun d _ => Q d }
theorem fnD {x qual : Str} {st : Stmt} {f : Addr} {fd : FuncData} {N ps : List Str} {k : Nat} {d : DP} (F : Fun K x qual st f fd) (S : FnScope N ps (defScope st)) (len : ∀ ds Q W, d ds Q W → ds.length = ps.length)
    (hbody : ∀ (cdv : Value) (A : Around) (outer : List Env) (s : Shared) (H : Hp) (E : XK) (W : Str → Prop), Room k (A.deeper (envOfC qual (defScope st) s.heap.objs.size f cdv)) → XW (cxOf (L2N.CX P w) P w K mg base N qual (defScope st) f cdv A outer s H E) H W →
      ∃ t, DXb (cxOf (L2N.CX P w) P w K mg base N qual (defScope st) f cdv A outer s H E) H (defBody st) t ∧ ∀ ds Q, d ds Q W → t (endsD Q) (startS N ds)) : FnD P w K mg base (k + 1) f fd ps d := by
  refine okXN F S (fun vs H Q E h => ?_) (fun cdv A outer s H vs Q E hr h => ?_)
  · obtain ⟨F', ds, _, r, h⟩ := h
    rw [r.len]
    exact len _ _ _ h
  · obtain ⟨F', ds, s1, r, h⟩ := h
    obtain ⟨t, hb, ht⟩ := hbody cdv A outer s H E (fun nm => ∀ C H', mg nm = some (.ref C) → Same H H' → E (.ref C) none H') hr ⟨fun cls d _ H => E cls d H, L2N.takes_of rfl rfl rfl rfl, fun σ nm C H' h hc hs => h C H' hc hs⟩
    refine ⟨_, hb.run H F' (Same.refl _), F', startS N ds, endsD (Post F' H Q), start_ok s1 r, ⟨?_, ?_, fun _ _ _ _ _ z => z.elim, fun _ _ _ _ _ z => z.elim, fun _ _ _ _ _ _ _ _ _ _ _ _ z => z.elim⟩, ht ds _ h⟩
    · exact fun σ F2 ρ H2 ok q => q _ F2 H2 ⟨ok.bg, ok.up, ok.st, ok.nw⟩ .non
    · exact fun σ F2 ρ H2 v d ok rv q => q v F2 H2 ⟨ok.bg, ok.up, ok.st, ok.nw⟩ rv
def hide (H : Hp) (a : Addr) : Hp := fun b => if b = a then none else H b
theorem hide_same {H : Hp} {a : Addr} : hide H a a = none := if_pos rfl
theorem hide_ne {H : Hp} {a b : Addr} (h : b ≠ a) : hide H a b = H b := if_neg h
def startSS (N : List Str) (q : Addr) (ds : List D) : List Sl := .src q :: (ds.map Sl.va ++ List.replicate (N.length - (ds.length + 1)) .no)
theorem startS_ok {H F : Hp} {N : List Str} {q : Addr} {vs : List V} {ds : List D} (s : Same F H) (r : RpA F vs ds) (hq : F q = none) (hs : SrcAt H q) : StOk K (hide H q) F F (startSS N q ds) (L2.start N (.ref q :: vs)) H where
  bg a u e := by
    unfold hide at e
    split at e
    · cases e
    · exact e
  up := Same.refl _
  st := s
  nw a e := .inl e
  len := by
    unfold startSS L2.start
    simp [r.len]
  sl i t o h1 h2 := by
    unfold startSS at h1
    unfold L2.start at h2
    cases i with
    | zero =>
      cases h1
      cases h2
      exact ⟨rfl, hide_same, hq, hs⟩
    | succ i =>
      rw [List.getElem?_cons_succ] at h1
      rw [List.map_cons, List.cons_append, List.getElem?_cons_succ] at h2
      by_cases hi : i < ds.length
      · rw [List.getElem?_append_left (by rw [List.length_map]; exact hi), List.getElem?_map, List.getElem?_eq_getElem hi] at h1
        cases h1
        obtain ⟨v, hv, rv⟩ := r.get (List.getElem?_eq_getElem hi)
        rw [List.getElem?_append_left (by rw [List.length_map, r.len]; exact hi), List.getElem?_map, hv] at h2
        cases h2
        exact ⟨v, rfl, rv⟩
      · rw [List.getElem?_append_right (by rw [List.length_map]; omega), List.getElem?_replicate] at h1
        split at h1
        · cases h1
          trivial
        · cases h1
  ap i j t u a hij h1 h2 h3 h4 := by
    have own0 : ∀ (i : Nat) (t : Sl), (startSS N q ds)[i]? = some t → t.own = true → i = 0 := fun i t h1 h3 => by
      cases i with
      | zero => rfl
      | succ i =>
        unfold startSS at h1
        rw [List.getElem?_cons_succ] at h1
        by_cases hi : i < ds.length
        · rw [List.getElem?_append_left (by rw [List.length_map]; exact hi), List.getElem?_map, List.getElem?_eq_getElem hi] at h1
          cases h1
          cases h3
        · rw [List.getElem?_append_right (by rw [List.length_map]; omega), List.getElem?_replicate] at h1
          split at h1
          · cases h1
            cases h3
          · cases h1
    exact absurd ((own0 i t h1 h3).trans (own0 j u h2 h4).symm) hij
def endsS (q : Addr) (Q : D → Prop) : DEnds := { nx := fun ρ => sg ρ 0 = .src q ∧ Q .none, rt := fun d ρ => sg ρ 0 = .src q ∧ Q d }
theorem fnS {x qual : Str} {st : Stmt} {f : Addr} {fd : FuncData} {N ps : List Str} {k : Nat} {d : DP} (F : Fun K x qual st f fd) (S : FnScope N ps (defScope st)) (len : ∀ ds Q W, d ds Q W → ds.length + 1 = ps.length)
    (hbody : ∀ (cdv : Value) (A : Around) (outer : List Env) (s : Shared) (H : Hp) (E : XK) (q : Addr), Room k (A.deeper (envOfC qual (defScope st) s.heap.objs.size f cdv)) →
      ∃ t, DXb (cxOf (L2N.CX P w) P w K mg base N qual (defScope st) f cdv A outer s H E) (hide H q) (defBody st) t ∧ ∀ ds Q, d ds Q (fun _ => False) → t (endsS q Q) (startSS N q ds)) : FnS P w K mg base (k + 1) f fd ps d := by
  refine okXN F S (fun vs H Q E h => ?_) (fun cdv A outer s H vs Q E hr h => ?_)
  · obtain ⟨F', a, vs', ds, rfl, _, _, _, r, h⟩ := h
    rw [List.length_cons, r.len]
    exact len _ _ _ h
  · obtain ⟨F', q, vs', ds, rfl, fq, sq, s1, r, h⟩ := h
    obtain ⟨t, hb, ht⟩ := hbody cdv A outer s H E q hr
    have gx : ∀ {σ F2 ρ H2}, StOk K (hide H q) F' F2 ρ σ H2 → F2 q = none → GwX q F' H F2 H2 := fun {σ F2 ρ H2} ok f2 => ⟨fun b o hb e => ok.bg b o (by rw [hide_ne hb]; exact e), ok.up, ok.st, fun b e => by
      rcases ok.nw b e with z | z | z
      · exact .inl z
      · have hb : b ≠ q := fun y => by
          subst y
          exact e f2
        rw [hide_ne hb] at z
        exact .inr (.inl z)
      · exact .inr (.inr z)⟩
    refine ⟨_, hb.run (hide H q) F' (Same.refl _), F', startSS N q ds, endsS q (fun r => ∀ v F2 H2, GwX q F' H F2 H2 → SrcAt H2 q → Rp F2 v r → Q v H2), startS_ok s1 r fq sq, ⟨?_, ?_, fun _ _ _ _ _ z => z.elim, fun _ _ _ _ _ z => z.elim, fun _ _ _ _ _ _ _ _ _ _ _ _ z => z.elim⟩, ht ds _ h⟩
    · exact fun σ F2 ρ H2 ok z => z.2 _ F2 H2 (gx ok (ok.srcAt z.1).2.2.1) (ok.srcAt z.1).2.2.2 .non
    · exact fun σ F2 ρ H2 v d ok rv z => z.2 v F2 H2 (gx ok (ok.srcAt z.1).2.2.1) (ok.srcAt z.1).2.2.2 rv
end
end DL

namespace DL
open PySem PySem.Spec PyProof.Rows L2

/-! ### keys by data -/
def keyEq0 : D → D → Bool
  | .int a, .int b => decide (a = b)
  | .str a, .str b => decide (a = b)
  | _, _ => false
def keyEqL : List D → List D → Bool
  | [], [] => true
  | x :: xs, y :: ys => keyEq0 x y && keyEqL xs ys
  | _, _ => false
/-- are two keys one -/
def keyEq : D → D → Bool
  | .tuple xs, .tuple ys => keyEqL xs ys
  | a, b => keyEq0 a b
def lookD (kvs : List (D × D)) (k : D) : Option D := (kvs.find? fun kv => keyEq kv.1 k).map (·.2)
def hasD (kvs : List (D × D)) (k : D) : Bool := kvs.any fun kv => keyEq kv.1 k
def putD (kvs : List (D × D)) (k v : D) : List (D × D) := if hasD kvs k = true then kvs.map (fun kv => if keyEq kv.1 k = true then (kv.1, v) else kv) else kvs ++ [(k, v)]
theorem keyEq0_kD (k : Key) (y : D) : keyEq0 (kD k) y = true ↔ y = kD k := by
  cases k with
  | inl i => cases y <;> simp [keyEq0, kD, eq_comm]
  | inr x => cases y <;> simp [keyEq0, kD, eq_comm]
theorem keyEq_kD (k : Key) (y : D) : keyEq (kD k) y = true ↔ y = kD k := by
  have h := keyEq0_kD k y
  cases k with
  | inl i => cases y <;> exact h
  | inr x => cases y <;> exact h
theorem keyEqL_map : ∀ (ks : List Key) (ys : List D), keyEqL (ks.map kD) ys = true ↔ ys = ks.map kD
  | [], [] => by simp [keyEqL]
  | [], y :: ys => by simp [keyEqL]
  | k :: ks, [] => by simp [keyEqL]
  | k :: ks, y :: ys => by
    rw [List.map_cons, keyEqL, Bool.and_eq_true, keyEq0_kD, keyEqL_map ks ys]
    simp
theorem keyEq_tD (ks : List Key) (y : D) : keyEq (.tuple (ks.map kD)) y = true ↔ y = .tuple (ks.map kD) := by
  cases y with
  | tuple ys =>
    show keyEqL (ks.map kD) ys = true ↔ _
    rw [keyEqL_map]
    simp
  | none => simp [keyEq, keyEq0]
  | bool b => simp [keyEq, keyEq0]
  | int i => simp [keyEq, keyEq0]
  | str x => simp [keyEq, keyEq0]
  | list x => simp [keyEq, keyEq0]
  | dict x => simp [keyEq, keyEq0]
theorem kD_inj {a b : Key} (h : kD a = kD b) : a = b := by
  cases a <;> cases b <;> simp [kD] at h <;> rw [h]
theorem kDs_inj : ∀ {a b : List Key}, a.map kD = b.map kD → a = b
  | [], [], _ => rfl
  | [], _ :: _, h => by simp at h
  | _ :: _, [], h => by simp at h
  | x :: xs, y :: ys, h => by
    rw [List.map_cons, List.map_cons] at h
    rw [kD_inj (List.cons.inj h).1, kDs_inj (List.cons.inj h).2]
theorem rp_kD {F : Hp} {v : V} {k : Key} (r : Rp F v (kD k)) : v = kV k := by
  cases k with
  | inl i => cases r; rfl
  | inr x => cases r; rfl
theorem rpa_kD {F : Hp} : ∀ {vs : List V} {ks : List Key}, RpA F vs (ks.map kD) → vs = ks.map kV
  | _, [], .nil => rfl
  | _, k :: ks, .cons h r => by rw [rp_kD h, rpa_kD r]; rfl
def OpR2 (F : Hp) (a : Option V) (b : Option D) : Prop := match a, b with
  | none, none => True
  | some v, some d => Rp F v d
  | _, _ => False
theorem RpK.look {F : Hp} (k : Key) : ∀ {kvs : List (Key × V)} {ds : List (D × D)}, RpK F kvs ds → OpR2 F (valV kvs k) (lookD ds (kD k))
  | _, _, .nil => True.intro
  | _, _, .cons (k := j) (v := v) (d := d) h r => by
    have ih := RpK.look k r
    by_cases e : j = k
    · subst e
      rw [valV_pos rfl]
      have : ∀ ds : List (D × D), lookD ((kD j, d) :: ds) (kD j) = some d := fun ds => by
        unfold lookD
        simp only [List.find?_cons, (keyEq_kD j (kD j)).mpr rfl]
        rfl
      rw [this]
      exact h
    · rw [valV_neg e]
      have : ∀ ds : List (D × D), lookD ((kD j, d) :: ds) (kD k) = lookD ds (kD k) := fun ds => by
        unfold lookD
        rw [List.find?_cons_of_neg]
        intro z
        exact e (kD_inj ((keyEq_kD j (kD k)).mp z)).symm
      rw [this]
      exact ih
theorem RpT.look {F : Hp} (k : List Key) : ∀ {kvs : List (List Key × V)} {ds : List (D × D)}, RpT F kvs ds → OpR2 F (valV kvs k) (lookD ds (.tuple (k.map kD)))
  | _, _, .nil => True.intro
  | _, _, .cons (k := j) (v := v) (d := d) h r => by
    have ih := RpT.look k r
    by_cases e : j = k
    · subst e
      rw [valV_pos rfl]
      have : ∀ ds : List (D × D), lookD ((.tuple (j.map kD), d) :: ds) (.tuple (j.map kD)) = some d := fun ds => by
        unfold lookD
        simp only [List.find?_cons, (keyEq_tD j _).mpr rfl]
        rfl
      rw [this]
      exact h
    · rw [valV_neg e]
      have : ∀ ds : List (D × D), lookD ((.tuple (j.map kD), d) :: ds) (.tuple (k.map kD)) = lookD ds (.tuple (k.map kD)) := fun ds => by
        unfold lookD
        rw [List.find?_cons_of_neg]
        intro z
        exact e (kDs_inj (PyData.tuple.inj ((keyEq_tD j _).mp z))).symm
      rw [this]
      exact ih
theorem hasD_look (kvs : List (D × D)) (k : D) : hasD kvs k = (lookD kvs k).isSome := by
  unfold hasD lookD
  rw [Option.isSome_map]
  induction kvs with
  | nil => rfl
  | cons x r ih =>
    rw [List.any_cons]
    rw [List.find?_cons]
    cases h : keyEq x.1 k with
    | true => rfl
    | false => rw [ih]; rfl
theorem OpR2.some {F : Hp} {a : Option V} {d : D} (h : OpR2 F a (some d)) : ∃ v, a = Option.some v ∧ Rp F v d := by
  cases a with
  | none => exact h.elim
  | some v => exact ⟨v, rfl, h⟩
theorem OpR2.isSome {F : Hp} {a : Option V} {b : Option D} (h : OpR2 F a b) : a.isSome = b.isSome := by
  cases a <;> cases b <;> first | rfl | exact h.elim
/-- a key that is found is an int, a text / a tuple of such -/
theorem RpK.key {F : Hp} {kvs : List (Key × V)} {ds : List (D × D)} {y d : D} : RpK F kvs ds → lookD ds y = some d → ∃ k, y = kD k
  | .nil, h => by cases h
  | .cons (k := j) (v := v) (d := e) (ds := ds') hr r, h => by
    unfold lookD at h
    cases q : keyEq (kD j) y with
    | true => exact ⟨j, (keyEq_kD j y).mp q⟩
    | false =>
      rw [List.find?_cons_of_neg (by rw [q]; exact Bool.false_ne_true)] at h
      exact RpK.key r h
theorem RpT.key {F : Hp} {kvs : List (List Key × V)} {ds : List (D × D)} {y d : D} : RpT F kvs ds → lookD ds y = some d → ∃ k : List Key, y = .tuple (k.map kD)
  | .nil, h => by cases h
  | .cons (k := j) (v := v) (d := e) (ds := ds') hr r, h => by
    unfold lookD at h
    cases q : keyEq (.tuple (j.map kD)) y with
    | true => exact ⟨j, (keyEq_tD j y).mp q⟩
    | false =>
      rw [List.find?_cons_of_neg (by rw [q]; exact Bool.false_ne_true)] at h
      exact RpT.key r h
theorem DGet.rK {F H : Hp} {a : Addr} {kvs : List (Key × V)} {ds : List (D × D)} {y : V} {dy d : D} (s : Same F H) (e : Rd H a (.dK kvs)) (r : RpK F kvs ds) (ry : Rp F y dy) (h : lookD ds dy = some d) : ∃ v, DGet H a y (some v) ∧ Rp F v d := by
  obtain ⟨k, rfl⟩ := r.key h
  have q := r.look k
  rw [h] at q
  obtain ⟨v, hv, rv⟩ := q.some
  exact ⟨v, .inl ⟨kvs, k, e, rp_kD ry, hv.symm⟩, rv⟩
theorem DGet.rT {F H : Hp} {a : Addr} {kvs : List (List Key × V)} {ds : List (D × D)} {y : V} {dy d : D} (s : Same F H) (e : Rd H a (.dT kvs)) (r : RpT F kvs ds) (ry : Rp F y dy) (h : lookD ds dy = some d) : ∃ v, DGet H a y (some v) ∧ Rp F v d := by
  obtain ⟨k, rfl⟩ := r.key h
  have q := r.look k
  rw [h] at q
  obtain ⟨v, hv, rv⟩ := q.some
  cases ry with
  | tup hb rb =>
    rw [rpa_kD rb] at hb
    exact ⟨v, .inr ⟨kvs, k, _, e, rfl, s _ _ hb, hv.symm⟩, rv⟩
theorem ix_dict {X : Cx} (hu : X.A.units + 1 < cLine) : IxR X (fun x y H Q => ∃ a v, x = .ref a ∧ DGet H a y (some v) ∧ Q v H) := by
  intro value slice pins s σ H x y v u Q I rx ry ⟨a, w, ex, g, q⟩ hs
  subst ex
  cases rx
  have hT := dict_typeIs I g
  unfold subscriptTail
  refine wpAny_bind ?_
  rw [getitemInPython_of_ne hT.not_modules]
  refine wpAny_bind (wpAny_specialOf hT PySem.F.slot_dict_getitem.lookup ?_)
  have h2 : wpAny (model X.prog X.w) X.A (getItem (.ref a) u) (EP X pins σ Q) X.xe s := d_getItem hu I g ry fun w' s3 I3 rw' => ⟨w, H, I3, rw', q⟩
  have fin : wpAny (model X.prog X.w) X.A (subscripted slice false (.ref a) u) (fun r s₃ => wpAny (model X.prog X.w) X.A (letTemporaryGo value (.ref a) r >>= fun _ => pure r) (EP X pins σ Q) X.xe s₃) X.xe s := by
    rw [hs]
    exact wpAny_operating (wpAny_mono h2 (fun r s₃ h₃ => wpAny_bind (wpAny_letTemporaryGo (wpAny_pure h₃))) fun _ _ x => x)
  first
    | exact wpAny_pure (wpAny_bind fin)
    | exact wpAny_bind (wpAny_pure (wpAny_bind fin))
    | exact wpAny_bind fin
end DL

namespace DL
open PySem PySem.Spec PyProof.Rows L2
section
variable {K : PySem.W.Frag} {B F0 F H : Hp} {ρ : List Sl} {σ : HSt} {p : Addr} {o : HO}
/-- an own object is frozen -/
theorem StOk.fz (h : StOk K B F0 F ρ σ H) (w : OwnL B F ρ σ H p o) : StOk K B F0 (upd F p o) ρ σ H := by
  have s1 : Same F (upd F p o) := same_new w.hf
  have hne : ∀ (j : Nat) (t : Sl) (a : Addr), ρ[j]? = some t → t.own = true → σ[j]? = some (some (.ref a)) → a ≠ p := fun j t a h1 h2 h3 e => by
    subst e
    exact w.ha j t h1 h2 h3
  exact {
    bg := h.bg
    up := h.up.trans s1
    st := fun a u e => by
      by_cases ha : a = p
      · subst ha
        rw [upd_same] at e
        cases e
        exact w.hp
      · rw [upd_ne ha] at e
        exact h.st a u e
    nw := fun a e => by
      by_cases ha : a = p
      · subst ha
        exact .inr (.inl w.hb)
      · rw [upd_ne ha] at e
        rw [upd_ne ha]
        exact h.nw a e
    len := h.len
    sl := fun j t u g1 g2 => by
      have q := h.sl j t u g1 g2
      cases t with
      | no => trivial
      | va d =>
        obtain ⟨v, z1, z2⟩ := q
        exact ⟨v, z1, z2.mono s1⟩
      | raw v => exact q
      | scr ns =>
        obtain ⟨a, z1, z2⟩ := q
        exact ⟨a, z1, s1.seq z2⟩
      | ow ds =>
        obtain ⟨a, vs, z1, z2, z3, z4, z5⟩ := q
        subst z1
        exact ⟨a, vs, rfl, z2, by rw [upd_ne (hne j _ a g1 rfl g2)]; exact z3, z4, z5.mono s1⟩
      | od ds =>
        obtain ⟨a, vs, z1, z2, z3, z4, z5⟩ := q
        subst z1
        exact ⟨a, vs, rfl, z2, by rw [upd_ne (hne j _ a g1 rfl g2)]; exact z3, z4, z5.mono s1⟩
      | ot ds =>
        obtain ⟨a, vs, z1, z2, z3, z4, z5⟩ := q
        subst z1
        exact ⟨a, vs, rfl, z2, by rw [upd_ne (hne j _ a g1 rfl g2)]; exact z3, z4, z5.mono s1⟩
      | src a =>
        obtain ⟨z1, z2, z3, z4⟩ := q
        subst z1
        exact ⟨rfl, z2, by rw [upd_ne (hne j _ a g1 rfl g2)]; exact z3, z4⟩
    ap := h.ap }
/-- an own slot is given up -/
theorem StOk.giveUp (h : StOk K B F0 F ρ σ H) {i : Nat} {s : Sl} (hi : ρ[i]? = some s) (ho : s.own = true) (hσ : σ[i]? = some (some (.ref p))) (hp : H p = some o) : StOk K B F0 F (ρ.set i .no) σ H ∧ OwnL B F (ρ.set i .no) σ H p o := by
  obtain ⟨b1, f1, n1⟩ := (h.sl i s _ hi hσ).ownAt ho
  have h1 : StOk K B F0 F (ρ.set i .no) (σ.set i (some (.ref p))) H := h.setNo
  rw [set_id hσ] at h1
  refine ⟨h1, hp, b1, f1, fun j t hj ht hp' => ?_⟩
  by_cases e : i = j
  · subst e
    rw [List.getElem?_set_self', hi] at hj
    cases hj
    cases ht
  · rw [List.getElem?_set_ne e] at hj
    exact h.ap i j _ _ p e hi hj ho ht hσ hp'
theorem StOk.ownT (h : StOk K B F0 F ρ σ H) {i : Nat} {ds : List (D × D)} (hi : sg ρ i = .ot ds) : ∃ p vs, σ[i]? = some (some (.ref p)) ∧ H p = some (.dT vs) ∧ RpT F vs ds ∧ B p = none ∧ F p = none := by
  have hi' := sg_some hi (fun z => nomatch z)
  have hl : i < σ.length := by
    rw [h.len]
    exact (List.getElem?_eq_some_iff.mp hi').1
  obtain ⟨p, vs, q1, q2, q3, q4, q5⟩ := h.sl i _ _ hi' (List.getElem?_eq_getElem hl)
  exact ⟨p, vs, by rw [List.getElem?_eq_getElem hl, q1], q4, q5, q2, q3⟩
theorem StOk.lockD (h : StOk K B F0 F ρ σ H) {i : Nat} {s : Sl} {od : Obj} {d : D} (hi : ρ[i]? = some s) (ho : s.own = true) (hσ : σ[i]? = some (some (.ref p))) (hp : H p = some o) (r : Rp (upd F p (.frz od o)) (.ref p) d) :
    StOk K B F0 (upd F p (.frz od o)) (ρ.set i (.va d)) σ (upd H p (.frz od o)) ∧ Same F (upd F p (.frz od o)) := by
  obtain ⟨h1, w⟩ := h.giveUp hi ho hσ hp
  have hset : StOk K B F0 F (ρ.set i .no) σ (upd H p (.frz od o)) := h.write hi ho hσ trivial
  have w2 : OwnL B F (ρ.set i .no) σ (upd H p (.frz od o)) p (.frz od o) := ⟨upd_same, w.hb, w.hf, w.ha⟩
  have h3 := (hset.fz w2).setVa (i := i) r
  rw [List.set_set, set_id hσ] at h3
  exact ⟨h3, same_new w.hf⟩
end
section
variable {X : Cx} {B0 : Hp} {a b c e : Expr} {fa fb fc : DE} {fs : DA} {pos : Pos}
/-- a dict's name as a value: what it owns is frozen -/
def dVarD (i : Nat) : DE := fun ρ Q => match sg ρ i with
  | .va d => Q d ρ
  | .od kvs => Q (.dict kvs) (ρ.set i (.va (.dict kvs)))
  | .ot kvs => kvs ≠ [] ∧ Q (.dict kvs) (ρ.set i (.va (.dict kvs)))
  | _ => False
theorem x_varD {i : Nat} (h : PE X e (tVar i)) : DX X B0 e (dVarD i) where
  run B F0 hB := ⟨fun pins s σ H Q I ⟨F, ρ, ok, q⟩ => by
    unfold dVarD at q
    cases hs : sg ρ i with
    | va d =>
      rw [hs] at q
      obtain ⟨v, h1, h2⟩ := ok.val (sg_some hs (fun z => nomatch z))
      exact h.run pins s σ H Q I ⟨v, h1, q v F H ok (Same.refl _) h2⟩
    | od ds =>
      rw [hs] at q
      obtain ⟨p, vs, h1, h2, h3, h4, h5⟩ := ok.ownD hs
      obtain ⟨od, I2⟩ := I.lock h2 True.intro
      obtain ⟨ok2, s2⟩ := ok.lockD (od := od) (d := .dict ds) (sg_some hs (fun z => nomatch z)) rfl h1 h2 (.dic upd_same (h3.mono (same_new h5)))
      exact h.run pins s σ _ Q I2 ⟨.ref p, h1, q (.ref p) _ _ ok2 s2 (.dic upd_same (h3.mono s2))⟩
    | ot ds =>
      rw [hs] at q
      obtain ⟨p, vs, h1, h2, h3, h4, h5⟩ := ok.ownT hs
      obtain ⟨od, I2⟩ := I.lock h2 True.intro
      obtain ⟨ok2, s2⟩ := ok.lockD (od := od) (d := .dict ds) (sg_some hs (fun z => nomatch z)) rfl h1 h2 (.dicT (hn := q.1) upd_same (h3.mono (same_new h5)))
      exact h.run pins s σ _ Q I2 ⟨.ref p, h1, q.2 (.ref p) _ _ ok2 s2 (.dicT (hn := q.1) upd_same (h3.mono s2))⟩
    | no => rw [hs] at q; exact q.elim
    | ow _ => rw [hs] at q; exact q.elim
    | src _ => rw [hs] at q; exact q.elim
    | raw _ => rw [hs] at q; exact q.elim
    | scr _ => rw [hs] at q; exact q.elim⟩
  mono ρ Q Q' hq h := by
    unfold dVarD at h ⊢
    split at h
    · exact hq _ _ h
    · exact hq _ _ h
    · exact ⟨h.1, hq _ _ h.2⟩
    · exact h
/-- x = {} -/
def dDNew (i : Nat) : DS := fun DD ρ => DD.nx (ρ.set i (.od []))
def dDNewT (i : Nat) : DS := fun DD ρ => DD.nx (ρ.set i (.ot []))
theorem StOk.takeOt {K : PySem.W.Frag} {B F0 F H : Hp} {ρ : List Sl} {σ : HSt} {p : Addr} (h : StOk K B F0 F ρ σ H) {i : Nat} {vs : List (List Key × V)} {ds : List (D × D)} (w : OwnL B F ρ σ H p (.dT vs)) (r : RpT F vs ds) : StOk K B F0 F (ρ.set i (.ot ds)) (σ.set i (some (.ref p))) H :=
  h.set ⟨p, vs, rfl, w.hb, w.hf, w.hp, r⟩ fun _ j t a _ h1 h2 h3 h4 => by
    cases h3
    exact w.ha j t h1 h2 h4
theorem s_dnew {i : Nat} {x : Str} {pos' pd : Pos} (hN : X.N.Nodup) (hi : X.N[i]? = some x) (hx : Loc X.env.scope x) (hs : swapsWith (.Dict [] [] pd) (some (.Name x pos')) pos.line X.env = pure false := by rfl) (hf : X.fn x = true ∨ X.env.scope.names.lookup x = some .local := by first | exact .inl rfl | exact .inr rfl | assumption) :
    DXs X B0 (.Assign [.Name x pos'] (.Dict [] [] pd) pos) (dDNew i) where
  run B F0 hB := ps_imp (ps_set hN hi hx pe_dnewK hs hf) fun E σ H ⟨F, ρ, DD, ok, en, q⟩ p hp =>
    en.nx _ _ _ _ ((ok.newOwn hp _).1.takeOd (ok.newOwn hp _).2 .nil) q
  mono a b ρ l q := l.nx _ q
theorem s_dnewT {i : Nat} {x : Str} {pos' pd : Pos} (hN : X.N.Nodup) (hi : X.N[i]? = some x) (hx : Loc X.env.scope x) (hs : swapsWith (.Dict [] [] pd) (some (.Name x pos')) pos.line X.env = pure false := by rfl) (hf : X.fn x = true ∨ X.env.scope.names.lookup x = some .local := by first | exact .inl rfl | exact .inr rfl | assumption) :
    DXs X B0 (.Assign [.Name x pos'] (.Dict [] [] pd) pos) (dDNewT i) where
  run B F0 hB := ps_imp (ps_set hN hi hx pe_dnewT hs hf) fun E σ H ⟨F, ρ, DD, ok, en, q⟩ p hp =>
    en.nx _ _ _ _ ((ok.newOwn hp _).1.takeOt (ok.newOwn hp _).2 .nil) q
  mono a b ρ l q := l.nx _ q
def isK (d : D) : Prop := ∃ k : Key, d = kD k
def isTK (d : D) : Prop := ∃ k : List Key, d = .tuple (k.map kD)
theorem RpK.snoc {F : Hp} {k : Key} {v : V} {d : D} (hv : Rp F v d) : ∀ {kvs : List (Key × V)} {ds : List (D × D)}, RpK F kvs ds → RpK F (kvs ++ [(k, v)]) (ds ++ [(kD k, d)])
  | _, _, .nil => .cons hv .nil
  | _, _, .cons h r => .cons h (RpK.snoc hv r)
theorem RpT.snoc {F : Hp} {k : List Key} {v : V} {d : D} (hv : Rp F v d) : ∀ {kvs : List (List Key × V)} {ds : List (D × D)}, RpT F kvs ds → RpT F (kvs ++ [(k, v)]) (ds ++ [(.tuple (k.map kD), d)])
  | _, _, .nil => .cons hv .nil
  | _, _, .cons h r => .cons h (RpT.snoc hv r)
theorem RpK.repl {F : Hp} {k : Key} {v : V} {d : D} (hv : Rp F v d) : ∀ {kvs : List (Key × V)} {ds : List (D × D)}, RpK F kvs ds → RpK F (kvs.map fun kv => if kv.1 = k then (kv.1, v) else kv) (ds.map fun kv => if keyEq kv.1 (kD k) = true then (kv.1, d) else kv)
  | _, _, .nil => .nil
  | _, _, .cons (k := j) h r => by
    rw [List.map_cons, List.map_cons]
    by_cases q : j = k
    · subst q
      rw [if_pos rfl, if_pos ((keyEq_kD j _).mpr rfl)]
      exact .cons hv (RpK.repl hv r)
    · rw [if_neg q, if_neg (fun z => q (kD_inj ((keyEq_kD j (kD k)).mp z)).symm)]
      exact .cons h (RpK.repl hv r)
theorem RpT.repl {F : Hp} {k : List Key} {v : V} {d : D} (hv : Rp F v d) : ∀ {kvs : List (List Key × V)} {ds : List (D × D)}, RpT F kvs ds → RpT F (kvs.map fun kv => if kv.1 = k then (kv.1, v) else kv) (ds.map fun kv => if keyEq kv.1 (.tuple (k.map kD)) = true then (kv.1, d) else kv)
  | _, _, .nil => .nil
  | _, _, .cons (k := j) h r => by
    rw [List.map_cons, List.map_cons]
    by_cases q : j = k
    · subst q
      rw [if_pos rfl, if_pos ((keyEq_tD j _).mpr rfl)]
      exact .cons hv (RpT.repl hv r)
    · rw [if_neg q, if_neg (fun z => q (kDs_inj (PyData.tuple.inj ((keyEq_tD j _).mp z))).symm)]
      exact .cons h (RpT.repl hv r)
theorem RpK.put {F : Hp} {k : Key} {v : V} {d : D} (hv : Rp F v d) {kvs : List (Key × V)} {ds : List (D × D)} (r : RpK F kvs ds) : RpK F (putK kvs k v) (putD ds (kD k) d) := by
  have hk := (r.look k).isSome
  have h1 : (kvs.any fun kv => decide (kv.1 = k)) = hasD ds (kD k) := by rw [hasD_look, valV_any]; exact hk
  unfold putK putD
  rw [h1]
  split
  · exact r.repl hv
  · exact r.snoc hv
theorem RpT.put {F : Hp} {k : List Key} {v : V} {d : D} (hv : Rp F v d) {kvs : List (List Key × V)} {ds : List (D × D)} (r : RpT F kvs ds) : RpT F (putK kvs k v) (putD ds (.tuple (k.map kD)) d) := by
  have hk := (r.look k).isSome
  have h1 : (kvs.any fun kv => decide (kv.1 = k)) = hasD ds (.tuple (k.map kD)) := by rw [hasD_look, valV_any]; exact hk
  unfold putK putD
  rw [h1]
  split
  · exact r.repl hv
  · exact r.snoc hv
theorem StOk.writeD {K : PySem.W.Frag} {B F0 F H : Hp} {ρ : List Sl} {σ : HSt} (h : StOk K B F0 F ρ σ H) {i : Nat} {ds es : List (D × D)} {p : Addr} {ws : List (Key × V)} (hi : sg ρ i = .od ds) (hσ : σ[i]? = some (some (.ref p))) (r : RpK F ws es) : StOk K B F0 F (ρ.set i (.od es)) σ (upd H p (.dK ws)) := by
  obtain ⟨p', vs, h1, h2, h3, h4, h5⟩ := h.ownD hi
  rw [hσ] at h1
  cases h1
  exact h.write (sg_some hi (fun z => nomatch z)) rfl hσ ⟨p, ws, rfl, h4, h5, upd_same, r⟩
theorem StOk.writeT {K : PySem.W.Frag} {B F0 F H : Hp} {ρ : List Sl} {σ : HSt} (h : StOk K B F0 F ρ σ H) {i : Nat} {ds es : List (D × D)} {p : Addr} {ws : List (List Key × V)} (hi : sg ρ i = .ot ds) (hσ : σ[i]? = some (some (.ref p))) (r : RpT F ws es) : StOk K B F0 F (ρ.set i (.ot es)) σ (upd H p (.dT ws)) := by
  obtain ⟨p', vs, h1, h2, h3, h4, h5⟩ := h.ownT hi
  rw [hσ] at h1
  cases h1
  exact h.write (sg_some hi (fun z => nomatch z)) rfl hσ ⟨p, ws, rfl, h4, h5, upd_same, r⟩
/-- d[k] = e -/
def dDPut (i : Nat) (fk f : DE) : DS := fun DD ρ => f ρ fun d ρ1 => match sg ρ1 i with
  | .od _ => fk ρ1 fun k ρ2 => match sg ρ2 i with
    | .od kvs => isK k ∧ kvs.length < sizeLine ∧ DD.nx (ρ2.set i (.od (putD kvs k d)))
    | _ => False
  | .ot _ => fk ρ1 fun k ρ2 => match sg ρ2 i with
    | .ot kvs => isTK k ∧ kvs.length < sizeLine ∧ DD.nx (ρ2.set i (.ot (putD kvs k d)))
    | _ => False
  | _ => False
theorem s_dput {i : Nat} {tpos : Pos} (hu : X.A.units + 1 < cLine) (hv : PE X a (tVar i)) (hk : DX X B0 b fb) (he : DX X B0 e fa) (hs : swapsWith e (some (.Subscript a b tpos)) pos.line X.env = pure false := by rfl) : DXs X B0 (.Assign [.Subscript a b tpos] e pos) (dDPut i fb fa) where
  run B F0 hB := ps_imp (ps_dput hu hv (hk.run B F0 hB) (he.run B F0 hB) hs) fun E σ H ⟨F, ρ, DD, ok, en, q⟩ => ⟨F, ρ, ok, he.mono _ _ _ (fun d ρ1 q1 v F1 H1 ok1 s1 r1 => by
    split at q1
    · rename_i ds0 hi0
      obtain ⟨p0, vs0, h10, h20, _⟩ := ok1.ownD hi0
      refine ⟨_, h10, F1, ρ1, ok1, hk.mono _ _ _ (fun kd ρ2 q2 kv F2 H2 ok2 s2 r2 => ?_) q1⟩
      split at q2
      · rename_i ds hi
        obtain ⟨p, vs, h1, h2, h3, _⟩ := ok2.ownD hi
        obtain ⟨⟨k, rfl⟩, hl, q2⟩ := q2
        rw [h10] at h1
        cases h1
        have e1 := rp_kD r2
        subst e1
        exact ⟨p0, _, rfl, DPut.k h2 (by rw [rpk_len h3]; exact hl), en.nx _ _ _ _ (ok2.writeD hi h10 (h3.put (r1.mono s2))) q2⟩
      · exact q2.elim
    · rename_i ds0 hi0
      obtain ⟨p0, vs0, h10, h20, _⟩ := ok1.ownT hi0
      refine ⟨_, h10, F1, ρ1, ok1, hk.mono _ _ _ (fun kd ρ2 q2 kv F2 H2 ok2 s2 r2 => ?_) q1⟩
      split at q2
      · rename_i ds hi
        obtain ⟨p, vs, h1, h2, h3, h4, h5⟩ := ok2.ownT hi
        obtain ⟨⟨k, rfl⟩, hl, q2⟩ := q2
        rw [h10] at h1
        cases h1
        cases r2 with
        | tup hb rb =>
          rw [rpa_kD rb] at hb
          exact ⟨p0, _, rfl, DPut.t h2 (ok2.st _ _ hb) (by rw [rpt_len h3]; exact hl), en.nx _ _ _ _ (ok2.writeT hi h10 (h3.put (r1.mono s2))) q2⟩
      · exact q2.elim
    · exact q1.elim) q⟩
  mono a b ρ l q := he.mono _ _ _ (fun d ρ1 q1 => by
    split at q1
    · refine hk.mono _ _ _ (fun kd ρ2 q2 => ?_) q1
      split at q2
      · exact ⟨q2.1, q2.2.1, l.nx _ q2.2.2⟩
      · exact q2
    · refine hk.mono _ _ _ (fun kd ρ2 q2 => ?_) q1
      split at q2
      · exact ⟨q2.1, q2.2.1, l.nx _ q2.2.2⟩
      · exact q2
    · exact q1) q
/-- d[k], d one's own -/
def dDGetV (i : Nat) (fk : DE) : DE := fun ρ Q => match sg ρ i with
  | .od _ => fk ρ fun k ρ' => match sg ρ' i with
    | .od kvs => ∃ v, lookD kvs k = some v ∧ Q v ρ'
    | _ => False
  | .ot _ => fk ρ fun k ρ' => match sg ρ' i with
    | .ot kvs => ∃ v, lookD kvs k = some v ∧ Q v ρ'
    | _ => False
  | .va d => fk ρ fun k ρ' => match d with
    | .dict kvs => ∃ v, lookD kvs k = some v ∧ Q v ρ'
    | _ => False
  | _ => False
theorem x_dgetV {i : Nat} (hu : X.A.units + 1 < cLine) (hv : PE X a (tVar i)) (hb : DX X B0 b fb) (hs : NoSl b) : DX X B0 (.Subscript a b pos) (dDGetV i fb) where
  run B F0 hB := pe_imp (pe_dget hu hv (hb.run B F0 hB) hs) fun σ H Q ⟨F, ρ, ok, q⟩ => by
    unfold dDGetV at q
    split at q
    · rename_i ds0 hi0
      obtain ⟨p0, vs0, h10, _⟩ := ok.ownD hi0
      refine ⟨_, h10, F, ρ, ok, hb.mono _ _ _ (fun d ρ' q' v F' H' ok' s' r => ?_) q⟩
      split at q'
      · rename_i ds hi
        obtain ⟨p, vs, h1, h2, h3, _⟩ := ok'.ownD hi
        obtain ⟨x, hx, q'⟩ := q'
        rw [h10] at h1
        cases h1
        obtain ⟨y, gy, ry⟩ := DGet.rK ok'.st (.inl h2) h3 r hx
        exact ⟨p0, y, rfl, gy, q' _ F' H' ok' s' ry⟩
      · exact q'.elim
    · rename_i ds0 hi0
      obtain ⟨p0, vs0, h10, _⟩ := ok.ownT hi0
      refine ⟨_, h10, F, ρ, ok, hb.mono _ _ _ (fun d ρ' q' v F' H' ok' s' r => ?_) q⟩
      split at q'
      · rename_i ds hi
        obtain ⟨p, vs, h1, h2, h3, _⟩ := ok'.ownT hi
        obtain ⟨x, hx, q'⟩ := q'
        rw [h10] at h1
        cases h1
        obtain ⟨y, gy, ry⟩ := DGet.rT ok'.st (.inl h2) h3 r hx
        exact ⟨p0, y, rfl, gy, q' _ F' H' ok' s' ry⟩
      · exact q'.elim
    · rename_i d0 hi0
      obtain ⟨x0, h10, r0⟩ := ok.val (sg_some hi0 (fun z => nomatch z))
      refine ⟨_, h10, F, ρ, ok, hb.mono _ _ _ (fun d ρ' q' v F' H' ok' s' r => ?_) q⟩
      split at q'
      · obtain ⟨x, hx, q'⟩ := q'
        cases r0 with
        | dic h1 h2 =>
          obtain ⟨y, gy, ry⟩ := DGet.rK ok'.st (.inr ⟨_, ok'.st _ _ (s' _ _ h1)⟩) (h2.mono s') r hx
          exact ⟨_, y, rfl, gy, q' _ F' H' ok' s' ry⟩
        | dicT h1 h2 =>
          obtain ⟨y, gy, ry⟩ := DGet.rT ok'.st (.inr ⟨_, ok'.st _ _ (s' _ _ h1)⟩) (h2.mono s') r hx
          exact ⟨_, y, rfl, gy, q' _ F' H' ok' s' ry⟩
      · exact q'.elim
    · exact q.elim
  mono ρ Q Q' hq q := by
    unfold dDGetV at q ⊢
    split at q
    · refine hb.mono _ _ _ (fun d ρ' q' => ?_) q
      split at q'
      · exact ⟨q'.choose, q'.choose_spec.1, hq _ _ q'.choose_spec.2⟩
      · exact q'
    · refine hb.mono _ _ _ (fun d ρ' q' => ?_) q
      split at q'
      · exact ⟨q'.choose, q'.choose_spec.1, hq _ _ q'.choose_spec.2⟩
      · exact q'
    · refine hb.mono _ _ _ (fun d ρ' q' => ?_) q
      split at q'
      · exact ⟨q'.choose, q'.choose_spec.1, hq _ _ q'.choose_spec.2⟩
      · exact q'
    · exact q
def KeyFor (kvs : List (D × D)) (k : D) : Prop := (isK k ∧ (kvs = [] ∨ ∃ kv r, kvs = kv :: r ∧ isK kv.1)) ∨ (isTK k ∧ ∃ kv r, kvs = kv :: r ∧ isTK kv.1)
theorem kd_ne {k : Key} {ks : List Key} (h : kD k = .tuple (ks.map kD)) : False := by
  cases k <;> simp [kD] at h
theorem KeyFor.k {F : Hp} {kvs : List (Key × V)} {ds : List (D × D)} {k : D} (h : KeyFor ds k) (r : RpK F kvs ds) : isK k := by
  rcases h with ⟨z, _⟩ | ⟨_, kv, t, e, ks, z⟩
  · exact z
  · subst e
    cases r
    exact (kd_ne z).elim
theorem KeyFor.t {F : Hp} {kvs : List (List Key × V)} {ds : List (D × D)} {k : D} (hn : ds ≠ []) (h : KeyFor ds k) (r : RpT F kvs ds) : isTK k := by
  rcases h with ⟨_, e | ⟨kv, t, e, ks, z⟩⟩ | ⟨z, _⟩
  · exact absurd e hn
  · subst e
    cases r
    exact (kd_ne z.symm).elim
  · exact z
/-- k in d, k not in d; d one's own -/
def dDInV (neg : Bool) (fk : DE) (i : Nat) : DE := fun ρ Q => fk ρ fun k ρ' => match sg ρ' i with
  | .od kvs => isK k ∧ Q (.bool (if neg then !hasD kvs k else hasD kvs k)) ρ'
  | .ot kvs => isTK k ∧ Q (.bool (if neg then !hasD kvs k else hasD kvs k)) ρ'
  | .va d => match d with
    | .dict kvs => KeyFor kvs k ∧ Q (.bool (if neg then !hasD kvs k else hasD kvs k)) ρ'
    | _ => False
  | _ => False
theorem dDInV_mono {neg : Bool} {i : Nat} (hb : DMono fb) : DMono (dDInV neg fb i) := fun ρ Q Q' hq q => hb _ _ _ (fun d ρ' q' => by
  split at q'
  · exact ⟨q'.1, hq _ _ q'.2⟩
  · exact ⟨q'.1, hq _ _ q'.2⟩
  · split at q'
    · exact ⟨q'.1, hq _ _ q'.2⟩
    · exact q'
  · exact q') q
theorem DGet.hK {F H : Hp} {a : Addr} {kvs : List (Key × V)} {ds : List (D × D)} {y : V} {dy : D} (s : Same F H) (e : Rd H a (.dK kvs)) (r : RpK F kvs ds) (ry : Rp F y dy) (h : isK dy) : ∃ o, DGet H a y o ∧ o.isSome = hasD ds dy := by
  obtain ⟨k, rfl⟩ := h
  exact ⟨_, .inl ⟨kvs, k, e, rp_kD ry, rfl⟩, by rw [hasD_look]; exact (r.look k).isSome⟩
theorem DGet.hT {F H : Hp} {a : Addr} {kvs : List (List Key × V)} {ds : List (D × D)} {y : V} {dy : D} (s : Same F H) (e : Rd H a (.dT kvs)) (r : RpT F kvs ds) (ry : Rp F y dy) (h : isTK dy) : ∃ o, DGet H a y o ∧ o.isSome = hasD ds dy := by
  obtain ⟨k, rfl⟩ := h
  cases ry with
  | tup hb rb =>
    rw [rpa_kD rb] at hb
    exact ⟨_, .inr ⟨kvs, k, _, e, rfl, s _ _ hb, rfl⟩, by rw [hasD_look]; exact (r.look k).isSome⟩
theorem lE_inV {neg : Bool} {i : Nat} {B F0 : Hp} (hb : DX X B0 b fb) {σ : HSt} {H : Hp} {Q : VK} (h : lE X.K B F0 (dDInV neg fb i) σ H Q) : lE X.K B F0 fb σ H fun y H1 => tVar i σ H1 fun x H2 => ∃ a o, x = .ref a ∧ DGet H2 a y o ∧ Q (.bl (if neg then !o.isSome else o.isSome)) H2 := by
  obtain ⟨F, ρ, ok, q⟩ := h
  refine ⟨F, ρ, ok, hb.mono _ _ _ (fun d ρ' q' v F' H' ok' s' r => ?_) q⟩
  split at q'
  · rename_i ds hi
    obtain ⟨p, vs, h1, h2, h3, _⟩ := ok'.ownD hi
    obtain ⟨o, go, eo⟩ := DGet.hK ok'.st (.inl h2) h3 r q'.1
    refine ⟨_, h1, p, o, rfl, go, ?_⟩
    rw [eo]
    exact q'.2 _ F' H' ok' s' (.bl _)
  · rename_i ds hi
    obtain ⟨p, vs, h1, h2, h3, _⟩ := ok'.ownT hi
    obtain ⟨o, go, eo⟩ := DGet.hT ok'.st (.inl h2) h3 r q'.1
    refine ⟨_, h1, p, o, rfl, go, ?_⟩
    rw [eo]
    exact q'.2 _ F' H' ok' s' (.bl _)
  · rename_i d0 hi
    obtain ⟨x0, h10, r0⟩ := ok'.val (sg_some hi (fun z => nomatch z))
    split at q'
    · cases r0 with
      | dic h1 h2 =>
        obtain ⟨o, go, eo⟩ := DGet.hK ok'.st (.inr ⟨_, ok'.st _ _ h1⟩) h2 r (q'.1.k h2)
        refine ⟨_, h10, _, o, rfl, go, ?_⟩
        rw [eo]
        exact q'.2 _ F' H' ok' s' (.bl _)
      | @dicT _ _ _ _ hn h1 h2 =>
        obtain ⟨o, go, eo⟩ := DGet.hT ok'.st (.inr ⟨_, ok'.st _ _ h1⟩) h2 r (KeyFor.t hn q'.1 h2)
        refine ⟨_, h10, _, o, rfl, go, ?_⟩
        rw [eo]
        exact q'.2 _ F' H' ok' s' (.bl _)
    · exact q'.elim
  · exact q'.elim
theorem x_inV {i : Nat} (hu : X.A.units + 1 < cLine) (hv : PE X a (tVar i)) (hb : DX X B0 b fb) (hm : behindInMarks .In a = false) : DX X B0 (.Compare b [.In] [a] pos) (dDInV false fb i) where
  run B F0 hB := pe_imp (pe_cmp (pc_din hu (hb.run B F0 hB) hv) hm) fun σ H Q h => lE_inV hb h
  mono := dDInV_mono hb.mono
theorem x_notInV {i : Nat} (hu : X.A.units + 1 < cLine) (hv : PE X a (tVar i)) (hb : DX X B0 b fb) (hm : behindInMarks .NotIn a = false) : DX X B0 (.Compare b [.NotIn] [a] pos) (dDInV true fb i) where
  run B F0 hB := pe_imp (pe_cmp (pc_dnotin hu (hb.run B F0 hB) hv) hm) fun σ H Q h => lE_inV hb h
  mono := dDInV_mono hb.mono
theorem t_inV {i : Nat} (hu : X.A.units + 1 < cLine) (hv : PE X a (tVar i)) (hb : DX X B0 b fb) (hm : behindInMarks .In a = false) : DXt X B0 (.Compare b [.In] [a] pos) (dTest (dDInV false fb i)) where
  run B F0 hB := pt_imp (pt_cmp (pc_din hu (hb.run B F0 hB) hv) hm) fun σ H Q h => lE_inV hb (lT_test (dDInV_mono hb.mono) h)
  mono := dTest_mono (dDInV_mono hb.mono)
theorem t_notInV {i : Nat} (hu : X.A.units + 1 < cLine) (hv : PE X a (tVar i)) (hb : DX X B0 b fb) (hm : behindInMarks .NotIn a = false) : DXt X B0 (.Compare b [.NotIn] [a] pos) (dTest (dDInV true fb i)) where
  run B F0 hB := pt_imp (pt_cmp (pc_dnotin hu (hb.run B F0 hB) hv) hm) fun σ H Q h => lE_inV hb (lT_test (dDInV_mono hb.mono) h)
  mono := dTest_mono (dDInV_mono hb.mono)
/-! ### dicts of one's own, made -/
abbrev DOd := List Sl → (List (D × D) → List Sl → Prop) → Prop
def DdMono (f : DOd) : Prop := ∀ ρ (Q Q' : List (D × D) → List Sl → Prop), (∀ d ρ', Q d ρ' → Q' d ρ') → f ρ Q → f ρ Q'
def lOd (K : PySem.W.Frag) (B F0 : Hp) (f : DOd) : TE := fun σ H Q => ∃ F ρ, StOk K B F0 F ρ σ H ∧ f ρ fun ds ρ' => ∀ p vs F' H', StOk K B F0 F' ρ' σ H' → Same F F' → OwnL B F' ρ' σ H' p (.dK vs) → RpK F' vs ds → Q (.ref p) H'
structure DXd (X : Cx) (B0 : Hp) (e : Expr) (f : DOd) : Prop where
  run : ∀ B F0, Same B0 B → PE X e (lOd X.K B F0 f)
  mono : DdMono f
def dDEmpty : DOd := fun ρ Q => Q [] ρ
theorem d_new : DXd X B0 (.Dict [] [] pos) dDEmpty where
  run B F0 hB := pe_imp pe_dnewK fun σ H Q ⟨F, ρ, ok, q⟩ p hp => q p [] F _ (ok.newOwn hp _).1 (Same.refl _) (ok.newOwn hp _).2 .nil
  mono ρ Q Q' hq q := hq _ _ q
/-- {k: v} -/
def dDOne (fk fv : DE) : DOd := fun ρ Q => fk ρ fun k ρ1 => fv ρ1 fun v ρ2 => isK k ∧ Q [(k, v)] ρ2
theorem d_one (hk : DX X B0 a fa) (hv : DX X B0 b fb) : DXd X B0 (.Dict [some a] [b] pos) (dDOne fa fb) where
  run B F0 hB := pe_imp (pe_disp (trs := [(lEx X.K B0 fa, lEx X.K B0 fb)]) (pps_cons hk.ex hv.ex pps_nil) rfl rfl (by simp) (by simp)) fun σ H Q ⟨F, ρ, ok, q⟩ p hp => by
    obtain ⟨ok0, w0⟩ := ok.newOwn hp (.dK [])
    have hB0 : Same B0 (upd B p (.dK [])) := fun x u e => by
      rw [upd_ne (ne_of_none (hB _ _ e) w0.hb)]
      exact hB _ _ e
    refine ⟨upd B p (.dK []), F, hB0, F, ρ, ok0.toBg w0, hk.mono _ _ _ (fun k ρ1 q1 x F1 H1 ok1 s1 r1 => ⟨upd B p (.dK []), F, hB0, F1, ρ1, ok1, hv.mono _ _ _ (fun v ρ2 q2 y F2 H2 ok2 s2 r2 => ?_) q1⟩) q⟩
    obtain ⟨⟨j, rfl⟩, q2⟩ := q2
    obtain ⟨ok3, w3⟩ := ok2.ofBg w0.hf w0.hb (fun _ z => nomatch z) ok0.up ok0.nw
    have ex := rp_kD r1
    subst ex
    refine ⟨w3.hp, [(j, y)], rfl, by simp, ?_⟩
    have ok4 : StOk X.K B F0 F2 ρ2 σ (upd H2 p (.dK [(j, y)])) := by
      have := ok3.gw (H' := H2) (Gw.refl ok3.st)
      exact {
        bg := fun x u e => by
          rw [upd_ne (ne_of_none e w3.hb)]
          exact ok3.bg _ _ e
        up := ok3.up
        st := fun x u e => by
          rw [upd_ne (ne_of_none e w3.hf)]
          exact ok3.st _ _ e
        nw := ok3.nw
        len := ok3.len
        sl := fun i s o g1 g2 => by
          have z := ok3.sl i s o g1 g2
          have ne : ∀ x : Addr, s.own = true → o = some (.ref x) → x ≠ p := fun x ho hx e => by
            subst e
            subst hx
            exact w3.ha i s g1 ho g2
          cases s with
          | no => trivial
          | va d => exact z
          | raw v => exact z
          | scr ns => exact z
          | ow ds =>
            obtain ⟨x, vs, z1, z2, z3, z4, z5⟩ := z
            exact ⟨x, vs, z1, z2, z3, by rw [upd_ne (ne x rfl z1)]; exact z4, z5⟩
          | od ds =>
            obtain ⟨x, vs, z1, z2, z3, z4, z5⟩ := z
            exact ⟨x, vs, z1, z2, z3, by rw [upd_ne (ne x rfl z1)]; exact z4, z5⟩
          | ot ds =>
            obtain ⟨x, vs, z1, z2, z3, z4, z5⟩ := z
            exact ⟨x, vs, z1, z2, z3, by rw [upd_ne (ne x rfl z1)]; exact z4, z5⟩
          | src x =>
            obtain ⟨z1, z2, z3, c, t, w, z4, z5⟩ := z
            exact ⟨z1, z2, z3, c, t, w, by rw [upd_ne (ne x rfl z1)]; exact z4, z5⟩
        ap := ok3.ap }
    exact q2 p [(j, y)] F2 _ ok4 (s1.trans s2) ⟨upd_same, w3.hb, w3.hf, w3.ha⟩ (.cons r2 .nil)
  mono ρ Q Q' hq q := hk.mono _ _ _ (fun k ρ1 q1 => hv.mono _ _ _ (fun v ρ2 q2 => ⟨q2.1, hq _ _ q2.2⟩) q1) q
def dOwnD (i : Nat) (f : DOd) : DS := fun DD ρ => f ρ fun ds ρ' => DD.nx (ρ'.set i (.od ds))
theorem s_ownD {i : Nat} {x : Str} {pos' : Pos} {fo : DOd} (hN : X.N.Nodup) (hi : X.N[i]? = some x) (hx : Loc X.env.scope x) (he : DXd X B0 e fo) (hs : swapsWith e (some (.Name x pos')) pos.line X.env = pure false := by rfl) (hf : X.fn x = true ∨ X.env.scope.names.lookup x = some .local := by first | exact .inl rfl | exact .inr rfl | assumption) :
    DXs X B0 (.Assign [.Name x pos'] e pos) (dOwnD i fo) where
  run B F0 hB := ps_imp (ps_set hN hi hx (he.run B F0 hB) hs hf) fun E σ H ⟨F, ρ, DD, ok, en, q⟩ => ⟨F, ρ, ok, he.mono _ _ _ (fun ds ρ' q' p vs F' H' ok' _ w r => en.nx _ _ _ _ (ok'.takeOd w r) q') q⟩
  mono a b ρ l q := he.mono _ _ _ (fun d ρ' q' => l.nx _ q') q
/-- a, b = e, {..} -/
def dParED (i j : Nat) (f : DE) (g : DOd) : DS := fun DD ρ => f ρ fun d ρ1 => g ρ1 fun ds ρ2 => DD.nx ((ρ2.set i (.va d)).set j (.od ds))
theorem s_parED {i j : Nat} {x y : Str} {px py pt : Pos} {kt k2 pt2} {fo : DOd} (hc : X.calm = true) (hN : X.N.Nodup) (hi : X.N[i]? = some x) (hj : X.N[j]? = some y) (hij : i ≠ j)
    (hx : X.env.scope.names.lookup x = some .local) (hy : X.env.scope.names.lookup y = some .local) (ha : DX X B0 a fa) (hb : DXd X B0 b fo) (hsa : starEach [a, b] X.env = (false, eval a X.env) :: starEach [b] X.env := by rfl) (hsb : starEach [b] X.env = (false, eval b X.env) :: starEach [] X.env := by rfl) (hw : swappedStores [.Tuple [.Name x px, .Name y py] kt pt] (.Tuple [a, b] k2 pt2) X.env = pure (some [x, y]) := by rfl)
    (hs : swapsWithSole [.Tuple [.Name x px, .Name y py] kt pt] (.Tuple [a, b] k2 pt2) pos.line X.env = pure false := by rfl) : DXs X B0 (.Assign [.Tuple [.Name x px, .Name y py] kt pt] (.Tuple [a, b] k2 pt2) pos) (dParED i j fa fo) where
  run B F0 hB := ps_imp (ps_par hc hN hi hj hij hx hy (pa_cons (ha.run B F0 hB) (pa_cons (hb.run B F0 hB) pa_nil hsb) hsa) hw hs) fun E σ H ⟨F, ρ, DD, ok, en, q⟩ => ⟨F, ρ, ok, ha.mono _ _ _ (fun d ρ1 q1 v F1 H1 ok1 s1 r1 => ⟨F1, ρ1, ok1, hb.mono _ _ _ (fun ds ρ2 q2 p vs F2 H2 ok2 s2 w r2 =>
    ⟨_, _, rfl, en.nx _ _ _ _ ((ok2.setVa (r1.mono s2)).takeOd (own_set w (fun z => nomatch z)) r2) q2⟩) q1⟩) q⟩
  mono a b ρ l q := ha.mono _ _ _ (fun d ρ' q' => hb.mono _ _ _ (fun ds ρ2 q2 => l.nx _ q2) q') q
end
end DL

namespace DL
open PySem PySem.Spec PyProof.Rows L2

/-! ### operators by data -/
section
variable {X : Cx}
theorem post_new {F H : Hp} {Q : VK} {d : D} {o : HO} (s : Same F H) (h : Post F H Q d) (r : ∀ p, Same F (upd F p o) → Rp (upd F p o) (.ref p) d) : ∀ p, H p = none → Q (.ref p) (upd H p o) := fun p hp =>
  h _ _ _ (Gw.new s hp o) (r p (Gw.new s hp o).ff)
theorem post_here {F H : Hp} {Q : VK} {d : D} {v : V} (s : Same F H) (h : Post F H Q d) (r : Rp F v d) : Q v H := h v F H (Gw.refl s) r
def gAdd : G2 := fun x y P => match x, y with
  | .int i, .int j => P (.int (i + j))
  | .str a, .str b => a.length + b.length ≤ sizeLine ∧ P (.str (a ++ b))
  | .tuple xs, .tuple ys => xs.length + ys.length ≤ sizeLine ∧ P (.tuple (xs ++ ys))
  | .list xs, .list ys => xs.length + ys.length ≤ sizeLine ∧ P (.list (xs ++ ys))
  | _, _ => False
theorem o_add : Op2 X (binaryOp .Add) gAdd where
  run := by
    rintro pins s σ H x y v u Q I rv ru ⟨F, dx, dy, st, rx, ry, q⟩
    cases rx <;> cases ry <;> try exact q.elim
    · exact op_add pins s σ H _ _ v u Q I rv ru ⟨_, _, rfl, rfl, post_here st q (.int _)⟩
    · exact op_add_str pins s σ H _ _ v u Q I rv ru ⟨_, _, rfl, rfl, q.1, post_here st q.2 (.str _)⟩
    · rename_i a xs ds h1 r1 b ys es h2 r2
      exact op_cat pins s σ H _ _ v u Q I rv ru ⟨_, _, _, _, rfl, rfl, st _ _ h1, st _ _ h2, by rw [r1.len, r2.len]; exact q.1, post_new st q.2 fun p s' => .lst upd_same ((r1.app r2).mono s')⟩
    · rename_i a xs ds h1 r1 b ys es h2 r2
      refine op_catA pins s σ H _ _ v u Q I rv ru ⟨_, _, _, _, rfl, rfl, .of (st _ _ h1), .of (st _ _ h2), by rw [r1.len, r2.len]; exact q.1, fun e => ?_, fun _ e => ?_, fun _ _ => post_new st q.2 fun p s' => .tup upd_same ((r1.app r2).mono s')⟩
      · subst e
        cases r1
        exact post_here st q.2 (.tup h2 r2)
      · subst e
        cases r2
        have q2 := q.2
        rw [List.append_nil] at q2
        exact post_here st q2 (.tup h1 r1)
  mono x y P P' h q := by
    unfold gAdd at q ⊢
    split at q
    · exact h _ q
    · exact ⟨q.1, h _ q.2⟩
    · exact ⟨q.1, h _ q.2⟩
    · exact ⟨q.1, h _ q.2⟩
    · exact q.elim
/-- an operator on two ints -/
def gI2 (C : Int → Int → Prop) (g : Int → Int → D) : G2 := fun x y P => asI x fun i => asI y fun j => C i j ∧ P (g i j)
theorem op_I2 {f : Value → Value → Sem Value} {C : Int → Int → Prop} {g : Int → Int → V} {gd : Int → Int → D} (h : OpR X f (rI C g)) (r : ∀ i j F, Rp F (g i j) (gd i j)) : Op2 X f (gI2 C gd) where
  run := by
    rintro pins s σ H x y v u Q I rv ru ⟨F, dx, dy, st, rx, ry, q⟩
    obtain ⟨i, rfl, rfl, q⟩ := asI_rp rx q
    obtain ⟨j, rfl, rfl, q⟩ := asI_rp ry q
    exact h pins s σ H _ _ v u Q I rv ru ⟨i, j, rfl, rfl, q.1, post_here st q.2 (r i j F)⟩
  mono x y P P' h q := asI_mono (fun i q => asI_mono (fun j q => ⟨q.1, h _ q.2⟩) q) q
theorem opr_I0 {f : Value → Value → Sem Value} {g : Int → Int → V} (h : OpR X f (rI0 g)) : OpR X f (rI (fun _ _ => True) g) := fun pins s σ H x y v u Q I rv ru ⟨i, j, a, b, _, q⟩ => h pins s σ H x y v u Q I rv ru ⟨i, j, a, b, q⟩
abbrev gSub : G2 := gI2 (fun _ _ => True) fun i j => .int (i - j)
abbrev gMod : G2 := gI2 (fun _ j => 0 < j) fun i j => .int (i % j)
abbrev gDiv : G2 := gI2 CDiv fun i j => .int (i / j)
abbrev gPow : G2 := gI2 CPow fun i j => .int (i ^ j.toNat)
abbrev gLt : G2 := gI2 (fun _ _ => True) fun i j => .bool (decide (i < j))
abbrev gLe : G2 := gI2 (fun _ _ => True) fun i j => .bool (decide (i ≤ j))
abbrev gGt : G2 := gI2 (fun _ _ => True) fun i j => .bool (decide (j < i))
abbrev gGe : G2 := gI2 (fun _ _ => True) fun i j => .bool (decide (j ≤ i))
theorem o_sub : Op2 X (binaryOp .Sub) gSub := op_I2 (opr_I0 op_sub) fun _ _ _ => .int _
theorem o_mod : Op2 X (binaryOp .Mod) gMod := op_I2 op_mod fun _ _ _ => .int _
theorem o_div : Op2 X (binaryOp .FloorDiv) gDiv := op_I2 op_fdiv fun _ _ _ => .int _
theorem o_pow : Op2 X (binaryOp .Pow) gPow := op_I2 op_pow fun _ _ _ => .int _
theorem o_lt : Op2 X (compareOp .Lt) gLt := op_I2 (opr_I0 op_lt) fun _ _ _ => .bl _
theorem o_le : Op2 X (compareOp .LtE) gLe := op_I2 (opr_I0 op_le) fun _ _ _ => .bl _
theorem o_gt : Op2 X (compareOp .Gt) gGt := op_I2 (opr_I0 op_gt) fun _ _ _ => .bl _
theorem o_ge : Op2 X (compareOp .GtE) gGe := op_I2 (opr_I0 op_ge) fun _ _ _ => .bl _
/-- int * int, tuple * int, list * int -/
def gMul : G2 := fun x y P => match x, y with
  | .int i, .int j => CMul i j ∧ P (.int (i * j))
  | .tuple xs, .int k => (-(2 ^ 62) ≤ k ∧ k ≤ 1000 ∧ xs.length ≤ 1000) ∧ P (.tuple (List.replicate k.toNat xs).flatten)
  | .list xs, .int k => (-(2 ^ 63) ≤ k ∧ k < 2 ^ 63 ∧ xs.length * k.toNat ≤ sizeLine) ∧ P (.list (List.replicate k.toNat xs).flatten)
  | .str z, .int k => (-(2 ^ 62) ≤ k ∧ k ≤ 1000 ∧ z.length ≤ 1000) ∧ P (.str (Txt.mul z k))
  | _, _ => False
theorem mulOk_small {z : Str} {k : Int} (h : -(2 ^ 62) ≤ k ∧ k ≤ 1000 ∧ z.length ≤ 1000) : MulOk z k := by
  obtain ⟨h1, h2, h3⟩ := h
  refine ⟨by rw [decide_eq_false (by omega), decide_eq_false (by omega)]; rfl, fun hk _ => ?_, fun hk _ => ?_⟩
  · have e1 : (1000 : Int) ≤ (2 ^ 63 - 1) / k := by
      rw [Int.le_ediv_iff_mul_le (by omega)]
      omega
    omega
  · have e2 : z.length * k.toNat ≤ 1000 * 1000 := Nat.mul_le_mul h3 (by omega)
    exact decide_eq_false (by
      have : (1000000 : Nat) ≤ sizeLine := by decide
      omega)
theorem o_mul : Op2 X (binaryOp .Mult) gMul where
  run := by
    rintro pins s σ H x y v u Q I rv ru ⟨F, dx, dy, st, rx, ry, q⟩
    cases rx <;> cases ry <;> try exact q.elim
    · exact op_mul pins s σ H _ _ v u Q I rv ru ⟨_, _, rfl, rfl, q.1, post_here st q.2 (.int _)⟩
    · rename_i z k
      obtain ⟨t, rfl⟩ := rv
      obtain ⟨t2, rfl⟩ := ru
      exact SB.mul (mulOk_small q.1) fun t' kk => ⟨.str _, H, I.tok kk, ⟨t', rfl⟩, post_here st q.2 (.str _)⟩
    · rename_i a xs ds h1 r1 k
      exact op_rep pins s σ H _ _ v u Q I rv ru ⟨_, k, _, rfl, rfl, st _ _ h1, q.1.1, q.1.2.1, by rw [r1.len]; exact q.1.2.2, post_new st q.2 fun p s' => .lst upd_same ((r1.rep _).mono s')⟩
    · rename_i a xs ds h1 r1 k
      refine DLs.op_repA pins s σ H _ _ v u Q I rv ru ⟨_, k, _, rfl, rfl, .of (st _ _ h1), q.1.1, q.1.2.1, by rw [r1.len]; exact q.1.2.2, fun e => ?_, fun _ => post_new st q.2 fun p s' => .tup upd_same ((r1.rep _).mono s')⟩
      have e2 : (List.replicate k.toNat ds).flatten = ds := by
        rcases e with e | e
        · have : ds = [] := by
            subst e
            cases r1
            rfl
          subst this
          induction k.toNat with
          | zero => rfl
          | succ n ih => rw [List.replicate_succ, List.flatten_cons, ih]
            <;> rfl
        · subst e
          show (List.replicate 1 ds).flatten = ds
          simp
      have q2 := q.2
      rw [e2] at q2
      exact post_here st q2 (.tup h1 r1)
  mono x y P P' h q := by
    unfold gMul at q ⊢
    split at q
    · exact ⟨q.1, h _ q.2⟩
    · exact ⟨q.1, h _ q.2⟩
    · exact ⟨q.1, h _ q.2⟩
    · exact ⟨q.1, h _ q.2⟩
    · exact q.elim
def gNeg : G1 := fun x P => asI x fun i => P (.int (-i))
theorem o_neg : Op1 X (unaryOp .USub) gNeg where
  run := by
    rintro pins s σ H x v Q I rv ⟨F, dx, st, rx, q⟩
    obtain ⟨i, rfl, rfl, q⟩ := asI_rp rx q
    exact un_neg pins s σ H _ v Q I rv ⟨i, rfl, post_here st q (.int _)⟩
  mono x P P' h q := asI_mono (fun i q => h _ q) q

/-! ### == -/
mutual
theorem Rp.dp {K : PySem.W.Frag} {F H : Hp} (s : Same F H) : ∀ {v : V} {d : D}, Rp F v d → d.canLay0 = true → Dp K H v d
  | _, _, .non, _ => .non
  | _, _, .bl b, _ => .bl b
  | _, _, .int i, _ => .int i
  | _, _, .str x, _ => .str x
  | _, _, .lst h r, c => .lst (.of (s _ _ h)) (RpA.dp s r (by simpa [PyData.canLay0] using c))
  | _, _, .tup h r, c => .tup (.of (s _ _ h)) (RpA.dp s r (by simpa [PyData.canLay0] using c))
  | _, _, .dic _ _, c => by simp [PyData.canLay0] at c
  | _, _, .dicT _ _, c => by simp [PyData.canLay0] at c
theorem RpA.dp {K : PySem.W.Frag} {F H : Hp} (s : Same F H) : ∀ {v : List V} {d : List D}, RpA F v d → PyData.canLayAll0 d = true → DpAll K H v d
  | _, _, .nil, _ => .nil
  | _, _, .cons h r, c => by
    have c' := Bool.and_eq_true_iff.mp (show (PyData.canLay0 _ && PyData.canLayAll0 _) = true by simpa [PyData.canLayAll0] using c)
    exact .cons (Rp.dp s h c'.1) (RpA.dp s r c'.2)
end
/-- flat data that are told apart without a look within -/
def scalD : D → D → Bool
  | .none, .none => true | .none, .int _ => true | .int _, .none => true | .none, .bool _ => true | .bool _, .none => true | .none, .str _ => true | .str _, .none => true
  | .int _, .int _ => true | .bool _, .bool _ => true | .str _, .str _ => true
  | .int _, .str _ => true | .str _, .int _ => true | .bool _, .str _ => true | .str _, .bool _ => true
  | _, _ => false
def eqOk (x y : D) : Bool := scalD x y || (SeqAt.shaped x && SeqAt.shaped y)
def gEq : G2 := fun x y P => eqOk x y = true ∧ P (.bool (PyData.eqv x y))
def gNe : G2 := fun x y P => eqOk x y = true ∧ P (.bool (!PyData.eqv x y))
theorem scal_eq {F : Hp} {x y : V} {dx dy : D} (rx : Rp F x dx) (ry : Rp F y dy) (h : scalD dx dy = true) : scal x y = true ∧ decide (x = y) = PyData.eqv dx dy := by
  cases rx <;> cases ry <;> first
    | (cases h; done)
    | (refine ⟨rfl, ?_⟩; rw [dec_int]; simp only [PyData.eqv])
    | (refine ⟨rfl, ?_⟩; rw [dec_bl]; simp only [PyData.eqv])
    | (refine ⟨rfl, ?_⟩; rw [dec_str]; simp only [PyData.eqv])
    | (refine ⟨rfl, ?_⟩; simp [PyData.eqv])
theorem o_eq (hu : X.A.units + 64 < cLine) : Op2 X (compareOp .Eq) gEq where
  run := by
    rintro pins s σ H x y v u Q I rv ru ⟨F, dx, dy, st, rx, ry, h, q⟩
    have q := post_here st q (.bl _)
    cases e : scalD dx dy with
    | true =>
      obtain ⟨h1, h2⟩ := scal_eq rx ry e
      exact op_eq pins s σ H _ _ v u Q I rv ru ⟨h1, by rw [h2]; exact q⟩
    | false =>
      unfold eqOk at h
      rw [e, Bool.false_or, Bool.and_eq_true] at h
      exact op_eqD hu pins s σ H _ _ v u Q I rv ru ⟨dx, dy, rx.dp st (SeqAt.canLay_of_shaped h.1), ry.dp st (SeqAt.canLay_of_shaped h.2), h.1, h.2, q⟩
  mono x y P P' h q := ⟨q.1, h _ q.2⟩
theorem o_ne (hu : X.A.units + 64 < cLine) : Op2 X (compareOp .NotEq) gNe where
  run := by
    rintro pins s σ H x y v u Q I rv ru ⟨F, dx, dy, st, rx, ry, h, q⟩
    have q := post_here st q (.bl _)
    cases e : scalD dx dy with
    | true =>
      obtain ⟨h1, h2⟩ := scal_eq rx ry e
      exact op_ne pins s σ H _ _ v u Q I rv ru ⟨h1, by rw [h2]; exact q⟩
    | false =>
      unfold eqOk at h
      rw [e, Bool.false_or, Bool.and_eq_true] at h
      exact op_neD hu pins s σ H _ _ v u Q I rv ru ⟨dx, dy, rx.dp st (SeqAt.canLay_of_shaped h.1), ry.dp st (SeqAt.canLay_of_shaped h.2), h.1, h.2, q⟩
  mono x y P P' h q := ⟨q.1, h _ q.2⟩
/-- is None -/
def isNon : D → Bool
  | .none => true
  | _ => false
def gIsN : G2 := fun x y P => y = .none ∧ P (.bool (isNon x))
def gNotN : G2 := fun x y P => y = .none ∧ P (.bool (!isNon x))
theorem isNon_rp {F : Hp} {x : V} {d : D} (r : Rp F x d) : decide (x = .non) = isNon d := by
  cases r <;> rfl
theorem o_isN : Op2 X (compareOp .Is) gIsN where
  run := by
    rintro pins s σ H x y v u Q I rv ru ⟨F, dx, dy, st, rx, ry, rfl, q⟩
    cases ry
    exact op_isN pins s σ H _ _ v u Q I rv ru ⟨rfl, by rw [isNon_rp rx]; exact post_here st q (.bl _)⟩
  mono x y P P' h q := ⟨q.1, h _ q.2⟩
theorem o_notN : Op2 X (compareOp .IsNot) gNotN where
  run := by
    rintro pins s σ H x y v u Q I rv ru ⟨F, dx, dy, st, rx, ry, rfl, q⟩
    cases ry
    exact op_notN pins s σ H _ _ v u Q I rv ru ⟨rfl, by rw [isNon_rp rx]; exact post_here st q (.bl _)⟩
  mono x y P P' h q := ⟨q.1, h _ q.2⟩
/-- is True, is not True, .. of bools -/
def gIsB : G2 := fun x y P => asB x fun a => asB y fun b => P (.bool (decide (a = b)))
def gNotB : G2 := fun x y P => asB x fun a => asB y fun b => P (.bool (!decide (a = b)))
theorem o_isB : Op2 X (compareOp .Is) gIsB where
  run := by
    rintro pins s σ H x y v u Q I rv ru ⟨F, dx, dy, st, rx, ry, q⟩
    obtain ⟨a, rfl, rfl, q⟩ := asB_rp rx q
    obtain ⟨b, rfl, rfl, q⟩ := asB_rp ry q
    exact op_isBl pins s σ H _ _ v u Q I rv ru ⟨a, b, rfl, rfl, post_here st q (.bl _)⟩
  mono x y P P' h q := asB_mono (fun i q => asB_mono (fun j q => h _ q) q) q
theorem o_notB : Op2 X (compareOp .IsNot) gNotB where
  run := by
    rintro pins s σ H x y v u Q I rv ru ⟨F, dx, dy, st, rx, ry, q⟩
    obtain ⟨a, rfl, rfl, q⟩ := asB_rp rx q
    obtain ⟨b, rfl, rfl, q⟩ := asB_rp ry q
    exact op_notBl pins s σ H _ _ v u Q I rv ru ⟨a, b, rfl, rfl, post_here st q (.bl _)⟩
  mono x y P P' h q := asB_mono (fun i q => asB_mono (fun j q => h _ q) q) q

/-! ### in -/
def flatD : D → Bool
  | .none => true
  | .bool _ => true
  | .int _ => true
  | .str _ => true
  | _ => false
/-- one sign in a text; a flat thing in a list or tuple of flat ones -/
def inP (neg : Bool) : G2 := fun x y P => match y with
  | .str z => match x with
    | .str a => ∃ c, a = ⟨#[c]⟩ ∧ P (.bool (if neg then !decide (c ∈ z.cps.toList) else decide (c ∈ z.cps.toList)))
    | _ => False
  | .list ys => (flatD x = true ∧ ys.all flatD = true) ∧ P (.bool (if neg then !(ys.any fun y => PyData.eqv y x) else ys.any fun y => PyData.eqv y x))
  | .tuple ys => (flatD x = true ∧ ys.all flatD = true) ∧ P (.bool (if neg then !(ys.any fun y => PyData.eqv y x) else ys.any fun y => PyData.eqv y x))
  | .dict kvs => KeyFor kvs x ∧ P (.bool (if neg then !hasD kvs x else hasD kvs x))
  | _ => False
theorem flat_rp {F : Hp} {x : V} {d : D} (r : Rp F x d) (h : flatD d = true) : flatV x = true := by
  cases r <;> first | rfl | cases h
theorem flat_rpa {F : Hp} : ∀ {xs : List V} {ds : List D}, RpA F xs ds → ds.all flatD = true → xs.all flatV = true
  | _, _, .nil, _ => rfl
  | _, _, .cons r t, h => by
    rw [List.all_cons, Bool.and_eq_true] at h ⊢
    exact ⟨flat_rp r h.1, flat_rpa t h.2⟩
theorem eqV_rp {F : Hp} {x y : V} {dx dy : D} (rx : Rp F x dx) (ry : Rp F y dy) (hx : flatD dx = true) (hy : flatD dy = true) : eqV x y = PyData.eqv dx dy := by
  cases rx <;> cases ry <;> first | rfl | cases hx | cases hy
theorem inV_rp {F : Hp} {x : V} {dx : D} (rx : Rp F x dx) (hx : flatD dx = true) : ∀ {xs : List V} {ds : List D}, RpA F xs ds → ds.all flatD = true → inV x xs = ds.any fun y => PyData.eqv y dx
  | _, _, .nil, _ => rfl
  | _, _, .cons r t, h => by
    rw [List.all_cons, Bool.and_eq_true] at h
    have ih := inV_rp rx hx t h.2
    unfold inV at ih ⊢
    rw [List.any_cons, List.any_cons, ih, eqV_rp r rx h.1 hx]
theorem in_run {neg : Bool} {op : CmpOp} (h1 : OpR X (compareOp op) (fun x y H Q => ∃ (c : Nat) (z : Str), x = .str ⟨#[c]⟩ ∧ y = .str z ∧ Q (.bl (if neg then !decide (c ∈ z.cps.toList) else decide (c ∈ z.cps.toList))) H)) (h2 : OpR X (compareOp op) (rIn X.K neg))
    (h3 : OpR X (compareOp op) (fun x y H Q => ∃ a o, y = .ref a ∧ DGet H a x o ∧ Q (.bl (if neg then !o.isSome else o.isSome)) H)) : Op2 X (compareOp op) (inP neg) where
  run := by
    rintro pins s σ H x y v u Q I rv ru ⟨F, dx, dy, st, rx, ry, q⟩
    cases ry with
    | non => exact q.elim
    | bl _ => exact q.elim
    | int _ => exact q.elim
    | str z =>
      cases rx with
      | str a =>
        obtain ⟨c, rfl, q⟩ := q
        exact h1 pins s σ H _ _ v u Q I rv ru ⟨c, z, rfl, rfl, post_here st q (.bl _)⟩
      | non => exact q.elim
      | bl _ => exact q.elim
      | int _ => exact q.elim
      | lst _ _ => exact q.elim
      | tup _ _ => exact q.elim
      | dic _ _ => exact q.elim
      | dicT _ _ => exact q.elim
    | lst h r =>
      refine h2 pins s σ H _ _ v u Q I rv ru ⟨_, _, rfl, .inl (.of (st _ _ h)), flat_rp rx q.1.1, flat_rpa r q.1.2, ?_⟩
      rw [inV_rp rx q.1.1 r q.1.2]
      exact post_here st q.2 (.bl _)
    | tup h r =>
      refine h2 pins s σ H _ _ v u Q I rv ru ⟨_, _, rfl, .inr (.of (st _ _ h)), flat_rp rx q.1.1, flat_rpa r q.1.2, ?_⟩
      rw [inV_rp rx q.1.1 r q.1.2]
      exact post_here st q.2 (.bl _)
    | dic h r =>
      obtain ⟨hk, q⟩ := q
      have hk2 : isK dx := by
        rcases hk with ⟨z, _⟩ | ⟨_, kv, t, e, ks, z⟩
        · exact z
        · subst e
          cases r
          exact (kd_ne z).elim
      obtain ⟨o, go, eo⟩ := DGet.hK st (.inr ⟨_, st _ _ h⟩) r rx hk2
      refine h3 pins s σ H _ _ v u Q I rv ru ⟨_, o, rfl, go, ?_⟩
      rw [eo]
      exact post_here st q (.bl _)
    | @dicT _ _ _ _ hn h r =>
      obtain ⟨hk, q⟩ := q
      have hk2 : isTK dx := KeyFor.t hn hk r
      obtain ⟨o, go, eo⟩ := DGet.hT st (.inr ⟨_, st _ _ h⟩) r rx hk2
      refine h3 pins s σ H _ _ v u Q I rv ru ⟨_, o, rfl, go, ?_⟩
      rw [eo]
      exact post_here st q (.bl _)
  mono x y P P' h q := by
    unfold inP at q ⊢
    split at q
    · split at q
      · exact ⟨q.choose, q.choose_spec.1, h _ q.choose_spec.2⟩
      · exact q
    · exact ⟨q.1, h _ q.2⟩
    · exact ⟨q.1, h _ q.2⟩
    · exact ⟨q.1, h _ q.2⟩
    · exact q
theorem op_in_dict (hu : X.A.units + 1 < cLine) : OpR X (compareOp .In) (fun x y H Q => ∃ a o, y = .ref a ∧ DGet H a x o ∧ Q (.bl (if false then !o.isSome else o.isSome)) H) := by
  rintro pins s σ H x y v u Q I rx ry ⟨a, o, rfl, g, q⟩
  cases ry
  exact d_in hu I g rx fun s3 I3 => ⟨.bl o.isSome, H, I3, rfl, q⟩
theorem op_notIn_dict (hu : X.A.units + 1 < cLine) : OpR X (compareOp .NotIn) (fun x y H Q => ∃ a o, y = .ref a ∧ DGet H a x o ∧ Q (.bl (if true then !o.isSome else o.isSome)) H) := by
  rintro pins s σ H x y v u Q I rx ry ⟨a, o, rfl, g, q⟩
  cases ry
  exact d_notIn hu I g rx fun s3 I3 => ⟨.bl (!o.isSome), H, I3, rfl, q⟩
theorem o_in (hu : X.A.units + 1 < cLine) : Op2 X (compareOp .In) (inP false) := in_run (neg := false) (by simpa using op_in_sign) op_in_seq (op_in_dict hu)
theorem o_notIn (hu : X.A.units + 1 < cLine) : Op2 X (compareOp .NotIn) (inP true) := in_run (neg := true) (by simpa using op_notIn_sign) op_notIn_seq (op_notIn_dict hu)

/-! ### subscripts -/
def gIdx : G2 := fun x y P => match x with
  | .list ds => asI y fun k => ∃ v, atI ds k = some v ∧ P v
  | .tuple ds => asI y fun k => ∃ v, atI ds k = some v ∧ P v
  | .str z => asI y fun k => z.length ≤ sizeLine ∧ ∃ c, atI z.cps.toList k = some c ∧ P (.str ⟨#[c]⟩)
  | .dict kvs => ∃ v, lookD kvs y = some v ∧ P v
  | _ => False
theorem o_idx (hu : X.A.units + 1 < cLine) : OpI X gIdx where
  run := by
    rintro val sl pins s σ H x y v u Q I rv ru ⟨F, dx, dy, st, rx, ry, q⟩ hs
    cases rx with
    | lst h r =>
      obtain ⟨k, rfl, rfl, d, hd, q⟩ := asI_rp ry q
      obtain ⟨w, hw, rw'⟩ := atI_rp r hd
      exact ix_list val sl pins s σ H _ _ v u Q I rv ru ⟨_, _, k, w, rfl, rfl, .of (st _ _ h), hw, post_here st q rw'⟩ hs
    | tup h r =>
      obtain ⟨k, rfl, rfl, d, hd, q⟩ := asI_rp ry q
      obtain ⟨w, hw, rw'⟩ := atI_rp r hd
      exact ix_tup val sl pins s σ H _ _ v u Q I rv ru ⟨_, _, k, w, rfl, rfl, .of (st _ _ h), hw, post_here st q rw'⟩ hs
    | str z =>
      obtain ⟨k, rfl, rfl, hz, c, hc, q⟩ := asI_rp ry q
      exact ix_str val sl pins s σ H _ _ v u Q I rv ru ⟨z, k, c, rfl, rfl, hz, hc, post_here st q (.str _)⟩ hs
    | dic h r =>
      obtain ⟨d, hd, q⟩ := q
      obtain ⟨w, g, rw'⟩ := DGet.rK st (.inr ⟨_, st _ _ h⟩) r ry hd
      exact ix_dict hu val sl pins s σ H _ _ v u Q I rv ru ⟨_, w, rfl, g, post_here st q rw'⟩ hs
    | dicT h r =>
      obtain ⟨d, hd, q⟩ := q
      obtain ⟨w, g, rw'⟩ := DGet.rT st (.inr ⟨_, st _ _ h⟩) r ry hd
      exact ix_dict hu val sl pins s σ H _ _ v u Q I rv ru ⟨_, w, rfl, g, post_here st q rw'⟩ hs
    | non => exact q.elim
    | bl _ => exact q.elim
    | int _ => exact q.elim
  mono x y P P' h q := by
    unfold gIdx at q ⊢
    split at q
    · exact asI_mono (fun k q => ⟨q.choose, q.choose_spec.1, h _ q.choose_spec.2⟩) q
    · exact asI_mono (fun k q => ⟨q.choose, q.choose_spec.1, h _ q.choose_spec.2⟩) q
    · exact asI_mono (fun k q => ⟨q.1, q.2.choose, q.2.choose_spec.1, h _ q.2.choose_spec.2⟩) q
    · exact ⟨q.choose, q.choose_spec.1, h _ q.choose_spec.2⟩
    · exact q

/-! ### built-ins -/
/-- one argument -/
def gL1 (g : G1) : GL := fun ds P => match ds with
  | [d] => g d P
  | _ => False
theorem gL1_mono {g : G1} (h : Mo1 g) : MoL (gL1 g) := fun ds P P' hp q => by
  match ds, q with
  | [d], q => exact h _ _ _ hp q
theorem opc1 {f : Value} {g : G1} (hg : Mo1 g) (h : ∀ pins s σ F H x v (Q : VK) dx, Inv X pins σ H s → Same F H → RelV x v → Rp F x dx → g dx (Post F H Q) → wpAny (model X.prog X.w) X.A (call f [v]) (EP X pins σ Q) X.xe s) : OpC X f (gL1 g) where
  run := by
    rintro pins s σ H xs us Q I rv ⟨F, ds, st, rx, q⟩
    match ds, rx, q with
    | [d], .cons r .nil, q =>
      cases rv with
      | cons r1 r2 =>
        cases r2
        exact h pins s σ F H _ _ Q d I st r1 r q
  mono := gL1_mono hg
theorem vals1 {x : V} {v : Value} (r : RelV x v) : Vals [x] [v] := .cons r .nil
def gLen : G1 := fun d P => match d with
  | .str x => x.length ≤ sizeLine ∧ P (.int x.length)
  | .list ds => P (.int ds.length)
  | .tuple ds => P (.int ds.length)
  | _ => False
theorem c_len : OpC X (.builtin "len") (gL1 gLen) := opc1 (fun d P P' h q => by
    unfold gLen at q ⊢
    split at q
    · exact ⟨q.1, h _ q.2⟩
    · exact h _ q
    · exact h _ q
    · exact q) fun pins s σ F H x v Q dx I st rv rx q => by
  cases rx with
  | str z => exact call_len pins s σ H _ _ Q I (vals1 rv) ⟨_, _, rfl, ⟨q.1, rfl⟩, post_here st q.2 (.int _)⟩
  | lst h r => exact call_len pins s σ H _ _ Q I (vals1 rv) ⟨_, _, rfl, .inl ⟨_, .of (st _ _ h), rfl⟩, by rw [r.len]; exact post_here st q (.int _)⟩
  | tup h r => exact call_len pins s σ H _ _ Q I (vals1 rv) ⟨_, _, rfl, .inr ⟨_, .of (st _ _ h), rfl⟩, by rw [r.len]; exact post_here st q (.int _)⟩
  | non => exact q.elim
  | bl _ => exact q.elim
  | int _ => exact q.elim
  | dic _ _ => exact q.elim
  | dicT _ _ => exact q.elim
def asLst (d : D) (P : List D → Prop) : Prop := match d with
  | .list ds => P ds
  | _ => False
theorem asLst_rp {d : D} {P : List D → Prop} {F : Hp} {v : V} (r : Rp F v d) (q : asLst d P) : ∃ a xs ds, v = .ref a ∧ d = .list ds ∧ F a = some (.lst xs) ∧ RpA F xs ds ∧ P ds := by
  cases r with
  | lst h r => exact ⟨_, _, _, rfl, rfl, h, r, q⟩
  | int b => exact q.elim
  | non => exact q.elim
  | bl i => exact q.elim
  | str x => exact q.elim
  | tup _ _ => exact q.elim
  | dic _ _ => exact q.elim
  | dicT _ _ => exact q.elim
theorem asLst_mono {d : D} {P P' : List D → Prop} (h : ∀ b, P b → P' b) (q : asLst d P) : asLst d P' := by
  cases d with
  | list b => exact h b q
  | none => exact q
  | bool i => exact q
  | str x => exact q
  | int x => exact q
  | tuple x => exact q
  | dict x => exact q
def gAll : G1 := fun d P => asLst d fun ds => ∃ bs : List Bool, ds = bs.map .bool ∧ P (.bool (bs.all id))
def gSum : G1 := fun d P => asLst d fun ds => ∃ ns : List Int, ds = ns.map .int ∧ P (.int ns.sum)
theorem c_all (hc : X.calm = true) : OpC X (.builtin "all") (gL1 gAll) := opc1 (fun d P P' h q => asLst_mono (fun ds ⟨bs, e, q⟩ => ⟨bs, e, h _ q⟩) q) fun pins s σ F H x v Q dx I st rv rx q => by
  obtain ⟨a, xs, ds, rfl, rfl, h, r, bs, rfl, q2⟩ := asLst_rp rx q
  exact cr_all hc pins s σ H _ _ Q I (vals1 rv) ⟨a, bs, rfl, by rw [← r.of_bools]; exact .of (st _ _ h), post_here st q2 (.bl _)⟩
theorem c_sum (hc : X.calm = true) : OpC X (.builtin "sum") (gL1 gSum) := opc1 (fun d P P' h q => asLst_mono (fun ds ⟨bs, e, q⟩ => ⟨bs, e, h _ q⟩) q) fun pins s σ F H x v Q dx I st rv rx q => by
  obtain ⟨a, xs, ds, rfl, rfl, h, r, ns, rfl, q2⟩ := asLst_rp rx q
  exact cr_sum hc pins s σ H _ _ Q I (vals1 rv) ⟨a, ns, rfl, by rw [← r.of_ints]; exact .of (st _ _ h), post_here st q2 (.int _)⟩
/-- max, min of two ints -/
def gI2L (g : Int → Int → Int) : GL := fun ds P => match ds with
  | [a, b] => asI a fun i => asI b fun j => P (.int (g i j))
  | _ => False
theorem opc_I2 {f : Value} {g : Int → Int → Int} (h : CallR X f (fun xs H Q => ∃ i j, xs = [.int i, .int j] ∧ Q (.int (g i j)) H)) : OpC X f (gI2L g) where
  run := by
    rintro pins s σ H xs us Q I rv ⟨F, ds, st, rx, q⟩
    match ds, rx, q with
    | [a, b], .cons r (.cons r2 .nil), q =>
      obtain ⟨i, rfl, rfl, q⟩ := asI_rp r q
      obtain ⟨j, rfl, rfl, q⟩ := asI_rp r2 q
      exact h pins s σ H _ _ Q I rv ⟨i, j, rfl, post_here st q (.int _)⟩
  mono ds P P' h q := by
    match ds, q with
    | [a, b], q => exact asI_mono (fun i q => asI_mono (fun j q => h _ q) q) q
theorem c_max2 (hc : X.calm = true) : OpC X (.builtin "max") (gI2L fun i j => if j > i then j else i) := opc_I2 (call_max2 hc)
theorem c_min2 (hc : X.calm = true) : OpC X (.builtin "min") (gI2L fun i j => if j < i then j else i) := opc_I2 (call_min2 hc)
/-- max, min of a list of ints -/
def gMaxL : G1 := fun d P => asLst d fun ds => ∃ ns : List Int, ds = ns.map .int ∧ 0 < ns.length ∧ ∀ m, m ∈ ns → (∀ y ∈ ns, y ≤ m) → P (.int m)
def gMinL : G1 := fun d P => asLst d fun ds => ∃ ns : List Int, ds = ns.map .int ∧ 0 < ns.length ∧ ∀ m, m ∈ ns → (∀ y ∈ ns, m ≤ y) → P (.int m)
theorem c_maxL (hc : X.calm = true) : OpC X (.builtin "max") (gL1 gMaxL) := opc1 (fun d P P' h q => asLst_mono (fun ds ⟨bs, e, l, q⟩ => ⟨bs, e, l, fun m h1 h2 => h _ (q m h1 h2)⟩) q) fun pins s σ F H x v Q dx I st rv rx q => by
  obtain ⟨a, xs, ds, rfl, rfl, h, r, ns, rfl, l, q2⟩ := asLst_rp rx q
  exact cr_max hc pins s σ H _ _ Q I (vals1 rv) ⟨a, ns, rfl, by rw [← r.of_ints]; exact .of (st _ _ h), l, fun m h1 h2 => post_here st (q2 m h1 h2) (.int _)⟩
theorem c_minL (hc : X.calm = true) : OpC X (.builtin "min") (gL1 gMinL) := opc1 (fun d P P' h q => asLst_mono (fun ds ⟨bs, e, l, q⟩ => ⟨bs, e, l, fun m h1 h2 => h _ (q m h1 h2)⟩) q) fun pins s σ F H x v Q dx I st rv rx q => by
  obtain ⟨a, xs, ds, rfl, rfl, h, r, ns, rfl, l, q2⟩ := asLst_rp rx q
  exact cr_min hc pins s σ H _ _ Q I (vals1 rv) ⟨a, ns, rfl, by rw [← r.of_ints]; exact .of (st _ _ h), l, fun m h1 h2 => post_here st (q2 m h1 h2) (.int _)⟩
/-- list(..), tuple(..) of a list or tuple -/
def asSeq (d : D) (P : List D → Prop) : Prop := match d with
  | .list ds => P ds
  | .tuple ds => P ds
  | _ => False
theorem asSeq_mono {d : D} {P P' : List D → Prop} (h : ∀ b, P b → P' b) (q : asSeq d P) : asSeq d P' := by
  unfold asSeq at q ⊢
  split at q
  · exact h _ q
  · exact h _ q
  · exact q
def gTupOf : G1 := fun d P => asSeq d fun ds => P (.tuple ds)
def gListOf : G1 := fun d P => asSeq d fun ds => P (.list ds)
theorem c_tupOf : OpC X (.type "tuple") (gL1 gTupOf) := opc1 (fun d P P' h q => asSeq_mono (fun ds q => h _ q) q) fun pins s σ F H x v Q dx I st rv rx q => by
  cases rx with
  | lst h r => exact call_tuple_of pins s σ H _ _ Q I (vals1 rv) ⟨_, _, rfl, .inl ⟨.of (st _ _ h), post_new st q fun p s' => .tup upd_same (r.mono s')⟩⟩
  | tup h r => exact call_tuple_of pins s σ H _ _ Q I (vals1 rv) ⟨_, _, rfl, .inr ⟨.of (st _ _ h), post_here st q (.tup h r)⟩⟩
  | str z => exact q.elim
  | non => exact q.elim
  | bl _ => exact q.elim
  | int _ => exact q.elim
  | dic _ _ => exact q.elim
  | dicT _ _ => exact q.elim
theorem c_listOf : OpC X (.type "list") (gL1 gListOf) := opc1 (fun d P P' h q => asSeq_mono (fun ds q => h _ q) q) fun pins s σ F H x v Q dx I st rv rx q => by
  cases rx with
  | lst h r => exact call_list_of pins s σ H _ _ Q I (vals1 rv) ⟨_, _, rfl, .inl (.of (st _ _ h)), post_new st q fun p s' => .lst upd_same (r.mono s')⟩
  | tup h r => exact call_list_of pins s σ H _ _ Q I (vals1 rv) ⟨_, _, rfl, .inr (.of (st _ _ h)), post_new st q fun p s' => .lst upd_same (r.mono s')⟩
  | str z => exact q.elim
  | non => exact q.elim
  | bl _ => exact q.elim
  | int _ => exact q.elim
  | dic _ _ => exact q.elim
  | dicT _ _ => exact q.elim
end
end DL

namespace DLs
open PySem PySem.Spec PyProof.Rows L2
set_option maxHeartbeats 8000000 in
theorem meets_enum1 {v : Value} {o : Obj} {HB : Heap → Prop} (B : Begins v o HB) :
    Meets (Builtin.«enumerate.__new__» ⟨[.type "enumerate", v], []⟩) (fun _ R s => HB s.heap ∧
      R (.ok (.ret (.ref (s.heap.push o).objs.size))) { s with heap := (s.heap.push o).push { cls := .type "enumerate", data := .fields #[.none, .bool false, .ref s.heap.objs.size, rawInt 0, .none, .none] } }) :=
  .of_wp fun prog w A R s h => by
    obtain ⟨hp, g, d, tk, os⟩ := s
    obtain ⟨h1, h⟩ := h
    have hsub := sub_enumerate
    have q1 : ∀ {A' : Around} {E : Value → Shared → Prop} {Q : Value → Shared → Prop}, Q (.ref hp.objs.size) ⟨hp.push o, g, d, tk, os⟩ → wpAny (model prog w) A' (pyIter v) Q E ⟨hp, g, d, tk, os⟩ :=
      fun q => B.iter prog w _ _ ⟨hp, g, d, tk, os⟩ _ h1 q
    wp_walk
    refine wpAny_stack_any fun st => wpAny_pure ?_
    split
    · rename_i c _ _ _ _ _
      cases (c == Value.type "enumerate")
      · wp_walk using q1
        exact ⟨_, rfl, h⟩
      · wp_walk using q1
        exact ⟨_, rfl, h⟩
    · wp_walk using q1
      exact ⟨_, rfl, h⟩
section
variable {prog : Program} {w : World} {A : Around} {E : Value → Shared → Prop} {s : Shared}
theorem call_enum1 {v : Value} {o : Obj} {HB : Heap → Prop} {Q : Value → Shared → Prop} (B : Begins v o HB) (h1 : HB s.heap)
    (h : ∀ h', IsEnum h' (s.heap.objs.size + 1) s.heap.objs.size 0 .none → h'.get? s.heap.objs.size = some o → h'.objs.size = s.heap.objs.size + 2 →
      (∀ b o, s.heap.get? b = some o → h'.get? b = some o) → Q (.ref (s.heap.objs.size + 1)) { s with heap := h' }) :
    wpAny (model prog w) A (call (.type "enumerate") [v]) Q E s := by
  refine callType_new F.called_enumerate (by decide) (F.typeCall_enumerate_1 _) (F.newCall_enumerate_1 _) (fun obj => F.args_object_init_2 obj _) F.entry_enumerate_new (meets_enum1 B) ⟨h1, ?_⟩
  have hz : (s.heap.push o).objs.size = s.heap.objs.size + 1 := Heap.size_push ..
  show _ ∧ _
  rw [hz]
  have he : IsEnum ((s.heap.push o).push { cls := .type "enumerate", data := .fields #[.none, .bool false, .ref s.heap.objs.size, rawInt 0, .none, .none] }) (s.heap.objs.size + 1) s.heap.objs.size 0 .none := by
    have := Heap.get?_push_size (s.heap.push o) (o := { cls := .type "enumerate", data := .fields #[.none, .bool false, .ref s.heap.objs.size, rawInt 0, .none, .none] }) rfl
    rw [hz] at this
    exact this
  exact ⟨⟨_, he, rfl⟩, h _ he (Heap.get?_push_of_some _ (Heap.get?_push_size _ B.free)) (by rw [Heap.size_push, hz]) fun b o x => Heap.get?_push_of_some _ (Heap.get?_push_of_some _ x)⟩
end
/-- the tuple at a, each item in a new pair -/
def IteT (K : PySem.W.Frag) (a : Addr) : It :=
  ⟨fun i H => ∃ (xs : List V) (x : V), SqT K H a xs ∧ xs[i]? = some x, fun i H v H' => ∃ T x, v = .ref T ∧ H T = none ∧ H' = upd H T (.tup [.int (i : Nat), x]) ∧ ∀ xs, SqT K H a xs → xs[i]? = some x, fun i H => ∃ xs : List V, SqT K H a xs ∧ xs.length = i⟩
/-- a text's signs, each in a new pair -/
def IteS (z : Str) : It :=
  ⟨fun i _ => i < z.cps.size, fun i H v H' => ∃ T c, v = .ref T ∧ H T = none ∧ H' = upd H T (.tup [.int (i : Nat), .str ⟨#[c]⟩]) ∧ z.cps[i]? = some c, fun i _ => z.cps.size = i⟩
/-- what one turn of an enumeration does, by what its iterator draws -/
theorem enum_item {X : Cx} {elts : List Expr} {kk : Nat} {tpos : Pos} {e it : Addr} {fp : List Addr} {n i : Nat} {Pv : Nat → Value → Prop} {St : Nat → Heap → Prop} {old : Value} {pins : List (Addr × Obj)} {s : Shared} {σ : L2.St} {H : Hp} {E : Value → Shared → Prop} {Y : V → Hp → Prop} {Tn : Heap → Prop}
    (I : Inv X pins σ H s) (hf : ∀ b ∈ [e, it], FpOk X pins H b) (Dr : Draws X.prog X.w X.A.in1 it fp n Pv St) (he : IsEnum s.heap e it ((i : Nat) : Int) old) (hst : St i s.heap) (hlt : i < n) (hne : e ≠ it) (hef : e ∉ fp)
    (rel : ∀ u, Pv i u → ∃ x, RelV x u ∧ ∀ (T : Addr) (s2 : Shared), T = s.heap.objs.size → H T = none → (∃ u, IsEnum s2.heap e it (((i + 1 : Nat) : Int)) u) → St (i + 1) s2.heap → Y (.ref T) (upd H T (.tup [.int (i : Nat), x])) ∧ Tn s2.heap) :
    wpAny (model X.prog X.w) X.A (pyNext (.ref e)) (fun r s1 => ∃ u, r = some u ∧
      wpAny (model X.prog X.w) X.A (letOwnedTupleGo (.Tuple elts kk tpos) (.ref e) u) (fun _ s2 => ∃ x H', Inv X pins σ H' s2 ∧ RelV x u ∧ Y x H' ∧ Tn s2.heap ∧ ∀ b ∈ [e, it], H' b = none) E s1) E s := by
  have hel : e < s.heap.objs.size := Heap.lt_size he
  have hil : it < s.heap.objs.size := by
    obtain ⟨_, y⟩ := Dr.live _ _ hst
    exact Heap.lt_size y
  refine wpAny_pyNext_enum_itemC Dr he hst hlt hne hef fun u h' tk hP ho hst' hT hsz hk => ?_
  obtain ⟨x, ru, fin⟩ := rel u hP
  refine ⟨_, rfl, wpAny_letOwnedTupleGo_enum (s := { s with heap := h', toks := tk + 1 }) ho fun h'' he' sb => ?_⟩
  have hT2 : h''.get? s.heap.objs.size = some { cls := .type "tuple", data := .seq #[.int i tk, u] } := (sb.2 _ (Nat.ne_of_gt hel)).trans hT
  have new : ObjOk X.prog X.w (upd H s.heap.objs.size (.tup [.int (i : Nat), x])) h'' s.heap.objs.size (.tup [.int (i : Nat), x]) :=
    ⟨by show 2 ≤ sizeLine; decide, [.int i tk, u], .cons ⟨_, rfl⟩ (.cons ru .nil), ⟨_, hT2, rfl, _, rfl⟩⟩
  have I1 : Inv X pins σ (upd H s.heap.objs.size (.tup [.int (i : Nat), x])) { s with heap := h'', toks := tk + 1 } :=
    I.turnedNew (ch := [e, it]) (fun b ob hb q => (sb.2 b (fun z => hb (by simp [z]))).trans (hk b ob (fun z => hb (by simp [z])) (fun z => hb (by simp [z])) q)) hf (Nat.le_refl _) new
  have e1 : ((i + 1 : Nat) : Int) = (i : Int) + 1 := by omega
  have fn := fin _ { s with heap := h'', toks := tk + 1 } rfl (I.hok.fresh (Nat.le_refl _)) ⟨u, by rw [e1]; exact he'⟩ (Dr.frame _ _ _ hst' fun b hb o y => (sb.2 b fun q => hef (q ▸ hb)).trans y)
  refine ⟨.ref s.heap.objs.size, _, I1, rfl, fn.1, fn.2, fun b hb => ?_⟩
  · have hb' : b < s.heap.objs.size := by
      have e' : b = e ∨ b = it := by simpa using hb
      rcases e' with z | z
      · rw [z]; exact hel
      · rw [z]; exact hil
    rw [upd_ne (Nat.ne_of_lt hb')]
    exact (hf b hb).1
theorem turn_enumT {P : Program} {w : World} {K : PySem.W.Frag} {elts : List Expr} {kk : Nat} {tpos : Pos} (a e it : Addr) :
    Turn P w K (.Tuple elts kk tpos) (IteT K a) [e, it] e (fun i h => (∃ old, IsEnum h e it ((i : Nat) : Int) old) ∧ h.IsTupleIter it a i ∧ e ≠ it ∧ a ≠ it ∧ e ≠ a) where
  mem := by simp
  obj := fun i h st b hb => by
    obtain ⟨⟨old, he⟩, ⟨o, ho, hc, hd⟩, _⟩ := st
    have e' : b = e ∨ b = it := by simpa using hb
    rcases e' with z | z
    · rw [z]; exact ⟨_, he, fun v q => nomatch q⟩
    · rw [z]; exact ⟨o, ho, fun v q => by rw [hd] at q; cases q⟩
  keep := fun i h h' st k => let ⟨⟨old, he⟩, hi, hne⟩ := st; ⟨⟨old, k e (by simp) _ he⟩, hi.at fun o q => k it (by simp) o q, hne⟩
  item := by
    intro X hP hw hK hc i pins s σ H E I hf st hg
    subst hP hw hK
    obtain ⟨⟨old, he⟩, hit, hne, hai, hea⟩ := st
    obtain ⟨xs, x, hq, hx⟩ := hg
    obtain ⟨its, rv, p, hz⟩ := I.tuple hq
    have p' : s.heap.IsTuple a its.toArray := p
    have hl := rv.length
    have hlt : i < xs.length := (List.getElem?_eq_some_iff.mp hx).1
    refine enum_item (Y := fun x H' => (IteT X.K a).yld i H x H') (Tn := fun h => (∃ old, IsEnum h e it (((i + 1 : Nat) : Int)) old) ∧ h.IsTupleIter it a (i + 1) ∧ e ≠ it ∧ a ≠ it ∧ e ≠ a) I hf (Draws.tuple (by have := I.ok.hd hc; simp [this]) it a hai its.toArray) he ⟨hit, p'⟩ (by simp; omega) hne (by simp [hne, hea]) fun u hu => ?_
    obtain ⟨u', hu', ru⟩ := rv.get hx
    have : u = u' := by
      have h1 : its[i]? = some u := by simpa using hu
      rw [h1] at hu'
      exact Option.some.inj hu'
    subst this
    exact ⟨x, ru, fun T s2 eT hn he2 hs2 => ⟨⟨T, x, rfl, hn, rfl, fun ys hy => by rw [I.tuple_inj hy hq]; exact hx⟩, he2, hs2.1, hne, hai, hea⟩⟩
  done := by
    intro X hP hw hK hc i pins s σ H E I hf st hg
    subst hP hw hK
    obtain ⟨⟨old, he⟩, hit, hne, hai, hea⟩ := st
    obtain ⟨xs, hq, hx⟩ := hg
    obtain ⟨its, rv, p, hz⟩ := I.tuple hq
    obtain ⟨f0, f1, f2, f3, f4, f5⟩ := hf it (by simp)
    have hl := rv.length
    have p' : s.heap.IsTuple a its.toArray := p
    have hxs : its.toArray.size = i := by
      have : xs.length = i := hx
      simp
      omega
    subst hxs
    exact wpAny_pyNext_enum_endD (Draws.tuple (by have := I.ok.hd hc; simp [this]) it a hai its.toArray) he ⟨hit, p'⟩ fun h' eb => ⟨rfl, I.turned (t' := s.toks) (fun b o hb q => eb b o hb q) f0 f1 f3 f4 f5⟩
  self := fun A i s Q E st h => let ⟨⟨_, he⟩, _⟩ := st; wpAny_pyIter_enum he h
theorem turn_enumS {P : Program} {w : World} {K : PySem.W.Frag} {elts : List Expr} {kk : Nat} {tpos : Pos} (z : Str) (t : Tok) (e it : Addr) :
    Turn P w K (.Tuple elts kk tpos) (IteS z) [e, it] e (fun i h => (∃ old, IsEnum h e it ((i : Nat) : Int) old) ∧ h.IsStrIter it (strIterType z) z t i ∧ e ≠ it) where
  mem := by simp
  obj := fun i h st b hb => by
    obtain ⟨⟨old, he⟩, ⟨o, ho, hc, hd⟩, _⟩ := st
    have e' : b = e ∨ b = it := by simpa using hb
    rcases e' with z | z
    · rw [z]; exact ⟨_, he, fun v q => nomatch q⟩
    · rw [z]; exact ⟨o, ho, fun v q => by rw [hd] at q; cases q⟩
  keep := fun i h h' st k => let ⟨⟨old, he⟩, ⟨o, ho, r⟩, hne⟩ := st; ⟨⟨old, k e (by simp) _ he⟩, ⟨o, k it (by simp) o ho, r⟩, hne⟩
  item := by
    intro X hP hw hK hc i pins s σ H E I hf st hg
    subst hP hw hK
    obtain ⟨⟨old, he⟩, hit, hne⟩ := st
    refine enum_item (Y := fun x H' => (IteS z).yld i H x H') (Tn := fun h => (∃ old, IsEnum h e it (((i + 1 : Nat) : Int)) old) ∧ h.IsStrIter it (strIterType z) z t (i + 1) ∧ e ≠ it) I hf (Draws.text (by have := I.ok.hd hc; simp [this]) it z t) he hit hg hne (by simp [hne]) fun u ⟨c, tk, hcps, eu⟩ => ?_
    subst eu
    exact ⟨.str ⟨#[c]⟩, ⟨tk, rfl⟩, fun T s2 eT hn he2 hs2 => ⟨⟨T, c, rfl, hn, rfl, hcps⟩, he2, hs2, hne⟩⟩
  done := by
    intro X hP hw hK hc i pins s σ H E I hf st hg
    subst hP hw hK
    obtain ⟨⟨old, he⟩, hit, hne⟩ := st
    obtain ⟨f0, f1, f2, f3, f4, f5⟩ := hf it (by simp)
    have hxs : z.cps.size = i := hg
    subst hxs
    exact wpAny_pyNext_enum_endD (Draws.text (by have := I.ok.hd hc; simp [this]) it z t) he hit fun h' eb => ⟨rfl, I.turned (t' := s.toks) (fun b o hb q => eb b o hb q) f0 f1 f3 f4 f5⟩
  self := fun A i s Q E st h => let ⟨⟨_, he⟩, _⟩ := st; wpAny_pyIter_enum he h
end DLs
namespace DL
open PySem PySem.Spec PyProof.Rows L2
/-- number and item -/
def enumD : Nat → List D → List D
  | _, [] => []
  | i, d :: r => .tuple [.int i, d] :: enumD (i + 1) r
theorem enumD_len : ∀ (i : Nat) (ds : List D), (enumD i ds).length = ds.length
  | _, [] => rfl
  | i, _ :: r => congrArg (· + 1) (enumD_len (i + 1) r)
theorem enumD_get : ∀ (i : Nat) (ds : List D) (j : Nat) (d : D), (enumD i ds)[j]? = some d → ∃ x, ds[j]? = some x ∧ d = .tuple [.int ((i + j : Nat) : Int), x]
  | _, [], j, d, h => by simp [enumD] at h
  | i, x :: r, 0, d, h => by
    simp [enumD] at h
    exact ⟨x, rfl, h.symm⟩
  | i, x :: r, j + 1, d, h => by
    obtain ⟨y, h1, h2⟩ := enumD_get (i + 1) r j d (by simpa [enumD] using h)
    exact ⟨y, by simpa using h1, by rw [h2, show i + 1 + j = i + (j + 1) by omega]⟩
theorem gw_pair {F H : Hp} (s : Same F H) {T : Addr} {x y : V} {dx dy : D} (hT : H T = none) (rx : Rp F x dx) (ry : Rp F y dy) : ∃ F2, Gw F H F2 (upd H T (.tup [x, y])) ∧ Rp F2 (.ref T) (.tuple [dx, dy]) := by
  have g := Gw.new s hT (.tup [x, y])
  exact ⟨_, g, .tup upd_same (.cons (rx.mono g.ff) (.cons (ry.mono g.ff) .nil))⟩
theorem wd_enumL {K : PySem.W.Frag} {F : Hp} {a : Addr} {xs : List V} {ds : List D} (h : F a = some (.lst xs)) (r : RpA F xs ds) : WalkD (Ite K a) F (enumD 0 ds) where
  goes i H hi s := ⟨xs, xs[i]'(by rw [r.len]; rw [enumD_len] at hi; exact hi), .of (s _ _ h), List.getElem?_eq_getElem _⟩
  stops H s := ⟨xs, .of (s _ _ h), by rw [r.len, enumD_len]; exact Nat.le_refl _⟩
  yields i F1 H x H' d hd s1 s2 y := by
    obtain ⟨T, v, rfl, hT, rfl, hy⟩ := y
    obtain ⟨e, he, rfl⟩ := enumD_get _ _ _ _ hd
    obtain ⟨w, hw, rw'⟩ := r.get he
    have ev := (hy xs (.of (s2 _ _ (s1 _ _ h)))).symm.trans hw
    cases ev
    rw [Nat.zero_add]
    exact gw_pair s2 hT (.int _) (rw'.mono s1)
theorem wd_enumT {K : PySem.W.Frag} {F : Hp} {a : Addr} {xs : List V} {ds : List D} (h : F a = some (.tup xs)) (r : RpA F xs ds) : WalkD (DLs.IteT K a) F (enumD 0 ds) where
  goes i H hi s := ⟨xs, xs[i]'(by rw [r.len]; rw [enumD_len] at hi; exact hi), .of (s _ _ h), List.getElem?_eq_getElem _⟩
  stops H s := ⟨xs, .of (s _ _ h), by rw [r.len, enumD_len]⟩
  yields i F1 H x H' d hd s1 s2 y := by
    obtain ⟨T, v, rfl, hT, rfl, hy⟩ := y
    obtain ⟨e, he, rfl⟩ := enumD_get _ _ _ _ hd
    obtain ⟨w, hw, rw'⟩ := r.get he
    have ev := (hy xs (.of (s2 _ _ (s1 _ _ h)))).symm.trans hw
    cases ev
    rw [Nat.zero_add]
    exact gw_pair s2 hT (.int _) (rw'.mono s1)
theorem wd_enumS {F : Hp} {z : Str} : WalkD (DLs.IteS z) F (enumD 0 (chars z)) where
  goes i H hi s := by
    rw [enumD_len, chars_len] at hi
    exact hi
  stops H s := by
    rw [enumD_len, chars_len]
    exact rfl
  yields i F1 H x H' d hd s1 s2 y := by
    obtain ⟨T, c, rfl, hT, rfl, hy⟩ := y
    obtain ⟨e, he, rfl⟩ := enumD_get _ _ _ _ hd
    unfold chars at he
    rw [List.getElem?_map, Array.getElem?_toList, hy] at he
    cases he
    rw [Nat.zero_add]
    exact gw_pair s2 hT (.int _) (.str _)
section
variable {X : Cx} {B0 : Hp} {e tg : Expr} {fa : DE} {pos p : Pos}
def dEnum (f : DE) : DI := fun ρ Q => f ρ fun d ρ' => itemsP d fun items => (∀ k, d ≠ .dict k) ∧ Q (enumD 0 items) ρ'
theorem i_enum {elts : List Expr} {kk : Nat} {tpos : Pos} (hg : Gl X "enumerate") (hm : X.mg "enumerate" = none) (ha : DX X B0 e fa) (hs : starEach [e] X.env = [(false, eval e X.env)] := by rfl) : DXi X B0 (.Tuple elts kk tpos) (.Call (.Name "enumerate" p) [e] [] pos) (dEnum fa) where
  run B F0 hB := ⟨fun pins s σ H R I ⟨F, ρ, ok, q⟩ => by
    have h1 := (pa_cons (ha.run B F0 hB) pa_nil hs).run pos pins s σ H (fun vs H1 => ∃ x F1 d, vs = [x] ∧ Same F1 H1 ∧ Rp F1 x d ∧ itemsP d fun items => (∀ k, d ≠ .dict k) ∧ ∀ J, WalkD J F1 (enumD 0 items) → R J H1) I
      ⟨F, ρ, ok, ha.mono _ _ _ (fun d ρ' q' v F' H' ok' s' r => ⟨v, F', d, rfl, ok'.st, r, itemsP_mono (fun items hi => ⟨hi.1, fun J w => hi.2 J F' H' ok' s' w⟩) q'⟩) q⟩
    refine Call_ (ld_blt I hg hm boot_enumerate (PyProof.Rows.callWith_type1 (thn h1 fun us s1 ⟨vs, H1, I1, r1, x, F1, d, ex, st, rp, q1⟩ => ?_) hs rfl))
    subst ex
    cases r1 with
    | cons r rr =>
    cases rr
    have fp : ∀ b ∈ [s1.heap.objs.size + 1, s1.heap.objs.size], FpOk X pins H1 b := fun b hb => by
      have e' : b = s1.heap.objs.size + 1 ∨ b = s1.heap.objs.size := by simpa using hb
      have hle : s1.heap.objs.size ≤ b := by
        rcases e' with z | z
        · rw [z]; exact Nat.le_add_right _ _
        · rw [z]; exact Nat.le_refl _
      exact I1.fpOk hle (I1.hok.fresh hle)
    cases rp with
    | non => exact q1.elim
    | bl b => exact q1.elim
    | int i => exact q1.elim
    | dic _ _ => exact absurd rfl (q1.1 _)
    | dicT _ _ => exact absurd rfl (q1.1 _)
    | str z =>
      obtain ⟨t, rfl⟩ := r
      refine PySem.call_enumerate_str fun h' he hit hsz hk => wpAny_pyIter_enum he ?_
      exact ⟨s1.heap.objs.size + 1, [s1.heap.objs.size + 1, s1.heap.objs.size], _, _, H1, rfl, I1.kept (t' := s1.toks) hk, DLs.turn_enumS z t _ _, ⟨⟨.none, he⟩, hit, Nat.succ_ne_self _⟩, fp, q1.2 _ wd_enumS⟩
    | @lst a xs ds h rs =>
      cases r
      obtain ⟨its, rv, p', hz⟩ := I1.list (.of (st _ _ h))
      refine call_enumerate_list p'.isList fun h' he hit hsz hk => wpAny_pyIter_enum he ?_
      exact ⟨s1.heap.objs.size + 1, [s1.heap.objs.size + 1, s1.heap.objs.size], _, _, H1, rfl, I1.kept (t' := s1.toks) hk, turn_enum a _ _, ⟨⟨.none, he⟩, hit, Nat.succ_ne_self _⟩, fp, q1.2 _ (wd_enumL h rs)⟩
    | @tup a xs ds h rs =>
      cases r
      obtain ⟨its, rv, p', hz⟩ := I1.tuple (.of (st _ _ h))
      have pt : s1.heap.IsTuple a its.toArray := p'
      have hlt : a < s1.heap.objs.size := by
        obtain ⟨_, y, _⟩ := pt
        exact Heap.lt_size y
      refine DLs.call_enum1 (begins_tuple a its.toArray) pt fun h' he ho hsz hk => wpAny_pyIter_enum he ?_
      exact ⟨s1.heap.objs.size + 1, [s1.heap.objs.size + 1, s1.heap.objs.size], _, _, H1, rfl, I1.kept (t' := s1.toks) hk, DLs.turn_enumT a _ _, ⟨⟨.none, he⟩, ⟨_, ho, rfl, rfl⟩, Nat.succ_ne_self _, Nat.ne_of_lt hlt, Nat.ne_of_gt (Nat.lt_succ_of_lt hlt)⟩, fp, q1.2 _ (wd_enumT h rs)⟩⟩
  mono ρ Q Q' hq q := ha.mono _ _ _ (fun d ρ' q' => itemsP_mono (fun items h => ⟨h.1, hq _ _ h.2⟩) q') q
/-! ### zip -/
def zipD (xs ys : List D) : List D := (xs.zip ys).map fun p => .tuple [p.1, p.2]
theorem zipD_get {xs ys : List D} {j : Nat} {d : D} (h : (zipD xs ys)[j]? = some d) : ∃ x y, xs[j]? = some x ∧ ys[j]? = some y ∧ d = .tuple [x, y] := by
  unfold zipD at h
  rw [List.getElem?_map] at h
  cases e : (xs.zip ys)[j]? with
  | none => rw [e] at h; cases h
  | some p =>
    rw [e] at h
    cases h
    obtain ⟨h1, h2⟩ := List.getElem?_zip_eq_some.mp e
    exact ⟨p.1, p.2, h1, h2, rfl⟩
theorem zipD_len (xs ys : List D) : (zipD xs ys).length = min xs.length ys.length := by
  unfold zipD
  rw [List.length_map, List.length_zip]
theorem wd_zipL {K : PySem.W.Frag} {F : Hp} {a b : Addr} {xs ys : List V} {ds es : List D} (h : F a = some (.lst xs)) (r : RpA F xs ds) (h2 : F b = some (.lst ys)) (r2 : RpA F ys es) : WalkD (Itz K a b) F (zipD ds es) where
  goes i H hi s := by
    rw [zipD_len] at hi
    exact ⟨xs, ys, xs[i]'(by rw [r.len]; omega), ys[i]'(by rw [r2.len]; omega), .of (s _ _ h), .of (s _ _ h2), List.getElem?_eq_getElem _, List.getElem?_eq_getElem _⟩
  stops H s := ⟨xs, ys, .of (s _ _ h), .of (s _ _ h2), by rw [zipD_len, r.len, r2.len]; omega⟩
  yields i F1 H x H' d hd s1 s2 y := by
    obtain ⟨T, v, w, rfl, hT, rfl, hy, hy2⟩ := y
    obtain ⟨e, f, he, hf, rfl⟩ := zipD_get hd
    obtain ⟨v', hv, rv⟩ := r.get he
    obtain ⟨w', hw, rw'⟩ := r2.get hf
    have e1 := (hy xs (.of (s2 _ _ (s1 _ _ h)))).symm.trans hv
    have e2 := (hy2 ys (.of (s2 _ _ (s1 _ _ h2)))).symm.trans hw
    cases e1
    cases e2
    exact gw_pair s2 hT (rv.mono s1) (rw'.mono s1)
theorem wd_zipT {K : PySem.W.Frag} {F : Hp} {a b : Addr} {xs ys : List V} {ds es : List D} (h : F a = some (.tup xs)) (r : RpA F xs ds) (h2 : F b = some (.tup ys)) (r2 : RpA F ys es) : WalkD (RZ.ItzT K a b) F (zipD ds es) where
  goes i H hi s := by
    rw [zipD_len] at hi
    exact ⟨xs, ys, xs[i]'(by rw [r.len]; omega), ys[i]'(by rw [r2.len]; omega), .of (s _ _ h), .of (s _ _ h2), List.getElem?_eq_getElem _, List.getElem?_eq_getElem _⟩
  stops H s := ⟨xs, ys, .of (s _ _ h), .of (s _ _ h2), by rw [zipD_len, r.len, r2.len]; omega⟩
  yields i F1 H x H' d hd s1 s2 y := by
    obtain ⟨T, v, w, rfl, hT, rfl, hy, hy2⟩ := y
    obtain ⟨e, f, he, hf, rfl⟩ := zipD_get hd
    obtain ⟨v', hv, rv⟩ := r.get he
    obtain ⟨w', hw, rw'⟩ := r2.get hf
    have e1 := (hy xs (.of (s2 _ _ (s1 _ _ h)))).symm.trans hv
    have e2 := (hy2 ys (.of (s2 _ _ (s1 _ _ h2)))).symm.trans hw
    cases e1
    cases e2
    exact gw_pair s2 hT (rv.mono s1) (rw'.mono s1)
/-- zip of two lists, of two tuples -/
def dZip (fs : DA) : DI := fun ρ Q => fs ρ fun ds ρ' => match ds with
  | [.list xs, .list ys] => Q (zipD xs ys) ρ'
  | [.tuple xs, .tuple ys] => Q (zipD xs ys) ρ'
  | _ => False
theorem i_zip {e2 : Expr} {fs : DA} {elts : List Expr} {kk : Nat} {tpos : Pos} (hg : Gl X "zip") (hm : X.mg "zip" = none) (ha : DXa X B0 [e, e2] fs) (hs : starEach [e, e2] X.env = (false, eval e X.env) :: starEach [e2] X.env := by rfl) (hpl : (backTo pos (starEach [e2] X.env)).any (·.1) = false := by rfl) : DXi X B0 (.Tuple elts kk tpos) (.Call (.Name "zip" p) [e, e2] [] pos) (dZip fs) where
  run B F0 hB := pi_imp (RZ.pi_zipA hg hm (ha.run B F0 hB) hs hpl) fun σ H R ⟨F, ρ, ok, q⟩ => ⟨F, ρ, ok, ha.mono _ _ _ (fun ds ρ' q' vs F' H' ok' s' r => by
    split at q'
    · cases r with
      | cons r1 r =>
        cases r with
        | cons r2 r =>
          cases r
          cases r1 with
          | lst h1 t1 =>
            cases r2 with
            | lst h2 t2 => exact ⟨_, _, _, _, rfl, .inl ⟨.of (ok'.st _ _ h1), .of (ok'.st _ _ h2), q' _ F' H' ok' s' (wd_zipL h1 t1 h2 t2)⟩⟩
    · cases r with
      | cons r1 r =>
        cases r with
        | cons r2 r =>
          cases r
          cases r1 with
          | tup h1 t1 =>
            cases r2 with
            | tup h2 t2 => exact ⟨_, _, _, _, rfl, .inr ⟨.of (ok'.st _ _ h1), .of (ok'.st _ _ h2), q' _ F' H' ok' s' (wd_zipT h1 t1 h2 t2)⟩⟩
    · exact q'.elim) q⟩
  mono ρ Q Q' hq q := ha.mono _ _ _ (fun ds ρ' q' => by
    split at q'
    · exact hq _ _ q'
    · exact hq _ _ q'
    · exact q') q
end
end DL

namespace DLs
open PySem PySem.Spec PyProof.Rows L2
/-- sorted(texts), any number of them -/
def rSortSt (K : PySem.W.Frag) : List V → Hp → VK → Prop := fun vs H Q => ∃ (a : Addr) (ns : List Str), vs = [V.ref a] ∧ SqL K H a (ns.map V.str) ∧
  ∀ (ns' : List Str) (p : Addr), ns'.Perm ns → ns'.Pairwise (fun x y => ¬ (y.cps.toList < x.cps.toList)) → H p = none → Q (.ref p) (upd H p (.lst (ns'.map V.str)))
def sv : Value → List Nat
  | .str x _ => x.cps.toList
  | _ => []
def svS : Value → Str
  | .str x _ => x
  | _ => Str.empty
def ltSv (v u : Value) : Bool := decide (sv v < sv u)
theorem swo_str : SrtO.Swo ltSv := by
  refine ⟨fun x y h => ?_, fun x y z h1 h2 => ?_⟩
  · have a := of_decide_eq_true (p := sv x < sv y) h
    exact decide_eq_false (p := sv y < sv x) (List.lt_asymm a)
  · have a := of_decide_eq_false (p := sv y < sv x) h1
    have b := of_decide_eq_false (p := sv z < sv y) h2
    exact decide_eq_false (p := sv z < sv x) (List.not_lt.mpr (List.le_trans (List.not_lt.mp a) (List.not_lt.mp b)))
theorem strs_mem : ∀ {vs : List Value} {ns : List Str}, StrsAre vs ns → ∀ v ∈ vs, ∃ i t, v = Value.str i t
  | _, _, .nil, v, h => absurd h (by simp)
  | _, _, .cons n t r, v, h => by
    rcases List.mem_cons.mp h with e | h
    · exact ⟨n, t, e⟩
    · exact strs_mem r v h
theorem strs_sv : ∀ {vs : List Value}, (∀ v ∈ vs, ∃ i t, v = Value.str i t) → StrsAre vs (vs.map svS)
  | [], _ => .nil
  | v :: vs, h => by
    obtain ⟨i, t, e⟩ := h v List.mem_cons_self
    subst e
    exact .cons i t (strs_sv fun u hu => h u (List.mem_cons_of_mem _ hu))
theorem sv_strs : ∀ {vs : List Value} {ns : List Str}, StrsAre vs ns → vs.map svS = ns
  | _, _, .nil => rfl
  | _, _, .cons n t r => congrArg (n :: ·) (sv_strs r)
theorem str_cmp {prog : Program} {w : World} {A : Around} {s : Shared} {vs : List Value} {ns : List Str} (hI : StrsAre vs ns) : SrtO.Cmp prog w A s oneType' (fun p => p.1 ∈ vs) (SrtO.lt2 ltSv) := by
  intro p q hm hm'
  obtain ⟨a, t, e⟩ := strs_mem hI _ hm
  obtain ⟨b, u, e'⟩ := strs_mem hI _ hm'
  show wpAny (model prog w) A (keyLt' oneType' p.1 q.1) (fun r s' => s' = s ∧ r = ltSv p.1 q.1) (fun _ _ => False) s
  rw [e, e', keyLt'_oneType]
  exact oneLt_str ⟨rfl, rfl⟩
theorem strs_sortable {prog : Program} {w : World} {A : Around} {s : Shared} {a : Addr} {vs : List Value} {ns : List Str} (hI : StrsAre vs ns) (h2 : 2 ≤ vs.length) : SrtO.SortableO prog w A s a vs ltSv := by
  intro h' _
  refine ⟨oneType', fun Q E hq => ?_, str_cmp hI⟩
  match vs, hI, h2 with
  | v1 :: v2 :: rest, hI, _ =>
    rw [keyKind_strs hI]
    exact wpAny_pure hq
  | [], _, h => exact absurd h (by decide)
  | [v], _, h => exact absurd h (by simp)
theorem cr_sortSt {X : Cx} : CallR X (.builtin "sorted") (rSortSt X.K) := by
  intro pins s σ H vs us Q I r h
  obtain ⟨a, ns, rfl, hs, q⟩ := h
  obtain ⟨its, rv, hl, hz⟩ := I.list hs
  rw [Vals.ref1 r]
  have hi := rv.strs
  refine SrtO.sorted_ord swo_str hl.isList (by rw [← rv.length]; exact hz) (fun h2 h₁ a' _ _ => strs_sortable hi h2) fun out h1 h2 => ?_
  have k1 : StrsAre out (out.map svS) := strs_sv fun v hv => strs_mem hi v (h2.perm.mem_iff.mp hv)
  have k2 : (out.map svS).Perm ns := by
    have q := h2.perm.map svS
    rw [sv_strs hi] at q
    exact q
  have k3 : (out.map svS).Pairwise (fun x y => ¬ (y.cps.toList < x.cps.toList)) := by
    have hall : ∀ v ∈ out, ∃ i t, v = Value.str i t := fun v hv => strs_mem hi v (h2.perm.mem_iff.mp hv)
    have e : ∀ v ∈ out, sv v = (svS v).cps.toList := fun v hv => by
      obtain ⟨i, t, rfl⟩ := hall v hv
      rfl
    refine List.pairwise_map.mpr ?_
    refine List.Pairwise.imp_of_mem (fun {x y} hx hy h => ?_) h1
    have := of_decide_eq_false (p := sv y < sv x) h
    rw [e x hx, e y hy] at this
    exact this
  obtain ⟨ep, he'⟩ := PyProof.Rows.sortedAll_at s.heap its out.toArray
  have hlen : ((out.map svS).map V.str).length ≤ sizeLine := by
    rw [List.length_map, k2.length_eq]
    rw [List.length_map] at hz
    exact hz
  exact ⟨.ref _, upd H (s.heap.objs.size + 1) (.lst ((out.map svS).map V.str)), I.laid (t' := s.toks) (fun _ _ => PyProof.Rows.sortedAll_old) (Nat.le_succ _) ⟨hlen, out, ep, vals_of_strs k1, he'⟩, rfl, q _ _ k2 k3 (I.hok.fresh (Nat.le_succ _))⟩
end DLs
namespace DL
open PySem PySem.Spec PyProof.Rows L2
section
variable {X : Cx}
/-- the texts in order -/
def SortedSt (xs ys : List Str) : Prop := ys.Perm xs ∧ ys.Pairwise fun x y => ¬ (y.cps.toList < x.cps.toList)
def gSortS : G1 := fun d P => asLst d fun ds => ∃ xs : List Str, ds = xs.map .str ∧ ∀ ys, SortedSt xs ys → P (.list (ys.map .str))
theorem c_sortS : OpC X (.builtin "sorted") (gL1 gSortS) := opc1 (fun d P P' h q => asLst_mono (fun ds ⟨xs, e, q⟩ => ⟨xs, e, fun ys hy => h _ (q ys hy)⟩) q) fun pins s σ F H x v Q dx I st rv rx q => by
  obtain ⟨a, xs, ds, rfl, rfl, h, r, zs, rfl, q2⟩ := asLst_rp rx q
  exact DLs.cr_sortSt pins s σ H _ _ Q I (vals1 rv) ⟨a, zs, rfl, by rw [← r.of_strs]; exact .of (st _ _ h), fun ys p h1 h2 hp => post_new st (q2 ys ⟨h1, h2⟩) (fun p s' => .lst upd_same (RpA.strs ys)) p hp⟩
/-- the ints in order -/
def SortedI (xs ys : List Int) : Prop := ys.Perm xs ∧ ys.Pairwise (· ≤ ·)
def gSortI : G1 := fun d P => asLst d fun ds => ∃ xs : List Int, ds = xs.map .int ∧ ∀ ys, SortedI xs ys → P (.list (ys.map .int))
theorem c_sortI : OpC X (.builtin "sorted") (gL1 gSortI) := opc1 (fun d P P' h q => asLst_mono (fun ds ⟨xs, e, q⟩ => ⟨xs, e, fun ys hy => h _ (q ys hy)⟩) q) fun pins s σ F H x v Q dx I st rv rx q => by
  obtain ⟨a, xs, ds, rfl, rfl, h, r, zs, rfl, q2⟩ := asLst_rp rx q
  exact cr_sortedI pins s σ H _ _ Q I (vals1 rv) ⟨a, zs, rfl, by rw [← r.of_ints]; exact .of (st _ _ h), fun ys p h1 h2 hp => post_new st (q2 ys ⟨h1, h2⟩) (fun p s' => .lst upd_same (RpA.ints ys)) p hp⟩
end
end DL

namespace DL
open PySem PySem.Spec PyProof.Rows L2
section
variable {X : Cx} {B0 : Hp} {e tg iter elt : Expr} {es : List Expr} {f fe : DE} {fs : DA} {pos : Pos}
/-- y = [e for ..] -/
theorem s_setLc {i : Nat} {y : Str} {py spos : Pos} {ifs : List Expr} {scope : Scope} {own : List (Str × Nat)} {it : DI} {g : DG} {tt : DT} (hc : X.calm = true) (hN : X.N.Nodup) (hy : X.N[i]? = some y) (hyl : X.env.scope.names.lookup y = some .local)
    (hsw : swapsWith (.ListComp elt [⟨tg, iter, ifs, 0⟩] scope pos) (some (.Name y py)) spos.line X.env = pure true) (hi : DXi X B0 tg iter it) (ok : BlkOk X.N X.env.scope scope own)
    (hg : ∀ (s : Shared) (H : Hp) (C : Addr) (cl : List (Str × Addr)) (fp : List Addr), DXg (X.blk s H scope (compEnvC scope cl C X.env) fp) B0 tg (own.map (·.2)) g)
    (ht : ∀ (s : Shared) (H : Hp) (C : Addr) (cl : List (Str × Addr)) (fp : List Addr), DXts (X.blk s H scope (compEnvC scope cl C X.env) fp) B0 ifs tt)
    (he : ∀ (s : Shared) (H : Hp) (C : Addr) (cl : List (Str × Addr)) (fp : List Addr), DX (X.blk s H scope (compEnvC scope cl C X.env) fp) B0 elt fe)
    (nd : (own.map (·.2)).Nodup := by decide) (hs : ∀ x, foldedSetIterable iter X.env x = pure x := by intro _; rfl) : DXs X B0 (.Assign [.Name y py] (.ListComp elt [⟨tg, iter, ifs, 0⟩] scope pos) spos) (dAsg (dLc it g tt fe (own.map (·.2))) (dgName i)) where
  run B F0 hB := ps_imp (ps_setLc hc hN hy hyl hsw (hi.run B F0 hB) ok (fun s H C cl fp => (hg s H C cl fp).ex) (fun s H C cl fp => (ht s H C cl fp).ex) (fun s H C cl fp => (he s H C cl fp).ex) hs) fun E σ H ⟨F, ρ, DD, ok', en, q⟩ => by
    have mi := hi.mono
    have mg := (hg ({} : Shared) H 0 [] []).mono
    have mt := (ht ({} : Shared) H 0 [] []).mono
    have me := (he ({} : Shared) H 0 [] []).mono
    refine lE_lc (X := X) (F0 := F0) hB nd mi mg mt me (Q := fun v H' => gName i v σ H' E.nx) ⟨F, ρ, ok', dLc_mono mi mg mt me _ _ _ (fun d ρ' q' v F' H' ok2 s2 r => ?_) q⟩
    exact en.nx _ _ _ _ (ok2.setVa r) q'
  mono := dAsg_mono (dLc_mono hi.mono (hg ({} : Shared) B0 0 [] []).mono (ht ({} : Shared) B0 0 [] []).mono (he ({} : Shared) B0 0 [] []).mono) fun d ρ Q Q' hq h => hq _ h
/-- a, b, c = x, y, z: three names -/
def dPar3 (i j l : Nat) (fs : DA) : DS := fun DD ρ => fs ρ fun ds ρ' => match ds with
  | [d, e, f] => DD.nx (((ρ'.set i (.va d)).set j (.va e)).set l (.va f))
  | _ => False
theorem s_par3 {i j l : Nat} {x y z : Str} {a b c : Expr} {px py pz pt : Pos} {kt k2 pt2} (hc : X.calm = true) (hN : X.N.Nodup) (hi : X.N[i]? = some x) (hj : X.N[j]? = some y) (hl : X.N[l]? = some z) (hij : i ≠ j) (hil : i ≠ l) (hjl : j ≠ l)
    (hx : X.env.scope.names.lookup x = some .local) (hy : X.env.scope.names.lookup y = some .local) (hz : X.env.scope.names.lookup z = some .local) (ha : DXa X B0 [a, b, c] fs) (hw : swappedStores [.Tuple [.Name x px, .Name y py, .Name z pz] kt pt] (.Tuple [a, b, c] k2 pt2) X.env = pure (some [x, y, z]) := by rfl)
    (hs : swapsWithSole [.Tuple [.Name x px, .Name y py, .Name z pz] kt pt] (.Tuple [a, b, c] k2 pt2) pos.line X.env = pure false := by rfl) : DXs X B0 (.Assign [.Tuple [.Name x px, .Name y py, .Name z pz] kt pt] (.Tuple [a, b, c] k2 pt2) pos) (dPar3 i j l fs) where
  run B F0 hB := ps_imp (ps_par3 hc hN hi hj hl hij hil hjl hx hy hz (ha.run B F0 hB) hw hs) fun E σ H ⟨F, ρ, DD, ok, en, q⟩ => ⟨F, ρ, ok, ha.mono _ _ _ (fun ds ρ' q' vs F' H' ok' _ r => by
    match ds, r, q' with
    | [d, e, f], .cons r1 (.cons r2 (.cons r3 .nil)), q' => exact ⟨_, _, _, rfl, en.nx _ _ _ _ (((ok'.setVa r1).setVa r2).setVa r3) q'⟩) q⟩
  mono a b ρ l q := ha.mono _ _ _ (fun ds ρ' q' => by
    match ds, q' with
    | [d, e, f], q' => exact l.nx _ q') q
end
theorem ok_name {i : Nat} : ∀ d ρ (Q : List Sl → Prop), dgName i d ρ Q → ∃ ρ', Q ρ' := fun d ρ Q h => ⟨_, h⟩
theorem ok_nil : ∀ ds ρ (Q : List Sl → Prop), dgNil ds ρ Q → ∃ ρ', Q ρ' := fun d ρ Q h => ⟨_, h.2⟩
theorem ok_cons {g : DG} {gs : DGs} (hg : ∀ d ρ (Q : List Sl → Prop), g d ρ Q → ∃ ρ', Q ρ') (hs : ∀ ds ρ (Q : List Sl → Prop), gs ds ρ Q → ∃ ρ', Q ρ') : ∀ ds ρ (Q : List Sl → Prop), dgCons g gs ds ρ Q → ∃ ρ', Q ρ' := fun ds ρ Q h => by
  cases ds with
  | nil => exact h.elim
  | cons d r =>
    obtain ⟨ρ', h'⟩ := hg _ _ _ h
    exact hs _ _ _ h'
theorem ok_tup {gs : DGs} (hs : ∀ ds ρ (Q : List Sl → Prop), gs ds ρ Q → ∃ ρ', Q ρ') : ∀ d ρ (Q : List Sl → Prop), dgTup gs d ρ Q → ∃ ρ', Q ρ' := fun d ρ Q h => by
  cases d with
  | tuple ds => exact hs _ _ _ h
  | none => exact h.elim
  | bool b => exact h.elim
  | int i => exact h.elim
  | str x => exact h.elim
  | list x => exact h.elim
  | dict x => exact h.elim
end DL

namespace DL
open PySem PySem.Spec PyProof.Rows L2

/-! ### isinstance -/
def tyD : D → String
  | .none => "NoneType"
  | .bool _ => "bool"
  | .int _ => "int"
  | .str _ => "str"
  | .list _ => "list"
  | .tuple _ => "tuple"
  | .dict _ => "dict"
structure IsT (T : String) (f : D → Bool) : Prop where
  h : ∀ d, kitB (tyD d) T = some (f d)
def isInt : D → Bool
  | .bool _ => true
  | .int _ => true
  | _ => false
def isBool : D → Bool
  | .bool _ => true
  | _ => false
def isStr : D → Bool
  | .str _ => true
  | _ => false
def isTup : D → Bool
  | .tuple _ => true
  | _ => false
theorem is_int : IsT "int" isInt := ⟨fun d => match d with
  | .none => (by decide +kernel : kitB "NoneType" "int" = some false)
  | .bool _ => (by decide +kernel : kitB "bool" "int" = some true)
  | .int _ => (by decide +kernel : kitB "int" "int" = some true)
  | .str _ => (by decide +kernel : kitB "str" "int" = some false)
  | .list _ => (by decide +kernel : kitB "list" "int" = some false)
  | .tuple _ => (by decide +kernel : kitB "tuple" "int" = some false)
  | .dict _ => (by decide +kernel : kitB "dict" "int" = some false)⟩
theorem is_bool : IsT "bool" isBool := ⟨fun d => match d with
  | .none => (by decide +kernel : kitB "NoneType" "bool" = some false)
  | .bool _ => (by decide +kernel : kitB "bool" "bool" = some true)
  | .int _ => (by decide +kernel : kitB "int" "bool" = some false)
  | .str _ => (by decide +kernel : kitB "str" "bool" = some false)
  | .list _ => (by decide +kernel : kitB "list" "bool" = some false)
  | .tuple _ => (by decide +kernel : kitB "tuple" "bool" = some false)
  | .dict _ => (by decide +kernel : kitB "dict" "bool" = some false)⟩
theorem is_str : IsT "str" isStr := ⟨fun d => match d with
  | .none => (by decide +kernel : kitB "NoneType" "str" = some false)
  | .bool _ => (by decide +kernel : kitB "bool" "str" = some false)
  | .int _ => (by decide +kernel : kitB "int" "str" = some false)
  | .str _ => (by decide +kernel : kitB "str" "str" = some true)
  | .list _ => (by decide +kernel : kitB "list" "str" = some false)
  | .tuple _ => (by decide +kernel : kitB "tuple" "str" = some false)
  | .dict _ => (by decide +kernel : kitB "dict" "str" = some false)⟩
theorem is_tup : IsT "tuple" isTup := ⟨fun d => match d with
  | .none => (by decide +kernel : kitB "NoneType" "tuple" = some false)
  | .bool _ => (by decide +kernel : kitB "bool" "tuple" = some false)
  | .int _ => (by decide +kernel : kitB "int" "tuple" = some false)
  | .str _ => (by decide +kernel : kitB "str" "tuple" = some false)
  | .list _ => (by decide +kernel : kitB "list" "tuple" = some false)
  | .tuple _ => (by decide +kernel : kitB "tuple" "tuple" = some true)
  | .dict _ => (by decide +kernel : kitB "dict" "tuple" = some false)⟩
theorem rp_ty {K : PySem.W.Frag} {F H : Hp} {v : V} {d : D} (r : Rp F v d) (s : Same F H) (h : ∀ k, d ≠ .dict k) : TyX K H v (.type (tyD d)) := by
  cases r with
  | non => exact .base .non
  | bl b => exact .base (.bl b)
  | int b => exact .base (.int b)
  | str b => exact .base (.str b)
  | lst e _ => exact .base (.lst (s _ _ e))
  | tup e _ => exact .base (.tup (s _ _ e))
  | dic _ _ => exact absurd rfl (h _)
  | dicT _ _ => exact absurd rfl (h _)
section
variable {X : Cx} {B0 : Hp} {a b c e : Expr} {fa fb fc : DE} {fs : DA} {pos : Pos}
def noDict : D → Bool
  | .dict _ => false
  | _ => true
def gIsi (f : D → Bool) : G1 := fun d P => noDict d = true ∧ P (.bool (f d))
theorem x_isi {T : String} {f : D → Bool} {x : Str} {p p2 : Pos} (ht : IsT T f) (hg : Gl X "isinstance") (hm : X.mg "isinstance" = none) (hg2 : Gl X x) (hm2 : X.mg x = none) (hv : bootBuiltins x = some (.type T)) (ha : DX X B0 e fa) (hn : x ≠ "__name__" := by decide) (hdb : (x == ("__debug__" : Str)) = false := by decide)
    (he : starEach [e, .Name x p2] X.env = (false, eval e X.env) :: starEach [.Name x p2] X.env := by rfl) (he2 : starEach [.Name x p2] X.env = (false, eval (.Name x p2) X.env) :: starEach [] X.env := by rfl) (hpl : (backTo pos (starEach [.Name x p2] X.env)).any (·.1) = false := by rfl) : DX X B0 (.Call (.Name "isinstance" p) [e, .Name x p2] [] pos) (dUn (gIsi f) fa) where
  run B F0 hB := pe_imp (pe_callB call_isi hg hm PyProof.Rows.boot_isinstance (pa_cons (ha.run B F0 hB) (pa_cons (pe_bltn (v := .ty T) hg2 hm2 hv rfl hn hdb) pa_nil he2) he) (by decide) (by decide) he hpl) fun σ H Q ⟨F, ρ, ok, h⟩ =>
    ⟨F, ρ, ok, ha.mono ρ _ _ (fun dx ρ1 h1 v F1 H1 ok1 s1 r1 => ⟨v, .ty T, .type (tyD dx), .type T, f dx, rfl, .ty T, rp_ty r1 ok1.st (fun k e => by
      subst e
      exact Bool.false_ne_true h1.1), kit_ty (ht.h dx), h1.2 _ F1 H1 ok1 s1 (.bl _)⟩) h⟩
  mono ρ Q Q' hq h := ha.mono _ _ _ (fun d ρ1 h1 => ⟨h1.1, hq _ _ h1.2⟩) h
/-- a module's constant -/
theorem x_gInt {x : Str} {i : Int} {t : Tok} (hg : Gl X x) (hm : X.mg x = some (.int i t)) (hd : (x == ("__debug__" : Str)) = false := by decide) : DX X B0 (.Name x pos) (dC (.int i)) := x_c (pe_glob (v := .int i) hg hm ⟨_, rfl⟩ hd) fun _ => .int _
theorem x_gStr {x : Str} {i : Str} {t : Tok} (hg : Gl X x) (hm : X.mg x = some (.str i t)) (hd : (x == ("__debug__" : Str)) = false := by decide) : DX X B0 (.Name x pos) (dC (.str i)) := x_c (pe_glob (v := .str i) hg hm ⟨_, rfl⟩ hd) fun _ => .str _

/-! ### len(set(text)) -/
def dLenSet (fa : DE) : DE := fun ρ Q => fa ρ fun d ρ1 => match d with
  | .str x => x.cps.size < 4000 ∧ Q (.int (DLs.dcount [] (DLs.signs x))) ρ1
  | _ => False
theorem x_lenSet {p p2 q : Pos} (hc : X.calm = true) (hg : Gl X "len") (hm : X.mg "len" = none) (hg2 : Gl X "set") (hm2 : X.mg "set" = none) (ha : DX X B0 a fa)
    (na : starEach [a] X.env = (false, eval a X.env) :: starEach [] X.env := by rfl) : DX X B0 (.Call (.Name "len" p) [.Call (.Name "set" p2) [a] [] q] [] pos) (dLenSet fa) where
  run B F0 hB := ⟨fun pins s σ H Q I ⟨F, ρ, ok, h⟩ => by
    refine Call_ (ld_blt I hg hm PySem.boot_len ?_)
    refine PyProof.Rows.callWith_builtin1 (PyProof.Rows.args_cons ?_ rfl) rfl rfl
    refine Call_ (ld_blt I hg2 hm2 boot_set ?_)
    refine PyProof.Rows.callWith_type1 (PyProof.Rows.args_cons (thn ((ha.run B F0 hB).run pins s σ H (fun v H1 => ∃ x, v = .str x ∧ x.cps.size < 4000 ∧ Q (.int (DLs.dcount [] (DLs.signs x))) H1) I ⟨F, ρ, ok, ha.mono ρ _ _ (fun dx ρ1 h1 v F1 H1 ok1 s1 r1 => by
      cases r1 with
      | str x => exact ⟨x, rfl, h1.1, h1.2 _ F1 H1 ok1 s1 (.int _)⟩
      | non => exact h1.elim
      | bl _ => exact h1.elim
      | int _ => exact h1.elim
      | lst _ _ => exact h1.elim
      | tup _ _ => exact h1.elim
      | dic _ _ => exact h1.elim
      | dicT _ _ => exact h1.elim) h⟩) fun v s1 ⟨x, H1, I1, r1, q1⟩ => PyProof.Rows.args_nil ?_) na) na rfl
    obtain ⟨z, rfl, hz, q⟩ := q1
    obtain ⟨t, rfl⟩ := r1
    refine DLs.call_set_str (I1.ok.hd hc) hz fun h' tk hS hk => ?_
    refine PyProof.Rows.args_nil ?_
    obtain ⟨o, es, ep, t, ho, hex, hd, _, _, _, hf, hn⟩ := hS
    have hb := DLs.dcount_le (DLs.signs z) []
    have hl : (DLs.signs z).length = z.cps.size := by
      unfold DLs.signs
      rw [List.length_map, Array.length_toList]
    refine call_len_set ho hex hd hf (by rw [hn] <;> omega) ⟨.int (DLs.dcount [] (DLs.signs z)), H1, (I1.kept fun b o e => hk b o (Heap.lt_size e) e).tok _, ⟨_, by rw [hn]⟩, q⟩⟩
  mono ρ Q Q' hq h := ha.mono _ _ _ (fun d ρ1 h1 => by
    cases d with
    | str x => exact ⟨h1.1, hq _ _ h1.2⟩
    | none => exact h1
    | int i => exact h1
    | bool x => exact h1
    | list x => exact h1
    | tuple x => exact h1
    | dict x => exact h1) h

/-! ### methods of texts -/
def dM1 (g : D → GL) (fo fe : DE) : DE := fun ρ Q => fo ρ fun x ρ1 => isStr x = true ∧ fe ρ1 fun y ρ2 => g x [y] fun d => Q d ρ2
theorem isStr_rp {F : Hp} {v : V} {d : D} (r : Rp F v d) (h : isStr d = true) : ∃ x, v = .str x ∧ d = .str x := by
  cases r with
  | str x => exact ⟨x, rfl, rfl⟩
  | non => cases h
  | bl _ => cases h
  | int _ => cases h
  | lst _ _ => cases h
  | tup _ _ => cases h
  | dic _ _ => cases h
  | dicT _ _ => cases h
theorem x_m1 {id : String} {name : Str} {apos : Pos} {g : D → GL} (slot : Slot "str" name id) (ty : typeOf (.builtin id) = pure (.type "method_descriptor")) (rule : OpM X id g) (ho : DX X B0 a fa) (he : DX X B0 e fb)
    (hs : starEach [e] X.env = [(false, eval e X.env)] := by rfl) (hbase : attributeBase a name X.env (eval a X.env) = eval a X.env := by rfl) (hline : (apos.endLine == pos.line) = true := by rfl) : DX X B0 (.Call (.Attribute a name apos) [e] [] pos) (dM1 g fa fb) where
  run B F0 hB := pe_imp (pe_m1 slot ty rule.run (ho.run B F0 hB) (he.run B F0 hB) hs hbase hline) fun σ H Q ⟨F, ρ, ok, h⟩ => ⟨F, ρ, ok, ho.mono _ _ _ (fun dx ρ1 h1 v F1 H1 ok1 s1 r1 => by
    obtain ⟨x, rfl, rfl⟩ := isStr_rp r1 h1.1
    exact ⟨⟨x, rfl⟩, F1, ρ1, ok1, he.mono _ _ _ (fun dy ρ2 h2 y F2 H2 ok2 s2 r2 => ⟨F2, .str x, [dy], ok2.st, .str x, .cons r2 .nil, rule.mono _ _ _ _ (fun d h3 v F3 H3 g3 rv => h3 v F3 H3 (ok2.gw g3) ((s1.trans s2).trans g3.ff) rv) h2⟩) h1.2⟩) h⟩
  mono ρ Q Q' hq h := ho.mono _ _ _ (fun d ρ1 h1 => ⟨h1.1, he.mono _ _ _ (fun dy ρ2 h2 => rule.mono _ _ _ _ (fun d h3 => hq _ _ h3) h2) h1.2⟩) h
def gJoin : D → GL := fun x ds P => match x, ds with
  | .str a, [.list ys] => ∃ zs : List Str, ys = zs.map .str ∧ (zs.map (·.length)).sum + zs.length * a.length ≤ 16777216 ∧ P (.str (Txt.join a zs))
  | .str a, [.tuple ys] => ∃ zs : List Str, ys = zs.map .str ∧ (zs.map (·.length)).sum + zs.length * a.length ≤ 16777216 ∧ P (.str (Txt.join a zs))
  | _, _ => False
theorem m_join : OpM X "str.join" gJoin where
  run := by
    rintro pins s σ H x xs v us Q I rx rxs ⟨F, dx, ds, st, r, rs, q⟩
    unfold gJoin at q
    split at q
    · cases r
      cases rs with
      | cons r1 r2 =>
        cases r2
        cases r1 with
        | lst h r1 =>
          obtain ⟨zs, rfl, hz, q⟩ := q
          exact mt_join pins s σ H _ _ v us Q I rx rxs ⟨_, _, zs, rfl, rfl, .inl (by rw [← r1.of_strs]; exact .of (st _ _ h)), hz, post_here st q (.str _)⟩
    · cases r
      cases rs with
      | cons r1 r2 =>
        cases r2
        cases r1 with
        | tup h r1 =>
          obtain ⟨zs, rfl, hz, q⟩ := q
          exact mt_join pins s σ H _ _ v us Q I rx rxs ⟨_, _, zs, rfl, rfl, .inr (by rw [← r1.of_strs]; exact .of (st _ _ h)), hz, post_here st q (.str _)⟩
    · exact q.elim
  mono d ds P P' h q := by
    unfold gJoin at q ⊢
    split at q
    · obtain ⟨zs, e, hz, q⟩ := q
      exact ⟨zs, e, hz, h _ q⟩
    · obtain ⟨zs, e, hz, q⟩ := q
      exact ⟨zs, e, hz, h _ q⟩
    · exact q.elim
theorem x_join {apos : Pos} (ho : DX X B0 a fa) (he : DX X B0 e fb)
    (hs : starEach [e] X.env = [(false, eval e X.env)] := by rfl) (hbase : attributeBase a "join" X.env (eval a X.env) = eval a X.env := by rfl) (hline : (apos.endLine == pos.line) = true := by rfl) : DX X B0 (.Call (.Attribute a "join" apos) [e] [] pos) (dM1 gJoin fa fb) := x_m1 F.slot_str_join F.type_str_join m_join ho he hs hbase hline

/-! ### slices -/
abbrev DPt := List Sl → (Option Int → List Sl → Prop) → Prop
def lP (K : PySem.W.Frag) (B F0 : Hp) (f : DPt) : TO := fun σ H Q => ∃ F ρ, StOk K B F0 F ρ σ H ∧ f ρ fun o ρ' => ∀ F' H', StOk K B F0 F' ρ' σ H' → Same F F' → Q o H'
structure DXp (X : Cx) (B0 : Hp) (e : Option Expr) (f : DPt) : Prop where
  run : ∀ B F0, Same B0 B → PO X e (lP X.K B F0 f)
  mono : ∀ ρ (Q Q' : Option Int → List Sl → Prop), (∀ d ρ', Q d ρ' → Q' d ρ') → f ρ Q → f ρ Q'
def dPNo : DPt := fun ρ Q => Q none ρ
def dPSo (f : DE) : DPt := fun ρ Q => f ρ fun d ρ' => asI d fun i => Q (some i) ρ'
theorem p_none : DXp X B0 none dPNo where
  run B F0 hB := ⟨fun pins s σ H Q I ⟨F, ρ, ok, q⟩ => po_none.run pins s σ H Q I (q F H ok (Same.refl _))⟩
  mono ρ Q Q' hq h := hq _ _ h
theorem p_some (h : DX X B0 e fa) : DXp X B0 (some e) (dPSo fa) where
  run B F0 hB := ⟨fun pins s σ H Q I ⟨F, ρ, ok, q⟩ => (po_some (h.run B F0 hB)).run pins s σ H Q I ⟨F, ρ, ok, h.mono _ _ _ (fun d ρ' q' v F' H' ok' s' r => by
    obtain ⟨i, rfl, rfl, q'⟩ := asI_rp r q'
    exact ⟨i, rfl, q' F' H' ok' s'⟩) q⟩⟩
  mono ρ Q Q' hq q := h.mono _ _ _ (fun d ρ' q' => asI_mono (fun i z => hq _ _ z) q') q
def cutD (ds : List D) (lo hi : Option Int) : List D := (ds.drop (HT.sIx ds.length 0 lo)).take (HT.sIx ds.length ds.length hi - HT.sIx ds.length 0 lo)
theorem RpA.cut {F : Hp} {xs : List V} {ds : List D} (r : RpA F xs ds) (lo hi : Option Int) : RpA F (cutV xs lo hi) (cutD ds lo hi) := by
  unfold cutV cutD
  rw [r.len]
  exact (r.drop _).take _
def gSl (lo hi : Option Int) : G1 := fun d P => match d with
  | .list ds => P (.list (cutD ds lo hi))
  | .tuple ds => P (.tuple (cutD ds lo hi))
  | .str z => z.length ≤ sizeLine ∧ P (.str (cutS z lo hi))
  | _ => False
theorem gSl_mono (lo hi : Option Int) : Mo1 (gSl lo hi) := fun d P P' h q => by
  cases d with
  | list b => exact h _ q
  | tuple b => exact h _ q
  | str b => exact ⟨q.1, h _ q.2⟩
  | none => exact q
  | bool i => exact q
  | int x => exact q
  | dict x => exact q
def rSlD : V → Option Int → Option Int → Hp → VK → Prop := fun x lo hi H Q => ∃ F d, Same F H ∧ Rp F x d ∧ gSl lo hi d (Post F H Q)
theorem sl_any : SlR X rSlD := by
  rintro pins s σ H x v vl vu lo hi sl Q I rx hs pl pu ⟨F, d, st, r, q⟩
  cases r with
  | lst h r => exact sl_list pins s σ H _ v vl vu lo hi sl Q I rx hs pl pu ⟨_, _, rfl, .of (st _ _ h), post_new st q fun p s' => .lst upd_same ((r.cut lo hi).mono s')⟩
  | @tup a xs ds h r => 
    refine sl_tupA pins s σ H _ v vl vu lo hi sl Q I rx hs pl pu ⟨_, _, rfl, .of (st _ _ h), fun hw => ?_, fun _ => post_new st q fun p s' => .tup upd_same ((r.cut lo hi).mono s')⟩
    have e : cutD ds lo hi = ds := by
      unfold cutD
      rw [← r.len, hw.1, hw.2, Nat.sub_zero, List.drop_zero]
      exact List.take_of_length_le (by rw [r.len]; exact Nat.le_refl _)
    have q2 : Post F H Q (.tuple (cutD ds lo hi)) := q
    rw [e] at q2
    exact post_here st q2 (.tup h r)
  | str z => exact sl_str pins s σ H _ v vl vu lo hi sl Q I rx hs pl pu ⟨z, rfl, q.1, post_here st q.2 (.str _)⟩
  | non => exact q.elim
  | bl _ => exact q.elim
  | int _ => exact q.elim
  | dic _ _ => exact q.elim
  | dicT _ _ => exact q.elim
def dSl (f : DE) (fl fh : DPt) : DE := fun ρ Q => f ρ fun d ρ1 => fl ρ1 fun lo ρ2 => fh ρ2 fun hi ρ3 => gSl lo hi d fun z => Q z ρ3
variable {lo hi : Option Expr} {fl fh : DPt}
theorem x_slice {p2 : Pos} (he : DX X B0 e fa) (hl : DXp X B0 lo fl) (hh : DXp X B0 hi fh) : DX X B0 (.Subscript e (.Slice lo hi none p2) pos) (dSl fa fl fh) where
  run B F0 hB := pe_imp (pe_slice sl_any (he.run B F0 hB) (hl.run B F0 hB) (hh.run B F0 hB)) fun σ H Q ⟨F, ρ, ok, q⟩ => ⟨F, ρ, ok, he.mono _ _ _ (fun d ρ1 q1 v F1 H1 ok1 s1 r1 =>
    ⟨F1, ρ1, ok1, hl.mono _ _ _ (fun l ρ2 q2 F2 H2 ok2 s2 => ⟨F2, ρ2, ok2, hh.mono _ _ _ (fun h ρ3 q3 F3 H3 ok3 s3 => ⟨F3, d, ok3.st, r1.mono (s2.trans s3), gSl_mono _ _ _ _ _ (fun z h3 v F4 H4 g4 rv => h3 v F4 H4 (ok3.gw g4) (((s1.trans s2).trans s3).trans g4.ff) rv) q3⟩) q2⟩) q1⟩) q⟩
  mono ρ Q Q' hq q := he.mono _ _ _ (fun d ρ1 q1 => hl.mono _ _ _ (fun l ρ2 q2 => hh.mono _ _ _ (fun h ρ3 q3 => gSl_mono _ _ _ _ _ (fun z h3 => hq _ _ h3) q3) q2) q1) q
/-- x[lo:hi] of one's own list -/
def dSlV (i : Nat) (fl fh : DPt) : DE := fun ρ Q => match sg ρ i with
  | .ow _ => fl ρ fun lo ρ2 => fh ρ2 fun hi ρ3 => match sg ρ3 i with
    | .ow ds => Q (.list (cutD ds lo hi)) ρ3
    | _ => False
  | _ => False
theorem x_sliceV {i : Nat} {p2 : Pos} (hv : PE X e (tVar i)) (hl : DXp X B0 lo fl) (hh : DXp X B0 hi fh) : DX X B0 (.Subscript e (.Slice lo hi none p2) pos) (dSlV i fl fh) where
  run B F0 hB := pe_imp (pe_slice sl_list hv (hl.run B F0 hB) (hh.run B F0 hB)) fun σ H Q ⟨F, ρ, ok, q⟩ => by
    unfold dSlV at q
    split at q
    · rename_i ds0 hi0
      obtain ⟨p0, vs0, h10, _⟩ := ok.ownL hi0
      refine ⟨_, h10, F, ρ, ok, hl.mono _ _ _ (fun l ρ2 q2 F2 H2 ok2 s2 => ⟨F2, ρ2, ok2, hh.mono _ _ _ (fun h ρ3 q3 F3 H3 ok3 s3 => ?_) q2⟩) q⟩
      split at q3
      · rename_i ds hi
        obtain ⟨p, vs, h1, h2, h3, _⟩ := ok3.ownL hi
        rw [h10] at h1
        cases h1
        exact ⟨p0, vs, rfl, .of h2, fun p hp => by
          have g := Gw.new ok3.st hp (.lst (cutV vs l h))
          exact q3 _ _ _ (ok3.gw g) ((s2.trans s3).trans g.ff) (.lst upd_same ((h3.cut l h).mono g.ff))⟩
      · exact q3.elim
    · exact q.elim
  mono ρ Q Q' hq q := by
    unfold dSlV at q ⊢
    split at q
    · refine hl.mono _ _ _ (fun l ρ2 q2 => hh.mono _ _ _ (fun h ρ3 q3 => ?_) q2) q
      split at q3
      · exact hq _ _ q3
      · exact q3
    · exact q
/-- xs[::-1] -/
def gRev : G1 := fun d P => match d with
  | .list ds => P (.list ds.reverse)
  | _ => False
theorem x_rev {k : Nat} {p1 p2 p3 : Pos} (he : DX X B0 e fa) : DX X B0 (.Subscript e (.Slice none none (some (.UnaryOp .USub (.Constant (.int 1) k p1) p2)) p3) pos) (dUn gRev fa) where
  run B F0 hB := pe_imp (pe_revL (he.run B F0 hB)) fun σ H Q ⟨F, ρ, ok, q⟩ => ⟨F, ρ, ok, he.mono _ _ _ (fun d ρ1 q1 v F1 H1 ok1 s1 r1 => by
    cases r1 with
    | @lst a xs ds h r => exact ⟨_, _, rfl, .of (ok1.st _ _ h), fun p hp => by
        have g := Gw.new ok1.st hp (.lst xs.reverse)
        exact q1 _ _ _ (ok1.gw g) (s1.trans g.ff) (.lst upd_same (r.rev.mono g.ff))⟩
    | str z => exact q1.elim
    | non => exact q1.elim
    | bl _ => exact q1.elim
    | int _ => exact q1.elim
    | tup _ _ => exact q1.elim
    | dic _ _ => exact q1.elim
    | dicT _ _ => exact q1.elim) q⟩
  mono ρ Q Q' hq q := he.mono _ _ _ (fun d ρ1 q1 => by
    unfold gRev at q1 ⊢
    split at q1
    · exact hq _ _ q1
    · exact q1) q
/-- xs[::-1] of one's own list -/
def dRevV (i : Nat) : DE := fun ρ Q => match sg ρ i with
  | .ow ds => Q (.list ds.reverse) ρ
  | _ => False
theorem x_revV {i : Nat} {k : Nat} {p1 p2 p3 : Pos} (hv : PE X e (tVar i)) : DX X B0 (.Subscript e (.Slice none none (some (.UnaryOp .USub (.Constant (.int 1) k p1) p2)) p3) pos) (dRevV i) where
  run B F0 hB := pe_imp (pe_revL hv) fun σ H Q ⟨F, ρ, ok, q⟩ => by
    unfold dRevV at q
    split at q
    · rename_i ds hi
      obtain ⟨p, vs, h1, h2, h3, _⟩ := ok.ownL hi
      exact ⟨_, h1, p, vs, rfl, .of h2, fun p hp => by
        have g := Gw.new ok.st hp (.lst vs.reverse)
        exact q _ _ _ (ok.gw g) g.ff (.lst upd_same (h3.rev.mono g.ff))⟩
    · exact q.elim
  mono ρ Q Q' hq q := by
    unfold dRevV at q ⊢
    split at q
    · exact hq _ _ q
    · exact q

/-! ### one's own list compared -/
/-- x == e, x != e; x one's own list -/
def dCmpV (neg : Bool) (i : Nat) (f : DE) : DE := fun ρ Q => match sg ρ i with
  | .ow _ => f ρ fun d ρ' => match sg ρ' i with
    | .ow ds => (SeqAt.shaped (.list ds) = true ∧ SeqAt.shaped d = true) ∧ Q (.bool (if neg then !PyData.eqv (.list ds) d else PyData.eqv (.list ds) d)) ρ'
    | _ => False
  | _ => False
theorem lE_cmpV {neg : Bool} {i : Nat} {B F0 : Hp} (he : DX X B0 e fa) {σ : HSt} {H : Hp} {Q : VK} (h : lE X.K B F0 (dCmpV neg i fa) σ H Q) : tOp (fun x y H Q => ∃ d e, Dp X.K H x d ∧ Dp X.K H y e ∧ SeqAt.shaped d = true ∧ SeqAt.shaped e = true ∧ Q (.bl (if neg then !PyData.eqv d e else PyData.eqv d e)) H) (tVar i) (lE X.K B F0 fa) σ H Q := by
  obtain ⟨F, ρ, ok, q⟩ := h
  unfold dCmpV at q
  split at q
  · rename_i ds0 hi0
    obtain ⟨p0, vs0, h10, _⟩ := ok.ownL hi0
    refine ⟨_, h10, F, ρ, ok, he.mono _ _ _ (fun d ρ' q' v F' H' ok' s' r => ?_) q⟩
    split at q'
    · rename_i ds hi
      obtain ⟨p, vs, h1, h2, h3, _⟩ := ok'.ownL hi
      rw [h10] at h1
      cases h1
      have c := SeqAt.canLay_of_shaped q'.1.1
      exact ⟨.list ds, d, .lst (.of h2) (h3.dp ok'.st (by simpa [PyData.canLay0] using c)), r.dp ok'.st (SeqAt.canLay_of_shaped q'.1.2), q'.1.1, q'.1.2, q'.2 _ F' H' ok' s' (.bl _)⟩
    · exact q'.elim
  · exact q.elim
theorem dCmpV_mono {neg : Bool} {i : Nat} (he : DMono fa) : DMono (dCmpV neg i fa) := fun ρ Q Q' hq q => by
  unfold dCmpV at q ⊢
  split at q
  · refine he _ _ _ (fun d ρ' q' => ?_) q
    split at q'
    · exact ⟨q'.1, hq _ _ q'.2⟩
    · exact q'
  · exact q
theorem x_neV {i : Nat} (hu : X.A.units + 64 < cLine) (hv : PE X a (tVar i)) (he : DX X B0 b fa) (hm : behindInMarks .NotEq b = false) : DX X B0 (.Compare a [.NotEq] [b] pos) (dCmpV true i fa) where
  run B F0 hB := pe_imp (pe_cmpR (op_neD hu) hv (he.run B F0 hB) hm) fun σ H Q h => lE_cmpV he h
  mono := dCmpV_mono he.mono
theorem x_eqV {i : Nat} (hu : X.A.units + 64 < cLine) (hv : PE X a (tVar i)) (he : DX X B0 b fa) (hm : behindInMarks .Eq b = false) : DX X B0 (.Compare a [.Eq] [b] pos) (dCmpV false i fa) where
  run B F0 hB := pe_imp (pe_cmpR (op_eqD hu) hv (he.run B F0 hB) hm) fun σ H Q h => lE_cmpV he h
  mono := dCmpV_mono he.mono
theorem t_neV {i : Nat} (hu : X.A.units + 64 < cLine) (hv : PE X a (tVar i)) (he : DX X B0 b fa) (hm : behindInMarks .NotEq b = false) : DXt X B0 (.Compare a [.NotEq] [b] pos) (dTest (dCmpV true i fa)) where
  run B F0 hB := pt_imp (pt_cmpR (op_neD hu) hv (he.run B F0 hB) hm) fun σ H Q h => lE_cmpV he (lT_test (dCmpV_mono he.mono) h)
  mono := dTest_mono (dCmpV_mono he.mono)
theorem t_eqV {i : Nat} (hu : X.A.units + 64 < cLine) (hv : PE X a (tVar i)) (he : DX X B0 b fa) (hm : behindInMarks .Eq b = false) : DXt X B0 (.Compare a [.Eq] [b] pos) (dTest (dCmpV false i fa)) where
  run B F0 hB := pt_imp (pt_cmpR (op_eqD hu) hv (he.run B F0 hB) hm) fun σ H Q h => lE_cmpV he (lT_test (dCmpV_mono he.mono) h)
  mono := dTest_mono (dCmpV_mono he.mono)
end
end DL

namespace DL
open PySem PySem.Spec PyProof.Rows L2
section
variable {X : Cx} {B0 : Hp} {a b c e : Expr} {es : List Expr} {fa fb fc : DE} {fo : DO} {fs : DA} {pos p : Pos} {x : Str} {f : Addr} {fd : FuncData} {ps : List Str} {k : Nat}

/-! ### list(text) -/
theorem vals_by : ∀ {us : List Value} {xs : List V}, xs.length = us.length → (∀ (i : Nat) (u : Value), us[i]? = some u → ∃ v, xs[i]? = some v ∧ RelV v u) → Vals xs us
  | [], [], _, _ => .nil
  | [], _ :: _, h, _ => by cases h
  | _ :: _, [], h, _ => by cases h
  | u :: us, x :: xs, h, g => by
    obtain ⟨v, h1, h2⟩ := g 0 u rfl
    cases h1
    exact .cons h2 (vals_by (Nat.succ.inj h) fun i w hw => g (i + 1) w hw)
theorem ixN_here {n j : Nat} (hj : j < n) : ixN n (j : Int) = some j := by
  unfold ixN
  rw [if_pos (by omega), if_pos (by omega)]
  simp
theorem vals_signs {x : Str} {acc : Array Value} (h : ItemsOf (SignAt x) acc x.cps.size) : Vals ((DLs.signs x).map V.str) acc.toList := by
  have hl : ((DLs.signs x).map V.str).length = acc.toList.length := by
    unfold DLs.signs
    rw [List.length_map, List.length_map, Array.length_toList, Array.length_toList, h.1]
  refine vals_by hl fun i u hu => ?_
  rw [Array.getElem?_toList] at hu
  obtain ⟨c, t, hc, rfl⟩ := h.2 i u hu
  refine ⟨.str ⟨#[c]⟩, ?_, t, rfl⟩
  unfold DLs.signs
  rw [List.getElem?_map, List.getElem?_map, Array.getElem?_toList, hc]
  rfl
theorem signs_map (x : Str) : (DLs.signs x).map PyData.str = chars x := by
  unfold DLs.signs chars
  rw [List.map_map]
  rfl
theorem o_listStr {p : Pos} (hc : X.calm = true) (hg : Gl X "list") (hm : X.mg "list" = none) (ha : DX X B0 a fa)
    (na : starEach [a] X.env = (false, eval a X.env) :: starEach [] X.env := by rfl) : DXo X B0 (.Call (.Name "list" p) [a] [] pos) (fun ρ Q => fa ρ fun d ρ' => ∃ z, d = .str z ∧ z.cps.size ≤ sizeLine ∧ Q (chars z) ρ') where
  run B F0 hB := ⟨fun pins s σ H Q I ⟨F, ρ, ok, h⟩ => by
    refine Call_ (ld_blt I hg hm boot_list ?_)
    refine PyProof.Rows.callWith_type1 (PyProof.Rows.args_cons (thn ((ha.run B F0 hB).run pins s σ H (fun v H1 => ∃ x F1 ρ1, v = .str x ∧ StOk X.K B F0 F1 ρ1 σ H1 ∧ Same F F1 ∧ x.cps.size ≤ sizeLine ∧ ∀ p vs F' H', StOk X.K B F0 F' ρ1 σ H' → Same F F' → OwnL B F' ρ1 σ H' p (.lst vs) → RpA F' vs (chars x) → Q (.ref p) H') I ⟨F, ρ, ok, ha.mono ρ _ _ (fun dx ρ1 h1 v F1 H1 ok1 s1 r1 => by
      obtain ⟨z, rfl, hz, h1⟩ := h1
      cases r1
      exact ⟨z, F1, ρ1, rfl, ok1, s1, hz, h1⟩) h⟩) fun v s1 ⟨x, H1, I1, r1, q1⟩ => PyProof.Rows.args_nil ?_) na) na
    obtain ⟨z, F1, ρ1, rfl, ok1, sm, hz, q⟩ := q1
    obtain ⟨t, rfl⟩ := r1
    refine call_list_str (I1.ok.hd hc) z t (fun h' tk acc c' hk e' hi => ?_) hz
    have nw := ok1.newOwn (I1.hok.fresh (Nat.le_refl _)) (.lst ((DLs.signs z).map V.str))
    refine ⟨.ref s1.heap.objs.size, upd H1 s1.heap.objs.size (.lst ((DLs.signs z).map V.str)), I1.laid hk (Nat.le_refl _) (show ObjOk X.prog X.w _ _ _ (.lst _) from ⟨?_, acc.toList, c', vals_signs hi, ?_⟩), rfl, q _ _ F1 _ nw.1 sm nw.2 ?_⟩
    · unfold DLs.signs
      rw [List.length_map, List.length_map, Array.length_toList]
      exact hz
    · rw [Array.toArray_toList]
      exact e'
    · rw [← signs_map]
      exact RpA.strs _⟩
  mono ρ Q Q' hq h := ha.mono _ _ _ (fun d ρ1 ⟨z, e, hz, h1⟩ => ⟨z, e, hz, hq _ _ h1⟩) h

/-! ### the script -/
def dScrLen (i : Nat) : DE := fun ρ Q => match sg ρ i with
  | .scr ns => Q (.int ns.length) ρ
  | _ => False
theorem StOk.scr {K : PySem.W.Frag} {B F0 F H : Hp} {ρ : List Sl} {σ : HSt} (h : StOk K B F0 F ρ σ H) {i : Nat} {ns : List Int} (hi : sg ρ i = .scr ns) : ∃ p, σ[i]? = some (some (.ref p)) ∧ SqL K F p (ns.map V.int) := by
  have hi' := sg_some hi (fun z => nomatch z)
  have hl : i < σ.length := by
    rw [h.len]
    exact (List.getElem?_eq_some_iff.mp hi').1
  obtain ⟨p, q1, q2⟩ := h.sl i _ _ hi' (List.getElem?_eq_getElem hl)
  exact ⟨p, by rw [List.getElem?_eq_getElem hl, q1], q2⟩
theorem x_scrLen {i : Nat} {p : Pos} (hg : Gl X "len") (hm : X.mg "len" = none) (hv : PE X a (tVar i)) (hs : starEach [a] X.env = (false, eval a X.env) :: starEach [] X.env := by rfl) : DX X B0 (.Call (.Name "len" p) [a] [] pos) (dScrLen i) where
  run B F0 hB := pe_imp (pe_callB call_len_seq hg hm PySem.boot_len (pa_cons hv pa_nil hs) (by decide) (by decide) hs) fun σ H Q ⟨F, ρ, ok, q⟩ => by
    unfold dScrLen at q
    split at q
    · rename_i ns hi
      obtain ⟨p, h1, h2⟩ := ok.scr hi
      exact ⟨_, h1, p, _, rfl, .inl (ok.st.seq h2), q _ F H ok (Same.refl _) (by rw [List.length_map]; exact .int _)⟩
    · exact q.elim
  mono ρ Q Q' hq q := by
    unfold dScrLen at q ⊢
    split at q
    · exact hq _ _ q
    · exact q
def dScrIdx (i : Nat) (f : DE) : DE := fun ρ Q => match sg ρ i with
  | .scr ns => f ρ fun d ρ' => asI d fun k => ∃ n, atI ns k = some n ∧ Q (.int n) ρ'
  | _ => False
theorem atI_map {α β : Type} (g : α → β) {xs : List α} {k : Int} {d : α} (h : atI xs k = some d) : atI (xs.map g) k = some (g d) := by
  unfold atI at h ⊢
  rw [List.length_map]
  cases e : ixN xs.length k with
  | none => rw [e] at h; cases h
  | some j =>
    rw [e] at h
    show (xs.map g)[j]? = _
    rw [List.getElem?_map, show xs[j]? = some d from h]
    rfl
theorem x_scrIdx {i : Nat} (hv : PE X a (tVar i)) (hb : DX X B0 b fb) (hs : PlainIx b) : DX X B0 (.Subscript a b pos) (dScrIdx i fb) where
  run B F0 hB := pe_imp (pe_ix ix_list hv (hb.run B F0 hB) hs) fun σ H Q ⟨F, ρ, ok, q⟩ => by
    unfold dScrIdx at q
    split at q
    · rename_i ns hi
      obtain ⟨p, h1, h2⟩ := ok.scr hi
      refine ⟨_, h1, F, ρ, ok, hb.mono _ _ _ (fun d ρ' q' v F' H' ok' s' r => ?_) q⟩
      obtain ⟨k, rfl, rfl, n, hn, q'⟩ := asI_rp r q'
      exact ⟨p, _, k, .int n, rfl, rfl, ok'.st.seq (s'.seq h2), atI_map V.int hn, q' _ F' H' ok' s' (.int _)⟩
    · exact q.elim
  mono ρ Q Q' hq q := by
    unfold dScrIdx at q ⊢
    split at q
    · exact hb.mono _ _ _ (fun d ρ' q' => asI_mono (fun k ⟨n, h, q⟩ => ⟨n, h, hq _ _ q⟩) q') q
    · exact q

/-! ### a source of numbers -/
/-- what may stand at place j of a source -/
def SrcV (j : Nat) (v : Int) : Prop := match j with
  | 0 => 0 ≤ v
  | 1 => 0 ≤ v ∧ v < 1099511627776
  | 2 => 0 < v ∧ v < 1099511627776
  | _ => False
def dSrcIdx (i j : Nat) : DE := fun ρ Q => match sg ρ i with
  | .src _ => j < 3 ∧ ∀ v, SrcV j v → Q (.int v) ρ
  | _ => False
theorem src_at {H : Hp} {q : Addr} (h : SrcAt H q) {j : Nat} (hj : j < 3) : ∃ (vs : List V) (v : Int), H q = some (.lst vs) ∧ vs.length = 3 ∧ vs[j]? = some (.int v) ∧ SrcV j v := by
  obtain ⟨c, s, w, h1, h2, h3, h4, h5, h6⟩ := h
  match j, hj with
  | 0, _ => exact ⟨_, c, h1, rfl, rfl, h2⟩
  | 1, _ => exact ⟨_, s, h1, rfl, rfl, h3, h4⟩
  | 2, _ => exact ⟨_, w, h1, rfl, rfl, h5, h6⟩
theorem x_srcIdx {i : Nat} {j m : Nat} {pc : Pos} (hv : PE X a (tVar i)) (hs : PlainIx (.Constant (.int (j : Int)) m pc)) : DX X B0 (.Subscript a (.Constant (.int (j : Int)) m pc) pos) (dSrcIdx i j) where
  run B F0 hB := pe_imp (pe_ix ix_list hv pe_int hs) fun σ H Q ⟨F, ρ, ok, q⟩ => by
    unfold dSrcIdx at q
    split at q
    · rename_i r hi
      obtain ⟨h1, _, _, h4⟩ := ok.srcAt hi
      obtain ⟨vs, v, e1, e2, e3, e4⟩ := src_at h4 q.1
      exact ⟨_, h1, r, vs, j, .int v, rfl, rfl, .of e1, atI_nat e3, q.2 v e4 _ F H ok (Same.refl _) (.int _)⟩
    · exact q.elim
  mono ρ Q Q' hq q := by
    unfold dSrcIdx at q ⊢
    split at q
    · exact ⟨q.1, fun v h => hq _ _ (q.2 v h)⟩
    · exact q
/-- source[j] = e -/
def dSrcSet (i j : Nat) (f : DE) : DS := fun DD ρ => f ρ fun d ρ1 => match sg ρ1 i with
  | .src _ => j < 3 ∧ asI d fun v => SrcV j v ∧ DD.nx ρ1
  | _ => False
theorem src_set {H : Hp} {q : Addr} (h : SrcAt H q) {j : Nat} (hj : j < 3) {v : Int} (hv : SrcV j v) : ∃ vs : List V, H q = some (.lst vs) ∧ vs.length = 3 ∧ SrcAt (upd H q (.lst (vs.set j (.int v)))) q := by
  obtain ⟨c, s, w, h1, h2, h3, h4, h5, h6⟩ := h
  match j, hj with
  | 0, _ => exact ⟨_, h1, rfl, v, s, w, upd_same, hv, h3, h4, h5, h6⟩
  | 1, _ => exact ⟨_, h1, rfl, c, v, w, upd_same, h2, hv.1, hv.2, h5, h6⟩
  | 2, _ => exact ⟨_, h1, rfl, c, s, v, upd_same, h2, h3, h4, hv.1, hv.2⟩
theorem s_srcSet {i : Nat} {j m : Nat} {tpos pc : Pos} (hv : PE X a (tVar i)) (he : DX X B0 e fa) (hs : swapsWithSole [.Subscript a (.Constant (.int (j : Int)) m pc) tpos] e pos.line X.env = pure false := by rfl) (hw : swappedStores [.Subscript a (.Constant (.int (j : Int)) m pc) tpos] e X.env = pure none := by rfl) (h1 : (assignEach [.Subscript a (.Constant (.int (j : Int)) m pc) tpos] X.env).map (·.2) = [assign (.Subscript a (.Constant (.int (j : Int)) m pc) tpos) X.env] := by rfl)
    (hq : ∀ v, assign (.Subscript a (.Constant (.int (j : Int)) m pc) tpos) X.env v = (do let ov ← holding [v] (eval a X.env); let iv ← holding [v, ov] (eval (.Constant (.int (j : Int)) m pc) X.env); standAt tpos; holding [v, ov, iv] (setItem ov iv v); release [v, ov, iv] []) := by intro _; rfl) : DXs X B0 (.Assign [.Subscript a (.Constant (.int (j : Int)) m pc) tpos] e pos) (dSrcSet i j fa) where
  run B F0 hB := ps_imp (ps_asg (he.run B F0 hB) (pg_sub hv pe_int set_list hq) hs hw h1) fun E σ H ⟨F, ρ, DD, ok, en, q⟩ => ⟨F, ρ, ok, he.mono _ _ _ (fun d ρ1 q1 v F1 H1 ok1 s1 r1 => by
    split at q1
    · rename_i r hi
      obtain ⟨hj, q1⟩ := q1
      obtain ⟨n, rfl, rfl, hn, q1⟩ := asI_rp r1 q1
      obtain ⟨h1, h2, h3, h4⟩ := ok1.srcAt hi
      obtain ⟨vs, e1, e2, e3⟩ := src_set h4 hj hn
      have hg : GwX r F1 H1 F1 (upd H1 r (.lst (vs.set j (.int n)))) := ⟨fun b o hb e => by rw [upd_ne hb]; exact e, Same.refl _, fun b o e => by rw [upd_ne (ne_of_none e h3)]; exact ok1.st _ _ e, fun b e => .inl e⟩
      exact ⟨_, h1, r, vs, (j : Int), j, rfl, rfl, e1, by rw [e2]; exact ixN_here hj, en.nx _ _ _ _ (ok1.gwx (sg_some hi (fun z => nomatch z)) h1 hg e3) q1⟩
    · exact q1.elim) q⟩
  mono a b ρ l q := he.mono _ _ _ (fun d ρ1 q1 => by
    split at q1
    · exact ⟨q1.1, asI_mono (fun v h => ⟨h.1, l.nx _ h.2⟩) q1.2⟩
    · exact q1) q

/-! ### an own list returned -/
def dRetO (g : DO) : DS := fun DD ρ => g ρ fun ds ρ' => DD.ro ds ρ'
theorem s_retO (h : DXo X B0 e fo) : DXs X B0 (.Return (some e) pos) (dRetO fo) where
  run B F0 hB := ps_imp (ps_ret (h.run B F0 hB)) fun E σ H ⟨F, ρ, DD, ok, en, q⟩ => ⟨F, ρ, ok, h.mono _ _ _ (fun ds ρ' q' p vs F' H' ok' s' w r => en.ro _ _ _ _ _ _ _ ok' w.hp w.hb w.hf r q') q⟩
  mono a b ρ l q := h.mono _ _ _ (fun d ρ' q' => l.ro _ _ q') q
/-- return x, x one's own list -/
def dOwnV (i : Nat) : DO := fun ρ Q => match sg ρ i with
  | .ow ds => Q ds (ρ.set i .no)
  | _ => False
theorem o_var {i : Nat} (h : PE X e (tVar i)) : DXo X B0 e (dOwnV i) where
  run B F0 hB := pe_imp h fun σ H Q ⟨F, ρ, ok, q⟩ => by
    unfold dOwnV at q
    split at q
    · rename_i ds hi
      obtain ⟨p, vs, h1, h2, h3, h4, h5⟩ := ok.ownL hi
      have e : σ.set i (some (.ref p)) = σ := set_id h1
      have ok2 := ok.setNo (i := i) (o := some (.ref p))
      rw [e] at ok2
      refine ⟨.ref p, h1, q p vs F H ok2 (Same.refl _) ⟨h2, h4, h5, fun j t hj ho hp => ?_⟩ h3⟩
      by_cases hji : i = j
      · subst hji
        have hl : i < ρ.length := (List.getElem?_eq_some_iff.mp (sg_some hi (fun z => nomatch z))).1
        rw [List.getElem?_set_self hl] at hj
        cases hj
        cases ho
      · rw [List.getElem?_set_ne hji] at hj
        exact ok.ap i j _ _ p hji (sg_some hi (fun z => nomatch z)) hj rfl ho h1 hp
    · exact q.elim
  mono ρ Q Q' hq q := by
    unfold dOwnV at q ⊢
    split at q
    · exact hq _ _ q
    · exact q

/-! ### promises of own lists, of sources -/
abbrev DPo := List D → (List D → Prop) → (Str → Prop) → Prop
def MoPo (d : DPo) : Prop := ∀ ds (Q Q' : List D → Prop) (W W' : Str → Prop), (∀ r, Q r → Q' r) → (∀ n, W n → W' n) → d ds Q W → d ds Q' W'
def PostO (F H : Hp) (Q : VK) (rs : List D) : Prop := ∀ p vs F' H', Gw F H F' H' → H p = none → F' p = none → H' p = some (.lst vs) → RpA F' vs rs → Q (.ref p) H'
def toSpO (mg : Str → Option Value) (d : DPo) : Sp := fun vs H Q E => ∃ F ds, Same F H ∧ RpA F vs ds ∧ d ds (PostO F H Q) fun nm => ∀ C H', mg nm = some (.ref C) → Same H H' → E (.ref C) none H'
abbrev FnO (P : Program) (w : World) (K : PySem.W.Frag) (mg : Str → Option Value) (base : Heap) (k : Nat) (f : Addr) (fd : FuncData) (ps : List Str) (d : DPo) : Prop := FnOk P w K mg base (L2N.CX P w) k f fd ps (toSpO mg d)
def dFnO (d : DPo) (W : Str → Prop) (fs : DA) : DO := fun ρ Q => fs ρ fun ds ρ' => d ds (fun r => Q r ρ') W
theorem o_call {d : DPo} {W : Str → Prop} (G : FnO X.prog X.w X.K X.mg X.base k f fd ps d) (hd : MoPo d) (hr : Room k X.A) (hg : Gl X x) (hm : X.mg x = some (.ref f)) (hk : PySem.W.keepIn X.K (.ref f) = true) (hb : Binds X.K fd ps []) (hw : XW X B0 W) (ha : DXa X B0 (e :: es) fs)
    (hdb : (x == ("__debug__" : Str)) = false := by decide) (he : starEach (e :: es) X.env = (false, eval e X.env) :: starEach es X.env := by rfl) (hpl : (backTo pos (starEach es X.env)).any (·.1) = false := by rfl) : DXo X B0 (.Call (.Name x p) (e :: es) [] pos) (dFnO d W fs) where
  run B F0 hB := by
    obtain ⟨U, tk, hU⟩ := hw
    exact pe_imp (pe_callS G hr hg hm hk hb (L2N.passAt tk) (ha.run B F0 hB) hdb he hpl) fun σ H Q ⟨F, ρ, ok, h⟩ => ⟨F, ρ, ok, ha.mono _ _ _ (fun ds ρ' h' vs F' H' ok' s' r => ⟨F', ds, ok'.st, r,
      hd _ _ _ _ _ (fun r' h3 p ws F3 H3 g3 n1 n2 e3 rv => h3 p ws F3 H3 (ok'.gw g3) (s'.trans g3.ff) ⟨e3, ok'.bg.free n1, n2, fun j t h1 h2 h4 => ((ok'.sl j t _ h1 h4).ownAt h2).2.2 n1⟩ rv) (fun nm h3 C H3 hc s3 => hU σ nm C H3 h3 hc ((hB.trans ok'.bg).trans s3)) h'⟩) h⟩
  mono ρ Q Q' hq h := ha.mono _ _ _ (fun ds ρ' h' => hd _ _ _ _ _ (fun r h3 => hq _ _ h3) (fun _ h3 => h3) h') h
def SrcL (ds : List D) : Prop := ∃ c s p : Int, ds = [.int c, .int s, .int p] ∧ 0 ≤ c ∧ 0 ≤ s ∧ s < 1099511627776 ∧ 0 < p ∧ p < 1099511627776
/-- a new source out of the script and a number -/
def toSpN (K0 : PySem.W.Frag) (pre : List Int → Int → Prop) : Sp := fun vs H Q _ => ∃ F a ns i, vs = [.ref a, .int i] ∧ SqL K0 F a (ns.map V.int) ∧ Same F H ∧ pre ns i ∧ ∀ p F' H', Gw F H F' H' → H p = none → F' p = none → SrcAt H' p → Q (.ref p) H'
end
end DL

namespace DL
open PySem PySem.Spec PyProof.Rows L2
abbrev FnN (P : Program) (w : World) (K : PySem.W.Frag) (mg : Str → Option Value) (base : Heap) (k : Nat) (f : Addr) (fd : FuncData) (ps : List Str) (pre : List Int → Int → Prop) : Prop := FnOk P w K mg base (L2N.CX P w) k f fd ps (toSpN K pre)
section
variable {P : Program} {w : World} {K : PySem.W.Frag} {mg : Str → Option Value} {base : Heap}
def endsO (Q : List D → Prop) : DEnds := { nx := fun _ => False, rt := fun _ _ => False, ro := fun ds _ => Q ds }
theorem fnO {x qual : Str} {st : Stmt} {f : Addr} {fd : FuncData} {N ps : List Str} {k : Nat} {d : DPo} (F : Fun K x qual st f fd) (S : FnScope N ps (defScope st)) (len : ∀ ds Q W, d ds Q W → ds.length = ps.length)
    (hbody : ∀ (cdv : Value) (A : Around) (outer : List Env) (s : Shared) (H : Hp) (E : XK) (W : Str → Prop), Room k (A.deeper (envOfC qual (defScope st) s.heap.objs.size f cdv)) → XW (cxOf (L2N.CX P w) P w K mg base N qual (defScope st) f cdv A outer s H E) H W →
      ∃ t, DXb (cxOf (L2N.CX P w) P w K mg base N qual (defScope st) f cdv A outer s H E) H (defBody st) t ∧ ∀ ds Q, d ds Q W → t (endsO Q) (startS N ds)) : FnO P w K mg base (k + 1) f fd ps d := by
  refine okXN F S (fun vs H Q E h => ?_) (fun cdv A outer s H vs Q E hr h => ?_)
  · obtain ⟨F', ds, _, r, h⟩ := h
    rw [r.len]
    exact len _ _ _ h
  · obtain ⟨F', ds, s1, r, h⟩ := h
    obtain ⟨t, hb, ht⟩ := hbody cdv A outer s H E (fun nm => ∀ C H', mg nm = some (.ref C) → Same H H' → E (.ref C) none H') hr ⟨fun cls d _ H => E cls d H, L2N.takes_of rfl rfl rfl rfl, fun σ nm C H' h hc hs => h C H' hc hs⟩
    refine ⟨_, hb.run H F' (Same.refl _), F', startS N ds, endsO (PostO F' H Q), start_ok s1 r, ⟨fun _ _ _ _ _ z => z.elim, fun _ _ _ _ _ _ _ _ z => z.elim, fun _ _ _ _ _ z => z.elim, fun _ _ _ _ _ z => z.elim, ?_⟩, ht ds _ h⟩
    exact fun σ F2 ρ H2 p vs rs ok e1 e2 e3 rv q => q p vs F2 H2 ⟨ok.bg, ok.up, ok.st, ok.nw⟩ e2 e3 e1 rv
def startN (N : List Str) (ns : List Int) (i : Int) : List Sl := .scr ns :: .va (.int i) :: List.replicate (N.length - 2) .no
def endsN : DEnds := { nx := fun _ => False, rt := fun _ _ => False, ro := fun ds _ => SrcL ds }
theorem startN_ok {H F : Hp} {N : List Str} {a : Addr} {ns : List Int} {i : Int} (s : Same F H) (r : SqL K F a (ns.map V.int)) : StOk K H F F (startN N ns i) (L2.start N [.ref a, .int i]) H where
  bg := Same.refl _
  up := Same.refl _
  st := s
  nw a e := .inl e
  len := by
    unfold startN L2.start
    simp
  sl j t o h1 h2 := by
    unfold startN at h1
    unfold L2.start at h2
    match j with
    | 0 =>
      cases h1
      cases h2
      exact ⟨a, rfl, r⟩
    | 1 =>
      cases h1
      cases h2
      exact ⟨_, rfl, .int _⟩
    | j + 2 =>
      rw [List.getElem?_cons_succ, List.getElem?_cons_succ, List.getElem?_replicate] at h1
      split at h1
      · cases h1
        trivial
      · cases h1
  ap j l t u b hij h1 h2 h3 := by
    unfold startN at h1
    match j with
    | 0 =>
      cases h1
      cases h3
    | 1 =>
      cases h1
      cases h3
    | j + 2 =>
      rw [List.getElem?_cons_succ, List.getElem?_cons_succ, List.getElem?_replicate] at h1
      split at h1
      · cases h1
        cases h3
      · cases h1
theorem srcL_at {F H : Hp} {p : Addr} {vs : List V} {ds : List D} (e : H p = some (.lst vs)) (r : RpA F vs ds) (h : SrcL ds) : SrcAt H p := by
  obtain ⟨c, s, q, rfl, h⟩ := h
  have e2 := RpA.of_ints (ns := [c, s, q]) r
  subst e2
  exact ⟨c, s, q, e, h⟩
theorem fnN {x qual : Str} {st : Stmt} {f : Addr} {fd : FuncData} {N : List Str} {p1 p2 : Str} {k : Nat} {pre : List Int → Int → Prop} (F : Fun K x qual st f fd) (S : FnScope N [p1, p2] (defScope st))
    (hbody : ∀ (cdv : Value) (A : Around) (outer : List Env) (s : Shared) (H : Hp) (E : XK), Room k (A.deeper (envOfC qual (defScope st) s.heap.objs.size f cdv)) →
      ∃ t, DXb (cxOf (L2N.CX P w) P w K mg base N qual (defScope st) f cdv A outer s H E) H (defBody st) t ∧ ∀ ns i, pre ns i → t endsN (startN N ns i)) : FnN P w K mg base (k + 1) f fd [p1, p2] pre := by
  refine okXN F S (fun vs H Q E h => ?_) (fun cdv A outer s H vs Q E hr h => ?_)
  · obtain ⟨F', a, ns, i, rfl, _⟩ := h
    rfl
  · obtain ⟨F', a, ns, i, rfl, sq, s1, hp, h⟩ := h
    obtain ⟨t, hb, ht⟩ := hbody cdv A outer s H E hr
    refine ⟨_, hb.run H F' (Same.refl _), F', startN N ns i, endsN, startN_ok s1 sq, ⟨fun _ _ _ _ _ z => z.elim, fun _ _ _ _ _ _ _ _ z => z.elim, fun _ _ _ _ _ z => z.elim, fun _ _ _ _ _ z => z.elim, ?_⟩, ht ns i hp⟩
    exact fun σ F2 ρ H2 p vs rs ok e1 e2 e3 rv q => h p F2 H2 ⟨ok.bg, ok.up, ok.st, ok.nw⟩ e2 e3 (srcL_at e1 rv q)
end
section
variable {X : Cx} {B0 : Hp} {a b c e : Expr} {es : List Expr} {fa fb fc : DE} {fo : DO} {fs : DA} {pos p : Pos} {x : Str} {f : Addr} {fd : FuncData} {ps : List Str} {k : Nat}
/-- y = f(script, e): a new source -/
def dNewSrc (pre : List Int → Int → Prop) (i j : Nat) (fe : DE) : DS := fun DD ρ => match sg ρ j with
  | .scr ns => fe ρ fun d ρ' => asI d fun n => pre ns n ∧ ∀ q, DD.nx (ρ'.set i (.src q))
  | _ => False
theorem s_newSrc {i j : Nat} {y : Str} {py : Pos} {spos : Pos} {pre : List Int → Int → Prop} (G : FnN X.prog X.w X.K X.mg X.base k f fd ps pre) (hr : Room k X.A) (hg : Gl X x) (hm : X.mg x = some (.ref f)) (hk : PySem.W.keepIn X.K (.ref f) = true) (hb : Binds X.K fd ps []) (hv : PE X a (tVar j)) (hN : X.N.Nodup) (hi : X.N[i]? = some y) (hx : Loc X.env.scope y) (he : DX X B0 e fa)
    (hsA : starEach [a, e] X.env = (false, eval a X.env) :: starEach [e] X.env := by rfl) (hsE : starEach [e] X.env = (false, eval e X.env) :: starEach [] X.env := by rfl) (hpl : (backTo pos (starEach [e] X.env)).any (·.1) = false := by rfl) (hs : swapsWith (.Call (.Name x p) [a, e] [] pos) (some (.Name y py)) spos.line X.env = pure false := by rfl) (hdb : (x == ("__debug__" : Str)) = false := by decide) (hf : X.fn y = true ∨ X.env.scope.names.lookup y = some .local := by first | exact .inl rfl | exact .inr rfl | assumption) :
    DXs X B0 (.Assign [.Name y py] (.Call (.Name x p) [a, e] [] pos) spos) (dNewSrc pre i j fa) where
  run B F0 hB := ps_imp (ps_set hN hi hx (pe_callS G hr hg hm hk hb (L2N.passAt takes0N) (pa_cons hv (pa_cons (he.run B F0 hB) pa_nil hsE) hsA) hdb hsA hpl) hs hf) fun E σ H ⟨F, ρ, DD, ok, en, q⟩ => by
    unfold dNewSrc at q
    split at q
    · rename_i ns hj
      obtain ⟨q1, h1, h2⟩ := ok.scr hj
      refine ⟨_, h1, F, ρ, ok, he.mono _ _ _ (fun d ρ' q' v F' H' ok' s' r => ?_) q⟩
      obtain ⟨n, rfl, rfl, hp, q'⟩ := asI_rp r q'
      refine ⟨F', q1, ns, n, rfl, s'.seq h2, ok'.st, hp, fun z F3 H3 g3 n1 n2 hs3 => ?_⟩
      have ok3 := ok'.gw g3
      exact en.nx _ _ _ _ (ok3.set (s := .src z) ⟨rfl, ok'.bg.free n1, n2, hs3⟩ fun _ j t b _ h1 h2 h3 h4 => by
        cases h3
        exact ((ok'.sl j t _ h1 h4).ownAt h2).2.2 n1) (q' z)
    · exact q.elim
  mono a b ρ l q := by
    unfold dNewSrc at q ⊢
    split at q
    · exact he.mono _ _ _ (fun d ρ' q' => asI_mono (fun n h => ⟨h.1, fun z => l.nx _ (h.2 z)⟩) q') q
    · exact q
end
end DL

namespace DL
open PySem PySem.Spec PyProof.Rows L2
abbrev noW : Str → Prop := fun _ => False
theorem hu64 {k : Nat} {A : Around} (hr : Room k A) : A.units + 64 < cLine := by
  have := hr.un
  omega
abbrev oLst (fs : DA) : DO := fun ρ Q => fs ρ fun ds ρ' => ds.length ≤ sizeLine ∧ Q ds ρ'
abbrev oRep (fa fb : DE) : DO := fun ρ Q => fa ρ fun d ρ1 => fb ρ1 fun n ρ2 => ∃ ds k, d = .list ds ∧ n = .int k ∧ (-(2 ^ 63) ≤ k ∧ k < 2 ^ 63 ∧ ds.length * k.toNat ≤ sizeLine) ∧ Q (List.replicate k.toNat ds).flatten ρ2
abbrev oListStr (fa : DE) : DO := fun ρ Q => fa ρ fun d ρ' => ∃ z, d = .str z ∧ z.cps.size ≤ sizeLine ∧ Q (chars z) ρ'
section
variable {P : Program} {w : World} {K : PySem.W.Frag} {mg : Str → Option Value} {base : Heap}
def spLaw (K : PySem.W.Frag) : Sp := fun vs H Q _ => ∃ (a : Addr) (ns : List Int), vs = [.ref a] ∧ SqL K H a (ns.map V.int) ∧ ns.length ≤ 63 ∧ ∀ H', Q (.bl true) H'
def startL (N : List Str) (ns : List Int) : List Sl := .scr ns :: List.replicate (N.length - 1) .no
def endsL : DEnds := { nx := fun _ => False, rt := fun d _ => d = .bool true }
theorem startL_ok {H F : Hp} {N : List Str} {a : Addr} {ns : List Int} (s : Same F H) (r : SqL K F a (ns.map V.int)) : StOk K H F F (startL N ns) (L2.start N [.ref a]) H where
  bg := Same.refl _
  up := Same.refl _
  st := s
  nw a e := .inl e
  len := by
    unfold startL L2.start
    simp
  sl j t o h1 h2 := by
    unfold startL at h1
    unfold L2.start at h2
    match j with
    | 0 =>
      cases h1
      cases h2
      exact ⟨a, rfl, r⟩
    | j + 1 =>
      rw [List.getElem?_cons_succ, List.getElem?_replicate] at h1
      split at h1
      · cases h1
        trivial
      · cases h1
  ap j l t u b hij h1 h2 h3 := by
    unfold startL at h1
    match j with
    | 0 =>
      cases h1
      cases h3
    | j + 1 =>
      rw [List.getElem?_cons_succ, List.getElem?_replicate] at h1
      split at h1
      · cases h1
        cases h3
      · cases h1
theorem fnL {st : Stmt} {f : Addr} {fd : FuncData} {N : List Str} {p1 : Str} {k : Nat} {x qual : Str} (F : Fun K x qual st f fd) (S : FnScope N [p1] (defScope st))
    (hbody : ∀ (cdv : Value) (A : Around) (outer : List Env) (s : Shared) (H : Hp) (E : XK), Room k (A.deeper (envOfC qual (defScope st) s.heap.objs.size f cdv)) →
      ∃ t, DXb (cxOf (L2N.CX P w) P w K mg base N qual (defScope st) f cdv A outer s H E) H (defBody st) t ∧ ∀ ns, ns.length ≤ 63 → t endsL (startL N ns)) : FnOk P w K mg base (L2N.CX P w) (k + 1) f fd [p1] (spLaw K) := by
  refine okXN F S (fun vs H Q E h => ?_) (fun cdv A outer s H vs Q E hr h => ?_)
  · obtain ⟨a, ns, rfl, _⟩ := h
    rfl
  · obtain ⟨a, ns, rfl, sq, hl, h⟩ := h
    obtain ⟨t, hb, ht⟩ := hbody cdv A outer s H E hr
    refine ⟨_, hb.run H H (Same.refl _), H, startL N ns, endsL, startL_ok (Same.refl _) sq, ⟨fun _ _ _ _ _ z => z.elim, ?_, fun _ _ _ _ _ z => z.elim, fun _ _ _ _ _ z => z.elim, fun _ _ _ _ _ _ _ _ _ _ _ _ z => z.elim⟩, ht ns hl⟩
    intro σ F2 ρ H2 v d ok rv e
    have e : d = .bool true := e
    subst e
    cases rv
    exact h H2
end
end DL

namespace DL
open PySem PySem.Spec PyProof.Rows L2

/-! ### typed data -/
abbrev Tx := List Nat
def tx (l : Tx) : Str := ⟨l.toArray⟩
/-- a text -/
abbrev S (l : Tx) : D := .str (tx l)
/-- a tuple of texts: a keypad -/
abbrev Kd (kp : List Tx) : D := .tuple (kp.map S)
/-- a tuple of ints: a log -/
abbrev Ld (l : List Int) : D := .tuple (l.map PyData.int)
theorem tx_length (l : Tx) : (tx l).length = l.length := List.size_toArray ..
theorem tx_size (l : Tx) : (tx l).cps.size = l.length := List.size_toArray ..
theorem tx_inj {a b : Tx} (h : tx a = tx b) : a = b := by
  have := congrArg (fun s : Str => s.cps.toList) h
  simpa [tx] using this
theorem tx_eq {a b : Tx} : (tx a = tx b) ↔ a = b := ⟨tx_inj, fun h => h ▸ rfl⟩
theorem tx_append (a b : Tx) : tx a ++ tx b = tx (a ++ b) := by
  show (⟨(tx a).cps ++ (tx b).cps⟩ : Str) = tx (a ++ b)
  unfold tx
  simp
theorem tx_list (a : Tx) : (tx a).cps.toList = a := by simp [tx]
theorem str_tx (x : Str) : x = tx x.cps.toList := by
  cases x
  simp [tx]
theorem chars_tx (l : Tx) : chars (tx l) = l.map fun c => S [c] := by
  unfold chars
  rw [tx_list]
  rfl
theorem signs_tx (l : Tx) : DLs.signs (tx l) = l.map fun c => tx [c] := by
  unfold DLs.signs
  rw [tx_list]
  rfl
/-- how many different signs behind those seen -/
def ndc : Tx → Tx → Nat
  | _, [] => 0
  | seen, x :: r => (if x ∈ seen then 0 else 1) + ndc (seen ++ [x]) r
theorem dcount_tx : ∀ (l p : Tx), DLs.dcount (p.map fun c => tx [c]) (l.map fun c => tx [c]) = ndc p l
  | [], _ => rfl
  | x :: r, p => by
    rw [List.map_cons, DLs.dcount_cons]
    unfold ndc
    have h := dcount_tx r (p ++ [x])
    rw [List.map_append] at h
    rw [← h]
    have e : ((p.map fun c => tx [c]).any (· == tx [x]) = true) ↔ x ∈ p := by
      rw [List.any_map, List.any_eq_true]
      constructor
      · rintro ⟨y, hy, hb⟩
        have := tx_inj (eq_of_beq hb)
        cases this
        exact hy
      · intro hx
        exact ⟨x, hx, beq_self_eq_true _⟩
    simp only [e]
    rfl
theorem ndc_le : ∀ (l p : Tx), ndc p l ≤ l.length
  | [], _ => Nat.le_refl _
  | x :: r, p => by
    unfold ndc
    have h := ndc_le r (p ++ [x])
    rw [List.length_cons]
    split <;> omega
theorem ndc_nodup : ∀ (l p : Tx), ndc p l = l.length ↔ (l.Nodup ∧ ∀ x ∈ l, x ∉ p)
  | [], p => by simp [ndc]
  | x :: r, p => by
    unfold ndc
    have hle := ndc_le r (p ++ [x])
    have h := ndc_nodup r (p ++ [x])
    rw [List.length_cons, List.nodup_cons]
    by_cases hx : x ∈ p
    · rw [if_pos hx]
      constructor
      · intro q
        omega
      · intro ⟨_, q⟩
        exact absurd hx (q x List.mem_cons_self)
    · rw [if_neg hx]
      constructor
      · intro q
        obtain ⟨h1, h2⟩ := h.mp (by omega)
        refine ⟨⟨fun hr => h2 x hr (List.mem_append.mpr (.inr List.mem_cons_self)), h1⟩, fun y hy => ?_⟩
        rcases List.mem_cons.mp hy with rfl | hy
        · exact hx
        · exact fun z => h2 y hy (List.mem_append.mpr (.inl z))
      · intro ⟨⟨h1, h2⟩, h3⟩
        have := h.mpr ⟨h2, fun y hy z => by
          rcases List.mem_append.mp z with z | z
          · exact h3 y (List.mem_cons_of_mem _ hy) z
          · simp at z
            subst z
            exact h1 hy⟩
        omega
theorem dcount_signs (l : Tx) : DLs.dcount [] (DLs.signs (tx l)) = ndc [] l := by
  rw [signs_tx]
  exact dcount_tx l []

/-! ### == of data -/
theorem eqvAll_eq {α : Type} [DecidableEq α] (f : α → D) (h : ∀ a b, PyData.eqv (f a) (f b) = decide (a = b)) : ∀ xs ys : List α, PyData.eqvAll (xs.map f) (ys.map f) = decide (xs = ys)
  | [], [] => by simp [PyData.eqvAll]
  | x :: xs, [] => by simp [PyData.eqvAll]
  | [], y :: ys => by simp [PyData.eqvAll]
  | x :: xs, y :: ys => by
    rw [List.map_cons, List.map_cons, PyData.eqvAll, h, eqvAll_eq f h xs ys]
    by_cases e : x = y <;> by_cases e2 : xs = ys <;> simp [e, e2]
theorem eqv_int (a b : Int) : PyData.eqv (.int a) (.int b) = decide (a = b) := by
  rw [PyData.eqv]
  by_cases e : a = b <;> simp [e]
theorem eqv_bool (a b : Bool) : PyData.eqv (.bool a) (.bool b) = decide (a = b) := by
  rw [PyData.eqv]
  by_cases e : a = b <;> simp [e]
theorem eqv_str (a b : Str) : PyData.eqv (.str a) (.str b) = decide (a = b) := by
  rw [PyData.eqv]
  by_cases e : a = b <;> simp [e]
theorem eqv_S (a b : Tx) : PyData.eqv (S a) (S b) = decide (a = b) := by
  rw [eqv_str]
  by_cases e : a = b
  · simp [e]
  · simp [e, tx_eq]
theorem eqv_list {α : Type} [DecidableEq α] {f : α → D} (h : ∀ a b, PyData.eqv (f a) (f b) = decide (a = b)) (xs ys : List α) : PyData.eqv (.list (xs.map f)) (.list (ys.map f)) = decide (xs = ys) := by
  rw [PyData.eqv]
  exact eqvAll_eq f h xs ys
theorem eqv_tuple {α : Type} [DecidableEq α] {f : α → D} (h : ∀ a b, PyData.eqv (f a) (f b) = decide (a = b)) (xs ys : List α) : PyData.eqv (.tuple (xs.map f)) (.tuple (ys.map f)) = decide (xs = ys) := by
  rw [PyData.eqv]
  exact eqvAll_eq f h xs ys
theorem eqv_Kd (a b : List Tx) : PyData.eqv (Kd a) (Kd b) = decide (a = b) := eqv_tuple eqv_S a b
theorem eqv_Ld (a b : List Int) : PyData.eqv (Ld a) (Ld b) = decide (a = b) := eqv_tuple eqv_int a b
theorem eqv_nil (xs : List D) : PyData.eqv (.list xs) (.list []) = decide (xs = []) := by
  rw [PyData.eqv]
  cases xs <;> simp [PyData.eqvAll]
theorem eqv_pair {α β : Type} [DecidableEq α] [DecidableEq β] {f : α → D} {g : β → D} (hf : ∀ a b, PyData.eqv (f a) (f b) = decide (a = b)) (hg : ∀ a b, PyData.eqv (g a) (g b) = decide (a = b)) (a b : α × β) : PyData.eqv (.tuple [f a.1, g a.2]) (.tuple [f b.1, g b.2]) = decide (a = b) := by
  rw [PyData.eqv, PyData.eqvAll, PyData.eqvAll, PyData.eqvAll, hf, hg]
  obtain ⟨a1, a2⟩ := a
  obtain ⟨b1, b2⟩ := b
  by_cases e : a1 = b1 <;> by_cases e2 : a2 = b2 <;> simp [e, e2]

/-! ### shapes -/
/-- flat enough: at most n levels -/
def Shp (n : Nat) (d : D) : Prop := d.canLay0 = true ∧ d.depth ≤ n
theorem Shp.ok {n : Nat} {d : D} (h : Shp n d) (hn : n ≤ 64 := by decide) : SeqAt.shaped d = true := by
  unfold SeqAt.shaped
  rw [h.1, Bool.true_and]
  exact decide_eq_true (Nat.le_trans h.2 hn)
theorem Shp.mono {n m : Nat} {d : D} (h : Shp n d) (hn : n ≤ m := by decide) : Shp m d := ⟨h.1, Nat.le_trans h.2 hn⟩
theorem shp_int (i : Int) : Shp 0 (.int i) := ⟨by simp [PyData.canLay0], by simp [PyData.depth]⟩
theorem shp_bool (i : Bool) : Shp 0 (.bool i) := ⟨by simp [PyData.canLay0], by simp [PyData.depth]⟩
theorem shp_none : Shp 0 .none := ⟨by simp [PyData.canLay0], by simp [PyData.depth]⟩
/-- letters -/
def Lett (l : Tx) : Prop := ∀ c ∈ l, 97 ≤ c ∧ c ≤ 122
theorem shp_S {l : Tx} (h : Lett l) : Shp 0 (S l) := by
  refine ⟨?_, by simp [PyData.depth]⟩
  unfold PyData.canLay0
  unfold PyData.strOk
  rw [Array.all_eq_true']
  intro c hc
  have : c ∈ l := by simpa [tx] using hc
  have := h c this
  exact decide_eq_true (by omega)
theorem shp_all {n : Nat} : ∀ {ds : List D}, (∀ d ∈ ds, Shp n d) → PyData.canLayAll0 ds = true ∧ PyData.depthAll ds ≤ n
  | [], _ => ⟨by simp [PyData.canLayAll0], by simp [PyData.depthAll]⟩
  | d :: ds, h => by
    have h1 := h d List.mem_cons_self
    have h2 := shp_all fun e he => h e (List.mem_cons_of_mem _ he)
    refine ⟨?_, ?_⟩
    · rw [PyData.canLayAll0, h1.1, h2.1] <;> rfl
    · rw [PyData.depthAll]
      exact Nat.max_le.mpr ⟨h1.2, h2.2⟩
theorem shp_list {n : Nat} {ds : List D} (h : ∀ d ∈ ds, Shp n d) : Shp (n + 1) (.list ds) := by
  have q := shp_all h
  exact ⟨by rw [PyData.canLay0]; exact q.1, by rw [PyData.depth]; exact Nat.succ_le_succ q.2⟩
theorem shp_tuple {n : Nat} {ds : List D} (h : ∀ d ∈ ds, Shp n d) : Shp (n + 1) (.tuple ds) := by
  have q := shp_all h
  exact ⟨by rw [PyData.canLay0]; exact q.1, by rw [PyData.depth]; exact Nat.succ_le_succ q.2⟩
theorem shp_map {α : Type} {n : Nat} {f : α → D} {xs : List α} (h : ∀ a ∈ xs, Shp n (f a)) : ∀ d ∈ xs.map f, Shp n d := fun d hd => by
  obtain ⟨a, ha, rfl⟩ := List.mem_map.mp hd
  exact h a ha
theorem shp_nil {n : Nat} : Shp (n + 1) (.list []) := shp_list fun _ h => nomatch h
theorem shp_Ld (l : List Int) : Shp 1 (Ld l) := shp_tuple (shp_map fun a _ => shp_int a)
theorem shp_Kd {kp : List Tx} (h : ∀ k ∈ kp, Lett k) : Shp 1 (Kd kp) := shp_tuple (shp_map fun a ha => shp_S (h a ha))

theorem mul_tx (l : Tx) (k : Int) : Txt.mul (tx l) k = tx (List.replicate k.toNat l).flatten := by
  have rep : ∀ (n : Nat) (a : Array Nat), ((List.replicate n (tx l).cps).foldl (· ++ ·) a).toList = a.toList ++ (List.replicate n l).flatten := by
    intro n
    induction n with
    | zero => intro a; simp
    | succ n ih =>
      intro a
      rw [List.replicate_succ, List.foldl_cons, ih]
      simp [tx, List.replicate_succ]
  rw [str_tx (Txt.mul (tx l) k)]
  congr 1
  unfold Txt.mul
  by_cases h1 : k < 1
  · rw [if_pos h1, show k.toNat = 0 by omega]
    rfl
  · rw [if_neg h1]
    by_cases h2 : (k == 1 || (tx l).length == 0) = true
    · rw [if_pos h2, tx_list]
      rw [Bool.or_eq_true, beq_iff_eq, beq_iff_eq, tx_length] at h2
      rcases h2 with h2 | h2
      · rw [h2]
        simp
      · rw [List.length_eq_zero_iff.mp h2]
        induction k.toNat with
        | zero => rfl
        | succ n ih => rw [List.replicate_succ, List.flatten_cons, ← ih]; rfl
    · rw [if_neg h2, rep]
      rfl
/-! ### transformers at known data -/
section
variable {P : D → Prop} {R : Bool → Prop} {J : Int → Prop} {L : List D → Prop} {a b : Int} {x y : Str} {xs ys : List D} {kvs : List (D × D)} {ρ : List Sl} {Q : List Sl → Prop} {g : DG} {gs : DGs} {d : D} {lo hi : Option Int}
theorem asB_b {k : Bool} : asB (.bool k) R = R k := rfl
theorem asI_i : asI (.int a) J = J a := rfl
theorem asL_l : asLst (.list xs) L = L xs := rfl
theorem itemsP_l : itemsP (.list xs) L = L xs := rfl
theorem itemsP_t : itemsP (.tuple xs) L = L xs := rfl
theorem itemsP_s : itemsP (.str x) L = L (chars x) := rfl
theorem itemsP_d : itemsP (.dict kvs) L = L (kvs.map (·.1)) := rfl
theorem gAdd_i : gAdd (.int a) (.int b) P = P (.int (a + b)) := rfl
theorem gAdd_s : gAdd (.str x) (.str y) P = (x.length + y.length ≤ sizeLine ∧ P (.str (x ++ y))) := rfl
theorem gAdd_t : gAdd (.tuple xs) (.tuple ys) P = (xs.length + ys.length ≤ sizeLine ∧ P (.tuple (xs ++ ys))) := rfl
theorem gAdd_l : gAdd (.list xs) (.list ys) P = (xs.length + ys.length ≤ sizeLine ∧ P (.list (xs ++ ys))) := rfl
theorem gI2_i {C : Int → Int → Prop} {f : Int → Int → D} : gI2 C f (.int a) (.int b) P = (C a b ∧ P (f a b)) := rfl
theorem gMul_i : gMul (.int a) (.int b) P = (CMul a b ∧ P (.int (a * b))) := rfl
theorem gMul_t : gMul (.tuple xs) (.int a) P = ((-(2 ^ 62) ≤ a ∧ a ≤ 1000 ∧ xs.length ≤ 1000) ∧ P (.tuple (List.replicate a.toNat xs).flatten)) := rfl
theorem gMul_l : gMul (.list xs) (.int a) P = ((-(2 ^ 63) ≤ a ∧ a < 2 ^ 63 ∧ xs.length * a.toNat ≤ sizeLine) ∧ P (.list (List.replicate a.toNat xs).flatten)) := rfl
theorem gMul_s : gMul (.str x) (.int a) P = ((-(2 ^ 62) ≤ a ∧ a ≤ 1000 ∧ x.length ≤ 1000) ∧ P (.str (Txt.mul x a))) := rfl
theorem gNeg_i : gNeg (.int a) P = P (.int (-a)) := rfl
theorem gLen_s : gLen (.str x) P = (x.length ≤ sizeLine ∧ P (.int x.length)) := rfl
theorem gLen_l : gLen (.list xs) P = P (.int xs.length) := rfl
theorem gLen_t : gLen (.tuple xs) P = P (.int xs.length) := rfl
theorem gL1_1 {g : G1} : gL1 g [d] P = g d P := rfl
theorem gAll_l : gAll (.list xs) P = ∃ bs : List Bool, xs = bs.map .bool ∧ P (.bool (bs.all id)) := rfl
theorem gSum_l : gSum (.list xs) P = ∃ ns : List Int, xs = ns.map .int ∧ P (.int ns.sum) := rfl
theorem gI2L_i {f : Int → Int → Int} : gI2L f [.int a, .int b] P = P (.int (f a b)) := rfl
theorem gMaxL_l : gMaxL (.list xs) P = ∃ ns : List Int, xs = ns.map .int ∧ 0 < ns.length ∧ ∀ m, m ∈ ns → (∀ y ∈ ns, y ≤ m) → P (.int m) := rfl
theorem gMinL_l : gMinL (.list xs) P = ∃ ns : List Int, xs = ns.map .int ∧ 0 < ns.length ∧ ∀ m, m ∈ ns → (∀ y ∈ ns, m ≤ y) → P (.int m) := rfl
theorem gJoin_l : gJoin (.str x) [.list ys] P = ∃ zs : List Str, ys = zs.map .str ∧ (zs.map (·.length)).sum + zs.length * x.length ≤ 16777216 ∧ P (.str (Txt.join x zs)) := rfl
theorem gJoin_t : gJoin (.str x) [.tuple ys] P = ∃ zs : List Str, ys = zs.map .str ∧ (zs.map (·.length)).sum + zs.length * x.length ≤ 16777216 ∧ P (.str (Txt.join x zs)) := rfl
theorem gSl_l : gSl lo hi (.list xs) P = P (.list (cutD xs lo hi)) := rfl
theorem gSl_t : gSl lo hi (.tuple xs) P = P (.tuple (cutD xs lo hi)) := rfl
theorem gSl_s : gSl lo hi (.str x) P = (x.length ≤ sizeLine ∧ P (.str (cutS x lo hi))) := rfl
theorem gRev_l : gRev (.list xs) P = P (.list xs.reverse) := rfl
theorem gIdx_l : gIdx (.list xs) (.int a) P = ∃ v, atI xs a = some v ∧ P v := rfl
theorem gIdx_t : gIdx (.tuple xs) (.int a) P = ∃ v, atI xs a = some v ∧ P v := rfl
theorem gIdx_s : gIdx (.str x) (.int a) P = (x.length ≤ sizeLine ∧ ∃ c, atI x.cps.toList a = some c ∧ P (.str ⟨#[c]⟩)) := rfl
theorem gIdx_d : gIdx (.dict kvs) d P = ∃ v, lookD kvs d = some v ∧ P v := rfl
theorem dgTup_t : dgTup gs (.tuple xs) ρ Q = gs xs ρ Q := rfl
theorem dgCons_c : dgCons g gs (d :: xs) ρ Q = g d ρ fun ρ' => gs xs ρ' Q := rfl
end

/-! ### loops, comprehensions -/
section
variable {α : Type} {g : DG} {t : DS} {tt : DT} {fe : DE} {vs : List Nat}
theorem for_ind (inj : α → D) {DD : DEnds} {ρ : List Sl} (I : List α → List Sl → Prop) {xs : List α} (h0 : I [] ρ)
    (hs : ∀ (done : List α) (x : α) (rest : List α) (ρ : List Sl), xs = done ++ x :: rest → I done ρ → ∀ N : List Sl → Prop, (∀ ρ', I (done ++ [x]) ρ' → N ρ') → g (inj x) ρ fun ρ1 => t { nx := N, rt := DD.rt, bk := DD.nx, ct := N, ro := DD.ro } ρ1)
    (he : ∀ ρ, I xs ρ → DD.nx ρ) : dForL g t (xs.map inj) DD ρ := by
  have key : ∀ (rest done : List α) (ρ : List Sl), xs = done ++ rest → I done ρ → dForL g t (rest.map inj) DD ρ := by
    intro rest
    induction rest with
    | nil =>
      intro done ρ e h
      rw [List.append_nil] at e
      subst e
      exact he ρ h
    | cons x rest ih =>
      intro done ρ e h
      exact hs done x rest ρ e h _ fun ρ' h' => ih (done ++ [x]) ρ' (by rw [e, List.append_assoc]; rfl) h'
  exact key xs [] ρ rfl h0
theorem lc_map (inj : α → D) (F : α → D) {Q : List D → List Sl → Prop} {ρ : List Sl} : ∀ (xs : List α) (acc : List D),
    (∀ x ∈ xs, ∀ (R : D → List Sl → Prop) (N : List Sl → Prop), (∀ ρ3, wipeS ρ3 vs = ρ → R (F x) ρ3) → g (inj x) ρ fun ρ1 => tt ρ1 fun b ρ2 => if b = true then fe ρ2 R else N ρ2) →
    acc.length + xs.length ≤ sizeLine → Q (acc ++ xs.map F) ρ → dLcL g tt fe vs Q (xs.map inj) acc ρ
  | [], acc, _, _, q => by
    rw [List.map_nil, List.append_nil] at q
    exact q
  | x :: xs, acc, h, hl, q => by
    rw [List.length_cons] at hl
    refine h x List.mem_cons_self _ _ fun ρ3 e => ⟨by omega, ?_⟩
    rw [e]
    refine lc_map inj F xs (acc ++ [F x]) (fun y hy => h y (List.mem_cons_of_mem _ hy)) (by rw [List.length_append, List.length_singleton]; omega) ?_
    rw [List.append_assoc]
    exact q
theorem lc_filter (inj : α → D) (p : α → Bool) (F : α → D) {Q : List D → List Sl → Prop} {ρ : List Sl} : ∀ (xs : List α) (acc : List D),
    (∀ x ∈ xs, ∀ (R : D → List Sl → Prop) (N : List Sl → Prop), (p x = true → ∀ ρ3, wipeS ρ3 vs = ρ → R (F x) ρ3) → (p x = false → ∀ ρ3, wipeS ρ3 vs = ρ → N ρ3) → g (inj x) ρ fun ρ1 => tt ρ1 fun b ρ2 => if b = true then fe ρ2 R else N ρ2) →
    acc.length + xs.length ≤ sizeLine → Q (acc ++ (xs.filter p).map F) ρ → dLcL g tt fe vs Q (xs.map inj) acc ρ
  | [], acc, _, _, q => by
    rw [List.filter_nil, List.map_nil, List.append_nil] at q
    exact q
  | x :: xs, acc, h, hl, q => by
    rw [List.length_cons] at hl
    refine h x List.mem_cons_self _ _ (fun hp ρ3 e => ⟨by omega, ?_⟩) (fun hp ρ3 e => ?_)
    · rw [e]
      refine lc_filter inj p F xs (acc ++ [F x]) (fun y hy => h y (List.mem_cons_of_mem _ hy)) (by rw [List.length_append, List.length_singleton]; omega) ?_
      rw [List.filter_cons_of_pos hp] at q
      rw [List.append_assoc]
      exact q
    · show dLcL g tt fe vs Q (xs.map inj) acc (wipeS ρ3 vs)
      rw [e]
      refine lc_filter inj p F xs acc (fun y hy => h y (List.mem_cons_of_mem _ hy)) (by omega) ?_
      rw [List.filter_cons_of_neg (by rw [hp]; exact Bool.false_ne_true)] at q
      exact q
end
theorem small_le {n : Nat} (h : n ≤ 1000) : n ≤ sizeLine := Nat.le_of_lt (small1000 h)
end DL

/-! HL1: ends of iterators, unpacking, zip and comprehensions while an exception is handled. -/
namespace HotZ
open PySem PySem.Spec PyProof.Rows HotX
section
variable {prog : Program} {w : World} {A : Around} {E : Value → Shared → Prop} {s : Shared}
/-- a StopIteration is made and raised; x1 is handled -/
theorem stop_hot {α : Type} {x1 : Addr} {Q : α → Shared → Prop} (hot : HotAt A x1 s.heap)
    (hE : ∀ h' e, (∀ b o, s.heap.get? b = some o → h'.get? b = some o) → (∃ o, h'.get? e = some o ∧ o.cls = .type "StopIteration") → E (.ref e) { s with heap := h' }) :
    wpAny (model prog w) A (newExc (.type "StopIteration") [] >>= fun e => (raiseNew e : Sem α)) Q E s := by
  obtain ⟨hh, o1, vs1, h1, d1, c1⟩ := hot
  refine wpAny_bind ?_
  simp only [newExc, newTuple]
  refine wpAny_bind (wpAny_newObj_type (wpAny_bind (m := firstArgMember _ _) (wpAny_of_eq (a := Value.none) (by first | rfl | (simp only [firstArgMember]; rfl)) (wpAny_newObj_type ?_ (by size_fits)))) (by size_fits))
  have up : ∀ (b : Addr) (o : Obj), s.heap.get? b = some o → ∀ o1 o2 : Obj, ((s.heap.push o1).push o2).get? b = some o := fun b o e _ _ => Heap.get?_push_of_some _ (Heap.get?_push_of_some _ e)
  refine raiseNew_hot ⟨hh, o1, vs1, up x1 o1 h1 _ _, d1, c1⟩ (Nat.ne_of_lt (Heap.lt_size (Heap.get?_push_of_some _ h1))) (Heap.get?_push_size _ rfl) rfl (by first | (simp; done) | (simp; omega) | (simp only [Array.size_append]; simp; omega))
    (hE _ _ (fun b o e => ?_) ⟨_, Heap.get?_update_self _ (Heap.get?_push_size _ rfl) rfl, rfl⟩)
  rw [Heap.get?_update_other _ _ (Nat.ne_of_gt (Heap.lt_size (Heap.get?_push_of_some _ e)))]
  exact up b o e _ _
theorem hot_push {x1 : Addr} {h h' : Heap} (hot : HotAt A x1 h) (k : ∀ o, h.get? x1 = some o → h'.get? x1 = some o) : HotAt A x1 h' := by
  obtain ⟨hh, o1, vs1, h1, d1, c1⟩ := hot
  exact ⟨hh, o1, vs1, k o1 h1, d1, c1⟩
/-- the end of a list's iterator -/
theorem list_end_hot {p q x1 : Addr} {n : Nat} {vs : Array Value} {Q : Value → Shared → Prop} (hot : HotAt A x1 s.heap) (hn : x1 ≠ p) (hp : s.heap.IsListIter p q n) (hq : s.heap.IsList q vs) (he : vs[n]? = none)
    (hE : ∀ h' e, Heap.ExtBut p s.heap h' → (∃ o, h'.get? e = some o ∧ o.cls = .type "StopIteration") → E (.ref e) { s with heap := h' }) :
    wpAny (model prog w) A (Builtin.SmallTypes.nextOf (.ref p)) Q E s := by
  obtain ⟨op, gp, cp, dp⟩ := id hp
  obtain ⟨oq, gq, _, nq, dq⟩ := hq
  have hb : ¬ (Value.ref q == Value.none) = true := Bool.false_ne_true
  unfold Builtin.SmallTypes.nextOf
  refine wpAny_bind (wpAny_callSpecial?_slot (name := Str.ofString "__next__") hp.typeIs slot_listiter_next (wpAny_call_entry slot_listiter_next hp.typeIs entry_listiter_next ?_ (args_listiter_next _)))
  refine wpAny_bind (m := field (.ref p) 0) (wpAny_field gp dp (x := .ref q) rfl ?_)
  show wpAny _ _ (ite _ _ _) _ _ s
  rw [if_neg hb]
  refine wpAny_bind (m := field (.ref p) 1) (wpAny_field gp dp (x := .int n 0) rfl (wpAny_bind (m := seqItems? (.ref q)) (wpAny_seqItems gq dq ?_)))
  simp only [Int.toNat_natCast, he]
  refine wpAny_bind (wpAny_rule (wpAny_bind (wpAny_setField gp dp (by simp) ?_)))
  have sb := Heap.SameBut.update s.heap p (Obj.mapFields (·.setIfInBounds 0 Value.none))
  show wpAny _ A.in1 (newExc (.type "StopIteration") [] >>= fun e => raiseNew e) _ _ _
  exact stop_hot (A := A.in1) (hot_push (A := A.in1) hot fun o e => sb.extBut x1 o hn e) fun h' e k x => hE h' e (fun b o hb e' => k b o (sb.extBut b o hb e')) x
/-- the end of a tuple's iterator -/
theorem tuple_end_hot {p q x1 : Addr} {n : Nat} {vs : Array Value} {Q : Option Value → Shared → Prop} (hot : HotAt A x1 s.heap) (hn : x1 ≠ p) (hp : IsTupIter s.heap p q n) (hq : IsTup s.heap q vs) (he : vs[n]? = none)
    (hQ : ∀ h', Heap.ExtBut p s.heap h' → Q none { s with heap := h' }) : wpAny (model prog w) A (pyNext (.ref p)) Q E s := by
  obtain ⟨op, gp, cp, dp⟩ := id hp
  obtain ⟨oq, gq, _, nq, dq⟩ := hq
  have hb : ¬ (Value.ref q == Value.none) = true := Bool.false_ne_true
  unfold pyNext
  refine wpAny_bind (wpAny_attempt (wpAny_callSpecial?_slot (name := Str.ofString "__next__") hp.typeIs slot_tupleiter_next (wpAny_call_entry slot_tupleiter_next hp.typeIs entry_tupleiter_next ?_ (args_tupleiter_next _))))
  refine wpAny_bind (m := field (.ref p) 0) (wpAny_field gp dp (x := .ref q) rfl ?_)
  show wpAny _ _ (ite _ _ _) _ _ s
  rw [if_neg hb]
  refine wpAny_bind (m := field (.ref p) 1) (wpAny_field gp dp (x := .int n 0) rfl (wpAny_bind (m := seqItems? (.ref q)) (wpAny_seqItems gq dq ?_)))
  simp only [Int.toNat_natCast, he]
  refine wpAny_bind (wpAny_rule (wpAny_bind (wpAny_setField gp dp (by simp) ?_)))
  have sb := Heap.SameBut.update s.heap p (Obj.mapFields (·.setIfInBounds 0 Value.none))
  show wpAny _ A.in1 (newExc (.type "StopIteration") [] >>= fun e => raiseNew e) _ _ _
  refine stop_hot (A := A.in1) (hot_push (A := A.in1) hot fun o e => sb.extBut x1 o hn e) fun h' e k ⟨o, ho, hc⟩ => ?_
  exact wpAny_bind (wpAny_isInstance (T := "StopIteration") (b := true) ⟨o, ho, hc⟩ isSubtype_stop (wpAny_pure (hQ h' fun b o hb e' => k b o (sb.extBut b o hb e'))))
/-- a tuple is taken apart -/
theorem unpack_hot {q x1 : Addr} {vs : Array Value} {tgs : List (Bool × (Value → Sem Unit))} {Q : Unit → Shared → Prop} (hot : HotAt A x1 s.heap) (hq : IsTup s.heap q vs) (hl : tgs.length = vs.size) (hs : tgs.findIdx? (·.1) = none)
    (h : ∀ h', Heap.ExtBut s.heap.objs.size s.heap h' → wpAny (model prog w) A (assignInOrder (tgs.map (·.2)) vs.toList) Q E { s with heap := h' }) : wpAny (model prog w) A (unpack (.ref q) tgs) Q E s := by
  have hx1 : x1 < s.heap.objs.size := by
    obtain ⟨_, o1, _, h1, _⟩ := hot
    exact Heap.lt_size h1
  have hq1 : q < s.heap.objs.size := by
    obtain ⟨o, ho, _⟩ := hq
    exact Heap.lt_size ho
  have all : List.take vs.size (List.drop 0 vs.toList) = vs.toList := by
    rw [List.drop_zero]
    exact List.take_of_length_le (by simp)
  unfold unpack
  rw [hl, hs]
  refine wpAny_bind (wpAny_holding ?_)
  unfold unpackItems notIterableAtAll
  refine wpAny_bind (wpAny_bind (wpAny_specialOf hq.typeIs slot_tuple_iter.lookup (wpAny_pure ?_)))
  simp only [Bool.false_eq_true, if_false]
  refine wpAny_bind (wpAny_holding (iter_tuple hq (wpAny_bind (wpAny_holding (draw_tuple (Nat.ne_of_lt hq1) vs.size 0 _ _ ⟨_, Heap.get?_push_size _ rfl, rfl, rfl⟩ (hq.push _) (by omega) fun ha ia sa => ?_)))))
  rw [all, if_neg (by simp)]
  have hot2 : HotAt A x1 ha := hot_push hot fun o e => sa.extBut x1 o (Nat.ne_of_lt hx1) (Heap.get?_push_of_some _ e)
  refine wpAny_bind (wpAny_holding (tuple_end_hot (s := { s with heap := ha }) hot2 (Nat.ne_of_lt hx1) ia ((hq.push _).extBut sa.extBut (Nat.ne_of_lt hq1)) (by simp) fun hb eb => ?_))
  simp only [Option.isSome_none, Bool.false_eq_true, if_false]
  exact wpAny_pure (h hb fun b o n e => eb b o n (sa.extBut b o n (Heap.get?_push_of_some _ e)))
theorem assign_hot {env : Env} {elts : List Expr} {k} {pos : Pos} {q x1 : Addr} {vs : Array Value} {Q : Unit → Shared → Prop} (hot : HotAt A x1 s.heap) (hq : IsTup s.heap q vs) (hl : (assignEach elts env).length = vs.size)
    (hs : (assignEach elts env).findIdx? (·.1) = none) (h : ∀ h', Heap.ExtBut s.heap.objs.size s.heap h' → wpAny (model prog w) A (assignInOrder ((assignEach elts env).map (·.2)) vs.toList) Q E { s with heap := h' }) :
    wpAny (model prog w) A (assign (.Tuple elts k pos) env (.ref q)) Q E s := by
  rw [assign_Tuple]
  exact wpAny_bind (wpAny_standAt (unpack_hot hot hq hl hs h))
/-- the end of a zip of two lists -/
theorem zip_end_hot {z a b i j l r x1 : Addr} {m n : Nat} {us vs : Array Value} {u v : Value} {Q : Fin → Shared → Prop} (hot : HotAt A x1 s.heap) (nz : x1 ≠ z) (nb : x1 ≠ b) (ni : x1 ≠ i) (nj : x1 ≠ j) (D : ZipApart z a b i j l r) (hz : IsZip s.heap z a b .none)
    (ha : IsPair s.heap a (.ref i) (.ref j)) (hb : IsPair s.heap b u v) (hi : s.heap.IsListIter i l m) (hj : s.heap.IsListIter j r n) (hl : s.heap.IsList l us) (hr : s.heap.IsList r vs) (he : us[m]? = none ∨ vs[n]? = none)
    (hE : ∀ h' e, (∀ c o, c ≠ z → c ≠ b → c ≠ i → c ≠ j → s.heap.get? c = some o → h'.get? c = some o) → (∃ o, h'.get? e = some o ∧ o.cls = .type "StopIteration") → E (.ref e) { s with heap := h' }) :
    wpAny (model prog w) A (Builtin.«zip.__next__» ⟨[.ref z], []⟩) Q E s := by
  refine wpAny_bind (m := field (.ref z) 2) (wpAny_field hz rfl (x := .bool false) rfl ?_)
  refine wpAny_bind (m := field (.ref z) 3) (wpAny_field hz rfl (x := .ref a) rfl (wpAny_bind (wpAny_seqItems ha rfl ?_)))
  show wpAny _ _ (Builtin.SmallTypes.ownedTupleIsFree (.ref z) >>= _) _ _ s
  refine wpAny_bind ?_
  unfold Builtin.SmallTypes.ownedTupleIsFree
  refine wpAny_bind (wpAny_field hz rfl (x := .none) rfl (wpAny_pure ?_))
  simp only [if_true]
  refine wpAny_bind (wpAny_rule (wpAny_bind (wpAny_field hz rfl (x := .ref b) rfl (wpAny_bind (wpAny_setField_rec hz (by simp) fun ha' hz' sa => ?_)))))
  have za : IsZip ha' z a b .ellipsis := hz'
  refine wpAny_bind ?_
  simp only [List.zipIdx_cons, List.zipIdx_nil, List.forIn_cons, List.forIn_nil]
  refine wpAny_bind (wpAny_bind (wpAny_onRaise (wpAny_bind (m := Builtin.SmallTypes.nextOf (.ref i)) ?_)))
  have hot1 : HotAt A x1 ha' := hot_push hot fun o e => sa.extBut x1 o nz e
  have ii := hi.extBut sa.extBut D.i1z
  have jj := hj.extBut sa.extBut D.i2z
  have ll := hl.extBut sa.extBut D.l1z
  have rr := hr.extBut sa.extBut D.l2z
  -- behind the end: the zip is put right
  have fin : ∀ (hx : Heap) (e : Addr) (oe : Obj), (∀ c o, c ≠ b → c ≠ i → c ≠ j → ha'.get? c = some o → hx.get? c = some o) → hx.get? e = some oe → oe.cls = .type "StopIteration" → z ≠ b → z ≠ i → z ≠ j →
      wpAny (model prog w) A (setField (.ref z) 0 .none) (fun _ s' => E (.ref e) s') E { s with heap := hx } := fun hx e oe k ho hc z1 z2 z3 => by
    have zx : IsZip hx z a b .ellipsis := k z _ z1 z2 z3 za
    have ne : e ≠ z := fun q => by
      rw [q, zx] at ho
      cases ho
      simp at hc
    exact wpAny_setField_rec zx (by simp) fun hy _ sy => hE hy e (fun c o c1 c2 c3 c4 x => sy.extBut c o c1 (k c o c2 c3 c4 (sa.extBut c o c1 x))) ⟨oe, sy.extBut e oe ne ho, hc⟩
  cases hm : us[m]? with
  | none =>
    refine list_end_hot (s := { s with heap := ha' }) hot1 ni ii ll hm fun hx e k ⟨oe, ho, hc⟩ => ?_
    exact fin hx e oe (fun c o _ c2 _ x => k c o c2 x) ho hc D.TOz.symm D.i1z.symm D.i2z.symm
  | some y =>
    have hnn : vs[n]? = none := by
      rcases he with q | q
      · rw [hm] at q
        cases q
      · exact q
    refine wpAny_nextOf_list_item ii ll hm fun hc _ sc => wpAny_pure ?_
    have pb : IsPair hc b u v := sc.extBut _ _ D.TOi1 (sa.extBut _ _ D.TOz hb)
    refine wpAny_bind (wpAny_seqItems pb rfl (wpAny_bind (wpAny_updateSeq_pair pb fun hd _ sd => wpAny_bind (wpAny_letGo (wpAny_pure ?_)))))
    refine wpAny_bind (wpAny_bind (wpAny_onRaise (wpAny_bind (m := Builtin.SmallTypes.nextOf (.ref j)) ?_)))
    have hot3 : HotAt A x1 hd := hot_push hot1 fun o e => sd.extBut x1 o nb (sc.extBut x1 o ni e)
    refine list_end_hot (s := { s with heap := hd }) hot3 nj ((jj.extBut sc.extBut D.i12.symm).extBut sd.extBut D.TOi2.symm) ((rr.extBut sc.extBut D.l2i1).extBut sd.extBut D.l2TO) hnn fun hx e k ⟨oe, ho, hce⟩ => ?_
    exact fin hx e oe (fun c o c1 c2 c3 x => k c o c3 (sd.extBut c o c1 (sc.extBut c o c2 x))) ho hce D.TOz.symm D.i1z.symm D.i2z.symm
theorem pyNext_zip_end_hot {z a b i j l r x1 : Addr} {m n : Nat} {us vs : Array Value} {u v : Value} {Q : Option Value → Shared → Prop} (hot : HotAt A x1 s.heap) (nz : x1 ≠ z) (nb : x1 ≠ b) (ni : x1 ≠ i) (nj : x1 ≠ j) (D : ZipApart z a b i j l r) (hz : IsZip s.heap z a b .none)
    (ha : IsPair s.heap a (.ref i) (.ref j)) (hb : IsPair s.heap b u v) (hi : s.heap.IsListIter i l m) (hj : s.heap.IsListIter j r n) (hl : s.heap.IsList l us) (hr : s.heap.IsList r vs) (he : us[m]? = none ∨ vs[n]? = none)
    (hQ : ∀ h', (∀ c o, c ≠ z → c ≠ b → c ≠ i → c ≠ j → s.heap.get? c = some o → h'.get? c = some o) → Q none { s with heap := h' }) : wpAny (model prog w) A (pyNext (.ref z)) Q E s := by
  have tz : s.TypeIs (.ref z) "zip" := ⟨_, hz, rfl⟩
  unfold pyNext
  refine wpAny_bind (wpAny_attempt (wpAny_callSpecial?_slot (name := Str.ofString "__next__") tz F.slot_zip_next (wpAny_call_entry F.slot_zip_next tz F.entry_zip_next
    (zip_end_hot (A := A.in1) hot nz nb ni nj D hz ha hb hi hj hl hr he fun h' e k ⟨o, ho, hc⟩ => ?_) (F.args_zip_next_1 _))))
  exact wpAny_bind (wpAny_isInstance (T := "StopIteration") (b := true) ⟨o, ho, hc⟩ isSubtype_stop (wpAny_pure (hQ h' k)))
end
end HotZ

namespace L2H
open PySem PySem.Spec PyProof.Rows L2 HotX HotZ
/-! ### zip, unpacking -/
theorem turn_zipH {P : Program} {w : World} {K : PySem.W.Frag} {elts : List Expr} {kk : Nat} {tpos : Pos} {a b z p q i j : Addr} (D : ZipApart z p q i j a b) :
    TurnH P w K (.Tuple elts kk tpos) (Itz K a b) [z, p, q, i, j] z (fun n h => IsZip h z p q .none ∧ IsPair h p (.ref i) (.ref j) ∧ (∃ x y, IsPair h q x y) ∧ h.IsListIter i a n ∧ h.IsListIter j b n) where
  mem := by simp
  obj := (turn_zip (P := P) (w := w) (K := K) (elts := elts) (kk := kk) (tpos := tpos) D).obj
  keep := (turn_zip (P := P) (w := w) (K := K) (elts := elts) (kk := kk) (tpos := tpos) D).keep
  self := (turn_zip (P := P) (w := w) (K := K) (elts := elts) (kk := kk) (tpos := tpos) D).self
  item := by
    intro X hP hw hK _ n pins s σ H E I hf st hg
    subst hP hw hK
    obtain ⟨sz, sp, ⟨x0, y0, sq⟩, si, sj⟩ := st
    obtain ⟨xs, ys, x, y, la, lb, hx, hy⟩ := hg
    obtain ⟨us, ru, pu, _⟩ := I.list la
    obtain ⟨vs, rv, pv, _⟩ := I.list lb
    obtain ⟨u, hu, xu⟩ := ru.get hx
    obtain ⟨v, hv, yv⟩ := rv.get hy
    have zl : z < s.heap.objs.size := Heap.lt_size sz
    have all : ∀ c ∈ [z, p, q, i, j], c < s.heap.objs.size := fun c hc => by
      obtain ⟨_, gi, _⟩ := id si
      obtain ⟨_, gj, _⟩ := id sj
      simp only [List.mem_cons, List.not_mem_nil, or_false] at hc
      rcases hc with e | e | e | e | e <;> subst e
      · exact zl
      · exact Heap.lt_size sp
      · exact Heap.lt_size sq
      · exact Heap.lt_size gi
      · exact Heap.lt_size gj
    refine wpAny_pyNext_zip_item D sz sp sq si sj pu.isList pv.isList (x := u) (y := v) (by simpa using hu) (by simpa using hv) fun h1 z1 q1 i1 j1 t1 n1 k1 => ⟨_, rfl, wpAny_letOwnedTupleGo_zip (s := { s with heap := h1 }) z1 fun h2 z2 sb => ?_⟩
    have up : ∀ c o, c ≠ z → h1.get? c = some o → h2.get? c = some o := fun c o hc e => (sb.2 c hc).trans e
    have t2 := up _ _ (Nat.ne_of_gt zl) t1
    have new : ObjOk X.prog X.w (upd H s.heap.objs.size (.tup [x, y])) h2 s.heap.objs.size (.tup [x, y]) := ⟨by show 2 ≤ sizeLine; decide, [u, v], .cons xu (.cons yv .nil), ⟨_, t2, rfl, _, rfl⟩⟩
    have kp : ∀ c o, c ∉ [z, p, q, i, j] → s.heap.get? c = some o → h2.get? c = some o := fun c o hc e => by
      simp only [List.mem_cons, List.not_mem_nil, or_false, not_or] at hc
      exact up c o hc.1 (k1 c o hc.1 hc.2.2.1 hc.2.2.2.1 hc.2.2.2.2 e)
    have J : Inv X pins σ (upd H s.heap.objs.size (.tup [x, y])) { s with heap := h2 } := I.turnedNew (t' := s.toks) (ch := [z, p, q, i, j]) kp hf (Nat.le_refl _) new
    refine ⟨.ref s.heap.objs.size, _, J, rfl, ⟨_, x, y, rfl, I.hok.fresh (Nat.le_refl _), rfl, fun l hl => ?_, fun l hl => ?_⟩, ⟨z2, up _ _ D.TIz (k1 _ _ D.TIz D.TITO D.TIi1 D.TIi2 sp), ⟨u, v, up _ _ D.TOz q1⟩, i1.at fun o e => up _ o D.i1z e, j1.at fun o e => up _ o D.i2z e⟩, fun c hc => ?_⟩
    · rw [I.list_inj hl la]
      exact hx
    · rw [I.list_inj hl lb]
      exact hy
    · rw [upd_ne (Nat.ne_of_lt (all c hc))]
      exact (hf c hc).1
  done := by
    intro X hP hw hK hot n pins s σ H E I hf st hg
    subst hP hw hK
    obtain ⟨sz, sp, ⟨x0, y0, sq⟩, si, sj⟩ := st
    obtain ⟨xs, ys, la, lb, hend⟩ := hg
    obtain ⟨us, ru, pu, _⟩ := I.list la
    obtain ⟨vs, rv, pv, _⟩ := I.list lb
    have e1 := ru.length
    have e2 := rv.length
    obtain ⟨o, ⟨hh, v1, d1, c1⟩, hpn⟩ := hot
    have apart : ∀ c ∈ [z, p, q, i, j], o.1 ≠ c := fun c hc => (hf c hc).2.2.2.2.2 o (List.mem_append_left _ hpn)
    refine pyNext_zip_end_hot (x1 := o.1) ⟨hh, o.2, v1, (I.pin o (List.mem_append_left _ hpn)).1, d1, c1⟩ (apart z (by simp)) (apart q (by simp)) (apart i (by simp)) (apart j (by simp)) D sz sp sq si sj pu.isList pv.isList ?_ fun h' k => ⟨rfl, ?_⟩
    · rcases hend with e | e
      · exact .inl (by simp; omega)
      · exact .inr (by simp; omega)
    · refine I.turnedL (t' := s.toks) (ch := [z, p, q, i, j]) (fun c o hc e => ?_) hf
      simp only [List.mem_cons, List.not_mem_nil, or_false, not_or] at hc
      exact k c o hc.1 hc.2.2.1 hc.2.2.2.1 hc.2.2.2.2 e
/-- zip of two lists -/
theorem pi_zipH {X : Cx} {e e2 : Expr} {ta : TA} {p pos tpos : Pos} {elts : List Expr} {kk : Nat} (hg : Gl X "zip") (hm : X.mg "zip" = none) (ha : PA X [e, e2] ta) (hs : starEach [e, e2] X.env = (false, eval e X.env) :: starEach [e2] X.env := by rfl)
    (hpl : (backTo pos (starEach [e2] X.env)).any (·.1) = false := by rfl) : PIH X (.Tuple elts kk tpos) (.Call (.Name "zip" p) [e, e2] [] pos) (iZip X.K ta) := ⟨fun pins s σ H R I h => by
  refine Call_ (ld_blt I hg hm PyProof.Rows.boot_zip (PyProof.Rows.callWith_type1 (thn (ha.run pos pins s σ H _ I h) fun us s1 ⟨vs, H1, I1, r1, a, b, xs, ys, ev, la, lb, q⟩ => ?_) hs hpl))
  subst ev
  obtain ⟨u1, u2, rfl, ra, rb⟩ := vals2 r1
  cases ra
  cases rb
  obtain ⟨_, _, pa, _⟩ := I1.list la
  obtain ⟨_, _, pb, _⟩ := I1.list lb
  refine call_zip_2 pa.isList pb.isList fun h' hz hTI hTO h1 h2 hsz hk => wpAny_pyIter_zip hz ⟨s1.heap.objs.size + 4, [s1.heap.objs.size + 4, s1.heap.objs.size + 2, s1.heap.objs.size + 3, s1.heap.objs.size, s1.heap.objs.size + 1], _, _, H1, rfl, I1.kept (t' := s1.toks) hk, turn_zipH (PySem.W.ktu_apart s1.heap.objs.size a b pa.lt pb.lt), ⟨hz, hTI, ⟨_, _, hTO⟩, h1, h2⟩, fun c hc => ?_, q⟩
  have le : s1.heap.objs.size ≤ c := by
    simp only [List.mem_cons, List.not_mem_nil, or_false] at hc
    rcases hc with e | e | e | e | e <;> rw [e] <;> first | exact Nat.le_add_right _ _ | exact Nat.le_refl _
  exact I1.fpOk le (I1.hok.fresh le)⟩
/-- (a, b) = a pair -/
theorem pg_tupH {X : Cx} {es : List Expr} {k : Nat} {t : TGs} {n : Nat} (hc : HotC X) (h : PGs X es t) (hn : (assignEach es X.env).length = n := by rfl) (hst : (assignEach es X.env).findIdx? (·.1) = none := by rfl) : PG X (.Tuple es k pos) (gTup X.K n t) := ⟨fun pins s σ H v u Q I r ⟨a, xs, ev, ht, hl, q⟩ => by
  subst ev
  cases r
  obtain ⟨us, ru, pu, _⟩ := I.tuple ht
  obtain ⟨x1, hot⟩ := hc.at I
  refine assign_hot hot pu (by simp [hn, ← hl, ru.length]) hst fun h' k => ?_
  exact h.run pins _ σ H xs _ Q (I.kept (t' := s.toks) fun b o e => k b o (Nat.ne_of_lt (Heap.lt_size e)) e) (by simpa using ru) q⟩
/-! ### comprehensions -/
/-- the context of a comprehension's block, the pins kept -/
abbrev blkH (X : Cx) (s : Shared) (H : Hp) (scope : Scope) (cenv : Env) (fp : List Addr) : Cx := { X.blk s H scope cenv fp with pn := X.pn }
theorem HotC.blk {X : Cx} {s : Shared} {H : Hp} {scope : Scope} {cenv : Env} {fp : List Addr} (h : HotC X) : HotC (blkH X s H scope cenv fp) := h
theorem block_startH {X : Cx} {pins : List (Addr × Obj)} {σ : St} {H : Hp} {s : Shared} {scope : Scope} {own : List (Str × Nat)} {fp : List Addr} (I : Inv X pins σ H s) (ok : BlkOk X.N X.env.scope scope own) (hN : X.N.Nodup) (hfp : ∀ b ∈ fp, FpOk X pins H b ∧ b < s.heap.objs.size) :
    Inv (blkH X s H scope (compEnvC scope (cellsFrom (s.heap.objs.size + 1) scope.names (cloFrom X.env.cells scope.names [])) s.heap.objs.size X.env) fp) [] (wipe σ (own.map (·.2))) H { s with heap := pushCells (s.heap.push { cls := .type "dict", data := .dict #[] }) scope.names } := by
  have J := block_start I ok hN hfp
  refine ⟨⟨J.ok.mod, J.ok.kind, J.ok.glob, J.ok.blt, J.ok.above, J.ok.inj, J.ok.has, J.ok.cab, J.ok.hd, J.ok.frames, J.ok.stk, J.ok.exf, J.ok.bs, J.ok.bsz, J.ok.noex, J.ok.exfs, J.ok.funs, J.ok.frf⟩, J.os, J.bare, J.base, J.loc, J.cell, J.free, J.freeC, fun p hp => ?_, J.hok, J.len⟩
  have hp' : p ∈ X.pn := by simpa using hp
  obtain ⟨e1, e2, e3, e4, e5⟩ := I.pin p (List.mem_append_left _ hp')
  refine ⟨pushCells_keeps _ _ _ _ (Heap.get?_push_of_some _ e1), e2, ?_, ?_, e5⟩
  · show p.1 ≠ s.heap.objs.size
    exact Nat.ne_of_lt (Heap.lt_size e1)
  · show p.1 ∉ frs X.stack
    intro z
    rcases List.mem_cons.mp (I.stkSub _ z) with z | z
    · exact e3 z
    · exact e4 z
section
variable {X : Cx}
abbrev BlkPG (X : Cx) (scope : Scope) (tg : Expr) (g : TG) : Prop := ∀ (s : Shared) (H : Hp) (C : Addr) (cl : List (Str × Addr)) (fp : List Addr), PG (blkH X s H scope (compEnvC scope cl C X.env) fp) tg g
abbrev BlkPTs (X : Cx) (scope : Scope) (ifs : List Expr) (t : TT) : Prop := ∀ (s : Shared) (H : Hp) (C : Addr) (cl : List (Str × Addr)) (fp : List Addr), PTs (blkH X s H scope (compEnvC scope cl C X.env) fp) ifs t
abbrev BlkPE (X : Cx) (scope : Scope) (e : Expr) (t : TE) : Prop := ∀ (s : Shared) (H : Hp) (C : Addr) (cl : List (Str × Addr)) (fp : List Addr), PE (blkH X s H scope (compEnvC scope cl C X.env) fp) e t
theorem lc_coreH {pins : List (Addr × Obj)} {s : Shared} {σ : St} {H : Hp} {Q : VK} {elt tg iter : Expr} {ifs : List Expr} {scope : Scope} {own : List (Str × Nat)} {pos pos' : Pos} {wi : TI} {g : TG} {tt : TT} {te : TE} {use : Option (Value → Sem Unit)} {Qf : Value → Shared → Prop}
    (hot : HotC X) (hN : X.N.Nodup) (I : Inv X pins σ H s) (hi : PIH X tg iter wi) (ok : BlkOk X.N X.env.scope scope own) (hg : BlkPG X scope tg g) (ht : BlkPTs X scope ifs tt) (he : BlkPE X scope elt te) (hs : ∀ x, foldedSetIterable iter X.env x = pure x)
    (h : tLc wi g tt te (own.map (·.2)) σ H Q)
    (hR : ∀ D C s' m H', Inv X pins σ H' s' → Q (.ref D) H' → s'.heap.Ns C m → FpOk X pins H' C → compPost (model X.prog X.w) X.A X.xe use Qf (.ref D) C (.ok .next) s') :
    wpAny (model X.prog X.w) X.A (comprehension (.ListComp elt [⟨tg, iter, ifs, 0⟩] scope pos) scope X.env pos' (newList []) false (eval iter X.env) use) Qf X.xe s := by
  have free : ∀ y ∈ scope.names, y.2 = .free → ∃ c, X.env.cells.lookup y.1 = some c := fun y hy e => (ok.free y hy e).elim (fun k => I.ok.has _ (.inl k)) fun k => I.ok.has _ (.inr k)
  refine wpAny_comprehension_free (use := use) rfl hs (closure_ok free) ok.kind (fun y hy e => by rw [ok.uniq y hy, e]) (thn (hi.run pins s σ H _ I h) fun xv s1 hx => thn hx fun itv s2 ⟨it, fp, tn, J, H2, ei, I2, T, st2, f2, q⟩ => ?_)
  subst ei
  refine wpAny_newObj_type (newEnv_comp ?_) (by show 0 ≤ sizeLine; decide)
  generalize hD : s2.heap.objs.size = D
  obtain ⟨W, ⟨m0, w0⟩, turn⟩ := q D (I2.hok.fresh (Nat.le_of_eq hD))
  generalize hs3 : ({ s2 with heap := s2.heap.push { cls := .type "list", data := .seq ([] : List Value).toArray } } : Shared) = s3
  have h3 : s3.heap = s2.heap.push { cls := .type "list", data := .seq ([] : List Value).toArray } := by rw [← hs3]
  have up3 : ∀ b o, s2.heap.get? b = some o → s3.heap.get? b = some o := fun b o e => by
    rw [h3]
    exact Heap.get?_push_of_some _ e
  have I3 : Inv X pins σ (upd H2 D (.lst [])) s3 := by
    rw [← hs3]
    refine I2.laid (t' := s2.toks) (fun b o e => Heap.get?_push_of_some _ e) (Nat.le_of_eq hD) ⟨Nat.zero_le _, [], 0, .nil, ?_⟩
    rw [← hD]
    exact Heap.get?_push_size _ rfl
  have f3 : ∀ b ∈ fp, FpOk X pins (upd H2 D (.lst [])) b ∧ b < s3.heap.objs.size := fun b hb => by
    obtain ⟨o, e, _⟩ := T.obj _ _ st2 b hb
    have lt := Heap.lt_size e
    refine ⟨⟨?_, (f2 b hb).2⟩, by rw [h3, Heap.size_push]; exact Nat.lt_succ_of_lt lt⟩
    rw [upd_ne (by rw [← hD]; exact Nat.ne_of_lt lt)]
    exact (f2 b hb).1
  have st3 : tn 0 s3.heap := T.keep _ _ _ st2 fun b _ o e => up3 b o e
  have I4 := block_startH I3 ok hN f3
  generalize hcl : cellsFrom (s3.heap.objs.size + 1) scope.names (cloFrom X.env.cells scope.names []) = cl at I4
  generalize hH3 : upd H2 D (.lst []) = H3 at I3 I4 w0 f3
  have pg := hg s3 H3 s3.heap.objs.size cl fp
  have pt := ht s3 H3 s3.heap.objs.size cl fp
  have pe := he s3 H3 s3.heap.objs.size cl fp
  show codeAny _ _ (.compStart (.ListComp elt [⟨tg, iter, ifs, 0⟩] scope pos) 0 (.ref it) (.ref D) (compEnvC scope cl s3.heap.objs.size X.env)) (compPost (model X.prog X.w) X.A X.xe use Qf (.ref D) s3.heap.objs.size) { s3 with heap := pushCells (s3.heap.push { cls := .type "dict", data := .dict #[] }) scope.names }
  generalize hce : compEnvC scope cl s3.heap.objs.size X.env = ce at I4 pg pt pe ⊢
  have cL : ce.locals = s3.heap.objs.size := by subst hce; rfl
  generalize hs4 : ({ s3 with heap := pushCells (s3.heap.push { cls := .type "dict", data := .dict #[] }) scope.names } : Shared) = s4 at I4 ⊢
  have st4 : tn 0 s4.heap := T.keep _ _ _ st3 fun b _ o e => by
    rw [← hs4]
    exact pushCells_keeps _ _ _ _ (Heap.get?_push_of_some _ e)
  have hotB : HotC (blkH X s3 H3 scope ce fp) := hot
  have apart : ∀ p ∈ X.pn, ∀ b ∈ fp, p.1 ≠ b := fun p hp b hb => (f3 b hb).1.2.2.2.2.2 p (List.mem_append_left _ hp)
  have stat : ∀ {σ' : St} {H' : Hp} {s' : Shared}, Inv (blkH X s3 H3 scope ce fp) [] σ' H' s' → (∀ b ∈ fp, H' b = none) → ∀ b ∈ fp, FpOk (blkH X s3 H3 scope ce fp) [] H' b := fun {σ' H' s'} I' n b hb =>
    ⟨n b hb, (I'.ok.exf b hb).1, I'.ok.exfs b hb, .inl hb, fun x c e => (I'.ok.exf b hb).2 x c e, fun p hp => apart p (by simpa using hp) b hb⟩
  have loop : codeAny (model X.prog X.w) X.A (.compLoop (.ListComp elt [⟨tg, iter, ifs, 0⟩] scope pos) 0 (.ref it) (.ref D) ce) (compPost (model X.prog X.w) X.A X.xe use Qf (.ref D) s3.heap.objs.size) s4 := by
    refine compLoop_any (fun n s' => ∃ i H', Inv (blkH X s3 H3 scope ce fp) [] (wipe σ (own.map (·.2))) H' s' ∧ tn i s'.heap ∧ (∀ b ∈ fp, H' b = none) ∧ W i n H') ?_ m0 ⟨0, H3, I4, st4, fun b hb => (f3 b hb).1.1, w0⟩
    rintro n s5 ⟨i, H5, I5, st5, n5, w5⟩
    rcases turn i n H5 w5 with ⟨stop, qq⟩ | ⟨go, Nx, hNx, step⟩
    · refine thnF (T.done (blkH X s3 H3 scope ce fp) rfl rfl rfl hotB i [] s5 _ H5 (fun _ _ => False) I5 (stat I5 n5) st5 stop) fun r s6 ⟨hr, I6⟩ => ?_
      subst hr
      have I7 : Inv X pins σ H5 s6 := I3.call' (ch := fp) I6.os I6.base I6.hok I6.bare fun b hb => ⟨(f3 b hb).1.2.2.2.1, (f3 b hb).1.2.1, (f3 b hb).1.2.2.2.2.1, (f3 b hb).1.2.2.2.2.2⟩
      have nC : H5 s3.heap.objs.size = none := by rw [← cL]; exact I6.free
      obtain ⟨m, hn, _⟩ := I6.loc
      have hn : s6.heap.Ns s3.heap.objs.size m := by rw [← cL]; exact hn
      exact hR D s3.heap.objs.size s6 m H5 I7 qq hn (I3.fpOk (Nat.le_refl _) nC)
    · refine thnF (T.item (blkH X s3 H3 scope ce fp) rfl rfl rfl hotB i [] s5 _ H5 (fun _ _ => False) I5 (stat I5 n5) st5 go) fun r s6 ⟨u, hr, h6⟩ => ?_
      subst hr
      refine thnF h6 fun _ s7 ⟨x, H7, I7, r7, y7, st7, n7⟩ => ?_
      refine thnF (pg.run _ s7 _ H7 x u _ (I7.pinned (stat I7 n7) (T.obj _ _ st7)) r7 (step x H7 y7)) fun _ s8 ⟨σ8, H8, I8, hw8, q8⟩ => thnF (pt.run _ s8 σ8 H8 _ I8 q8) fun b s9 ⟨H9, I9, q9⟩ => ?_
      have fin : ∀ {s' : Shared} {H' : Hp}, Inv (blkH X s3 H3 scope ce fp) ([] ++ pinsAt fp s7.heap) σ8 H' s' → Nx H' → ∃ m, m < n ∧ ∃ i H', Inv (blkH X s3 H3 scope ce fp) [] (wipe σ (own.map (·.2))) H' s' ∧ tn i s'.heap ∧ (∀ b ∈ fp, H' b = none) ∧ W i m H' := fun {s' H'} I' nx => by
        obtain ⟨m', hm, w'⟩ := hNx H' nx
        have back : ∀ b ∈ fp, ∀ o, s7.heap.get? b = some o → s'.heap.get? b = some o ∧ H' b = none := fun b hb o e => by
          obtain ⟨z1, z2, _⟩ := I'.pin (b, o) (List.mem_append_right _ (List.mem_append_right _ (mem_pinsAt hb e)))
          exact ⟨z1, z2⟩
        refine ⟨m', hm, i + 1, H', (I'.unpinned (pins := [])).weak (by rw [← hw8, wipe_length]) (fun j v e => ?_), T.keep _ _ _ st7 fun b hb o e => (back b hb o e).1, fun b hb => ?_, w'⟩
        · rw [← hw8] at e
          exact (wipe_some e).1
        · obtain ⟨o, e, _⟩ := T.obj _ _ st7 b hb
          exact (back b hb o e).2
      cases b with
      | false =>
        simp only [Bool.false_eq_true, if_false] at q9 ⊢
        exact fin I9 q9
      | true =>
        simp only [if_true] at q9 ⊢
        refine thnF (pe.run _ s9 σ8 H9 _ I9 q9) fun z s10 ⟨yv, H10, I10, r10, acc, hD10, hz10, nx⟩ => ?_
        exact app_ok (X := blkH X s3 H3 scope ce fp) I10 hD10 hz10 r10 fun s11 I11 => fin I11 nx
  exact codeAny_compStart_list loop (T.self X.A 0 _ _ _ st4 loop)
/-- a comprehension as a value -/
theorem pe_lcH {elt tg iter : Expr} {ifs : List Expr} {scope : Scope} {own : List (Str × Nat)} {pos : Pos} {wi : TI} {g : TG} {tt : TT} {te : TE} (hot : HotC X) (hN : X.N.Nodup) (hi : PIH X tg iter wi) (ok : BlkOk X.N X.env.scope scope own)
    (hg : BlkPG X scope tg g) (ht : BlkPTs X scope ifs tt) (he : BlkPE X scope elt te) (hs : ∀ x, foldedSetIterable iter X.env x = pure x := by intro _; rfl) : PE X (.ListComp elt [⟨tg, iter, ifs, 0⟩] scope pos) (tLc wi g tt te (own.map (·.2))) := ⟨fun pins s σ H Q I h => by
  rw [eval_ListComp]
  refine lc_coreH hot hN I hi ok hg ht he hs h fun D C s' m H' I' q hn ⟨f0, f1, f2, f3, f4, f5⟩ => ⟨m, hn, fun h'' sb => ⟨.ref D, H', ?_, rfl, q⟩⟩
  exact I'.turned (t' := s'.toks) (fun b o hb e => (sb.2 b hb).trans e) f0 f1 f3 f4 f5⟩
/-- name = [..] on one line -/
theorem ps_setLcH {i : Nat} {y : Str} {py : Pos} {elt tg iter : Expr} {ifs : List Expr} {scope : Scope} {own : List (Str × Nat)} {pos spos : Pos} {wi : TI} {g : TG} {tt : TT} {te : TE} (hot : HotC X) (hN : X.N.Nodup) (hy : X.N[i]? = some y) (hyl : X.env.scope.names.lookup y = some .local)
    (hsw : swapsWith (.ListComp elt [⟨tg, iter, ifs, 0⟩] scope pos) (some (.Name y py)) spos.line X.env = pure true) (hi : PIH X tg iter wi) (ok : BlkOk X.N X.env.scope scope own)
    (hg : BlkPG X scope tg g) (ht : BlkPTs X scope ifs tt) (he : BlkPE X scope elt te) (hs : ∀ x, foldedSetIterable iter X.env x = pure x := by intro _; rfl) : PS X (.Assign [.Name y py] (.ListComp elt [⟨tg, iter, ifs, 0⟩] scope pos) spos) (tAsg (tLc wi g tt te (own.map (·.2))) (gName i)) := ⟨fun pins s σ H D I h => by
  rw [exec_Assign_Name_used _ _ _ _ hsw]
  have h : tLc wi g tt te (own.map (·.2)) σ H (fun x H1 => gName i x σ H1 D.nx) := h
  refine wpAny_bind (wpAny_standAt (wpAny_bind ?_))
  show wpAny _ X.A (comprehension (.ListComp elt [⟨tg, iter, ifs, 0⟩] scope pos) scope X.env (firstIterPos [⟨tg, iter, ifs, 0⟩] pos) (newList []) false (eval iter X.env) (some (assign (.Name y py) X.env)) >>= fun _ => pure ()) _ _ s
  refine wpAny_bind (thn (lc_coreH (Qf := fun _ s' => SP X pins D .next s') hot hN I hi ok hg ht he hs h fun L C s' m H' I' q hn ⟨f0, f1, f2, f3, f4, f5⟩ => ?_) fun _ s' hq => wpAny_pure (wpAny_pure hq))
  show wpAny _ _ (assign (.Name y py) X.env (.ref L)) _ _ _
  refine wpAny_assign_Name (store_ok2 (v := V.ref L) I' hN hy (.inl hyl) rfl (fun s2 I2 ⟨a, sb, ha⟩ => ⟨m, hn.sameBut sb (fun e => ?_), fun h3 sb3 => ⟨_, H', ?_, q⟩⟩) (.inr hyl))
  · rcases ha with z | z
    · exact f1 (e.trans z)
    · exact f4 y a z e.symm
  · exact I2.turned (t' := s2.toks) (fun b o hb e => (sb3.2 b hb).trans e) f0 f1 f3 f4 f5⟩
end
end L2H

namespace DL
open PySem PySem.Spec PyProof.Rows L2 L2H

/-! ### isinstance of the handled exception -/
/-- the ten classes that are asked for: names and addresses -/
structure Ten (K : PySem.W.Frag) (mg : Str → Option Value) (ten : List (Str × Addr)) : Prop where
  g : ∀ p ∈ ten, mg p.1 = some (.ref p.2)
  d : ∀ p ∈ ten, PySem.W.hasDictIn K p.2 = true
  t : ∀ p ∈ ten, PySem.W.typeIn K (.ref p.2) = some (.type "type")
def isNm (nm x : Str) : Bool := decide (x = nm) || decide (x = "PressError")
/-- the class nm at C among them -/
structure ErrC (K : PySem.W.Frag) (mg : Str → Option Value) (ten : List (Str × Addr)) (nm : Str) (C : Addr) : Prop where
  g : mg nm = some (.ref C)
  ex : ExcC K C
  me : PySem.W.subIn K (.ref C) (.ref C) = some true
  kit : ∀ p ∈ ten, PySem.W.subIn K (.ref C) (.ref p.2) = some (isNm nm p.1)
  val : PySem.W.subIn K (.ref C) (.type "ValueError") = some true
theorem ErrC.one {K : PySem.W.Frag} {mg : Str → Option Value} {ten : List (Str × Addr)} {nm : Str} {C : Addr} (e : ErrC K mg ten nm C) (T : Ten K mg ten) {p : Str × Addr} (hp : p ∈ ten) : PySem.W.kitOne K (.ref C) (.ref p.2) = some (isNm nm p.1) := by
  have h := e.kit p hp
  unfold PySem.W.kitOne
  by_cases hc : C = p.2
  · subst hc
    rw [if_pos (beq_self_eq_true _)]
    exact e.me.symm.trans h
  · rw [if_neg (fun z => hc (Value.ref.inj (beq_iff_eq.mp z)))]
    obtain ⟨cd, hcd, _⟩ := PySem.W.any_some (T.d p hp)
    have h2 : ((PySem.W.clsIn K p.2).isSome && PySem.W.typeIn K (.ref p.2) == some (.type "type")) = true := by
      rw [hcd, T.t p hp]
      rfl
    show (if ((PySem.W.clsIn K p.2).isSome && PySem.W.typeIn K (.ref p.2) == some (.type "type")) = true then _ else _) = _
    rw [if_pos h2]
    exact h
theorem ErrC.vone {K : PySem.W.Frag} {mg : Str → Option Value} {ten : List (Str × Addr)} {nm : Str} {C : Addr} (e : ErrC K mg ten nm C) : PySem.W.kitOne K (.ref C) (.type "ValueError") = some true := by
  have h := e.val
  unfold PySem.W.kitOne
  rw [if_neg (fun z : (Value.ref C == Value.type "ValueError") = true => Value.noConfusion (beq_iff_eq.mp z))]
  have hk : PySem.W.kitMeta "ValueError" = true := by decide +kernel
  have e2 : PySem.W.kitCls K (.ref C) (.type "ValueError") = if PySem.W.kitMeta "ValueError" = true then PySem.W.subIn K (.ref C) (.type "ValueError") else none := rfl
  rw [e2, if_pos hk]
  exact h
/-- the exception is known here -/
structure Hld (X : Cx) (p : Addr × Obj) (C : Addr) : Prop where
  pn : p ∈ X.pn
  z : L2N.Zn (.ref C) none p.2
  f : ∃ vs, p.2.data = .fields vs
theorem call_isEH {X : Cx} {p : Addr × Obj} {C : Addr} (E : ExcC X.K C) (h : Hld X p C) : CallR X (.builtin "isinstance") (rIsE X.K C p.1) := by
  intro pins s σ H xs us Q I r ⟨c, cv, b, e, hcv, hb, q⟩
  subst e
  obtain ⟨u1, u2, rfl, r1, r2⟩ := vals2 r
  cases r1
  have ec := hcv _ r2
  subst ec
  obtain ⟨a, oe⟩ := p
  obtain ⟨hget, _⟩ := I.pin (a, oe) (List.mem_append_left _ h.pn)
  obtain ⟨vs, hv⟩ := h.f
  obtain ⟨h1, h2, _⟩ := h.z
  have J : PySem.W.InstAt s.heap a oe C none := by
    obtain ⟨oc, od, oda, osl⟩ := oe
    dsimp only at h1 h2 hv
    subst h1 h2 hv
    exact ⟨hget, rfl, rfl, trivial⟩
  exact PySem.W.kia_one (PySem.W.handS_kitx_exc E.hg E.hk E.hs E.hd E.ha E.hn E.ht E.hm) I.kIn J hb (fun z => nomatch z) fun tk => ⟨.bl b, H, I.kept (t' := tk) fun _ _ z => z, rfl, q⟩
section
variable {X : Cx} {B0 : Hp} {pos : Pos}
def dIsE (i : Nat) (a : Addr) (b : Bool) : DE := fun ρ Q => sg ρ i = .raw (.ref a) ∧ Q (.bool b) ρ
theorem StOk.raw {K : PySem.W.Frag} {B F0 F H : Hp} {ρ : List Sl} {σ : HSt} (h : StOk K B F0 F ρ σ H) {i : Nat} {v : V} (hi : sg ρ i = .raw v) : σ[i]? = some (some v) := by
  have e := sg_some hi (fun z => nomatch z)
  have hl : i < σ.length := by
    rw [h.len]
    exact (List.getElem?_eq_some_iff.mp e).1
  have q : σ[i] = some v := h.sl i _ _ e (List.getElem?_eq_getElem hl)
  rw [List.getElem?_eq_getElem hl, q]
/-- isinstance(e, X), X a class of the program -/
theorem x_isE {p : Addr × Obj} {C D : Addr} {i : Nat} {b : Bool} {e : Expr} {x : Str} {p1 p2 : Pos} (E : ExcC X.K C) (h : Hld X p C) (hb : PySem.W.kitOne X.K (.ref C) (.ref D) = some b) (hg : Gl X "isinstance") (hm : X.mg "isinstance" = none) (hgx : Gl X x) (hmx : X.mg x = some (.ref D)) (hv : PE X e (tVar i))
    (hdb : (x == ("__debug__" : Str)) = false := by decide) (he : starEach [e, .Name x p2] X.env = (false, eval e X.env) :: starEach [.Name x p2] X.env := by rfl) (he2 : starEach [.Name x p2] X.env = (false, eval (.Name x p2) X.env) :: starEach [] X.env := by rfl) (hpl : (backTo pos (starEach [.Name x p2] X.env)).any (·.1) = false := by rfl) :
    DX X B0 (.Call (.Name "isinstance" p1) [e, .Name x p2] [] pos) (dIsE i p.1 b) where
  run B F0 hB := pe_imp (pe_callB (call_isEH E h) hg hm PyProof.Rows.boot_isinstance (pa_cons hv (pa_cons (pe_glob (v := .ref D) hgx hmx rfl hdb) pa_nil he2) he) (by decide) (by decide) he hpl) fun σ H Q ⟨F, ρ, ok, hi, q⟩ =>
    ⟨_, ok.raw hi, .ref D, .ref D, b, rfl, fun u r => r, hb, q _ F H ok (Same.refl _) (.bl _)⟩
  mono ρ Q Q' hq q := ⟨q.1, hq _ _ q.2⟩
variable {e : Expr} {fa : DE}
/-- isinstance(e, T), T a built-in class -/
theorem x_isEv {p : Addr × Obj} {C : Addr} {T : String} {i : Nat} {b : Bool} {x : Str} {p1 p2 : Pos} (E : ExcC X.K C) (h : Hld X p C) (hb : PySem.W.kitOne X.K (.ref C) (.type T) = some b) (hg : Gl X "isinstance") (hm : X.mg "isinstance" = none) (hgx : Gl X x) (hmx : X.mg x = none) (hbx : bootBuiltins x = some (.type T)) (hv : PE X e (tVar i))
    (hn : x ≠ "__name__" := by decide) (hdb : (x == ("__debug__" : Str)) = false := by decide) (he : starEach [e, .Name x p2] X.env = (false, eval e X.env) :: starEach [.Name x p2] X.env := by rfl) (he2 : starEach [.Name x p2] X.env = (false, eval (.Name x p2) X.env) :: starEach [] X.env := by rfl) (hpl : (backTo pos (starEach [.Name x p2] X.env)).any (·.1) = false := by rfl) :
    DX X B0 (.Call (.Name "isinstance" p1) [e, .Name x p2] [] pos) (dIsE i p.1 b) where
  run B F0 hB := pe_imp (pe_callB (call_isEH E h) hg hm PyProof.Rows.boot_isinstance (pa_cons hv (pa_cons (pe_bltn (v := .ty T) hgx hmx hbx rfl hn hdb) pa_nil he2) he) (by decide) (by decide) he hpl) fun σ H Q ⟨F, ρ, ok, hi, q⟩ =>
    ⟨_, ok.raw hi, .ty T, .type T, b, rfl, fun u r => r, hb, q _ F H ok (Same.refl _) (.bl _)⟩
  mono ρ Q Q' hq q := ⟨q.1, hq _ _ q.2⟩
/-! ### split -/
def gSplit : D → GL := fun x ds P => match x, ds with
  | .str a, [.str b] => (b.length == 0) = false ∧ a.length + 2 ≤ sizeLine ∧ P (.list ((Txt.split a b).map .str))
  | _, _ => False
theorem m_split : OpM X "str.split" gSplit where
  run := by
    rintro pins s σ H x xs v us Q I rx rxs ⟨F, dx, ds, st, r, rs, q⟩
    unfold gSplit at q
    split at q
    · cases r
      cases rs with
      | cons r1 r2 =>
        cases r2
        cases r1
        obtain ⟨h1, h2, q⟩ := q
        exact mt_split pins s σ H _ _ v us Q I rx rxs ⟨_, _, rfl, rfl, h1, h2, post_new st q fun p s' => .lst upd_same (RpA.strs _)⟩
    · exact q.elim
  mono d ds P P' h q := by
    unfold gSplit at q ⊢
    split at q
    · exact ⟨q.1, q.2.1, h _ q.2.2⟩
    · exact q.elim
theorem x_split {a b : Expr} {fb : DE} {apos : Pos} (ho : DX X B0 a fa) (he : DX X B0 b fb)
    (hs : starEach [b] X.env = [(false, eval b X.env)] := by rfl) (hbase : attributeBase a "split" X.env (eval a X.env) = eval a X.env := by rfl) (hline : (apos.endLine == pos.line) = true := by rfl) : DX X B0 (.Call (.Attribute a "split" apos) [b] [] pos) (dM1 gSplit fa fb) := x_m1 F.slot_str_split F.type_str_split m_split ho he hs hbase hline
/-! ### zip, unpacking, comprehensions, an exception being handled -/
structure DXiH (X : Cx) (B0 : Hp) (tg e : Expr) (it : DI) : Prop where
  run : ∀ B F0, Same B0 B → PIH X tg e (lI X.K B F0 it)
  mono : AMono it
def dZipH (fs : DA) : DI := fun ρ Q => fs ρ fun ds ρ' => match ds with
  | [.list xs, .list ys] => Q (zipD xs ys) ρ'
  | _ => False
theorem pih_imp {tg : Expr} {g g' : TI} (h : PIH X tg e g) (i : ∀ σ H Q, g' σ H Q → g σ H Q) : PIH X tg e g' := ⟨fun pins s σ H Q I hw => h.run pins s σ H Q I (i σ H Q hw)⟩
theorem i_zipH {p : Pos} {e2 : Expr} {fs : DA} {elts : List Expr} {kk : Nat} {tpos : Pos} (hg : Gl X "zip") (hm : X.mg "zip" = none) (ha : DXa X B0 [e, e2] fs) (hs : starEach [e, e2] X.env = (false, eval e X.env) :: starEach [e2] X.env := by rfl) (hpl : (backTo pos (starEach [e2] X.env)).any (·.1) = false := by rfl) : DXiH X B0 (.Tuple elts kk tpos) (.Call (.Name "zip" p) [e, e2] [] pos) (dZipH fs) where
  run B F0 hB := pih_imp (pi_zipH hg hm (ha.run B F0 hB) hs hpl) fun σ H R ⟨F, ρ, ok, q⟩ => ⟨F, ρ, ok, ha.mono _ _ _ (fun ds ρ' q' vs F' H' ok' s' r => by
    split at q'
    · cases r with
      | cons r1 r =>
        cases r with
        | cons r2 r =>
          cases r
          cases r1 with
          | lst h1 t1 =>
            cases r2 with
            | lst h2 t2 => exact ⟨_, _, _, _, rfl, .of (ok'.st _ _ h1), .of (ok'.st _ _ h2), q' _ F' H' ok' s' (wd_zipL h1 t1 h2 t2)⟩
    · exact q'.elim) q⟩
  mono ρ Q Q' hq q := ha.mono _ _ _ (fun ds ρ' q' => by
    split at q'
    · exact hq _ _ q'
    · exact q') q
theorem g_tupH {es : List Expr} {k : Nat} {gs : DGs} {vs : List Nat} {n : Nat} (hc : HotC X) (h : DXgs X B0 es vs gs) (hn : (assignEach es X.env).length = n := by rfl) (hst : (assignEach es X.env).findIdx? (·.1) = none := by rfl) (hl : ∀ ds ρ Q, gs ds ρ Q → ds.length = n) : DXg X B0 (.Tuple es k pos) vs (dgTup gs) where
  run B F0 hB := pg_imp (pg_tupH hc (h.run B F0 hB) hn hst) fun v σ H Q ⟨F, ρ, d, ok, r, q⟩ => by
    cases r with
    | tup ha rs => exact ⟨_, _, rfl, .of (ok.st _ _ ha), by rw [rs.len]; exact hl _ _ _ q, F, ρ, _, ok, rs, q⟩
    | _ => exact q.elim
  mono d ρ Q Q' hq q := by
    cases d <;> first | exact q | skip
    exact h.mono _ _ _ _ hq q
theorem s_setLcH {elt tg iter : Expr} {fe : DE} {i : Nat} {y : Str} {py spos : Pos} {ifs : List Expr} {scope : Scope} {own : List (Str × Nat)} {it : DI} {g : DG} {tt : DT} (hot : HotC X) (hN : X.N.Nodup) (hy : X.N[i]? = some y) (hyl : X.env.scope.names.lookup y = some .local)
    (hsw : swapsWith (.ListComp elt [⟨tg, iter, ifs, 0⟩] scope pos) (some (.Name y py)) spos.line X.env = pure true) (hi : DXiH X B0 tg iter it) (ok : BlkOk X.N X.env.scope scope own)
    (hg : ∀ (s : Shared) (H : Hp) (C : Addr) (cl : List (Str × Addr)) (fp : List Addr), DXg (blkH X s H scope (compEnvC scope cl C X.env) fp) B0 tg (own.map (·.2)) g)
    (ht : ∀ (s : Shared) (H : Hp) (C : Addr) (cl : List (Str × Addr)) (fp : List Addr), DXts (blkH X s H scope (compEnvC scope cl C X.env) fp) B0 ifs tt)
    (he : ∀ (s : Shared) (H : Hp) (C : Addr) (cl : List (Str × Addr)) (fp : List Addr), DX (blkH X s H scope (compEnvC scope cl C X.env) fp) B0 elt fe)
    (nd : (own.map (·.2)).Nodup := by decide) (hs : ∀ x, foldedSetIterable iter X.env x = pure x := by intro _; rfl) : DXs X B0 (.Assign [.Name y py] (.ListComp elt [⟨tg, iter, ifs, 0⟩] scope pos) spos) (dAsg (dLc it g tt fe (own.map (·.2))) (dgName i)) where
  run B F0 hB := ps_imp (ps_setLcH hot hN hy hyl hsw (hi.run B F0 hB) ok (fun s H C cl fp => (hg s H C cl fp).ex) (fun s H C cl fp => (ht s H C cl fp).ex) (fun s H C cl fp => (he s H C cl fp).ex) hs) fun E σ H ⟨F, ρ, DD, ok', en, q⟩ => by
    have mi := hi.mono
    have mg := (hg ({} : Shared) H 0 [] []).mono
    have mt := (ht ({} : Shared) H 0 [] []).mono
    have me := (he ({} : Shared) H 0 [] []).mono
    refine lE_lc (X := X) (F0 := F0) hB nd mi mg mt me (Q := fun v H' => gName i v σ H' E.nx) ⟨F, ρ, ok', dLc_mono mi mg mt me _ _ _ (fun d ρ' q' v F' H' ok2 s2 r => ?_) q⟩
    exact en.nx _ _ _ _ (ok2.setVa r) q'
  mono := dAsg_mono (dLc_mono hi.mono (hg ({} : Shared) B0 0 [] []).mono (ht ({} : Shared) B0 0 [] []).mono (he ({} : Shared) B0 0 [] []).mono) fun d ρ Q Q' hq h => hq _ h
end
/-! ### a def that is called in an except suite with the exception -/
structure FnE (P : Program) (w : World) (K : PySem.W.Frag) (mg : Str → Option Value) (base : Heap) (CX : CXT) (k : Nat) (f : Addr) (fd : FuncData) (ps : List Str) (sp : Addr × Obj → Sp) : Prop where
  len : ∀ p vs H Q E, sp p vs H Q E → vs.length = ps.length
  run : ∀ (A : Around) (outer : List Env) (s : Shared) (H : Hp) (args : Args) (us : List Value) (vs : List V) (Q : VK) (E : XK) (p : Addr × Obj), RoomH k A → Hot1 A p → PinOk outer H s p → Env0 P w K mg base A outer s H → BindsTo s fd args (ps.zip us) → Vals vs us → sp p vs H Q E →
    codeAny (model P w) A (.call (.ref f) args) (CR CX outer P w H s Q E) s
theorem fnE_mk {CX : CXT} {P : Program} {w : World} {K : PySem.W.Frag} {mg : Str → Option Value} {base : Heap} {x qual : Str} {st : Stmt} {f : Addr} {fd : FuncData} {N ps : List Str} {k : Nat} {sp : Addr × Obj → Sp} (F : Fun K x qual st f fd) (S : FnScope N ps (defScope st)) (len : ∀ p vs H Q E, sp p vs H Q E → vs.length = ps.length)
    (hbody : ∀ (cdv : Value) (A : Around) (outer : List Env) (s : Shared) (H : Hp) (vs : List V) (Q : VK) (E : XK) (p : Addr × Obj), Hot1 A p → RoomH k (A.deeper (envOfC qual (defScope st) s.heap.objs.size f cdv)) → sp p vs H Q E →
      ∃ t, PSs (cxH CX P w K mg base N qual (defScope st) f cdv A outer s H E p) (defBody st) t ∧ t { nx := fun _ H' => Q .non H', rt := Q } (L2.start N vs) H) : FnE P w K mg base CX (k + 1) f fd ps sp := by
  obtain ⟨oc, od, kV, doc, pm, an, cdv, ct, osl, rfl, lk, hcd⟩ := F.ex
  refine ⟨len, fun A outer s H args us vs Q E p hr hot hpin e0 hb r hsp => ?_⟩
  have KX : K.In s.heap := e0.mod.kin.keeps fun b o e => (e0.bs b o e).1
  have lim : s.heap.NoLimit := e0.mod.nolimit.keeps fun b o e => (e0.bs b o e).1
  refine codeAny_call_function hr.depth (KX _ _ lk) rfl S.co S.gen rfl (PySem.W.codeRec_of KX hcd) (hb _ _ _ _ ?_)
  refine wpAny_newFunctionEnv_cells S.kind (fun y hy => ?_) fun env he s1 x => ?_
  · rcases S.par y.1 (List.of_mem_zip hy).1 with q | q
    · exact .inl q
    · exact .inr ⟨q, PySem.W.cellsFrom_some _ _ _ (.inl q)⟩
  · subst he
    obtain ⟨t, ht, hq⟩ := hbody cdv A outer s H vs Q E p hot (hr.deeper _) hsp
    have I := inv_startH (CX := CX) (qual := qual) (f := f) (cd := cdv) (E := E) S hpin e0 (len _ _ _ _ _ hsp) r x
    refine ⟨lim.keeps x.toInCall.keep, codeAny_func (wpAny_mono (ht.run [] s1 (L2.start N vs) H _ I hq) (fun fl s' hs => ?_) fun _ _ z => z)⟩
    cases fl with
    | ret u =>
      obtain ⟨v, _, H', J, rv, q⟩ := hs
      exact ⟨v, H', J.os, J.bare, J.base, J.hok, rv, q⟩
    | next =>
      obtain ⟨_, H', J, q⟩ := hs
      exact ⟨.non, H', J.os, J.bare, J.base, J.hok, rfl, q⟩
    | brk =>
      obtain ⟨_, _, _, q⟩ := hs
      exact q.elim
    | cont =>
      obtain ⟨_, _, _, q⟩ := hs
      exact q.elim
section
variable {X : Cx} {CX : CXT} {k : Nat} {f : Addr} {fd : FuncData} {ps : List Str} {sp : Addr × Obj → Sp} {E : XK} {x : Str} {q pos : Pos} {e : Expr} {t : TA} {p : Addr × Obj}
theorem run_fnE {pins : List (Addr × Obj)} {σ : L2.St} {H : Hp} {s : Shared} {Q : VK} {us : List Value} {vs : List V} (F : FnE X.prog X.w X.K X.mg X.base CX k f fd ps sp) (hr : RoomH k X.A) (hot : Hot1 X.A p) (hp : p ∈ X.pn) (hb : Binds X.K fd ps []) (hx : PassesAt CX X σ E)
    (I : Inv X pins σ H s) (r : Vals vs us) (h : sp p vs H Q E) : wpAny (model X.prog X.w) X.A (call (.ref f) us) (EP X pins σ Q) X.xe s := by
  obtain ⟨g1, g2, g3, g4, g5⟩ := I.pin p (List.mem_append_left _ hp)
  have b := hb s us I.kIn (by rw [List.append_nil, ← r.length]; exact F.len _ _ _ _ _ h)
  rw [List.append_nil] at b
  refine wpAny_call (codeAny_mono (F.run X.A X.stack s H ⟨us, []⟩ us vs Q E p hr hot ⟨g1, g2, fun hm => (List.mem_cons.mp (I.stkSub p.1 hm)).elim g3 g4, g5⟩ I.env0 b r h) fun r s' hq => ?_)
  cases r with
  | error e => exact hx pins H s e s' I hq
  | ok fl =>
    cases fl with
    | ret u => exact I.after hq
    | next => exact hq.elim
    | brk => exact hq.elim
    | cont => exact hq.elim
theorem pe_callE (F : FnE X.prog X.w X.K X.mg X.base CX k f fd ps sp) (hr : RoomH k X.A) (hot : Hot1 X.A p) (hp : p ∈ X.pn) (hg : Gl X x) (hm : X.mg x = some (.ref f)) (hk : PySem.W.keepIn X.K (.ref f) = true) (hb : Binds X.K fd ps []) (hx : ∀ σ, PassesAt CX X σ E)
    (ha : PA X [e] t) (hdb : (x == ("__debug__" : Str)) = false := by decide) (he : starEach [e] X.env = (false, eval e X.env) :: starEach [] X.env := by rfl) (hpl : (backTo pos (starEach [] X.env)).any (·.1) = false := by rfl) :
    PE X (.Call (.Name x q) [e] [] pos) (fun σ H Q => t σ H fun vs H1 => sp p vs H1 Q E) := ⟨fun pins s σ H Q I h => by
  refine wpAny_Call_Name_kw (ld_glob I hg hm ?_ hdb)
  refine PySem.W.callWith_K (h₀ := X.base) I.ok.mod.kin hk (thn (ha.run pos pins s σ H _ I h) fun us s1 ⟨vs, H1, I1, r, q⟩ => ⟨I1.kIn, ?_⟩) he hpl
  exact run_fnE F hr hot hp hb (hx σ) I1 r q⟩
end
/-! ### the name of an error -/
def errN (nm : Str) : Str :=
  if nm = "InvalidKeypad" then "pad" else if nm = "InvalidText" then "word" else if nm = "InvalidLog" then "log" else if nm = "InvalidNumber" then "number" else if nm = "InvalidThreshold" then "limit"
  else if nm = "InvalidPress" then "press" else if nm = "TooMany" then "many" else if nm = "TooOften" then "often" else "undo"
def spErr (excs : List (Str × Addr)) : Addr × Obj → Sp := fun p vs H Q _ => ∃ nm C, (nm, C) ∈ excs ∧ L2N.Zn (.ref C) none p.2 ∧ (∃ ws, p.2.data = .fields ws) ∧ vs = [.ref p.1] ∧ ∀ H', Same H H' → Q (.str (errN nm)) H'
def startE (N : List Str) (a : Addr) : List Sl := .raw (.ref a) :: List.replicate (N.length - 1) .no
theorem same_none {H : Hp} : Same (fun _ => none) H := fun a u e => nomatch e
section
variable {P : Program} {w : World} {K : PySem.W.Frag} {mg : Str → Option Value} {base : Heap}
theorem startE_ok {H : Hp} {N : List Str} {a : Addr} : StOk K H (fun _ => none) (fun _ => none) (startE N a) (L2.start N [.ref a]) H where
  bg := Same.refl _
  up := Same.refl _
  st := same_none
  nw a e := absurd rfl e
  len := by
    unfold startE L2.start
    simp
  sl i t o h1 h2 := by
    unfold startE at h1
    unfold L2.start at h2
    cases i with
    | zero =>
      cases h1
      cases h2
      rfl
    | succ i =>
      rw [List.getElem?_cons_succ, List.getElem?_replicate] at h1
      split at h1
      · cases h1
        trivial
      · cases h1
  ap i j s t a hij h1 h2 h3 h4 h5 h6 := by
    unfold startE at h1
    cases i with
    | zero =>
      cases h1
      cases h3
    | succ i =>
      rw [List.getElem?_cons_succ, List.getElem?_replicate] at h1
      split at h1
      · cases h1
        cases h3
      · cases h1
def endsE (nm : Str) : DEnds := { nx := fun _ => False, rt := fun d _ => d = .str (errN nm) }
theorem fnErr {CX : CXT} {x qual : Str} {st : Stmt} {f : Addr} {fd : FuncData} {N : List Str} {k : Nat} {excs : List (Str × Addr)} (F : Fun K x qual st f fd) (S : FnScope N ["e"] (defScope st))
    (hbody : ∀ (cdv : Value) (A : Around) (outer : List Env) (s : Shared) (H : Hp) (E : XK) (p : Addr × Obj) (nm : Str) (C : Addr), RoomH k (A.deeper (envOfC qual (defScope st) s.heap.objs.size f cdv)) → HotC (cxH CX P w K mg base N qual (defScope st) f cdv A outer s H E p) → (nm, C) ∈ excs →
      Hld (cxH CX P w K mg base N qual (defScope st) f cdv A outer s H E p) p C → ∃ t, DXb (cxH CX P w K mg base N qual (defScope st) f cdv A outer s H E p) H (defBody st) t ∧ t (endsE nm) (startE N p.1)) : FnE P w K mg base CX (k + 1) f fd ["e"] (spErr excs) := by
  refine fnE_mk F S (fun p vs H Q E h => ?_) (fun cdv A outer s H vs Q E p hot hr h => ?_)
  · obtain ⟨_, _, _, _, _, rfl, _⟩ := h
    rfl
  · obtain ⟨nm, C, hm, hz, hf, rfl, q⟩ := h
    obtain ⟨t, hb, ht⟩ := hbody cdv A outer s H E p nm C hr ⟨p, hot, List.mem_singleton.mpr rfl⟩ hm ⟨List.mem_singleton.mpr rfl, hz, hf⟩
    refine ⟨_, hb.run H (fun _ => none) (Same.refl _), fun _ => none, startE N p.1, endsE nm, startE_ok, ⟨fun _ _ _ _ _ z => z.elim, ?_, fun _ _ _ _ _ z => z.elim, fun _ _ _ _ _ z => z.elim, fun _ _ _ _ _ _ _ _ _ _ _ _ z => z.elim⟩, ht⟩
    intro σ F2 ρ H2 v d ok rv e
    have e : d = .str (errN nm) := e
    subst e
    cases rv
    exact q H2 ok.bg
/-! ### try: body, except PressError as e: return _law_error_name(e); and what follows -/
/-- what the handler is for: the classes that may come -/
structure Catch (K : PySem.W.Frag) (mg : Str → Option Value) (c : Addr) (excs : List (Str × Addr)) : Prop where
  g : ∀ nm C C', (nm, C) ∈ excs → mg nm = some (.ref C') → C' = C
  m : ∀ nm C, (nm, C) ∈ excs → PySem.W.exmOne K (.ref C) (.ref c) = some true
theorem fnT {x qual xh xf n : Str} {st : Stmt} {f fe c : Addr} {fd fde : FuncData} {N ps : List Str} {k i : Nat} {d : DP} {excs : List (Str × Addr)} {body rest : List Stmt} {np q q2 pos pos' pos3 pos4 : Pos} (F : Fun K x qual st f fd) (S : FnScope N ps (defScope st)) (len : ∀ ds Q W, d ds Q W → ds.length = ps.length) (dn : ∀ ds Q W, d ds Q W → d ds Q noW)
    (hst : defBody st = .Try body [.ExceptHandler (some (.Name xh np)) (some n) [.Return (some (.Call (.Name xf q) [.Name n q2] [] pos3)) pos4] pos'] [] [] pos :: rest)
    (Fe : FnE P w K mg base (L2N.CX P w) (k + 1) fe fde ["e"] (spErr excs)) (me : mg xf = some (.ref fe)) (ke : PySem.W.keepIn K (.ref fe) = true) (be : Binds K fde ["e"] []) (mc : mg xh = some (.ref c)) (ct : Catch K mg c excs)
    (hi : N[i]? = some n) (hn : (defScope st).names.lookup n = some .local) (hgh : ∀ (cdv : Value) (A : Around) (outer : List Env) (s : Shared) (H : Hp) (E : XK), Gl (cxOf (L2N.CX P w) P w K mg base N qual (defScope st) f cdv A outer s H E) xh ∧ Gl (cxOf (L2N.CX P w) P w K mg base N qual (defScope st) f cdv A outer s H E) xf)
    (hdh : (xh == ("__debug__" : Str)) = false) (hdf : (xf == ("__debug__" : Str)) = false) (hdn : (n == ("__debug__" : Str)) = false) (hcn : (n == ("__classdict__" : Str)) = false)
    (hbody : ∀ (cdv : Value) (A : Around) (outer : List Env) (s : Shared) (H : Hp) (E : XK), Room (k + 1) (A.deeper (envOfC qual (defScope st) s.heap.objs.size f cdv)) →
      ∃ (tr : DS) (tb : (Str → Prop) → DS), DXb (cxOf (L2N.CX P w) P w K mg base N qual (defScope st) f cdv A outer s H E) H rest tr ∧
        (∀ (W : Str → Prop) (pn : List (Addr × Obj)) (xe : Value → Shared → Prop), PassesOwn (model P w) (A.deeper (envOfC qual (defScope st) s.heap.objs.size f cdv)) (envOfC qual (defScope st) s.heap.objs.size f cdv) xe → XW ((cxOf (L2N.CX P w) P w K mg base N qual (defScope st) f cdv A outer s H E).tr pn xe) H W →
          DXb ((cxOf (L2N.CX P w) P w K mg base N qual (defScope st) f cdv A outer s H E).tr pn xe) H body (tb W)) ∧
        ∀ (W : Str → Prop) ds Q, d ds Q noW → (∀ nm C, (nm, C) ∈ excs → Q (.str (errN nm)) → W nm) → tb W { nx := tr (endsD Q), rt := fun d _ => Q d } (startS N ds)) : FnD P w K mg base (k + 2) f fd ps d := by
  refine okXN F S (fun vs H Q E h => ?_) (fun cdv A outer s H vs Q E hr h => ?_)
  · obtain ⟨F', ds, _, r, h⟩ := h
    rw [r.len]
    exact len _ _ _ h
  obtain ⟨F', ds, s1, r, h⟩ := h
  obtain ⟨tr, tb, htr, htb, hd⟩ := hbody cdv A outer s H E hr
  obtain ⟨gh, gf⟩ := hgh cdv A outer s H E
  have hts : ∀ (a : Addr) (oe : Obj) (cls : Value) (d : Option Addr) (pn : List (Addr × Obj)), L2N.Zn cls d oe → (∃ vs, oe.data = .fields vs) →
      PSs ((cxOf (L2N.CX P w) P w K mg base N qual (defScope st) f cdv A outer s H E).suite a ((a, oe) :: pn)) [.Return (some (.Call (.Name xf q) [.Name n q2] [] pos3)) pos4]
        (fun D σ H => (σ.length = N.length → σ[i]? = some (some (.ref a))) ∧ ∃ nm C, (nm, C) ∈ excs ∧ cls = .ref C ∧ d = none ∧ ∀ H', Same H H' → D.rt (.str (errN nm)) H') := fun a oe cls d pn hz ⟨vs, hv⟩ => by
    have rm : RoomH (k + 1) ((cxOf (L2N.CX P w) P w K mg base N qual (defScope st) f cdv A outer s H E).suite a ((a, oe) :: pn)).A := ⟨hr.dp, hr.un⟩
    have ht : Hot1 ((cxOf (L2N.CX P w) P w K mg base N qual (defScope st) f cdv A outer s H E).suite a ((a, oe) :: pn)).A (a, oe) := ⟨rfl, vs, hv, hz.2.2 vs hv⟩
    have call := pe_callE (X := (cxOf (L2N.CX P w) P w K mg base N qual (defScope st) f cdv A outer s H E).suite a ((a, oe) :: pn)) (p := (a, oe)) (q := q) (pos := pos3) (E := fun _ _ _ => False) Fe rm ht List.mem_cons_self gf me ke be (fun σ => L2N.passAt (W := fun _ _ _ _ => False) takes0N σ)
      (pa_cons (pe_var (i := i) (pos := q2) hi (.inl hn) hdn hcn) pa_nil) hdf
    have st1 := pss_one (ps_ret (pos := pos4) call)
    refine ⟨fun pins s' σ H1 D I hh => st1.run pins s' σ H1 D I ?_⟩
    obtain ⟨hσ, nm, C, hm, ec, ed, q3⟩ := hh
    subst ec
    subst ed
    exact ⟨_, hσ I.len, nm, C, hm, hz, ⟨vs, hv⟩, rfl, q3⟩
  let Wn : WX → Str → Prop := fun W nm => ∀ σ C H', mg nm = some (.ref C) → Same H H' → W (.ref C) none σ H'
  have pt := L2N.ps_try_as (X := cxOf (L2N.CX P w) P w K mg base N qual (defScope st) f cdv A outer s H E) (i := i) (np := np) (pos' := pos') (pos := pos) (tb := fun W => lS K H F' (tb (Wn W))) rfl rfl S.nd hi hn ⟨gh, hdh, .inl mc⟩ (L2N.takes_of rfl rfl rfl rfl)
    (fun W pn xe tk po => (htb (Wn W) pn xe po ⟨W, tk, fun σ nm C H' hw hc hs => hw σ C H' hc hs⟩).run H F' (Same.refl _)) hts
  rw [hst]
  refine ⟨_, pss_cons pt (htr.run H F' (Same.refl _)), F', startS N ds, { nx := tr (endsD (Post F' H Q)), rt := fun d _ => Post F' H Q d }, start_ok s1 r, ⟨?_, ?_, fun _ _ _ _ _ z => z.elim, fun _ _ _ _ _ z => z.elim, fun _ _ _ _ _ _ _ _ _ _ _ _ z => z.elim⟩, hd _ ds _ (dn _ _ _ h) fun nm C hm hq => ?_⟩
  · intro σ F2 ρ H2 ok hq
    refine ⟨F2, ρ, endsD (Post F' H Q), ok, ⟨?_, ?_, fun _ _ _ _ _ z => z.elim, fun _ _ _ _ _ z => z.elim, fun _ _ _ _ _ _ _ _ _ _ _ _ z => z.elim⟩, hq⟩
    · exact fun σ F3 ρ H3 ok q => q _ F3 H3 ⟨ok.bg, ok.up, ok.st, ok.nw⟩ .non
    · exact fun σ F3 ρ H3 v d ok rv q => q v F3 H3 ⟨ok.bg, ok.up, ok.st, ok.nw⟩ rv
  · exact fun σ F3 ρ H3 v d ok rv q => q v F3 H3 ⟨ok.bg, ok.up, ok.st, ok.nw⟩ rv
  · intro σ C' H' hc hs
    have e := ct.g nm C C' hm hc
    subst e
    refine ⟨true, ct.m nm _ hm, fun _ a ha => ⟨?_, nm, _, hm, rfl, rfl, fun H2 s2 => ?_⟩, fun z => Bool.noConfusion z⟩
    · intro hl
      rw [List.length_set] at hl
      exact List.getElem?_set_self (by rw [hl]; exact (List.getElem?_eq_some_iff.mp hi).1)
    · exact hq _ F' H2 ⟨hs.trans s2, Same.refl _, (s1.trans hs).trans s2, fun _ z => .inl z⟩ (.str _)
end
theorem hu64H {k : Nat} {A : Around} (hr : RoomH k A) : A.units + 64 < cLine := by
  have := hr.un
  omega
theorem hu_ofH {k : Nat} {A : Around} (hr : RoomH k A) : A.units + 1 < cLine := by
  have := hr.un
  omega
end DL

namespace LW
open PySem PySem.Spec PyProof.Rows L2 DL
/-! is_integer -/
def isIn (v : D) (lo hi : Int) : Bool := match v with
  | .int i => decide (lo ≤ i) && decide (i ≤ hi)
  | _ => false
abbrev n_is_integer : List Str := ["value", "low", "high"]
def p_is_integer : DP := fun ds Q _ => ∃ v lo hi, ds = [v, .int lo, .int hi] ∧ noDict v = true ∧ Q (.bool (isIn v lo hi))
def t_is_integer (W : Str → Prop) : DS := (dRet (dAnd (dUn (gIsi isInt) (dVar 0)) (dAnd (dNot (dUn (gIsi isBool) (dVar 0))) (dChain gLe gLe (dVar 1) (dVar 0) (dVar 2)))))
theorem m_is_integer : MoP p_is_integer := fun ds Q Q' W W' hq _ ⟨v, lo, hi, e, h, q⟩ => ⟨v, lo, hi, e, h, hq _ q⟩
theorem l_is_integer : ∀ ds Q W, p_is_integer ds Q W → ds.length = 3 := fun ds Q W ⟨v, lo, hi, e, _⟩ => by rw [e]; rfl
theorem D_is_integer (W : Str → Prop) (ds : List D) (Q : D → Prop) (h : p_is_integer ds Q W) : t_is_integer W (endsD Q) (startS n_is_integer ds) := by
  obtain ⟨v, lo, hi, rfl, hv, q⟩ := h
  show t_is_integer W (endsD Q) [.va v, .va (.int lo), .va (.int hi)]
  simp only [t_is_integer, dRet, dRetN, dAnd, dOr, dNot, dTest, dTAnd, dTOr, dTNot, dIf, dChain, dUn, dOp, dCall, dC, dVar, dCons, dNil, dTup, dLst, dSeq, dIfS, dAsg, dgName, dgNil, dPar, dParEO, dParOE, dParOO, dFor, dIter, dNext, dBreak, dCont, dDrop, dRaise, dFn, dFnS, dFnO, dM1, dLc, dSl, dSlV, dRevV, dLenV, dIdxV, dApp, dSetI, dPopAt, dCmpV, dOwn, dOwnV, dRetO, dRng1, dRng2, dRng3, dPNo, dPSo, dYes, dLenSet, dScrLen, dScrIdx, dSrcIdx, dSrcSet, dNewSrc, oLst, oRep, oListStr, gEq, gNe, gIsN, gNotN, gIsB, gNotB, gIsi, sg, List.getD_cons_zero, List.getD_cons_succ, List.set_cons_zero, List.set_cons_succ, if_true, if_false, reduceIte, endsD, endsS, endsO, endsN, endsL, asB_b, asI_i, asL_l, itemsP_l, itemsP_t, itemsP_s, itemsP_d, gAdd_i, gAdd_s, gAdd_t, gAdd_l, gI2_i, gMul_i, gMul_t, gMul_l, gMul_s, gNeg_i, gLen_s, gLen_l, gLen_t, gL1_1, gAll_l, gSum_l, gI2L_i, gMaxL_l, gMinL_l, gJoin_l, gJoin_t, gSl_l, gSl_t, gSl_s, gRev_l, wipeS, unwipe, keepV, gIdx_l, gIdx_t, gIdx_s, gIdx_d, dVarD, dDNew, dDNewT, dDPut, dDGetV, dDInV, dDEmpty, dDOne, dOwnD, dParED, dPar3, dEnum, dZip, dgTup_t, dgCons_c, dIsE, gSplit, dZipH, dM1]
  refine ⟨hv, ?_⟩
  cases v <;> simp [DL.isInt, isBool, noDict, isIn] at hv q ⊢ <;> try exact q
  rename_i i
  simp only [dRet, dRetN, dAnd, dOr, dNot, dTest, dTAnd, dTOr, dTNot, dIf, dChain, dUn, dOp, dCall, dC, dVar, dCons, dNil, dTup, dLst, dSeq, dIfS, dAsg, dgName, dgNil, dPar, dParEO, dParOE, dParOO, dFor, dIter, dNext, dBreak, dCont, dDrop, dRaise, dFn, dFnS, dFnO, dM1, dLc, dSl, dSlV, dRevV, dLenV, dIdxV, dApp, dSetI, dPopAt, dCmpV, dOwn, dOwnV, dRetO, dRng1, dRng2, dRng3, dPNo, dPSo, dYes, dLenSet, dScrLen, dScrIdx, dSrcIdx, dSrcSet, dNewSrc, oLst, oRep, oListStr, gEq, gNe, gIsN, gNotN, gIsB, gNotB, gIsi, sg, List.getD_cons_zero, List.getD_cons_succ, List.set_cons_zero, List.set_cons_succ, if_true, if_false, reduceIte, endsD, endsS, endsO, endsN, endsL, asB_b, asI_i, asL_l, itemsP_l, itemsP_t, itemsP_s, itemsP_d, gAdd_i, gAdd_s, gAdd_t, gAdd_l, gI2_i, gMul_i, gMul_t, gMul_l, gMul_s, gNeg_i, gLen_s, gLen_l, gLen_t, gL1_1, gAll_l, gSum_l, gI2L_i, gMaxL_l, gMinL_l, gJoin_l, gJoin_t, gSl_l, gSl_t, gSl_s, gRev_l, wipeS, unwipe, keepV, gIdx_l, gIdx_t, gIdx_s, gIdx_d, dVarD, dDNew, dDNewT, dDPut, dDGetV, dDInV, dDEmpty, dDOne, dOwnD, dParED, dPar3, dEnum, dZip, dgTup_t, dgCons_c, dIsE, gSplit, dZipH, dM1]
  refine ⟨trivial, ?_⟩
  by_cases h : lo ≤ i
  · rw [if_pos (decide_eq_true h)]
    exact ⟨trivial, by simpa [h] using q⟩
  · rw [if_neg (by simpa using h)]
    simpa [h] using q
/-! is_string_of -/
def isStrOf (v : D) (al : Tx) (lo hi : Int) : Bool := match v with
  | .str x => decide (lo ≤ (x.cps.toList.length : Int)) && decide ((x.cps.toList.length : Int) ≤ hi) && x.cps.toList.all fun c => decide (c ∈ al)
  | _ => false
/-- no dict, no too long text -/
def okV (v : D) : Prop := match v with
  | .dict _ => False
  | .str x => x.cps.toList.length ≤ 1000
  | _ => True
theorem okV.nd {v : D} (h : okV v) : noDict v = true := by
  cases v <;> first | rfl | exact h.elim
abbrev n_is_string_of : List Str := ["value", "letters", "least", "most", "sign"]
def p_is_string_of : DP := fun ds Q _ => ∃ v al lo hi, ds = [v, S al, .int lo, .int hi] ∧ okV v ∧ Q (.bool (isStrOf v al lo hi))
def t_is_string_of (W : Str → Prop) : DS := (dRet (dAnd (dUn (gIsi isStr) (dVar 0)) (dAnd (dChain gLe gLe (dVar 2) (dCall (gL1 gLen) (dCons (dVar 0) dNil)) (dVar 3)) (dCall (gL1 gAll) (dCons (dLc (dIter (dVar 0)) (dgName 4) dYes (dOp (inP false) (dVar 4) (dVar 1)) [4]) dNil)))))
theorem m_is_string_of : MoP p_is_string_of := fun ds Q Q' W W' hq _ ⟨v, al, lo, hi, e, h, q⟩ => ⟨v, al, lo, hi, e, h, hq _ q⟩
theorem l_is_string_of : ∀ ds Q W, p_is_string_of ds Q W → ds.length = 4 := fun ds Q W ⟨v, al, lo, hi, e, _⟩ => by rw [e]; rfl
theorem D_is_string_of (W : Str → Prop) (ds : List D) (Q : D → Prop) (h : p_is_string_of ds Q W) : t_is_string_of W (endsD Q) (startS n_is_string_of ds) := by
  obtain ⟨v, al, lo, hi, rfl, hv, q⟩ := h
  show t_is_string_of W (endsD Q) [.va v, .va (S al), .va (.int lo), .va (.int hi), .no]
  simp only [t_is_string_of, dRet, dRetN, dAnd, dOr, dNot, dTest, dTAnd, dTOr, dTNot, dIf, dChain, dUn, dOp, dCall, dC, dVar, dCons, dNil, dTup, dLst, dSeq, dIfS, dAsg, dgName, dgNil, dPar, dParEO, dParOE, dParOO, dFor, dIter, dNext, dBreak, dCont, dDrop, dRaise, dFn, dFnS, dFnO, dM1, dLc, dSl, dSlV, dRevV, dLenV, dIdxV, dApp, dSetI, dPopAt, dCmpV, dOwn, dOwnV, dRetO, dRng1, dRng2, dRng3, dPNo, dPSo, dYes, dLenSet, dScrLen, dScrIdx, dSrcIdx, dSrcSet, dNewSrc, oLst, oRep, oListStr, gEq, gNe, gIsN, gNotN, gIsB, gNotB, gIsi, sg, List.getD_cons_zero, List.getD_cons_succ, List.set_cons_zero, List.set_cons_succ, if_true, if_false, reduceIte, endsD, endsS, endsO, endsN, endsL, asB_b, asI_i, asL_l, itemsP_l, itemsP_t, itemsP_s, itemsP_d, gAdd_i, gAdd_s, gAdd_t, gAdd_l, gI2_i, gMul_i, gMul_t, gMul_l, gMul_s, gNeg_i, gLen_s, gLen_l, gLen_t, gL1_1, gAll_l, gSum_l, gI2L_i, gMaxL_l, gMinL_l, gJoin_l, gJoin_t, gSl_l, gSl_t, gSl_s, gRev_l, wipeS, unwipe, keepV, gIdx_l, gIdx_t, gIdx_s, gIdx_d, dVarD, dDNew, dDNewT, dDPut, dDGetV, dDInV, dDEmpty, dDOne, dOwnD, dParED, dPar3, dEnum, dZip, dgTup_t, dgCons_c, dIsE, gSplit, dZipH, dM1]
  refine ⟨hv.nd, ?_⟩
  cases v with
  | str x =>
    obtain ⟨l, rfl⟩ : ∃ l, x = tx l := ⟨_, str_tx x⟩
    simp only [dRet, dRetN, dAnd, dOr, dNot, dTest, dTAnd, dTOr, dTNot, dIf, dChain, dUn, dOp, dCall, dC, dVar, dCons, dNil, dTup, dLst, dSeq, dIfS, dAsg, dgName, dgNil, dPar, dParEO, dParOE, dParOO, dFor, dIter, dNext, dBreak, dCont, dDrop, dRaise, dFn, dFnS, dFnO, dM1, dLc, dSl, dSlV, dRevV, dLenV, dIdxV, dApp, dSetI, dPopAt, dCmpV, dOwn, dOwnV, dRetO, dRng1, dRng2, dRng3, dPNo, dPSo, dYes, dLenSet, dScrLen, dScrIdx, dSrcIdx, dSrcSet, dNewSrc, oLst, oRep, oListStr, gEq, gNe, gIsN, gNotN, gIsB, gNotB, gIsi, sg, List.getD_cons_zero, List.getD_cons_succ, List.set_cons_zero, List.set_cons_succ, if_true, if_false, reduceIte, endsD, endsS, endsO, endsN, endsL, asB_b, asI_i, asL_l, itemsP_l, itemsP_t, itemsP_s, itemsP_d, gAdd_i, gAdd_s, gAdd_t, gAdd_l, gI2_i, gMul_i, gMul_t, gMul_l, gMul_s, gNeg_i, gLen_s, gLen_l, gLen_t, gL1_1, gAll_l, gSum_l, gI2L_i, gMaxL_l, gMinL_l, gJoin_l, gJoin_t, gSl_l, gSl_t, gSl_s, gRev_l, wipeS, unwipe, keepV, gIdx_l, gIdx_t, gIdx_s, gIdx_d, dVarD, dDNew, dDNewT, dDPut, dDGetV, dDInV, dDEmpty, dDOne, dOwnD, dParED, dPar3, dEnum, dZip, dgTup_t, dgCons_c, dIsE, gSplit, dZipH, dM1, DL.isStr, if_true, tx_length, chars_tx]
    have hl : l.length ≤ 1000 := by simpa [okV, tx_list] using hv
    simp only [isStrOf, tx_list] at q
    refine ⟨small_le hl, trivial, ?_⟩
    by_cases h1 : lo ≤ (l.length : Int)
    · rw [if_pos (decide_eq_true h1)]
      refine ⟨trivial, ?_⟩
      by_cases h2 : (l.length : Int) ≤ hi
      · rw [if_pos (decide_eq_true h2)]
        refine lc_map (fun c => S [c]) (fun c => .bool (decide (c ∈ al))) l [] (fun c hc R N hR => ?_) (small_le (by simpa using hl)) ?_
        · simp only [dRet, dRetN, dAnd, dOr, dNot, dTest, dTAnd, dTOr, dTNot, dIf, dChain, dUn, dOp, dCall, dC, dVar, dCons, dNil, dTup, dLst, dSeq, dIfS, dAsg, dgName, dgNil, dPar, dParEO, dParOE, dParOO, dFor, dIter, dNext, dBreak, dCont, dDrop, dRaise, dFn, dFnS, dFnO, dM1, dLc, dSl, dSlV, dRevV, dLenV, dIdxV, dApp, dSetI, dPopAt, dCmpV, dOwn, dOwnV, dRetO, dRng1, dRng2, dRng3, dPNo, dPSo, dYes, dLenSet, dScrLen, dScrIdx, dSrcIdx, dSrcSet, dNewSrc, oLst, oRep, oListStr, gEq, gNe, gIsN, gNotN, gIsB, gNotB, gIsi, sg, List.getD_cons_zero, List.getD_cons_succ, List.set_cons_zero, List.set_cons_succ, if_true, if_false, reduceIte, endsD, endsS, endsO, endsN, endsL, asB_b, asI_i, asL_l, itemsP_l, itemsP_t, itemsP_s, itemsP_d, gAdd_i, gAdd_s, gAdd_t, gAdd_l, gI2_i, gMul_i, gMul_t, gMul_l, gMul_s, gNeg_i, gLen_s, gLen_l, gLen_t, gL1_1, gAll_l, gSum_l, gI2L_i, gMaxL_l, gMinL_l, gJoin_l, gJoin_t, gSl_l, gSl_t, gSl_s, gRev_l, wipeS, unwipe, keepV, gIdx_l, gIdx_t, gIdx_s, gIdx_d, dVarD, dDNew, dDNewT, dDPut, dDGetV, dDInV, dDEmpty, dDOne, dOwnD, dParED, dPar3, dEnum, dZip, dgTup_t, dgCons_c, dIsE, gSplit, dZipH, dM1]
          refine ⟨c, rfl, ?_⟩
          simp only [tx_list]
          exact hR _ rfl
        · refine ⟨l.map fun c => decide (c ∈ al), ?_, ?_⟩
          · simp
          · simpa [h1, h2, List.all_map] using q
      · rw [if_neg (by simpa using h2)]
        simpa [h1, h2] using q
    · rw [if_neg (by simpa using h1)]
      simpa [h1] using q
  | none => exact q
  | bool b => exact q
  | int i => exact q
  | list d => exact q
  | tuple d => exact q
  | dict d => exact q

/-! is_keypad -/
def alpha : Tx := (List.range 26).map (· + 97)
theorem alpha_eq : Str.ofString "abcdefghijklmnopqrstuvwxyz" = tx alpha := by decide +kernel
theorem empty_eq : Str.ofString "" = tx [] := by decide +kernel
theorem mem_alpha {c : Nat} : c ∈ alpha ↔ 97 ≤ c ∧ c ≤ 122 := by
  unfold alpha
  rw [List.mem_map]
  constructor
  · rintro ⟨a, ha, rfl⟩
    have := List.mem_range.mp ha
    omega
  · intro h
    exact ⟨c - 97, List.mem_range.mpr (by omega), by omega⟩
theorem glue_fold : ∀ (zs : List Str) (a : Array Nat), (zs.foldl (fun acc p => acc ++ (tx []).cps ++ p.cps) a).toList = a.toList ++ (zs.map fun p => p.cps.toList).flatten
  | [], a => by simp
  | z :: zs, a => by
    rw [List.foldl_cons, glue_fold zs]
    simp [tx]
theorem join_tx (zs : List Tx) : Txt.join (tx []) (zs.map tx) = tx zs.flatten := by
  have e : (Txt.join (tx []) (zs.map tx)).cps.toList = zs.flatten := by
    unfold Txt.join Builtin.Str.glued
    rw [glue_fold]
    cases zs with
    | nil => simp [Str.empty]
    | cons z zs =>
      simp only [List.map_cons, List.headD_cons, List.drop_succ_cons, List.drop_zero, List.map_map, List.flatten_cons, tx_list]
      congr 2
      have : ((fun p : Str => p.cps.toList) ∘ tx) = id := by
        funext z
        exact tx_list z
      rw [this, List.map_id]
  rw [str_tx (Txt.join (tx []) (zs.map tx)), e]
def unS : D → Tx
  | .str x => x.cps.toList
  | _ => []
theorem unS_S (l : Tx) : unS (S l) = l := tx_list l
def isKp (v : D) : Bool := match v with
  | .tuple ds => decide (1 ≤ ds.length) && decide (ds.length ≤ 10) && ds.all (fun d => isStrOf d alpha 1 6) && decide ((ds.map unS).flatten.Nodup)
  | _ => false
/-- a thing that is_keypad looks at -/
structure okT (v : D) : Prop where
  self : okV v
  it : ∀ ds, v = PyData.tuple ds → ∀ d ∈ ds, okV d
theorem isStrOf_S {d : D} {al : Tx} {lo hi : Int} (h : isStrOf d al lo hi = true) : d = S (unS d) := by
  cases d with
  | str x => exact congrArg PyData.str (str_tx x)
  | _ => cases h
theorem all_S {ds : List D} {al : Tx} {lo hi : Int} (h : ds.all (fun d => isStrOf d al lo hi) = true) : ds = (ds.map unS).map S := by
  rw [List.map_map]
  conv => lhs; rw [← List.map_id ds]
  refine List.map_congr_left fun d hd => ?_
  exact isStrOf_S (List.all_eq_true.mp h d hd)
theorem len_flat {k : Nat} : ∀ {zs : List Tx}, (∀ z ∈ zs, z.length ≤ k) → (zs.map List.length).sum ≤ zs.length * k
  | [], _ => by simp
  | z :: zs, h => by
    rw [List.map_cons, List.sum_cons, List.length_cons, Nat.add_mul]
    have := h z List.mem_cons_self
    have := len_flat fun y hy => h y (List.mem_cons_of_mem z hy)
    omega
abbrev n_is_keypad : List Str := ["value", "letters", "key"]
def p_is_keypad : DP := fun ds Q _ => ∃ v, ds = [v] ∧ okT v ∧ Q (.bool (isKp v))
def t_is_keypad (W : Str → Prop) : DS := (dSeq (dIfS (dTOr (dTNot (dTest (dUn (gIsi isTup) (dVar 0)))) (dTNot (dTest (dChain gLe gLe (dC (.int 1)) (dCall (gL1 gLen) (dCons (dVar 0) dNil)) (dC (.int 10)))))) (dRet (dC (.bool false))) dNext)
      (dSeq (dIfS (dTNot (dTest (dCall (gL1 gAll) (dCons (dLc (dIter (dVar 0)) (dgName 2) dYes (dFn p_is_string_of noW (dCons (dVar 2) (dCons (dC (.str "abcdefghijklmnopqrstuvwxyz")) (dCons (dC (.int 1)) (dCons (dC (.int 6)) dNil))))) [2]) dNil)))) (dRet (dC (.bool false))) dNext)
      (dSeq (dAsg (dM1 gJoin (dC (.str "")) (dVar 0)) (dgName 1))
      (dRet (dOp gEq (dLenSet (dVar 1)) (dCall (gL1 gLen) (dCons (dVar 1) dNil)))))))
theorem m_is_keypad : MoP p_is_keypad := fun ds Q Q' W W' hq _ ⟨v, e, h, q⟩ => ⟨v, e, h, hq _ q⟩
theorem l_is_keypad : ∀ ds Q W, p_is_keypad ds Q W → ds.length = 1 := fun ds Q W ⟨v, e, _⟩ => by rw [e]; rfl
theorem D_is_keypad (W : Str → Prop) (ds : List D) (Q : D → Prop) (h : p_is_keypad ds Q W) : t_is_keypad W (endsD Q) (startS n_is_keypad ds) := by
  obtain ⟨v, rfl, hv, q⟩ := h
  show t_is_keypad W (endsD Q) [.va v, .no, .no]
  simp only [t_is_keypad, dRet, dRetN, dAnd, dOr, dNot, dTest, dTAnd, dTOr, dTNot, dIf, dChain, dUn, dOp, dCall, dC, dVar, dCons, dNil, dTup, dLst, dSeq, dIfS, dAsg, dgName, dgNil, dPar, dParEO, dParOE, dParOO, dFor, dIter, dNext, dBreak, dCont, dDrop, dRaise, dFn, dFnS, dFnO, dM1, dLc, dSl, dSlV, dRevV, dLenV, dIdxV, dApp, dSetI, dPopAt, dCmpV, dOwn, dOwnV, dRetO, dRng1, dRng2, dRng3, dPNo, dPSo, dYes, dLenSet, dScrLen, dScrIdx, dSrcIdx, dSrcSet, dNewSrc, oLst, oRep, oListStr, gEq, gNe, gIsN, gNotN, gIsB, gNotB, gIsi, sg, List.getD_cons_zero, List.getD_cons_succ, List.set_cons_zero, List.set_cons_succ, if_true, if_false, reduceIte, endsD, endsS, endsO, endsN, endsL, asB_b, asI_i, asL_l, itemsP_l, itemsP_t, itemsP_s, itemsP_d, gAdd_i, gAdd_s, gAdd_t, gAdd_l, gI2_i, gMul_i, gMul_t, gMul_l, gMul_s, gNeg_i, gLen_s, gLen_l, gLen_t, gL1_1, gAll_l, gSum_l, gI2L_i, gMaxL_l, gMinL_l, gJoin_l, gJoin_t, gSl_l, gSl_t, gSl_s, gRev_l, wipeS, unwipe, keepV, gIdx_l, gIdx_t, gIdx_s, gIdx_d, dVarD, dDNew, dDNewT, dDPut, dDGetV, dDInV, dDEmpty, dDOne, dOwnD, dParED, dPar3, dEnum, dZip, dgTup_t, dgCons_c, dIsE, gSplit, dZipH, dM1]
  refine ⟨hv.self.nd, ?_⟩
  cases v with
  | tuple ds =>
    simp only [dRet, dRetN, dAnd, dOr, dNot, dTest, dTAnd, dTOr, dTNot, dIf, dChain, dUn, dOp, dCall, dC, dVar, dCons, dNil, dTup, dLst, dSeq, dIfS, dAsg, dgName, dgNil, dPar, dParEO, dParOE, dParOO, dFor, dIter, dNext, dBreak, dCont, dDrop, dRaise, dFn, dFnS, dFnO, dM1, dLc, dSl, dSlV, dRevV, dLenV, dIdxV, dApp, dSetI, dPopAt, dCmpV, dOwn, dOwnV, dRetO, dRng1, dRng2, dRng3, dPNo, dPSo, dYes, dLenSet, dScrLen, dScrIdx, dSrcIdx, dSrcSet, dNewSrc, oLst, oRep, oListStr, gEq, gNe, gIsN, gNotN, gIsB, gNotB, gIsi, sg, List.getD_cons_zero, List.getD_cons_succ, List.set_cons_zero, List.set_cons_succ, if_true, if_false, reduceIte, endsD, endsS, endsO, endsN, endsL, asB_b, asI_i, asL_l, itemsP_l, itemsP_t, itemsP_s, itemsP_d, gAdd_i, gAdd_s, gAdd_t, gAdd_l, gI2_i, gMul_i, gMul_t, gMul_l, gMul_s, gNeg_i, gLen_s, gLen_l, gLen_t, gL1_1, gAll_l, gSum_l, gI2L_i, gMaxL_l, gMinL_l, gJoin_l, gJoin_t, gSl_l, gSl_t, gSl_s, gRev_l, wipeS, unwipe, keepV, gIdx_l, gIdx_t, gIdx_s, gIdx_d, dVarD, dDNew, dDNewT, dDPut, dDGetV, dDInV, dDEmpty, dDOne, dOwnD, dParED, dPar3, dEnum, dZip, dgTup_t, dgCons_c, dIsE, gSplit, dZipH, dM1, isTup, Bool.not_true, if_false, Bool.false_eq_true]
    simp only [isKp] at q
    refine ⟨trivial, ?_⟩
    by_cases h1 : 1 ≤ ds.length
    · by_cases h2 : ds.length ≤ 10
      · rw [if_pos (decide_eq_true (by omega : (1 : Int) ≤ (ds.length : Int)))]
        refine ⟨trivial, ?_⟩
        rw [decide_eq_true (by omega : (ds.length : Int) ≤ 10)]
        simp only [Bool.not_true, Bool.false_eq_true, if_false]
        have hlen : ds.length ≤ sizeLine := small_le (by omega)
        rw [show ds = ds.map id by simp]
        refine lc_map id (fun d => .bool (isStrOf d alpha 1 6)) ds [] (fun d hd R N hR => ?_) (by simpa using hlen) ?_
        · simp only [dRet, dRetN, dAnd, dOr, dNot, dTest, dTAnd, dTOr, dTNot, dIf, dChain, dUn, dOp, dCall, dC, dVar, dCons, dNil, dTup, dLst, dSeq, dIfS, dAsg, dgName, dgNil, dPar, dParEO, dParOE, dParOO, dFor, dIter, dNext, dBreak, dCont, dDrop, dRaise, dFn, dFnS, dFnO, dM1, dLc, dSl, dSlV, dRevV, dLenV, dIdxV, dApp, dSetI, dPopAt, dCmpV, dOwn, dOwnV, dRetO, dRng1, dRng2, dRng3, dPNo, dPSo, dYes, dLenSet, dScrLen, dScrIdx, dSrcIdx, dSrcSet, dNewSrc, oLst, oRep, oListStr, gEq, gNe, gIsN, gNotN, gIsB, gNotB, gIsi, sg, List.getD_cons_zero, List.getD_cons_succ, List.set_cons_zero, List.set_cons_succ, if_true, if_false, reduceIte, endsD, endsS, endsO, endsN, endsL, asB_b, asI_i, asL_l, itemsP_l, itemsP_t, itemsP_s, itemsP_d, gAdd_i, gAdd_s, gAdd_t, gAdd_l, gI2_i, gMul_i, gMul_t, gMul_l, gMul_s, gNeg_i, gLen_s, gLen_l, gLen_t, gL1_1, gAll_l, gSum_l, gI2L_i, gMaxL_l, gMinL_l, gJoin_l, gJoin_t, gSl_l, gSl_t, gSl_s, gRev_l, wipeS, unwipe, keepV, gIdx_l, gIdx_t, gIdx_s, gIdx_d, dVarD, dDNew, dDNewT, dDPut, dDGetV, dDInV, dDEmpty, dDOne, dOwnD, dParED, dPar3, dEnum, dZip, dgTup_t, dgCons_c, dIsE, gSplit, dZipH, dM1]
          exact ⟨d, alpha, 1, 6, by rw [alpha_eq]; rfl, hv.it ds rfl d hd, hR _ rfl⟩
        · refine ⟨ds.map fun d => isStrOf d alpha 1 6, by simp, ?_⟩
          have ea : ((ds.map fun d => isStrOf d alpha 1 6).all id) = ds.all fun d => isStrOf d alpha 1 6 := by
            rw [List.all_map]
            rfl
          rw [ea]
          cases hA : ds.all fun d => isStrOf d alpha 1 6 with
          | false =>
            simp only [Bool.not_false, if_true]
            simpa [h1, h2, hA] using q
          | true =>
            simp only [Bool.not_true, Bool.false_eq_true, if_false]
            have eS := all_S hA
            generalize hz : ds.map unS = zs at eS q
            have hz6 : ∀ z ∈ zs, z.length ≤ 6 := fun z hzz => by
              rw [← hz] at hzz
              obtain ⟨d, hd, rfl⟩ := List.mem_map.mp hzz
              have h3 := List.all_eq_true.mp hA d hd
              rw [isStrOf_S h3] at h3
              simp only [isStrOf, tx_list, Bool.and_eq_true, decide_eq_true_eq] at h3
              omega
            have hfl := len_flat hz6
            have hzl : zs.length = ds.length := by rw [← hz, List.length_map]
            refine ⟨rfl, zs.map tx, ?_, ?_, ?_⟩
            · rw [List.map_id, List.map_map]
              exact eS
            · rw [empty_eq, tx_length, List.map_map, List.length_map]
              have e3 : ((fun x : Str => x.length) ∘ tx) = List.length := funext fun z => tx_length z
              rw [e3]
              show _ + _ * 0 ≤ _
              omega
            · rw [empty_eq, join_tx]
              simp only [unwipe, wipeS, keepV, dRet, dRetN, dAnd, dOr, dNot, dTest, dTAnd, dTOr, dTNot, dIf, dChain, dUn, dOp, dCall, dC, dVar, dCons, dNil, dTup, dLst, dSeq, dIfS, dAsg, dgName, dgNil, dPar, dParEO, dParOE, dParOO, dFor, dIter, dNext, dBreak, dCont, dDrop, dRaise, dFn, dFnS, dFnO, dM1, dLc, dSl, dSlV, dRevV, dLenV, dIdxV, dApp, dSetI, dPopAt, dCmpV, dOwn, dOwnV, dRetO, dRng1, dRng2, dRng3, dPNo, dPSo, dYes, dLenSet, dScrLen, dScrIdx, dSrcIdx, dSrcSet, dNewSrc, oLst, oRep, oListStr, gEq, gNe, gIsN, gNotN, gIsB, gNotB, gIsi, sg, List.getD_cons_zero, List.getD_cons_succ, List.set_cons_zero, List.set_cons_succ, if_true, if_false, reduceIte, endsD, endsS, endsO, endsN, endsL, asB_b, asI_i, asL_l, itemsP_l, itemsP_t, itemsP_s, itemsP_d, gAdd_i, gAdd_s, gAdd_t, gAdd_l, gI2_i, gMul_i, gMul_t, gMul_l, gMul_s, gNeg_i, gLen_s, gLen_l, gLen_t, gL1_1, gAll_l, gSum_l, gI2L_i, gMaxL_l, gMinL_l, gJoin_l, gJoin_t, gSl_l, gSl_t, gSl_s, gRev_l, wipeS, unwipe, keepV, gIdx_l, gIdx_t, gIdx_s, gIdx_d, dVarD, dDNew, dDNewT, dDPut, dDGetV, dDInV, dDEmpty, dDOne, dOwnD, dParED, dPar3, dEnum, dZip, dgTup_t, dgCons_c, dIsE, gSplit, dZipH, dM1]
              have hf : zs.flatten.length ≤ 60 := by
                rw [List.length_flatten]
                have : (zs.map List.length).sum ≤ zs.length * 6 := hfl
                omega
              refine ⟨by rw [tx_size]; omega, by rw [tx_length]; exact small_le (by omega), rfl, ?_⟩
              rw [dcount_signs, eqv_int, tx_length]
              have e4 : decide ((ndc [] zs.flatten : Int) = (zs.flatten.length : Int)) = decide zs.flatten.Nodup := by
                refine decide_eq_decide.mpr ?_
                rw [Int.ofNat_inj, ndc_nodup]
                simp
              rw [e4]
              simpa [h1, h2, hA] using q
      · rw [if_pos (decide_eq_true (by omega : (1 : Int) ≤ (ds.length : Int)))]
        refine ⟨trivial, ?_⟩
        rw [decide_eq_false (by omega : ¬ (ds.length : Int) ≤ 10)]
        simpa [h1, h2] using q
    · rw [if_neg (by rw [decide_eq_true_eq]; omega)]
      simpa [h1] using q
  | none => exact q
  | bool b => exact q
  | int i => exact q
  | list d => exact q
  | str d => exact q
  | dict d => exact q
/-! require_keypad, is_log_value, require_log -/
abbrev n_require_keypad : List Str := ["value"]
def p_require_keypad : DP := fun ds Q W => ∃ v, ds = [v] ∧ okT v ∧ (isKp v = true → Q .none) ∧ (isKp v = false → W "InvalidKeypad")
def t_require_keypad (W : Str → Prop) : DS := (dIfS (dTNot (dTest (dFn p_is_keypad W (dCons (dVar 0) dNil)))) (dRaise W "InvalidKeypad") dNext)
theorem m_require_keypad : MoP p_require_keypad := fun ds Q Q' W W' hq hw ⟨v, e, h, q, r⟩ => ⟨v, e, h, fun z => hq _ (q z), fun z => hw _ (r z)⟩
theorem l_require_keypad : ∀ ds Q W, p_require_keypad ds Q W → ds.length = 1 := fun ds Q W ⟨v, e, _⟩ => by rw [e]; rfl
theorem D_require_keypad (W : Str → Prop) (ds : List D) (Q : D → Prop) (h : p_require_keypad ds Q W) : t_require_keypad W (endsD Q) (startS n_require_keypad ds) := by
  obtain ⟨v, rfl, hv, q, r⟩ := h
  show t_require_keypad W (endsD Q) [.va v]
  simp only [t_require_keypad, dRet, dRetN, dAnd, dOr, dNot, dTest, dTAnd, dTOr, dTNot, dIf, dChain, dUn, dOp, dCall, dC, dVar, dCons, dNil, dTup, dLst, dSeq, dIfS, dAsg, dgName, dgNil, dPar, dParEO, dParOE, dParOO, dFor, dIter, dNext, dBreak, dCont, dDrop, dRaise, dFn, dFnS, dFnO, dM1, dLc, dSl, dSlV, dRevV, dLenV, dIdxV, dApp, dSetI, dPopAt, dCmpV, dOwn, dOwnV, dRetO, dRng1, dRng2, dRng3, dPNo, dPSo, dYes, dLenSet, dScrLen, dScrIdx, dSrcIdx, dSrcSet, dNewSrc, oLst, oRep, oListStr, gEq, gNe, gIsN, gNotN, gIsB, gNotB, gIsi, sg, List.getD_cons_zero, List.getD_cons_succ, List.set_cons_zero, List.set_cons_succ, if_true, if_false, reduceIte, endsD, endsS, endsO, endsN, endsL, asB_b, asI_i, asL_l, itemsP_l, itemsP_t, itemsP_s, itemsP_d, gAdd_i, gAdd_s, gAdd_t, gAdd_l, gI2_i, gMul_i, gMul_t, gMul_l, gMul_s, gNeg_i, gLen_s, gLen_l, gLen_t, gL1_1, gAll_l, gSum_l, gI2L_i, gMaxL_l, gMinL_l, gJoin_l, gJoin_t, gSl_l, gSl_t, gSl_s, gRev_l, wipeS, unwipe, keepV, gIdx_l, gIdx_t, gIdx_s, gIdx_d, dVarD, dDNew, dDNewT, dDPut, dDGetV, dDInV, dDEmpty, dDOne, dOwnD, dParED, dPar3, dEnum, dZip, dgTup_t, dgCons_c, dIsE, gSplit, dZipH, dM1]
  refine ⟨v, rfl, hv, ?_⟩
  cases e : isKp v with
  | true => exact q e
  | false => exact r e
def isLog (n : Nat) (v : D) : Bool := match v with
  | .tuple ds => decide (ds.length ≤ 40) && ds.all fun d => isIn d 0 ((n : Int) - 1)
  | _ => false
abbrev n_is_log_value : List Str := ["keypad", "value", "key"]
def p_is_log_value : DP := fun ds Q _ => ∃ ks v, ds = [.tuple ks, v] ∧ okT v ∧ Q (.bool (isLog ks.length v))
def t_is_log_value (W : Str → Prop) : DS := (dSeq (dIfS (dTOr (dTNot (dTest (dUn (gIsi isTup) (dVar 1)))) (dTest (dOp gGt (dCall (gL1 gLen) (dCons (dVar 1) dNil)) (dC (.int 40))))) (dRet (dC (.bool false))) dNext)
      (dRet (dCall (gL1 gAll) (dCons (dLc (dIter (dVar 1)) (dgName 2) dYes (dFn p_is_integer noW (dCons (dVar 2) (dCons (dC (.int 0)) (dCons (dOp gSub (dCall (gL1 gLen) (dCons (dVar 0) dNil)) (dC (.int 1))) dNil)))) [2]) dNil))))
theorem m_is_log_value : MoP p_is_log_value := fun ds Q Q' W W' hq _ ⟨ks, v, e, h, q⟩ => ⟨ks, v, e, h, hq _ q⟩
theorem l_is_log_value : ∀ ds Q W, p_is_log_value ds Q W → ds.length = 2 := fun ds Q W ⟨ks, v, e, _⟩ => by rw [e]; rfl
theorem D_is_log_value (W : Str → Prop) (ds : List D) (Q : D → Prop) (h : p_is_log_value ds Q W) : t_is_log_value W (endsD Q) (startS n_is_log_value ds) := by
  obtain ⟨ks, v, rfl, hv, q⟩ := h
  show t_is_log_value W (endsD Q) [.va (.tuple ks), .va v, .no]
  simp only [t_is_log_value, dRet, dRetN, dAnd, dOr, dNot, dTest, dTAnd, dTOr, dTNot, dIf, dChain, dUn, dOp, dCall, dC, dVar, dCons, dNil, dTup, dLst, dSeq, dIfS, dAsg, dgName, dgNil, dPar, dParEO, dParOE, dParOO, dFor, dIter, dNext, dBreak, dCont, dDrop, dRaise, dFn, dFnS, dFnO, dM1, dLc, dSl, dSlV, dRevV, dLenV, dIdxV, dApp, dSetI, dPopAt, dCmpV, dOwn, dOwnV, dRetO, dRng1, dRng2, dRng3, dPNo, dPSo, dYes, dLenSet, dScrLen, dScrIdx, dSrcIdx, dSrcSet, dNewSrc, oLst, oRep, oListStr, gEq, gNe, gIsN, gNotN, gIsB, gNotB, gIsi, sg, List.getD_cons_zero, List.getD_cons_succ, List.set_cons_zero, List.set_cons_succ, if_true, if_false, reduceIte, endsD, endsS, endsO, endsN, endsL, asB_b, asI_i, asL_l, itemsP_l, itemsP_t, itemsP_s, itemsP_d, gAdd_i, gAdd_s, gAdd_t, gAdd_l, gI2_i, gMul_i, gMul_t, gMul_l, gMul_s, gNeg_i, gLen_s, gLen_l, gLen_t, gL1_1, gAll_l, gSum_l, gI2L_i, gMaxL_l, gMinL_l, gJoin_l, gJoin_t, gSl_l, gSl_t, gSl_s, gRev_l, wipeS, unwipe, keepV, gIdx_l, gIdx_t, gIdx_s, gIdx_d, dVarD, dDNew, dDNewT, dDPut, dDGetV, dDInV, dDEmpty, dDOne, dOwnD, dParED, dPar3, dEnum, dZip, dgTup_t, dgCons_c, dIsE, gSplit, dZipH, dM1]
  refine ⟨hv.self.nd, ?_⟩
  cases v with
  | tuple ds =>
    simp only [dRet, dRetN, dAnd, dOr, dNot, dTest, dTAnd, dTOr, dTNot, dIf, dChain, dUn, dOp, dCall, dC, dVar, dCons, dNil, dTup, dLst, dSeq, dIfS, dAsg, dgName, dgNil, dPar, dParEO, dParOE, dParOO, dFor, dIter, dNext, dBreak, dCont, dDrop, dRaise, dFn, dFnS, dFnO, dM1, dLc, dSl, dSlV, dRevV, dLenV, dIdxV, dApp, dSetI, dPopAt, dCmpV, dOwn, dOwnV, dRetO, dRng1, dRng2, dRng3, dPNo, dPSo, dYes, dLenSet, dScrLen, dScrIdx, dSrcIdx, dSrcSet, dNewSrc, oLst, oRep, oListStr, gEq, gNe, gIsN, gNotN, gIsB, gNotB, gIsi, sg, List.getD_cons_zero, List.getD_cons_succ, List.set_cons_zero, List.set_cons_succ, if_true, if_false, reduceIte, endsD, endsS, endsO, endsN, endsL, asB_b, asI_i, asL_l, itemsP_l, itemsP_t, itemsP_s, itemsP_d, gAdd_i, gAdd_s, gAdd_t, gAdd_l, gI2_i, gMul_i, gMul_t, gMul_l, gMul_s, gNeg_i, gLen_s, gLen_l, gLen_t, gL1_1, gAll_l, gSum_l, gI2L_i, gMaxL_l, gMinL_l, gJoin_l, gJoin_t, gSl_l, gSl_t, gSl_s, gRev_l, wipeS, unwipe, keepV, gIdx_l, gIdx_t, gIdx_s, gIdx_d, dVarD, dDNew, dDNewT, dDPut, dDGetV, dDInV, dDEmpty, dDOne, dOwnD, dParED, dPar3, dEnum, dZip, dgTup_t, dgCons_c, dIsE, gSplit, dZipH, dM1, isTup, Bool.not_true, if_false, Bool.false_eq_true]
    simp only [isLog] at q
    refine ⟨trivial, ?_⟩
    by_cases h1 : ds.length ≤ 40
    · rw [if_neg (by rw [decide_eq_true_eq]; omega)]
      rw [show ds = ds.map id by simp]
      refine lc_map id (fun d => .bool (isIn d 0 ((ks.length : Int) - 1))) ds [] (fun d hd R N hR => ?_) (by have := small_le (n := ds.length) (by omega); simpa using this) ?_
      · simp only [dRet, dRetN, dAnd, dOr, dNot, dTest, dTAnd, dTOr, dTNot, dIf, dChain, dUn, dOp, dCall, dC, dVar, dCons, dNil, dTup, dLst, dSeq, dIfS, dAsg, dgName, dgNil, dPar, dParEO, dParOE, dParOO, dFor, dIter, dNext, dBreak, dCont, dDrop, dRaise, dFn, dFnS, dFnO, dM1, dLc, dSl, dSlV, dRevV, dLenV, dIdxV, dApp, dSetI, dPopAt, dCmpV, dOwn, dOwnV, dRetO, dRng1, dRng2, dRng3, dPNo, dPSo, dYes, dLenSet, dScrLen, dScrIdx, dSrcIdx, dSrcSet, dNewSrc, oLst, oRep, oListStr, gEq, gNe, gIsN, gNotN, gIsB, gNotB, gIsi, sg, List.getD_cons_zero, List.getD_cons_succ, List.set_cons_zero, List.set_cons_succ, if_true, if_false, reduceIte, endsD, endsS, endsO, endsN, endsL, asB_b, asI_i, asL_l, itemsP_l, itemsP_t, itemsP_s, itemsP_d, gAdd_i, gAdd_s, gAdd_t, gAdd_l, gI2_i, gMul_i, gMul_t, gMul_l, gMul_s, gNeg_i, gLen_s, gLen_l, gLen_t, gL1_1, gAll_l, gSum_l, gI2L_i, gMaxL_l, gMinL_l, gJoin_l, gJoin_t, gSl_l, gSl_t, gSl_s, gRev_l, wipeS, unwipe, keepV, gIdx_l, gIdx_t, gIdx_s, gIdx_d, dVarD, dDNew, dDNewT, dDPut, dDGetV, dDInV, dDEmpty, dDOne, dOwnD, dParED, dPar3, dEnum, dZip, dgTup_t, dgCons_c, dIsE, gSplit, dZipH, dM1]
        exact ⟨trivial, d, 0, (ks.length : Int) - 1, rfl, (hv.it ds rfl d hd).nd, hR _ rfl⟩
      · refine ⟨ds.map fun d => isIn d 0 ((ks.length : Int) - 1), by simp, ?_⟩
        rw [List.all_map]
        simpa [h1] using q
    · rw [if_pos (by rw [decide_eq_true_eq]; omega)]
      simpa [h1] using q
  | none => exact q
  | bool b => exact q
  | int i => exact q
  | list d => exact q
  | str d => exact q
  | dict d => exact q
abbrev n_require_log : List Str := ["keypad", "value"]
def p_require_log : DP := fun ds Q W => ∃ ks v, ds = [.tuple ks, v] ∧ okT v ∧ (isLog ks.length v = true → Q .none) ∧ (isLog ks.length v = false → W "InvalidLog")
def t_require_log (W : Str → Prop) : DS := (dIfS (dTNot (dTest (dFn p_is_log_value W (dCons (dVar 0) (dCons (dVar 1) dNil))))) (dRaise W "InvalidLog") dNext)
theorem m_require_log : MoP p_require_log := fun ds Q Q' W W' hq hw ⟨ks, v, e, h, q, r⟩ => ⟨ks, v, e, h, fun z => hq _ (q z), fun z => hw _ (r z)⟩
theorem l_require_log : ∀ ds Q W, p_require_log ds Q W → ds.length = 2 := fun ds Q W ⟨ks, v, e, _⟩ => by rw [e]; rfl
theorem D_require_log (W : Str → Prop) (ds : List D) (Q : D → Prop) (h : p_require_log ds Q W) : t_require_log W (endsD Q) (startS n_require_log ds) := by
  obtain ⟨ks, v, rfl, hv, q, r⟩ := h
  show t_require_log W (endsD Q) [.va (.tuple ks), .va v]
  simp only [t_require_log, dRet, dRetN, dAnd, dOr, dNot, dTest, dTAnd, dTOr, dTNot, dIf, dChain, dUn, dOp, dCall, dC, dVar, dCons, dNil, dTup, dLst, dSeq, dIfS, dAsg, dgName, dgNil, dPar, dParEO, dParOE, dParOO, dFor, dIter, dNext, dBreak, dCont, dDrop, dRaise, dFn, dFnS, dFnO, dM1, dLc, dSl, dSlV, dRevV, dLenV, dIdxV, dApp, dSetI, dPopAt, dCmpV, dOwn, dOwnV, dRetO, dRng1, dRng2, dRng3, dPNo, dPSo, dYes, dLenSet, dScrLen, dScrIdx, dSrcIdx, dSrcSet, dNewSrc, oLst, oRep, oListStr, gEq, gNe, gIsN, gNotN, gIsB, gNotB, gIsi, sg, List.getD_cons_zero, List.getD_cons_succ, List.set_cons_zero, List.set_cons_succ, if_true, if_false, reduceIte, endsD, endsS, endsO, endsN, endsL, asB_b, asI_i, asL_l, itemsP_l, itemsP_t, itemsP_s, itemsP_d, gAdd_i, gAdd_s, gAdd_t, gAdd_l, gI2_i, gMul_i, gMul_t, gMul_l, gMul_s, gNeg_i, gLen_s, gLen_l, gLen_t, gL1_1, gAll_l, gSum_l, gI2L_i, gMaxL_l, gMinL_l, gJoin_l, gJoin_t, gSl_l, gSl_t, gSl_s, gRev_l, wipeS, unwipe, keepV, gIdx_l, gIdx_t, gIdx_s, gIdx_d, dVarD, dDNew, dDNewT, dDPut, dDGetV, dDInV, dDEmpty, dDOne, dOwnD, dParED, dPar3, dEnum, dZip, dgTup_t, dgCons_c, dIsE, gSplit, dZipH, dM1]
  refine ⟨ks, v, rfl, hv, ?_⟩
  cases e : isLog ks.length v with
  | true => exact q e
  | false => exact r e
/-! good keypads, good logs -/
structure KpOk (kp : List Tx) : Prop where
  l1 : 1 ≤ kp.length
  l2 : kp.length ≤ 10
  k1 : ∀ k ∈ kp, 1 ≤ k.length
  k6 : ∀ k ∈ kp, k.length ≤ 6
  le : ∀ k ∈ kp, Lett k
  nd : kp.flatten.Nodup
theorem okV_S {l : Tx} (h : l.length ≤ 1000) : okV (S l) := by
  show (tx l).cps.toList.length ≤ 1000
  rw [tx_list]
  exact h
theorem isStrOf_key {k : Tx} (h1 : 1 ≤ k.length) (h6 : k.length ≤ 6) (hl : Lett k) : isStrOf (S k) alpha 1 6 = true := by
  simp only [isStrOf, tx_list, Bool.and_eq_true, decide_eq_true_eq, List.all_eq_true]
  exact ⟨⟨by omega, by omega⟩, fun c hc => mem_alpha.mpr (hl c hc)⟩
theorem KpOk.isKp {kp : List Tx} (h : KpOk kp) : isKp (Kd kp) = true := by
  simp only [LW.isKp, List.length_map, Bool.and_eq_true, decide_eq_true_eq, List.all_eq_true]
  refine ⟨⟨⟨h.l1, h.l2⟩, fun d hd => ?_⟩, ?_⟩
  · obtain ⟨k, hk, rfl⟩ := List.mem_map.mp hd
    exact isStrOf_key (h.k1 k hk) (h.k6 k hk) (h.le k hk)
  · have e : ((kp.map S).map unS) = kp := by
      rw [List.map_map]
      conv => rhs; rw [← List.map_id kp]
      exact List.map_congr_left fun k _ => unS_S k
    rw [e]
    exact h.nd
theorem KpOk.okT {kp : List Tx} (h : KpOk kp) : okT (Kd kp) := ⟨trivial, fun ds e d hd => by
  cases e
  obtain ⟨k, hk, rfl⟩ := List.mem_map.mp hd
  have := h.k6 k hk
  exact okV_S (by omega)⟩
/-- a log of a keypad of n keys -/
structure LogOk (n : Nat) (l : List Int) : Prop where
  len : l.length ≤ 40
  key : ∀ k ∈ l, 0 ≤ k ∧ k < n
theorem LogOk.isLog {n : Nat} {l : List Int} (h : LogOk n l) : isLog n (Ld l) = true := by
  simp only [LW.isLog, List.length_map, Bool.and_eq_true, decide_eq_true_eq, List.all_eq_true]
  refine ⟨h.len, fun d hd => ?_⟩
  obtain ⟨k, hk, rfl⟩ := List.mem_map.mp hd
  have := h.key k hk
  simp only [isIn, Bool.and_eq_true, decide_eq_true_eq]
  omega
theorem okT_Ld (l : List Int) : okT (Ld l) := ⟨trivial, fun ds e d hd => by
  cases e
  obtain ⟨k, hk, rfl⟩ := List.mem_map.mp hd
  trivial⟩
end LW

namespace LW
open PySem PySem.Spec PyProof.Rows L2 DL
theorem le1 : 1 ≤ sizeLine := by decide
theorem le2 : 2 ≤ sizeLine := by decide
theorem le3 : 3 ≤ sizeLine := by decide
/-! runs_of -/
/-- (key, number) -/
abbrev Run := Int × Int
def runD (r : Run) : D := .tuple [.int r.1, .int r.2]
def runsD (rs : List Run) : D := .list (rs.map runD)
/-- one more press -/
def addN (f : List Run) (k n : Int) : List Run := match f.getLast? with
  | some r => if r.1 = k then f.dropLast ++ [(k, r.2 + n)] else f ++ [(k, n)]
  | none => [(k, n)]
def runs (l : List Int) : List Run := l.foldl (fun f k => addN f k 1) []
theorem eqv_runD (a b : Run) : PyData.eqv (runD a) (runD b) = decide (a = b) := eqv_pair (f := PyData.int) (g := PyData.int) eqv_int eqv_int a b
theorem shp_runD (r : Run) : Shp 1 (runD r) := shp_tuple fun d hd => by
  rcases List.mem_cons.mp hd with rfl | hd
  · exact shp_int _
  · rcases List.mem_cons.mp hd with rfl | hd
    · exact shp_int _
    · cases hd
theorem shp_runs (rs : List Run) : Shp 2 (runsD rs) := shp_list (shp_map fun r _ => shp_runD r)
theorem addN_len (f : List Run) (k n : Int) : (addN f k n).length ≤ f.length + 1 := by
  unfold addN
  split
  · split
    · rename_i h _
      rw [List.length_append, List.length_dropLast, List.length_singleton]
      omega
    · rw [List.length_append, List.length_singleton]
      exact Nat.le_refl _
  · exact Nat.le_add_left _ _
theorem fold_len (l : List Int) (f : List Run) : (l.foldl (fun f k => addN f k 1) f).length ≤ f.length + l.length := by
  induction l generalizing f with
  | nil => exact Nat.le_refl _
  | cons k l ih =>
    have h := ih (addN f k 1)
    have h2 := addN_len f k 1
    rw [List.foldl_cons, List.length_cons]
    omega
theorem atI_last {α : Type} (xs : List α) (x : α) : atI (xs ++ [x]) (-1) = some x := L2.atI_last _ _
theorem ixN_last {n : Nat} (h : 0 < n) : ixN n (-1) = some (n - 1) := by
  unfold ixN
  rw [if_neg (by decide), if_pos (by omega)]
  congr 1
  omega
/-- found[-1] = (k, found[-1][1] + n), or found.append((k, n)): what follows -/
theorem last_cases (f : List Run) : f = [] ∨ ∃ i r, f = i ++ [r] := by
  by_cases h : f = []
  · exact .inl h
  · exact .inr ⟨f.dropLast, f.getLast h, (List.dropLast_concat_getLast h).symm⟩
theorem addN_nil (k n : Int) : addN [] k n = [(k, n)] := rfl
theorem addN_app (i : List Run) (r : Run) (k n : Int) : addN (i ++ [r]) k n = if r.1 = k then i ++ [(k, r.2 + n)] else i ++ [r] ++ [(k, n)] := by
  unfold addN
  rw [List.getLast?_append, List.getLast?_singleton]
  simp
abbrev n_runs_of : List Str := ["log", "found", "key"]
def p_runs_of : DP := fun ds Q _ => ∃ l : List Int, ds = [Ld l] ∧ l.length ≤ 1000 ∧ Q (runsD (runs l))
def t_runs_of (W : Str → Prop) : DS := (dSeq (dOwn 1 (oLst dNil))
      (dSeq (dFor (dIter (dVar 0)) (dgName 2) (dIfS (dTAnd (dTest (dCmpV true 1 (dLst dNil))) (dTest (dOp gEq (dOp gIdx (dIdxV 1 (dUn gNeg (dC (.int 1)))) (dC (.int 0))) (dVar 2)))) (dSetI 1 (dUn gNeg (dC (.int 1))) (dTup (dCons (dVar 2) (dCons (dOp gAdd (dOp gIdx (dIdxV 1 (dUn gNeg (dC (.int 1)))) (dC (.int 1))) (dC (.int 1))) dNil)))) (dApp 1 (dTup (dCons (dVar 2) (dCons (dC (.int 1)) dNil))))))
      (dRet (dVar 1))))
theorem m_runs_of : MoP p_runs_of := fun ds Q Q' W W' hq _ ⟨l, e, h, q⟩ => ⟨l, e, h, hq _ q⟩
theorem l_runs_of : ∀ ds Q W, p_runs_of ds Q W → ds.length = 1 := fun ds Q W ⟨l, e, _⟩ => by rw [e]; rfl
theorem D_runs_of (W : Str → Prop) (ds : List D) (Q : D → Prop) (h : p_runs_of ds Q W) : t_runs_of W (endsD Q) (startS n_runs_of ds) := by
  obtain ⟨l, rfl, hl, q⟩ := h
  show t_runs_of W (endsD Q) [.va (Ld l), .no, .no]
  simp only [t_runs_of, dRet, dRetN, dAnd, dOr, dNot, dTest, dTAnd, dTOr, dTNot, dIf, dChain, dUn, dOp, dCall, dC, dVar, dCons, dNil, dTup, dLst, dSeq, dIfS, dAsg, dgName, dgNil, dPar, dParEO, dParOE, dParOO, dFor, dIter, dNext, dBreak, dCont, dDrop, dRaise, dFn, dFnS, dFnO, dM1, dLc, dSl, dSlV, dRevV, dLenV, dIdxV, dApp, dSetI, dPopAt, dCmpV, dOwn, dOwnV, dRetO, dRng1, dRng2, dRng3, dPNo, dPSo, dYes, dLenSet, dScrLen, dScrIdx, dSrcIdx, dSrcSet, dNewSrc, oLst, oRep, oListStr, gEq, gNe, gIsN, gNotN, gIsB, gNotB, gIsi, sg, List.getD_cons_zero, List.getD_cons_succ, List.set_cons_zero, List.set_cons_succ, if_true, if_false, reduceIte, endsD, endsS, endsO, endsN, endsL, asB_b, asI_i, asL_l, itemsP_l, itemsP_t, itemsP_s, itemsP_d, gAdd_i, gAdd_s, gAdd_t, gAdd_l, gI2_i, gMul_i, gMul_t, gMul_l, gMul_s, gNeg_i, gLen_s, gLen_l, gLen_t, gL1_1, gAll_l, gSum_l, gI2L_i, gMaxL_l, gMinL_l, gJoin_l, gJoin_t, gSl_l, gSl_t, gSl_s, gRev_l, wipeS, unwipe, keepV, gIdx_l, gIdx_t, gIdx_s, gIdx_d, dVarD, dDNew, dDNewT, dDPut, dDGetV, dDInV, dDEmpty, dDOne, dOwnD, dParED, dPar3, dEnum, dZip, dgTup_t, dgCons_c, dIsE, gSplit, dZipH, dM1]
  refine ⟨Nat.zero_le _, ?_⟩
  refine for_ind PyData.int (fun done ρ => ∃ x2, ρ = [.va (Ld l), .ow ((runs done).map runD), x2]) ⟨_, rfl⟩ (fun done x rest ρ hd ⟨x2, hρ⟩ N hN => ?_) (fun ρ ⟨x2, hρ⟩ => ?_)
  · subst hρ
    have hlen : (runs done).length ≤ 1000 := by
      have h1 := fold_len done []
      have h2 : done.length ≤ l.length := by
        rw [hd, List.length_append]
        omega
      have : (runs done).length ≤ 0 + done.length := h1
      omega
    have hN' := hN [.va (Ld l), .ow ((runs (done ++ [x])).map runD), .va (.int x)] ⟨_, rfl⟩
    have hr : runs (done ++ [x]) = addN (runs done) x 1 := by
      unfold runs
      rw [List.foldl_append]
      rfl
    rw [hr] at hN'
    generalize runs done = f at hN' hlen ⊢
    simp only [dRet, dRetN, dAnd, dOr, dNot, dTest, dTAnd, dTOr, dTNot, dIf, dChain, dUn, dOp, dCall, dC, dVar, dCons, dNil, dTup, dLst, dSeq, dIfS, dAsg, dgName, dgNil, dPar, dParEO, dParOE, dParOO, dFor, dIter, dNext, dBreak, dCont, dDrop, dRaise, dFn, dFnS, dFnO, dM1, dLc, dSl, dSlV, dRevV, dLenV, dIdxV, dApp, dSetI, dPopAt, dCmpV, dOwn, dOwnV, dRetO, dRng1, dRng2, dRng3, dPNo, dPSo, dYes, dLenSet, dScrLen, dScrIdx, dSrcIdx, dSrcSet, dNewSrc, oLst, oRep, oListStr, gEq, gNe, gIsN, gNotN, gIsB, gNotB, gIsi, sg, List.getD_cons_zero, List.getD_cons_succ, List.set_cons_zero, List.set_cons_succ, if_true, if_false, reduceIte, endsD, endsS, endsO, endsN, endsL, asB_b, asI_i, asL_l, itemsP_l, itemsP_t, itemsP_s, itemsP_d, gAdd_i, gAdd_s, gAdd_t, gAdd_l, gI2_i, gMul_i, gMul_t, gMul_l, gMul_s, gNeg_i, gLen_s, gLen_l, gLen_t, gL1_1, gAll_l, gSum_l, gI2L_i, gMaxL_l, gMinL_l, gJoin_l, gJoin_t, gSl_l, gSl_t, gSl_s, gRev_l, wipeS, unwipe, keepV, gIdx_l, gIdx_t, gIdx_s, gIdx_d, dVarD, dDNew, dDNewT, dDPut, dDGetV, dDInV, dDEmpty, dDOne, dOwnD, dParED, dPar3, dEnum, dZip, dgTup_t, dgCons_c, dIsE, gSplit, dZipH, dM1]
    refine ⟨Nat.zero_le _, ⟨(shp_runs f).ok, (shp_nil (n := 0)).ok⟩, ?_⟩
    simp only [eqv_nil, List.map_eq_nil_iff, Bool.not_eq_true', Bool.not_eq_false', decide_eq_true_eq, decide_eq_false_iff_not, Bool.and_eq_true, Bool.or_eq_true, Bool.not_true, Bool.not_false, Bool.false_eq_true, reduceCtorEq, decide_true, decide_false]
    rcases last_cases f with rfl | ⟨i, r, rfl⟩
    · rw [if_neg (fun h => h rfl)]
      simp only [Bool.not_eq_true', Bool.not_eq_false', decide_eq_true_eq, decide_eq_false_iff_not, Bool.and_eq_true, Bool.or_eq_true, Bool.not_true, Bool.not_false, Bool.false_eq_true, reduceCtorEq, decide_true, decide_false, if_false]
      exact ⟨le2, by decide, hN'⟩
    · rw [if_pos (by simp)]
      rw [List.map_append, List.map_singleton]
      rw [addN_app] at hN'
      refine ⟨runD r, atI_last _ _, .int r.1, rfl, by rfl, ?_⟩
      simp only [eqv_int, Bool.not_eq_true', Bool.not_eq_false', decide_eq_true_eq, decide_eq_false_iff_not, Bool.and_eq_true, Bool.or_eq_true, Bool.not_true, Bool.not_false, Bool.false_eq_true, reduceCtorEq, decide_true, decide_false]
      by_cases hk : r.1 = x
      · rw [if_pos hk] at hN' ⊢
        refine ⟨runD r, atI_last _ _, .int r.2, rfl, le2, (i.map runD).length, ?_, ?_⟩
        · rw [List.length_append, List.length_singleton, ixN_last (by omega), Nat.add_sub_cancel]
        · have es : ((i.map runD ++ [runD r]).set (i.map runD).length (.tuple [.int x, .int (r.2 + 1)])) = (i ++ [(x, r.2 + 1)]).map runD := by
            rw [List.set_append_right _ _ (Nat.le_refl _), Nat.sub_self, List.map_append]
            rfl
          rw [es]
          exact hN'
      · rw [if_neg hk] at hN' ⊢
        refine ⟨le2, ?_, ?_⟩
        · rw [List.length_append, List.length_map, List.length_singleton]
          rw [List.length_append, List.length_singleton] at hlen
          exact small1000 hlen
        · rw [List.map_append, List.map_append] at hN'
          exact hN'
  · subst hρ
    exact q
/-! ways_on -/
theorem for_rng {g : DG} {t : DS} {DD : DEnds} {ρ : List Sl} {f : Nat → D} {n : Nat} (I : Nat → List Sl → Prop) (h0 : I 0 ρ)
    (hs : ∀ i, i < n → ∀ ρ, I i ρ → ∀ N : List Sl → Prop, (∀ ρ', I (i + 1) ρ' → N ρ') → g (f i) ρ fun ρ1 => t { nx := N, rt := DD.rt, bk := DD.nx, ct := N, ro := DD.ro } ρ1)
    (he : ∀ ρ, I n ρ → DD.nx ρ) : dForL g t ((List.range n).map f) DD ρ := by
  refine for_ind f (fun done ρ => I done.length ρ) h0 (fun done x rest ρ hd h N hN => ?_) (fun ρ h => he ρ (by rw [List.length_range] at h; exact h))
  have hl : done.length < n := by
    have := congrArg List.length hd
    rw [List.length_range, List.length_append, List.length_cons] at this
    omega
  have hx : x = done.length := by
    have h1 : (List.range n)[done.length]? = some x := by
      rw [hd, List.getElem?_append_right (Nat.le_refl _), Nat.sub_self]
      rfl
    rw [List.getElem?_range hl] at h1
    exact (Option.some.inj h1).symm
  subst hx
  exact hs _ hl ρ h N fun ρ' h' => hN ρ' (by rw [List.length_append, List.length_singleton]; exact h')
/-- the key with a number -/
def keyAt (kp : List Tx) (k : Int) : Tx := kp.getD k.toNat []
theorem atI_key {kp : List Tx} {k : Int} (h0 : 0 ≤ k) (h1 : k < kp.length) : atI (kp.map S) k = some (S (keyAt kp k)) := by
  obtain ⟨n, rfl⟩ := Int.eq_ofNat_of_zero_le h0
  have hn : n < kp.length := by omega
  refine atI_nat ?_
  rw [List.getElem?_map, List.getElem?_eq_getElem hn]
  unfold keyAt
  rw [Int.toNat_natCast, List.getD_eq_getElem?_getD, List.getElem?_eq_getElem hn]
  rfl
theorem key_mem {kp : List Tx} {k : Int} (h0 : 0 ≤ k) (h1 : k < kp.length) : keyAt kp k ∈ kp := by
  have hn : k.toNat < kp.length := by omega
  unfold keyAt
  rw [List.getD_eq_getElem?_getD, List.getElem?_eq_getElem hn]
  exact List.getElem_mem hn
/-- of a run of many presses of a key with m letters: the value i presses from its end -/
def rowV (m many : Nat) (b : Int) (i : Nat) (t : List Int) : Int := (if i < many ∧ i % m = 0 then b else 0) + (t.take m).sum
def rowT (m many : Nat) (b : Int) : Nat → List Int
  | 0 => []
  | i + 1 => rowV m many b i (rowT m many b i) :: rowT m many b i
def row (m many : Nat) (b : Int) : List Int := rowT m many b (many + 1)
theorem rowT_len (m many : Nat) (b : Int) : ∀ i, (rowT m many b i).length = i
  | 0 => rfl
  | i + 1 => by rw [rowT, List.length_cons, rowT_len]
def rowD (r : List Int) : D := .list (r.map .int)
/-- in how many ways the runs can be read -/
def cnt (kp : List Tx) : List Run → Int
  | [] => 1
  | r :: rs => (row (keyAt kp r.1).length r.2.toNat (cnt kp rs)).headD 0
def ways (kp : List Tx) : List Run → List (List Int)
  | [] => []
  | r :: rs => row (keyAt kp r.1).length r.2.toNat (cnt kp rs) :: ways kp rs
theorem ways_len (kp : List Tx) : ∀ rs, (ways kp rs).length = rs.length
  | [] => rfl
  | r :: rs => by rw [ways, List.length_cons, List.length_cons, ways_len]
structure RunOk (kp : List Tx) (r : Run) : Prop where
  k0 : 0 ≤ r.1
  k1 : r.1 < kp.length
  n0 : 0 ≤ r.2
  n1 : r.2 ≤ 900
abbrev n_ways_on : List Str := ["keypad", "runs", "found", "behind", "key", "many", "letters", "row", "used", "number"]
def p_ways_on : DP := fun ds Q _ => ∃ kp rs, ds = [Kd kp, runsD rs] ∧ KpOk kp ∧ rs.length ≤ 900 ∧ (∀ r ∈ rs, RunOk kp r) ∧ Q (.list ((ways kp rs).map rowD))
def t_ways_on (W : Str → Prop) : DS := (dSeq (dParOE 2 3 (oLst dNil) (dC (.int 1)))
      (dSeq (dFor (dIter (dUn gRev (dVar 1))) (dgTup (dgCons (dgName 4) (dgCons (dgName 5) dgNil))) (dSeq (dParEO 6 7 (dCall (gL1 gLen) (dCons (dOp gIdx (dVar 0) (dVar 4)) dNil)) (oRep (dLst (dCons (dC (.int 0)) dNil)) (dOp gAdd (dVar 5) (dC (.int 1)))))
      (dSeq (dFor (dRng3 (dCons (dVar 5) (dCons (dUn gNeg (dC (.int 1))) (dCons (dUn gNeg (dC (.int 1))) dNil)))) (dgName 8) (dSeq (dIfS (dTAnd (dTest (dOp gGt (dVar 8) (dC (.int 0)))) (dTest (dOp gEq (dOp gMod (dOp gSub (dVar 5) (dVar 8)) (dVar 6)) (dC (.int 0))))) (dSetI 7 (dVar 8) (dOp gAdd (dIdxV 7 (dVar 8)) (dVar 3))) dNext)
      (dFor (dRng2 (dCons (dC (.int 1)) (dCons (dOp gAdd (dVar 6) (dC (.int 1))) dNil))) (dgName 9) (dIfS (dTest (dOp gLe (dOp gAdd (dVar 8) (dVar 9)) (dVar 5))) (dSetI 7 (dVar 8) (dOp gAdd (dIdxV 7 (dVar 8)) (dIdxV 7 (dOp gAdd (dVar 8) (dVar 9))))) dNext))))
      (dSeq (dApp 2 (dVar 7))
      (dAsg (dOp gIdx (dVar 7) (dC (.int 0))) (dgName 3))))))
      (dRet (dRevV 2))))
theorem m_ways_on : MoP p_ways_on := fun ds Q Q' W W' hq _ ⟨kp, rs, e, h1, h2, h3, q⟩ => ⟨kp, rs, e, h1, h2, h3, hq _ q⟩
theorem l_ways_on : ∀ ds Q W, p_ways_on ds Q W → ds.length = 2 := fun ds Q W ⟨kp, rs, e, _⟩ => by rw [e]; rfl
theorem at_mid {Z : List D} {a : D} {T : List D} {n : Nat} (h : Z.length = n) : atI (Z ++ a :: T) (n : Int) = some a := by
  refine atI_nat ?_
  rw [List.getElem?_append_right (by omega), h, Nat.sub_self]
  rfl
theorem at_tail {Z : List D} {a b : D} {T : List D} {n j : Nat} (h : Z.length = n) (hb : T[j]? = some b) : atI (Z ++ a :: T) ((n : Int) + (1 + (j : Int))) = some b := by
  rw [show ((n : Int) + (1 + (j : Int))) = ((n + (j + 1) : Nat) : Int) by omega]
  refine atI_nat ?_
  rw [List.getElem?_append_right (by omega), h, Nat.add_sub_cancel_left]
  exact hb
theorem set_mid {Z : List D} {a b : D} {T : List D} {n : Nat} (h : Z.length = n) : (Z ++ a :: T).set n b = Z ++ b :: T := by
  rw [List.set_append_right _ _ (by omega), h, Nat.sub_self]
  rfl
theorem ix_mid {Z : List D} {a : D} {T : List D} {n : Nat} (h : Z.length = n) : ixN (Z ++ a :: T).length (n : Int) = some n := by
  refine ixN_here ?_
  rw [List.length_append, List.length_cons]
  omega
theorem sum_take_succ (l : List Int) (j : Nat) : (l.take (j + 1)).sum = (l.take j).sum + (l[j]?).getD 0 := by
  rw [List.take_add_one, List.sum_append]
  cases l[j]? <;> simp
theorem D_ways_on (W : Str → Prop) (ds : List D) (Q : D → Prop) (h : p_ways_on ds Q W) : t_ways_on W (endsD Q) (startS n_ways_on ds) := by
  obtain ⟨kp, rs, rfl, hk, hl, hr, q⟩ := h
  show t_ways_on W (endsD Q) [.va (Kd kp), .va (runsD rs), .no, .no, .no, .no, .no, .no, .no, .no]
  simp only [t_ways_on, runsD, dRet, dRetN, dAnd, dOr, dNot, dTest, dTAnd, dTOr, dTNot, dIf, dChain, dUn, dOp, dCall, dC, dVar, dCons, dNil, dTup, dLst, dSeq, dIfS, dAsg, dgName, dgNil, dPar, dParEO, dParOE, dParOO, dFor, dIter, dNext, dBreak, dCont, dDrop, dRaise, dFn, dFnS, dFnO, dM1, dLc, dSl, dSlV, dRevV, dLenV, dIdxV, dApp, dSetI, dPopAt, dCmpV, dOwn, dOwnV, dRetO, dRng1, dRng2, dRng3, dPNo, dPSo, dYes, dLenSet, dScrLen, dScrIdx, dSrcIdx, dSrcSet, dNewSrc, oLst, oRep, oListStr, gEq, gNe, gIsN, gNotN, gIsB, gNotB, gIsi, sg, List.getD_cons_zero, List.getD_cons_succ, List.set_cons_zero, List.set_cons_succ, if_true, if_false, reduceIte, endsD, endsS, endsO, endsN, endsL, asB_b, asI_i, asL_l, itemsP_l, itemsP_t, itemsP_s, itemsP_d, gAdd_i, gAdd_s, gAdd_t, gAdd_l, gI2_i, gMul_i, gMul_t, gMul_l, gMul_s, gNeg_i, gLen_s, gLen_l, gLen_t, gL1_1, gAll_l, gSum_l, gI2L_i, gMaxL_l, gMinL_l, gJoin_l, gJoin_t, gSl_l, gSl_t, gSl_s, gRev_l, wipeS, unwipe, keepV, gIdx_l, gIdx_t, gIdx_s, gIdx_d, dVarD, dDNew, dDNewT, dDPut, dDGetV, dDInV, dDEmpty, dDOne, dOwnD, dParED, dPar3, dEnum, dZip, dgTup_t, dgCons_c, dIsE, gSplit, dZipH, dM1]
  refine ⟨Nat.zero_le _, ?_⟩
  rw [← List.map_reverse]
  refine for_ind runD (fun done ρ => ∃ x4 x5 x6 x7 x8 x9, ρ = [.va (Kd kp), .va (.list (rs.map runD)), .ow ((ways kp done.reverse).reverse.map rowD), .va (.int (cnt kp done.reverse)), x4, x5, x6, x7, x8, x9]) ⟨_, _, _, _, _, _, rfl⟩ (fun done r rest ρ hd ⟨x4, x5, x6, x7, x8, x9, hρ⟩ N hN => ?_) (fun ρ ⟨x4, x5, x6, x7, x8, x9, hρ⟩ => ?_)
  · subst hρ
    have hrm : r ∈ rs := by
      rw [← List.mem_reverse, hd]
      exact List.mem_append.mpr (.inr List.mem_cons_self)
    have ok := hr r hrm
    have hdl : done.length ≤ 900 := by
      have := congrArg List.length hd
      rw [List.length_reverse, List.length_append] at this
      omega
    obtain ⟨many, hm⟩ : ∃ n : Nat, r.2 = (n : Int) := Int.eq_ofNat_of_zero_le ok.n0
    have hm9 : many ≤ 900 := by have := ok.n1; omega
    obtain ⟨k, r2⟩ := r
    simp only at hm
    subst hm
    have hkey := key_mem ok.k0 ok.k1
    have hm1 := hk.k1 _ hkey
    have hm6 := hk.k6 _ hkey
    simp only at hm1 hm6
    generalize hb : cnt kp done.reverse = b at hN ⊢
    have hN' := fun x4 x5 x6 x7 x8 x9 => hN [.va (Kd kp), .va (.list (rs.map runD)), .ow ((ways kp done.reverse).reverse.map rowD ++ [rowD (row (keyAt kp k).length many b)]), .va (.int ((row (keyAt kp k).length many b).headD 0)), x4, x5, x6, x7, x8, x9] ⟨x4, x5, x6, x7, x8, x9, by
      rw [List.reverse_append, List.reverse_singleton, List.singleton_append, ways, cnt, List.reverse_cons, List.map_append, hb]
      rfl⟩
    clear hN
    simp only [runD, dRet, dRetN, dAnd, dOr, dNot, dTest, dTAnd, dTOr, dTNot, dIf, dChain, dUn, dOp, dCall, dC, dVar, dCons, dNil, dTup, dLst, dSeq, dIfS, dAsg, dgName, dgNil, dPar, dParEO, dParOE, dParOO, dFor, dIter, dNext, dBreak, dCont, dDrop, dRaise, dFn, dFnS, dFnO, dM1, dLc, dSl, dSlV, dRevV, dLenV, dIdxV, dApp, dSetI, dPopAt, dCmpV, dOwn, dOwnV, dRetO, dRng1, dRng2, dRng3, dPNo, dPSo, dYes, dLenSet, dScrLen, dScrIdx, dSrcIdx, dSrcSet, dNewSrc, oLst, oRep, oListStr, gEq, gNe, gIsN, gNotN, gIsB, gNotB, gIsi, sg, List.getD_cons_zero, List.getD_cons_succ, List.set_cons_zero, List.set_cons_succ, if_true, if_false, reduceIte, endsD, endsS, endsO, endsN, endsL, asB_b, asI_i, asL_l, itemsP_l, itemsP_t, itemsP_s, itemsP_d, gAdd_i, gAdd_s, gAdd_t, gAdd_l, gI2_i, gMul_i, gMul_t, gMul_l, gMul_s, gNeg_i, gLen_s, gLen_l, gLen_t, gL1_1, gAll_l, gSum_l, gI2L_i, gMaxL_l, gMinL_l, gJoin_l, gJoin_t, gSl_l, gSl_t, gSl_s, gRev_l, wipeS, unwipe, keepV, gIdx_l, gIdx_t, gIdx_s, gIdx_d, dVarD, dDNew, dDNewT, dDPut, dDGetV, dDInV, dDEmpty, dDOne, dOwnD, dParED, dPar3, dEnum, dZip, dgTup_t, dgCons_c, dIsE, gSplit, dZipH, dM1]
    generalize hmm : (keyAt kp k).length = m at hN' hm1 hm6
    simp only [Kd, gIdx_t]
    refine ⟨trivial, S (keyAt kp k), atI_key ok.k0 ok.k1, ?_⟩
    simp only [dRet, dRetN, dAnd, dOr, dNot, dTest, dTAnd, dTOr, dTNot, dIf, dChain, dUn, dOp, dCall, dC, dVar, dCons, dNil, dTup, dLst, dSeq, dIfS, dAsg, dgName, dgNil, dPar, dParEO, dParOE, dParOO, dFor, dIter, dNext, dBreak, dCont, dDrop, dRaise, dFn, dFnS, dFnO, dM1, dLc, dSl, dSlV, dRevV, dLenV, dIdxV, dApp, dSetI, dPopAt, dCmpV, dOwn, dOwnV, dRetO, dRng1, dRng2, dRng3, dPNo, dPSo, dYes, dLenSet, dScrLen, dScrIdx, dSrcIdx, dSrcSet, dNewSrc, oLst, oRep, oListStr, gEq, gNe, gIsN, gNotN, gIsB, gNotB, gIsi, sg, List.getD_cons_zero, List.getD_cons_succ, List.set_cons_zero, List.set_cons_succ, if_true, if_false, reduceIte, endsD, endsS, endsO, endsN, endsL, asB_b, asI_i, asL_l, itemsP_l, itemsP_t, itemsP_s, itemsP_d, gAdd_i, gAdd_s, gAdd_t, gAdd_l, gI2_i, gMul_i, gMul_t, gMul_l, gMul_s, gNeg_i, gLen_s, gLen_l, gLen_t, gL1_1, gAll_l, gSum_l, gI2L_i, gMaxL_l, gMinL_l, gJoin_l, gJoin_t, gSl_l, gSl_t, gSl_s, gRev_l, wipeS, unwipe, keepV, gIdx_l, gIdx_t, gIdx_s, gIdx_d, dVarD, dDNew, dDNewT, dDPut, dDGetV, dDInV, dDEmpty, dDOne, dOwnD, dParED, dPar3, dEnum, dZip, dgTup_t, dgCons_c, dIsE, gSplit, dZipH, dM1]
    refine ⟨by rw [tx_length, hmm]; exact small_le (by omega), le1, [.int 0], (many : Int) + 1, rfl, rfl, ⟨by omega, by omega, ?_⟩, ?_⟩
    · have := small_le (n := many + 1) (by omega)
      simp only [List.length_singleton]
      omega
    rw [tx_length, hmm]
    refine ⟨many + 1, ?_, ?_⟩
    · have := RgC.neg (i := (many : Int)) (j := -1) (by omega) (by omega) (by omega) (by omega)
      rw [show ((many : Int) - -1).toNat = many + 1 by omega] at this
      exact this
    unfold rng
    refine for_rng (fun i ρ => ∃ x8 x9, ρ = [.va (.tuple (kp.map S)), .va (.list (rs.map runD)), .ow ((ways kp done.reverse).reverse.map rowD), .va (.int b), .va (.int k), .va (.int many), .va (.int m), .ow (List.replicate (many + 1 - i) (.int 0) ++ (rowT m many b i).map .int), x8, x9]) ⟨x8, x9, ?_⟩ (fun i hi ρ ⟨x8, x9, hρ⟩ M hM => ?_) (fun ρ ⟨x8, x9, hρ⟩ => ?_)
    · rw [show ((many : Int) + 1).toNat = many + 1 by omega, show (List.replicate (many + 1) [PyData.int 0]).flatten = List.replicate (many + 1 - 0) (.int 0) by simp]
      simp [rowT]
    · subst hρ
      have hu : (many : Int) + (i : Int) * -1 = ((many - i : Nat) : Int) := by omega
      simp only [dRet, dRetN, dAnd, dOr, dNot, dTest, dTAnd, dTOr, dTNot, dIf, dChain, dUn, dOp, dCall, dC, dVar, dCons, dNil, dTup, dLst, dSeq, dIfS, dAsg, dgName, dgNil, dPar, dParEO, dParOE, dParOO, dFor, dIter, dNext, dBreak, dCont, dDrop, dRaise, dFn, dFnS, dFnO, dM1, dLc, dSl, dSlV, dRevV, dLenV, dIdxV, dApp, dSetI, dPopAt, dCmpV, dOwn, dOwnV, dRetO, dRng1, dRng2, dRng3, dPNo, dPSo, dYes, dLenSet, dScrLen, dScrIdx, dSrcIdx, dSrcSet, dNewSrc, oLst, oRep, oListStr, gEq, gNe, gIsN, gNotN, gIsB, gNotB, gIsi, sg, List.getD_cons_zero, List.getD_cons_succ, List.set_cons_zero, List.set_cons_succ, if_true, if_false, reduceIte, endsD, endsS, endsO, endsN, endsL, asB_b, asI_i, asL_l, itemsP_l, itemsP_t, itemsP_s, itemsP_d, gAdd_i, gAdd_s, gAdd_t, gAdd_l, gI2_i, gMul_i, gMul_t, gMul_l, gMul_s, gNeg_i, gLen_s, gLen_l, gLen_t, gL1_1, gAll_l, gSum_l, gI2L_i, gMaxL_l, gMinL_l, gJoin_l, gJoin_t, gSl_l, gSl_t, gSl_s, gRev_l, wipeS, unwipe, keepV, gIdx_l, gIdx_t, gIdx_s, gIdx_d, dVarD, dDNew, dDNewT, dDPut, dDGetV, dDInV, dDEmpty, dDOne, dOwnD, dParED, dPar3, dEnum, dZip, dgTup_t, dgCons_c, dIsE, gSplit, dZipH, dM1, hu]
      have hz : List.replicate (many + 1 - i) (PyData.int 0) = List.replicate (many - i) (PyData.int 0) ++ [.int 0] := by
        rw [show many + 1 - i = (many - i) + 1 by omega, List.replicate_succ']
      have hZ : (List.replicate (many - i) (PyData.int 0)).length = many - i := List.length_replicate
      rw [hz, List.append_assoc, List.singleton_append]
      generalize hZe : List.replicate (many - i) (PyData.int 0) = Z at hZ
      have hT := rowT_len m many b i
      have hM' := fun x9 => hM [.va (.tuple (kp.map S)), .va (.list (rs.map runD)), .ow ((ways kp done.reverse).reverse.map rowD), .va (.int b), .va (.int k), .va (.int many), .va (.int m), .ow (Z ++ .int (rowV m many b i (rowT m many b i)) :: (rowT m many b i).map .int), .va (.int ((many - i : Nat) : Int)), x9] ⟨_, x9, by
        rw [← hZe, show many + 1 - (i + 1) = many - i by omega]
        rfl⟩
      clear hM hz hZe
      unfold rowV at hM'
      generalize rowT m many b i = T at hT hM' ⊢
      have hin : ∀ (DD : DEnds) (base : Int) (x9 : Sl), base = (if i < many ∧ i % m = 0 then b else 0) → DD.nx = M → dForL (dgName 9) (dIfS (dTest (dOp gLe (dOp gAdd (dVar 8) (dVar 9)) (dVar 5))) (dSetI 7 (dVar 8) (dOp gAdd (dIdxV 7 (dVar 8)) (dIdxV 7 (dOp gAdd (dVar 8) (dVar 9))))) dNext) (rng1 1 ((m : Int) + 1 - 1).toNat) DD
          [.va (.tuple (kp.map S)), .va (.list (rs.map runD)), .ow ((ways kp done.reverse).reverse.map rowD), .va (.int b), .va (.int k), .va (.int many), .va (.int m), .ow (Z ++ .int base :: T.map .int), .va (.int ((many - i : Nat) : Int)), x9] := by
        intro DD base x9 hbase hDD
        rw [show ((m : Int) + 1 - 1).toNat = m by omega]
        unfold rng1
        refine for_rng (fun j ρ => ∃ x9, ρ = [.va (.tuple (kp.map S)), .va (.list (rs.map runD)), .ow ((ways kp done.reverse).reverse.map rowD), .va (.int b), .va (.int k), .va (.int many), .va (.int m), .ow (Z ++ .int (base + (T.take j).sum) :: T.map .int), .va (.int ((many - i : Nat) : Int)), x9]) ⟨x9, by simp⟩ (fun j hj ρ ⟨x9, hρ⟩ M2 hM2 => ?_) (fun ρ ⟨x9, hρ⟩ => ?_)
        · subst hρ
          simp only [dRet, dRetN, dAnd, dOr, dNot, dTest, dTAnd, dTOr, dTNot, dIf, dChain, dUn, dOp, dCall, dC, dVar, dCons, dNil, dTup, dLst, dSeq, dIfS, dAsg, dgName, dgNil, dPar, dParEO, dParOE, dParOO, dFor, dIter, dNext, dBreak, dCont, dDrop, dRaise, dFn, dFnS, dFnO, dM1, dLc, dSl, dSlV, dRevV, dLenV, dIdxV, dApp, dSetI, dPopAt, dCmpV, dOwn, dOwnV, dRetO, dRng1, dRng2, dRng3, dPNo, dPSo, dYes, dLenSet, dScrLen, dScrIdx, dSrcIdx, dSrcSet, dNewSrc, oLst, oRep, oListStr, gEq, gNe, gIsN, gNotN, gIsB, gNotB, gIsi, sg, List.getD_cons_zero, List.getD_cons_succ, List.set_cons_zero, List.set_cons_succ, if_true, if_false, reduceIte, endsD, endsS, endsO, endsN, endsL, asB_b, asI_i, asL_l, itemsP_l, itemsP_t, itemsP_s, itemsP_d, gAdd_i, gAdd_s, gAdd_t, gAdd_l, gI2_i, gMul_i, gMul_t, gMul_l, gMul_s, gNeg_i, gLen_s, gLen_l, gLen_t, gL1_1, gAll_l, gSum_l, gI2L_i, gMaxL_l, gMinL_l, gJoin_l, gJoin_t, gSl_l, gSl_t, gSl_s, gRev_l, wipeS, unwipe, keepV, gIdx_l, gIdx_t, gIdx_s, gIdx_d, dVarD, dDNew, dDNewT, dDPut, dDGetV, dDInV, dDEmpty, dDOne, dOwnD, dParED, dPar3, dEnum, dZip, dgTup_t, dgCons_c, dIsE, gSplit, dZipH, dM1, Bool.not_eq_true', Bool.not_eq_false', decide_eq_true_eq, decide_eq_false_iff_not, Bool.and_eq_true, Bool.or_eq_true, Bool.not_true, Bool.not_false, Bool.false_eq_true, reduceCtorEq, decide_true, decide_false]
          refine ⟨trivial, ?_⟩
          rw [sum_take_succ] at hM2
          by_cases hji : j < i
          · rw [if_pos (by omega)]
            have hg : (T.map PyData.int)[j]? = some (.int T[j]) := by
              rw [List.getElem?_map, List.getElem?_eq_getElem (by omega)]
              rfl
            refine ⟨_, at_mid hZ, _, at_tail hZ hg, ?_⟩
            simp only [dRet, dRetN, dAnd, dOr, dNot, dTest, dTAnd, dTOr, dTNot, dIf, dChain, dUn, dOp, dCall, dC, dVar, dCons, dNil, dTup, dLst, dSeq, dIfS, dAsg, dgName, dgNil, dPar, dParEO, dParOE, dParOO, dFor, dIter, dNext, dBreak, dCont, dDrop, dRaise, dFn, dFnS, dFnO, dM1, dLc, dSl, dSlV, dRevV, dLenV, dIdxV, dApp, dSetI, dPopAt, dCmpV, dOwn, dOwnV, dRetO, dRng1, dRng2, dRng3, dPNo, dPSo, dYes, dLenSet, dScrLen, dScrIdx, dSrcIdx, dSrcSet, dNewSrc, oLst, oRep, oListStr, gEq, gNe, gIsN, gNotN, gIsB, gNotB, gIsi, sg, List.getD_cons_zero, List.getD_cons_succ, List.set_cons_zero, List.set_cons_succ, if_true, if_false, reduceIte, endsD, endsS, endsO, endsN, endsL, asB_b, asI_i, asL_l, itemsP_l, itemsP_t, itemsP_s, itemsP_d, gAdd_i, gAdd_s, gAdd_t, gAdd_l, gI2_i, gMul_i, gMul_t, gMul_l, gMul_s, gNeg_i, gLen_s, gLen_l, gLen_t, gL1_1, gAll_l, gSum_l, gI2L_i, gMaxL_l, gMinL_l, gJoin_l, gJoin_t, gSl_l, gSl_t, gSl_s, gRev_l, wipeS, unwipe, keepV, gIdx_l, gIdx_t, gIdx_s, gIdx_d, dVarD, dDNew, dDNewT, dDPut, dDGetV, dDInV, dDEmpty, dDOne, dOwnD, dParED, dPar3, dEnum, dZip, dgTup_t, dgCons_c, dIsE, gSplit, dZipH, dM1]
            refine ⟨_, ix_mid hZ, hM2 _ ⟨.va (.int (1 + (j : Int))), ?_⟩⟩
            rw [set_mid hZ, List.getElem?_eq_getElem (by omega), Option.getD_some, Int.add_assoc]
          · rw [if_neg (by omega)]
            refine hM2 _ ⟨.va (.int (1 + (j : Int))), ?_⟩
            rw [List.getElem?_eq_none (by omega), Option.getD_none, Int.add_zero]
        · subst hρ
          rw [hDD, hbase]
          exact hM' x9
      refine ⟨trivial, ?_⟩
      simp only [eqv_int, Bool.not_eq_true', Bool.not_eq_false', decide_eq_true_eq, decide_eq_false_iff_not, Bool.and_eq_true, Bool.or_eq_true, Bool.not_true, Bool.not_false, Bool.false_eq_true, reduceCtorEq, decide_true, decide_false]
      have hrg : (-2 ^ 62 : Int) ≤ 1 ∧ (1 : Int) < 2 ^ 62 ∧ (-2 ^ 62 : Int) ≤ (m : Int) + 1 ∧ (m : Int) + 1 < 2 ^ 62 := ⟨by omega, by omega, by omega, by omega⟩
      have hmod : ((many : Int) - ((many - i : Nat) : Int)) % (m : Int) = ((i % m : Nat) : Int) := by
        rw [show (many : Int) - ((many - i : Nat) : Int) = (i : Int) by omega]
        rfl
      rw [hmod]
      by_cases h1 : i < many
      · rw [if_pos (by omega)]
        refine ⟨trivial, by omega, rfl, ?_⟩
        by_cases h2 : i % m = 0
        · rw [if_pos (by omega)]
          refine ⟨_, at_mid hZ, ?_⟩
          simp only [dRet, dRetN, dAnd, dOr, dNot, dTest, dTAnd, dTOr, dTNot, dIf, dChain, dUn, dOp, dCall, dC, dVar, dCons, dNil, dTup, dLst, dSeq, dIfS, dAsg, dgName, dgNil, dPar, dParEO, dParOE, dParOO, dFor, dIter, dNext, dBreak, dCont, dDrop, dRaise, dFn, dFnS, dFnO, dM1, dLc, dSl, dSlV, dRevV, dLenV, dIdxV, dApp, dSetI, dPopAt, dCmpV, dOwn, dOwnV, dRetO, dRng1, dRng2, dRng3, dPNo, dPSo, dYes, dLenSet, dScrLen, dScrIdx, dSrcIdx, dSrcSet, dNewSrc, oLst, oRep, oListStr, gEq, gNe, gIsN, gNotN, gIsB, gNotB, gIsi, sg, List.getD_cons_zero, List.getD_cons_succ, List.set_cons_zero, List.set_cons_succ, if_true, if_false, reduceIte, endsD, endsS, endsO, endsN, endsL, asB_b, asI_i, asL_l, itemsP_l, itemsP_t, itemsP_s, itemsP_d, gAdd_i, gAdd_s, gAdd_t, gAdd_l, gI2_i, gMul_i, gMul_t, gMul_l, gMul_s, gNeg_i, gLen_s, gLen_l, gLen_t, gL1_1, gAll_l, gSum_l, gI2L_i, gMaxL_l, gMinL_l, gJoin_l, gJoin_t, gSl_l, gSl_t, gSl_s, gRev_l, wipeS, unwipe, keepV, gIdx_l, gIdx_t, gIdx_s, gIdx_d, dVarD, dDNew, dDNewT, dDPut, dDGetV, dDInV, dDEmpty, dDOne, dOwnD, dParED, dPar3, dEnum, dZip, dgTup_t, dgCons_c, dIsE, gSplit, dZipH, dM1]
          refine ⟨_, ix_mid hZ, hrg, ?_⟩
          rw [set_mid hZ]
          exact hin _ _ _ (by rw [if_pos ⟨h1, h2⟩]; omega) rfl
        · rw [if_neg (by omega)]
          exact ⟨hrg, hin _ _ _ (by rw [if_neg (fun z => h2 z.2)]) rfl⟩
      · rw [if_neg (by omega)]
        simp only [Bool.not_eq_true', Bool.not_eq_false', decide_eq_true_eq, decide_eq_false_iff_not, Bool.and_eq_true, Bool.or_eq_true, Bool.not_true, Bool.not_false, Bool.false_eq_true, reduceCtorEq, decide_true, decide_false, if_false]
        exact ⟨hrg, hin _ _ _ (by rw [if_neg (fun z => h1 z.1)]) rfl⟩
    · subst hρ
      simp only [dRet, dRetN, dAnd, dOr, dNot, dTest, dTAnd, dTOr, dTNot, dIf, dChain, dUn, dOp, dCall, dC, dVar, dCons, dNil, dTup, dLst, dSeq, dIfS, dAsg, dgName, dgNil, dPar, dParEO, dParOE, dParOO, dFor, dIter, dNext, dBreak, dCont, dDrop, dRaise, dFn, dFnS, dFnO, dM1, dLc, dSl, dSlV, dRevV, dLenV, dIdxV, dApp, dSetI, dPopAt, dCmpV, dOwn, dOwnV, dRetO, dRng1, dRng2, dRng3, dPNo, dPSo, dYes, dLenSet, dScrLen, dScrIdx, dSrcIdx, dSrcSet, dNewSrc, oLst, oRep, oListStr, gEq, gNe, gIsN, gNotN, gIsB, gNotB, gIsi, sg, List.getD_cons_zero, List.getD_cons_succ, List.set_cons_zero, List.set_cons_succ, if_true, if_false, reduceIte, endsD, endsS, endsO, endsN, endsL, asB_b, asI_i, asL_l, itemsP_l, itemsP_t, itemsP_s, itemsP_d, gAdd_i, gAdd_s, gAdd_t, gAdd_l, gI2_i, gMul_i, gMul_t, gMul_l, gMul_s, gNeg_i, gLen_s, gLen_l, gLen_t, gL1_1, gAll_l, gSum_l, gI2L_i, gMaxL_l, gMinL_l, gJoin_l, gJoin_t, gSl_l, gSl_t, gSl_s, gRev_l, wipeS, unwipe, keepV, gIdx_l, gIdx_t, gIdx_s, gIdx_d, dVarD, dDNew, dDNewT, dDPut, dDGetV, dDInV, dDEmpty, dDOne, dOwnD, dParED, dPar3, dEnum, dZip, dgTup_t, dgCons_c, dIsE, gSplit, dZipH, dM1]
      rw [show many + 1 - (many + 1) = 0 by omega, List.replicate_zero, List.nil_append]
      have hrow : rowT m many b (many + 1) = row m many b := rfl
      rw [hrow]
      have hlr : (row m many b).length = many + 1 := rowT_len _ _ _ _
      refine ⟨by rw [List.length_map, List.length_reverse, ways_len, List.length_reverse]; exact small1000 (by omega), .int ((row m many b).headD 0), ?_, hN' _ _ _ _ _ _⟩
      refine atI_nat (j := 0) ?_
      cases hrr : row m many b with
      | nil => rw [hrr] at hlr; cases hlr
      | cons x r => rfl
  · subst hρ
    simp only [dRet, dRetN, dAnd, dOr, dNot, dTest, dTAnd, dTOr, dTNot, dIf, dChain, dUn, dOp, dCall, dC, dVar, dCons, dNil, dTup, dLst, dSeq, dIfS, dAsg, dgName, dgNil, dPar, dParEO, dParOE, dParOO, dFor, dIter, dNext, dBreak, dCont, dDrop, dRaise, dFn, dFnS, dFnO, dM1, dLc, dSl, dSlV, dRevV, dLenV, dIdxV, dApp, dSetI, dPopAt, dCmpV, dOwn, dOwnV, dRetO, dRng1, dRng2, dRng3, dPNo, dPSo, dYes, dLenSet, dScrLen, dScrIdx, dSrcIdx, dSrcSet, dNewSrc, oLst, oRep, oListStr, gEq, gNe, gIsN, gNotN, gIsB, gNotB, gIsi, sg, List.getD_cons_zero, List.getD_cons_succ, List.set_cons_zero, List.set_cons_succ, if_true, if_false, reduceIte, endsD, endsS, endsO, endsN, endsL, asB_b, asI_i, asL_l, itemsP_l, itemsP_t, itemsP_s, itemsP_d, gAdd_i, gAdd_s, gAdd_t, gAdd_l, gI2_i, gMul_i, gMul_t, gMul_l, gMul_s, gNeg_i, gLen_s, gLen_l, gLen_t, gL1_1, gAll_l, gSum_l, gI2L_i, gMaxL_l, gMinL_l, gJoin_l, gJoin_t, gSl_l, gSl_t, gSl_s, gRev_l, wipeS, unwipe, keepV, gIdx_l, gIdx_t, gIdx_s, gIdx_d, dVarD, dDNew, dDNewT, dDPut, dDGetV, dDInV, dDEmpty, dDOne, dOwnD, dParED, dPar3, dEnum, dZip, dgTup_t, dgCons_c, dIsE, gSplit, dZipH, dM1]
    rw [List.reverse_reverse, ← List.map_reverse, List.reverse_reverse]
    exact q
/-! counted, count_texts -/
theorem addN_mem {f : List Run} {k n : Int} {r : Run} (h : r ∈ addN f k n) : r ∈ f ∨ (r.1 = k ∧ (r.2 = n ∨ ∃ q ∈ f, r.2 = q.2 + n)) := by
  rcases last_cases f with rfl | ⟨i, q, rfl⟩
  · rw [addN_nil] at h
    simp at h
    exact .inr ⟨by rw [h], .inl (by rw [h])⟩
  · rw [addN_app] at h
    split at h
    · rcases List.mem_append.mp h with h | h
      · exact .inl (List.mem_append.mpr (.inl h))
      · simp at h
        exact .inr ⟨by rw [h], .inr ⟨q, by simp, by rw [h]⟩⟩
    · rcases List.mem_append.mp h with h | h
      · exact .inl h
      · simp at h
        exact .inr ⟨by rw [h], .inl (by rw [h])⟩
theorem runs_in : ∀ (l : List Int) (f : List Run) (n : Nat), (∀ r ∈ f, 1 ≤ r.2 ∧ r.2 ≤ n) → ∀ r ∈ l.foldl (fun f k => addN f k 1) f, (r.1 ∈ l ∨ ∃ q ∈ f, q.1 = r.1) ∧ 1 ≤ r.2 ∧ r.2 ≤ ((n + l.length : Nat) : Int)
  | [], f, n, h, r, hr => ⟨.inr ⟨r, hr, rfl⟩, (h r hr).1, by have := (h r hr).2; simp; omega⟩
  | k :: l, f, n, h, r, hr => by
    have h2 : ∀ r ∈ addN f k 1, 1 ≤ r.2 ∧ r.2 ≤ ((n + 1 : Nat) : Int) := fun q hq => by
      rcases addN_mem hq with hq | ⟨_, hq | ⟨p, hp, hq⟩⟩
      · have := h q hq
        omega
      · omega
      · have := h p hp
        omega
    obtain ⟨h3, h4, h5⟩ := runs_in l (addN f k 1) (n + 1) h2 r hr
    refine ⟨?_, h4, by rw [List.length_cons]; omega⟩
    rcases h3 with h3 | ⟨q, hq, e⟩
    · exact .inl (List.mem_cons_of_mem _ h3)
    · rcases addN_mem hq with hq | ⟨e2, _⟩
      · exact .inr ⟨q, hq, e⟩
      · exact .inl (by rw [← e, e2]; exact List.mem_cons_self)
theorem runs_ok {kp : List Tx} {l : List Int} (hl : l.length ≤ 900) (hk : ∀ k ∈ l, 0 ≤ k ∧ k < kp.length) : ∀ r ∈ LW.runs l, RunOk kp r := fun r hr => by
  obtain ⟨h1, h2, h3⟩ := runs_in l [] 0 (fun _ z => nomatch z) r hr
  rcases h1 with h1 | ⟨q, hq, _⟩
  · have := hk _ h1
    exact ⟨this.1, this.2, by omega, by omega⟩
  · cases hq
theorem LogOk.runs {kp : List Tx} {l : List Int} (h : LogOk kp.length l) : ∀ r ∈ LW.runs l, RunOk kp r := runs_ok (by have := h.len; omega) h.key
theorem runs_len (l : List Int) : (runs l).length ≤ l.length := by
  have h : (runs l).length ≤ ([] : List Run).length + l.length := fold_len l []
  rw [List.length_nil, Nat.zero_add] at h
  exact h
theorem row_len (m many : Nat) (b : Int) : (row m many b).length = many + 1 := rowT_len _ _ _ _
theorem ways_mem {kp : List Tx} : ∀ {rs : List Run} {r : List Int}, r ∈ ways kp rs → 1 ≤ r.length
  | q :: rs, r, h => by
    rw [ways] at h
    rcases List.mem_cons.mp h with rfl | h
    · rw [row_len]
      omega
    · exact ways_mem h
abbrev n_counted : List Str := ["keypad", "log", "row"]
def p_counted : DP := fun ds Q _ => ∃ kp l, ds = [Kd kp, Ld l] ∧ KpOk kp ∧ l.length ≤ 900 ∧ (∀ k ∈ l, 0 ≤ k ∧ k < kp.length) ∧ Q (.int (cnt kp (runs l)))
def t_counted (W : Str → Prop) : DS := (dRet (dOp gIdx (dOp gAdd (dLst (dCons (dC (.int 1)) dNil)) (dUn gRev (dLc (dIter (dFn p_ways_on W (dCons (dVar 0) (dCons (dFn p_runs_of W (dCons (dVar 1) dNil)) dNil)))) (dgName 2) dYes (dOp gIdx (dVar 2) (dC (.int 0))) [2]))) (dUn gNeg (dC (.int 1)))))
theorem m_counted : MoP p_counted := fun ds Q Q' W W' hq _ ⟨kp, l, e, h1, h2, h3, q⟩ => ⟨kp, l, e, h1, h2, h3, hq _ q⟩
theorem l_counted : ∀ ds Q W, p_counted ds Q W → ds.length = 2 := fun ds Q W ⟨kp, l, e, _⟩ => by rw [e]; rfl
theorem D_counted (W : Str → Prop) (ds : List D) (Q : D → Prop) (h : p_counted ds Q W) : t_counted W (endsD Q) (startS n_counted ds) := by
  obtain ⟨kp, l, rfl, hk, hlen, hlk, q⟩ := h
  show t_counted W (endsD Q) [.va (Kd kp), .va (Ld l), .no]
  simp only [t_counted, dRet, dRetN, dAnd, dOr, dNot, dTest, dTAnd, dTOr, dTNot, dIf, dChain, dUn, dOp, dCall, dC, dVar, dCons, dNil, dTup, dLst, dSeq, dIfS, dAsg, dgName, dgNil, dPar, dParEO, dParOE, dParOO, dFor, dIter, dNext, dBreak, dCont, dDrop, dRaise, dFn, dFnS, dFnO, dM1, dLc, dSl, dSlV, dRevV, dLenV, dIdxV, dApp, dSetI, dPopAt, dCmpV, dOwn, dOwnV, dRetO, dRng1, dRng2, dRng3, dPNo, dPSo, dYes, dLenSet, dScrLen, dScrIdx, dSrcIdx, dSrcSet, dNewSrc, oLst, oRep, oListStr, gEq, gNe, gIsN, gNotN, gIsB, gNotB, gIsi, sg, List.getD_cons_zero, List.getD_cons_succ, List.set_cons_zero, List.set_cons_succ, if_true, if_false, reduceIte, endsD, endsS, endsO, endsN, endsL, asB_b, asI_i, asL_l, itemsP_l, itemsP_t, itemsP_s, itemsP_d, gAdd_i, gAdd_s, gAdd_t, gAdd_l, gI2_i, gMul_i, gMul_t, gMul_l, gMul_s, gNeg_i, gLen_s, gLen_l, gLen_t, gL1_1, gAll_l, gSum_l, gI2L_i, gMaxL_l, gMinL_l, gJoin_l, gJoin_t, gSl_l, gSl_t, gSl_s, gRev_l, wipeS, unwipe, keepV, gIdx_l, gIdx_t, gIdx_s, gIdx_d, dVarD, dDNew, dDNewT, dDPut, dDGetV, dDInV, dDEmpty, dDOne, dOwnD, dParED, dPar3, dEnum, dZip, dgTup_t, dgCons_c, dIsE, gSplit, dZipH, dM1]
  have hrl := runs_len l
  refine ⟨le1, l, rfl, by omega, kp, runs l, rfl, hk, by omega, runs_ok hlen hlk, ?_⟩
  simp only [dRet, dRetN, dAnd, dOr, dNot, dTest, dTAnd, dTOr, dTNot, dIf, dChain, dUn, dOp, dCall, dC, dVar, dCons, dNil, dTup, dLst, dSeq, dIfS, dAsg, dgName, dgNil, dPar, dParEO, dParOE, dParOO, dFor, dIter, dNext, dBreak, dCont, dDrop, dRaise, dFn, dFnS, dFnO, dM1, dLc, dSl, dSlV, dRevV, dLenV, dIdxV, dApp, dSetI, dPopAt, dCmpV, dOwn, dOwnV, dRetO, dRng1, dRng2, dRng3, dPNo, dPSo, dYes, dLenSet, dScrLen, dScrIdx, dSrcIdx, dSrcSet, dNewSrc, oLst, oRep, oListStr, gEq, gNe, gIsN, gNotN, gIsB, gNotB, gIsi, sg, List.getD_cons_zero, List.getD_cons_succ, List.set_cons_zero, List.set_cons_succ, if_true, if_false, reduceIte, endsD, endsS, endsO, endsN, endsL, asB_b, asI_i, asL_l, itemsP_l, itemsP_t, itemsP_s, itemsP_d, gAdd_i, gAdd_s, gAdd_t, gAdd_l, gI2_i, gMul_i, gMul_t, gMul_l, gMul_s, gNeg_i, gLen_s, gLen_l, gLen_t, gL1_1, gAll_l, gSum_l, gI2L_i, gMaxL_l, gMinL_l, gJoin_l, gJoin_t, gSl_l, gSl_t, gSl_s, gRev_l, wipeS, unwipe, keepV, gIdx_l, gIdx_t, gIdx_s, gIdx_d, dVarD, dDNew, dDNewT, dDPut, dDGetV, dDInV, dDEmpty, dDOne, dOwnD, dParED, dPar3, dEnum, dZip, dgTup_t, dgCons_c, dIsE, gSplit, dZipH, dM1]
  refine lc_map rowD (fun r => .int (r.headD 0)) (ways kp (runs l)) [] (fun r hr R N hR => ?_) ?_ ?_
  · simp only [rowD, dRet, dRetN, dAnd, dOr, dNot, dTest, dTAnd, dTOr, dTNot, dIf, dChain, dUn, dOp, dCall, dC, dVar, dCons, dNil, dTup, dLst, dSeq, dIfS, dAsg, dgName, dgNil, dPar, dParEO, dParOE, dParOO, dFor, dIter, dNext, dBreak, dCont, dDrop, dRaise, dFn, dFnS, dFnO, dM1, dLc, dSl, dSlV, dRevV, dLenV, dIdxV, dApp, dSetI, dPopAt, dCmpV, dOwn, dOwnV, dRetO, dRng1, dRng2, dRng3, dPNo, dPSo, dYes, dLenSet, dScrLen, dScrIdx, dSrcIdx, dSrcSet, dNewSrc, oLst, oRep, oListStr, gEq, gNe, gIsN, gNotN, gIsB, gNotB, gIsi, sg, List.getD_cons_zero, List.getD_cons_succ, List.set_cons_zero, List.set_cons_succ, if_true, if_false, reduceIte, endsD, endsS, endsO, endsN, endsL, asB_b, asI_i, asL_l, itemsP_l, itemsP_t, itemsP_s, itemsP_d, gAdd_i, gAdd_s, gAdd_t, gAdd_l, gI2_i, gMul_i, gMul_t, gMul_l, gMul_s, gNeg_i, gLen_s, gLen_l, gLen_t, gL1_1, gAll_l, gSum_l, gI2L_i, gMaxL_l, gMinL_l, gJoin_l, gJoin_t, gSl_l, gSl_t, gSl_s, gRev_l, wipeS, unwipe, keepV, gIdx_l, gIdx_t, gIdx_s, gIdx_d, dVarD, dDNew, dDNewT, dDPut, dDGetV, dDInV, dDEmpty, dDOne, dOwnD, dParED, dPar3, dEnum, dZip, dgTup_t, dgCons_c, dIsE, gSplit, dZipH, dM1]
    have h1 := ways_mem hr
    refine ⟨.int (r.headD 0), atI_nat (j := 0) ?_, hR _ rfl⟩
    cases r with
    | nil => simp at h1
    | cons x r => rfl
  · rw [ways_len]
    exact small_le (by simp; omega)
  · refine ⟨?_, ?_⟩
    · rw [List.nil_append, List.length_reverse, List.length_map, ways_len]
      exact small_le (by simp; omega)
    · rw [List.nil_append]
      cases hr : runs l with
      | nil =>
        rw [hr] at q
        exact ⟨_, rfl, q⟩
      | cons r rs =>
        rw [hr] at q
        refine ⟨.int (cnt kp (r :: rs)), ?_, q⟩
        rw [ways, List.map_cons, List.reverse_cons, ← List.append_assoc, LW.atI_last]
        rfl
theorem isKp_true {v : D} (h : isKp v = true) : ∃ kp, v = Kd kp ∧ KpOk kp := by
  cases v with
  | tuple ds =>
    simp only [isKp, Bool.and_eq_true, decide_eq_true_eq] at h
    obtain ⟨⟨⟨h1, h2⟩, h3⟩, h4⟩ := h
    have e := all_S h3
    refine ⟨ds.map unS, congrArg PyData.tuple e, ?_⟩
    have hk : ∀ k ∈ ds.map unS, 1 ≤ k.length ∧ k.length ≤ 6 ∧ Lett k := fun k hk => by
      obtain ⟨d, hd, rfl⟩ := List.mem_map.mp hk
      have h5 := List.all_eq_true.mp h3 d hd
      rw [isStrOf_S h5] at h5
      simp only [isStrOf, tx_list, Bool.and_eq_true, decide_eq_true_eq, List.all_eq_true] at h5
      exact ⟨by omega, by omega, fun c hc => mem_alpha.mp (h5.2 c hc)⟩
    exact ⟨by rw [List.length_map]; exact h1, by rw [List.length_map]; exact h2, fun k h => (hk k h).1, fun k h => (hk k h).2.1, fun k h => (hk k h).2.2, h4⟩
  | _ => cases h
def unI : D → Int
  | .int i => i
  | _ => 0
theorem isLog_true {n : Nat} {v : D} (h : isLog n v = true) : ∃ l, v = Ld l ∧ LogOk n l := by
  cases v with
  | tuple ds =>
    simp only [isLog, Bool.and_eq_true, decide_eq_true_eq, List.all_eq_true] at h
    have h2 : ∀ d ∈ ds, d = .int (unI d) ∧ 0 ≤ unI d ∧ unI d < n := fun d hd => by
      have := h.2 d hd
      cases d with
      | int i =>
        simp only [isIn, Bool.and_eq_true, decide_eq_true_eq] at this
        exact ⟨rfl, this.1, by have := this.2; show i < n; omega⟩
      | _ => cases this
    refine ⟨ds.map unI, ?_, ?_, fun k hk => ?_⟩
    · rw [Ld, List.map_map]
      congr 1
      conv => lhs; rw [← List.map_id ds]
      exact List.map_congr_left fun d hd => (h2 d hd).1
    · rw [List.length_map]
      exact h.1
    · obtain ⟨d, hd, rfl⟩ := List.mem_map.mp hk
      exact (h2 d hd).2
  | _ => cases h
abbrev n_count_texts : List Str := ["keypad", "log"]
def p_count_texts : DP := fun ds Q W => ∃ v w, ds = [v, w] ∧ okT v ∧ okT w ∧ (isKp v = false → W "InvalidKeypad") ∧ ∀ kp, v = Kd kp → KpOk kp → (isLog kp.length w = false → W "InvalidLog") ∧ ∀ l, w = Ld l → LogOk kp.length l → Q (.int (cnt kp (runs l)))
def t_count_texts (W : Str → Prop) : DS := (dSeq (dDrop (dFn p_require_keypad W (dCons (dVar 0) dNil)))
      (dSeq (dDrop (dFn p_require_log W (dCons (dVar 0) (dCons (dVar 1) dNil))))
      (dRet (dFn p_counted W (dCons (dVar 0) (dCons (dVar 1) dNil))))))
theorem m_count_texts : MoP p_count_texts := fun ds Q Q' W W' hq hw ⟨v, w, e, h1, h2, h3, h4⟩ => ⟨v, w, e, h1, h2, fun z => hw _ (h3 z), fun kp e hk => ⟨fun z => hw _ ((h4 kp e hk).1 z), fun l e2 h5 => hq _ ((h4 kp e hk).2 l e2 h5)⟩⟩
theorem l_count_texts : ∀ ds Q W, p_count_texts ds Q W → ds.length = 2 := fun ds Q W ⟨v, w, e, _⟩ => by rw [e]; rfl
theorem D_count_texts (W : Str → Prop) (ds : List D) (Q : D → Prop) (h : p_count_texts ds Q W) : t_count_texts W (endsD Q) (startS n_count_texts ds) := by
  obtain ⟨v, w, rfl, hv, hw, h3, h4⟩ := h
  show t_count_texts W (endsD Q) [.va v, .va w]
  simp only [t_count_texts, dRet, dRetN, dAnd, dOr, dNot, dTest, dTAnd, dTOr, dTNot, dIf, dChain, dUn, dOp, dCall, dC, dVar, dCons, dNil, dTup, dLst, dSeq, dIfS, dAsg, dgName, dgNil, dPar, dParEO, dParOE, dParOO, dFor, dIter, dNext, dBreak, dCont, dDrop, dRaise, dFn, dFnS, dFnO, dM1, dLc, dSl, dSlV, dRevV, dLenV, dIdxV, dApp, dSetI, dPopAt, dCmpV, dOwn, dOwnV, dRetO, dRng1, dRng2, dRng3, dPNo, dPSo, dYes, dLenSet, dScrLen, dScrIdx, dSrcIdx, dSrcSet, dNewSrc, oLst, oRep, oListStr, gEq, gNe, gIsN, gNotN, gIsB, gNotB, gIsi, sg, List.getD_cons_zero, List.getD_cons_succ, List.set_cons_zero, List.set_cons_succ, if_true, if_false, reduceIte, endsD, endsS, endsO, endsN, endsL, asB_b, asI_i, asL_l, itemsP_l, itemsP_t, itemsP_s, itemsP_d, gAdd_i, gAdd_s, gAdd_t, gAdd_l, gI2_i, gMul_i, gMul_t, gMul_l, gMul_s, gNeg_i, gLen_s, gLen_l, gLen_t, gL1_1, gAll_l, gSum_l, gI2L_i, gMaxL_l, gMinL_l, gJoin_l, gJoin_t, gSl_l, gSl_t, gSl_s, gRev_l, wipeS, unwipe, keepV, gIdx_l, gIdx_t, gIdx_s, gIdx_d, dVarD, dDNew, dDNewT, dDPut, dDGetV, dDInV, dDEmpty, dDOne, dOwnD, dParED, dPar3, dEnum, dZip, dgTup_t, dgCons_c, dIsE, gSplit, dZipH, dM1]
  refine ⟨v, rfl, hv, fun e => ?_, h3⟩
  obtain ⟨kp, rfl, hk⟩ := isKp_true e
  obtain ⟨h5, h6⟩ := h4 kp rfl hk
  have el : (kp.map S).length = kp.length := List.length_map _
  refine ⟨kp.map S, w, rfl, hw, fun e2 => ?_, fun e2 => h5 (by rw [← el]; exact e2)⟩
  rw [el] at e2
  obtain ⟨l, rfl, hl⟩ := isLog_true e2
  exact ⟨kp, l, rfl, hk, by have := hl.len; omega, hl.key, h6 l rfl hl⟩
end LW

namespace LW
open PySem PySem.Spec PyProof.Rows L2 DL
/-! _law_source -/
abbrev n__law_source : List Str := ["script", "k", "cell", "primes", "seed"]
def p__law_source : List Int → Int → Prop := fun _ i => 0 ≤ i ∧ i < 64
def t__law_source (W : Str → Prop) : DS := (dSeq (dAsg (dC (.int 0)) (dgName 2))
      (dSeq (dIfS (dTest (dOp gLt (dVar 1) (dScrLen 0))) (dAsg (dScrIdx 0 (dVar 1)) (dgName 2)) dNext)
      (dSeq (dAsg (dLst (dCons (dC (.int 2147483647)) (dCons (dC (.int 2147483629)) (dCons (dC (.int 2147483587)) (dCons (dC (.int 2147483579)) (dCons (dC (.int 2147483563)) (dCons (dC (.int 2147483549)) (dCons (dC (.int 2147483543)) (dCons (dC (.int 2147483497)) dNil))))))))) (dgName 3))
      (dSeq (dAsg (dOp gMod (dOp gMul (dOp gAdd (dOp gMod (dVar 2) (dC (.int 2147483489))) (dC (.int 1))) (dOp gAdd (dC (.int 48271)) (dOp gMul (dC (.int 2)) (dVar 1)))) (dC (.int 2147483489))) (dgName 4))
      (dSeq (dAsg (dOp gAdd (dOp gAdd (dOp gMod (dOp gMul (dVar 4) (dVar 4)) (dC (.int 2147483477))) (dVar 1)) (dC (.int 1))) (dgName 4))
      (dSeq (dIfS (dTest (dOp gGe (dVar 2) (dOp gPow (dC (.int 10)) (dC (.int 18))))) (dRetO (oLst (dCons (dVar 2) (dCons (dVar 4) (dCons (dOp gIdx (dVar 3) (dOp gMod (dVar 1) (dC (.int 8)))) dNil))))) dNext)
      (dRetO (oLst (dCons (dC (.int 0)) (dCons (dVar 4) (dCons (dOp gIdx (dVar 3) (dOp gMod (dVar 1) (dC (.int 8)))) dNil)))))))))))
theorem primes_at (i : Int) : ∃ v : Int, atI ([.int 2147483647, .int 2147483629, .int 2147483587, .int 2147483579, .int 2147483563, .int 2147483549, .int 2147483543, .int 2147483497] : List D) (i % 8) = some (.int v) ∧ 0 < v ∧ v < 1099511627776 := by
  have h : i % 8 = 0 ∨ i % 8 = 1 ∨ i % 8 = 2 ∨ i % 8 = 3 ∨ i % 8 = 4 ∨ i % 8 = 5 ∨ i % 8 = 6 ∨ i % 8 = 7 := by omega
  rcases h with h | h | h | h | h | h | h | h <;> rw [h] <;> exact ⟨_, rfl, by decide, by decide⟩
theorem D__law_source (ns : List Int) (i : Int) (h : p__law_source ns i) : t__law_source noW endsN (startN n__law_source ns i) := by
  obtain ⟨h0, h1⟩ := h
  show t__law_source noW endsN [.scr ns, .va (.int i), .no, .no, .no]
  obtain ⟨v, hv, v0, v1⟩ := primes_at i
  have rest : ∀ cell : Int, (dSeq (dAsg (dLst (dCons (dC (.int 2147483647)) (dCons (dC (.int 2147483629)) (dCons (dC (.int 2147483587)) (dCons (dC (.int 2147483579)) (dCons (dC (.int 2147483563)) (dCons (dC (.int 2147483549)) (dCons (dC (.int 2147483543)) (dCons (dC (.int 2147483497)) dNil))))))))) (dgName 3))
      (dSeq (dAsg (dOp gMod (dOp gMul (dOp gAdd (dOp gMod (dVar 2) (dC (.int 2147483489))) (dC (.int 1))) (dOp gAdd (dC (.int 48271)) (dOp gMul (dC (.int 2)) (dVar 1)))) (dC (.int 2147483489))) (dgName 4))
      (dSeq (dAsg (dOp gAdd (dOp gAdd (dOp gMod (dOp gMul (dVar 4) (dVar 4)) (dC (.int 2147483477))) (dVar 1)) (dC (.int 1))) (dgName 4))
      (dSeq (dIfS (dTest (dOp gGe (dVar 2) (dOp gPow (dC (.int 10)) (dC (.int 18))))) (dRetO (oLst (dCons (dVar 2) (dCons (dVar 4) (dCons (dOp gIdx (dVar 3) (dOp gMod (dVar 1) (dC (.int 8)))) dNil))))) dNext)
      (dRetO (oLst (dCons (dC (.int 0)) (dCons (dVar 4) (dCons (dOp gIdx (dVar 3) (dOp gMod (dVar 1) (dC (.int 8)))) dNil))))))))) endsN [.scr ns, .va (.int i), .va (.int cell), .no, .no] := by
    intro cell
    simp only [dRet, dRetN, dAnd, dOr, dNot, dTest, dTAnd, dTOr, dTNot, dIf, dChain, dUn, dOp, dCall, dC, dVar, dCons, dNil, dTup, dLst, dSeq, dIfS, dAsg, dgName, dgNil, dPar, dParEO, dParOE, dParOO, dFor, dIter, dNext, dBreak, dCont, dDrop, dRaise, dFn, dFnS, dFnO, dM1, dLc, dSl, dSlV, dRevV, dLenV, dIdxV, dApp, dSetI, dPopAt, dCmpV, dOwn, dOwnV, dRetO, dRng1, dRng2, dRng3, dPNo, dPSo, dYes, dLenSet, dScrLen, dScrIdx, dSrcIdx, dSrcSet, dNewSrc, oLst, oRep, oListStr, gEq, gNe, gIsN, gNotN, gIsB, gNotB, gIsi, sg, List.getD_cons_zero, List.getD_cons_succ, List.set_cons_zero, List.set_cons_succ, if_true, if_false, reduceIte, endsD, endsS, endsO, endsN, endsL, asB_b, asI_i, asL_l, itemsP_l, itemsP_t, itemsP_s, itemsP_d, gAdd_i, gAdd_s, gAdd_t, gAdd_l, gI2_i, gMul_i, gMul_t, gMul_l, gMul_s, gNeg_i, gLen_s, gLen_l, gLen_t, gL1_1, gAll_l, gSum_l, gI2L_i, gMaxL_l, gMinL_l, gJoin_l, gJoin_t, gSl_l, gSl_t, gSl_s, gRev_l, wipeS, unwipe, keepV, gIdx_l, gIdx_t, gIdx_s, gIdx_d, dVarD, dDNew, dDNewT, dDPut, dDGetV, dDInV, dDEmpty, dDOne, dOwnD, dParED, dPar3, dEnum, dZip, dgTup_t, dgCons_c, dIsE, gSplit, dZipH, dM1, Bool.not_eq_true', Bool.not_eq_false', decide_eq_true_eq, decide_eq_false_iff_not, Bool.and_eq_true, Bool.or_eq_true, Bool.not_true, Bool.not_false, Bool.false_eq_true, reduceCtorEq, decide_true, decide_false]
    refine ⟨by show 8 ≤ sizeLine; decide, by decide, .inl ⟨by decide, by decide⟩, .inl ⟨by omega, by omega⟩, by decide, .inl ⟨by omega, by omega⟩, by decide, ⟨by decide, by decide, by decide⟩, trivial, ?_⟩
    by_cases hc : (10 : Int) ^ (18 : Int).toNat ≤ cell
    · rw [if_pos hc]
      refine ⟨by decide, _, hv, le3, cell, _, v, rfl, ?_, ?_, ?_, v0, v1⟩
      · have : (0 : Int) ≤ (10 : Int) ^ (18 : Int).toNat := by decide
        omega
      · omega
      · omega
    · rw [if_neg hc]
      refine ⟨by decide, _, hv, le3, 0, _, v, rfl, Int.le_refl 0, ?_, ?_, v0, v1⟩
      · omega
      · omega
  unfold t__law_source
  simp only [dSeq, dAsg, dC, dgName, dIfS, dTest, dOp, dVar, dScrLen, dScrIdx, dRet, dRetN, dAnd, dOr, dNot, dTest, dTAnd, dTOr, dTNot, dIf, dChain, dUn, dOp, dCall, dC, dVar, dCons, dNil, dTup, dLst, dSeq, dIfS, dAsg, dgName, dgNil, dPar, dParEO, dParOE, dParOO, dFor, dIter, dNext, dBreak, dCont, dDrop, dRaise, dFn, dFnS, dFnO, dM1, dLc, dSl, dSlV, dRevV, dLenV, dIdxV, dApp, dSetI, dPopAt, dCmpV, dOwn, dOwnV, dRetO, dRng1, dRng2, dRng3, dPNo, dPSo, dYes, dLenSet, dScrLen, dScrIdx, dSrcIdx, dSrcSet, dNewSrc, oLst, oRep, oListStr, gEq, gNe, gIsN, gNotN, gIsB, gNotB, gIsi, sg, List.getD_cons_zero, List.getD_cons_succ, List.set_cons_zero, List.set_cons_succ, if_true, if_false, reduceIte, endsD, endsS, endsO, endsN, endsL, asB_b, asI_i, asL_l, itemsP_l, itemsP_t, itemsP_s, itemsP_d, gAdd_i, gAdd_s, gAdd_t, gAdd_l, gI2_i, gMul_i, gMul_t, gMul_l, gMul_s, gNeg_i, gLen_s, gLen_l, gLen_t, gL1_1, gAll_l, gSum_l, gI2L_i, gMaxL_l, gMinL_l, gJoin_l, gJoin_t, gSl_l, gSl_t, gSl_s, gRev_l, wipeS, unwipe, keepV, gIdx_l, gIdx_t, gIdx_s, gIdx_d, dVarD, dDNew, dDNewT, dDPut, dDGetV, dDInV, dDEmpty, dDOne, dOwnD, dParED, dPar3, dEnum, dZip, dgTup_t, dgCons_c, dIsE, gSplit, dZipH, dM1, Bool.not_eq_true', Bool.not_eq_false', decide_eq_true_eq, decide_eq_false_iff_not, Bool.and_eq_true, Bool.or_eq_true, Bool.not_true, Bool.not_false, Bool.false_eq_true, reduceCtorEq, decide_true, decide_false] at rest ⊢
  refine ⟨trivial, ?_⟩
  by_cases hk : i < (ns.length : Int)
  · rw [if_pos hk]
    have hn : i.toNat < ns.length := by omega
    refine ⟨ns[i.toNat], ?_, ?_⟩
    · have := atI_nat (List.getElem?_eq_getElem hn)
      rw [Int.toNat_of_nonneg h0] at this
      exact this
    · exact rest _
  · rw [if_neg hk]
    exact rest _
/-! _law_pick -/
abbrev n__law_pick : List Str := ["source", "size", "drawn"]
def p__law_pick : DP := fun ds Q _ => ∃ n : Int, ds = [.int n] ∧ 0 < n ∧ n < 1073741824 ∧ ∀ r : Int, 0 ≤ r → r < n → Q (.int r)
def t__law_pick (W : Str → Prop) : DS := (dSeq (dIfS (dTest (dOp gGt (dSrcIdx 0 0) (dC (.int 0)))) (dSeq (dAsg (dOp gMod (dSrcIdx 0 0) (dVar 1)) (dgName 2))
      (dSeq (dSrcSet 0 0 (dOp gDiv (dSrcIdx 0 0) (dVar 1)))
      (dRet (dVar 2)))) dNext)
      (dSeq (dSrcSet 0 1 (dOp gAdd (dOp gMod (dOp gMul (dSrcIdx 0 1) (dC (.int 48271))) (dSrcIdx 0 2)) (dC (.int 1))))
      (dRet (dOp gMod (dOp gDiv (dOp gMod (dOp gMul (dSrcIdx 0 1) (dSrcIdx 0 1)) (dC (.int 2147483423))) (dC (.int 7))) (dVar 1)))))
theorem m__law_pick : MoP p__law_pick := fun ds Q Q' W W' hq _ ⟨n, e, h1, h2, q⟩ => ⟨n, e, h1, h2, fun r h3 h4 => hq _ (q r h3 h4)⟩
theorem l__law_pick : ∀ ds Q W, p__law_pick ds Q W → ds.length + 1 = 2 := fun ds Q W ⟨n, e, _⟩ => by rw [e]; rfl
theorem D__law_pick (q : Addr) (ds : List D) (Q : D → Prop) (h : p__law_pick ds Q noW) : t__law_pick noW (endsS q Q) (startSS n__law_pick q ds) := by
  obtain ⟨n, rfl, h1, h2, hQ⟩ := h
  show t__law_pick noW (endsS q Q) [.src q, .va (.int n), .no]
  simp only [t__law_pick, dRet, dRetN, dAnd, dOr, dNot, dTest, dTAnd, dTOr, dTNot, dIf, dChain, dUn, dOp, dCall, dC, dVar, dCons, dNil, dTup, dLst, dSeq, dIfS, dAsg, dgName, dgNil, dPar, dParEO, dParOE, dParOO, dFor, dIter, dNext, dBreak, dCont, dDrop, dRaise, dFn, dFnS, dFnO, dM1, dLc, dSl, dSlV, dRevV, dLenV, dIdxV, dApp, dSetI, dPopAt, dCmpV, dOwn, dOwnV, dRetO, dRng1, dRng2, dRng3, dPNo, dPSo, dYes, dLenSet, dScrLen, dScrIdx, dSrcIdx, dSrcSet, dNewSrc, oLst, oRep, oListStr, gEq, gNe, gIsN, gNotN, gIsB, gNotB, gIsi, sg, List.getD_cons_zero, List.getD_cons_succ, List.set_cons_zero, List.set_cons_succ, if_true, if_false, reduceIte, endsD, endsS, endsO, endsN, endsL, asB_b, asI_i, asL_l, itemsP_l, itemsP_t, itemsP_s, itemsP_d, gAdd_i, gAdd_s, gAdd_t, gAdd_l, gI2_i, gMul_i, gMul_t, gMul_l, gMul_s, gNeg_i, gLen_s, gLen_l, gLen_t, gL1_1, gAll_l, gSum_l, gI2L_i, gMaxL_l, gMinL_l, gJoin_l, gJoin_t, gSl_l, gSl_t, gSl_s, gRev_l, wipeS, unwipe, keepV, gIdx_l, gIdx_t, gIdx_s, gIdx_d, dVarD, dDNew, dDNewT, dDPut, dDGetV, dDInV, dDEmpty, dDOne, dOwnD, dParED, dPar3, dEnum, dZip, dgTup_t, dgCons_c, dIsE, gSplit, dZipH, dM1, Bool.not_eq_true', Bool.not_eq_false', decide_eq_true_eq, decide_eq_false_iff_not, Bool.and_eq_true, Bool.or_eq_true, Bool.not_true, Bool.not_false, Bool.false_eq_true, reduceCtorEq, decide_true, decide_false, SrcV]
  refine ⟨by decide, fun v hv => ⟨trivial, ?_⟩⟩
  by_cases h0 : 0 < v
  · rw [if_pos h0]
    refine ⟨by decide, fun w hw => ⟨h1, by decide, fun x hx => ⟨⟨h1, h2⟩, by decide, Int.ediv_nonneg hx (by omega), trivial, ?_⟩⟩⟩
    exact hQ _ (Int.emod_nonneg _ (by omega)) (Int.emod_lt_of_pos _ h1)
  · rw [if_neg h0]
    refine ⟨by decide, fun w hw => ⟨.inl ⟨by omega, by omega⟩, by decide, fun x hx => ⟨hx.1, by decide, ⟨?_, ?_⟩, by decide, fun y hy => ⟨by decide, fun z hz => ⟨.inl ⟨by omega, by omega⟩, by decide, ⟨by decide, by decide⟩, h1, trivial, ?_⟩⟩⟩⟩⟩
    · have := Int.emod_nonneg (w * 48271) (show x ≠ 0 by omega)
      omega
    · have := Int.emod_lt_of_pos (w * 48271) hx.1
      omega
    · exact hQ _ (Int.emod_nonneg _ (by omega)) (Int.emod_lt_of_pos _ h1)
theorem nodup_len (a : Nat) : ∀ (n : Nat) (l : Tx), l.Nodup → (∀ c ∈ l, a ≤ c ∧ c < a + n) → l.length ≤ n
  | 0, l, _, h => by
    cases l with
    | nil => exact Nat.le_refl _
    | cons x l =>
      have := h x List.mem_cons_self
      omega
  | n + 1, l, nd, h => by
    by_cases hm : a + n ∈ l
    · have ih := nodup_len a n (l.erase (a + n)) (nd.erase _) fun c hc => by
        have h2 := (nd.mem_erase_iff).mp hc
        have h3 := h c h2.2
        have h4 := h2.1
        omega
      rw [List.length_erase_of_mem hm] at ih
      omega
    · have ih := nodup_len a n l nd fun c hc => by
        have h3 := h c hc
        have : c ≠ a + n := fun e => hm (e ▸ hc)
        omega
      omega
/-! _law_pad -/
abbrev n__law_pad : List Str := ["source", "most", "wide", "rest", "found", "turn", "key", "letter"]
def p__law_pad : DP := fun ds Q _ => ∃ most wide : Int, ds = [.int most, .int wide] ∧ 1 ≤ most ∧ most ≤ 10 ∧ 1 ≤ wide ∧ wide ≤ 6 ∧ ∀ kp, KpOk kp → (kp.length : Int) ≤ most → (∀ k ∈ kp, (k.length : Int) ≤ wide) → Q (Kd kp)
def t__law_pad (W : Str → Prop) : DS := (dSeq (dParOE 3 4 (oListStr (dC (.str "abcdefghijklmnopqrstuvwxyz"))) (dTup dNil))
      (dSeq (dFor (dRng1 (dCons (dOp gAdd (dC (.int 1)) (dFnS p__law_pick 0 (dCons (dVar 1) dNil))) dNil)) (dgName 5) (dSeq (dAsg (dC (.str "")) (dgName 6))
      (dSeq (dFor (dRng1 (dCons (dOp gAdd (dC (.int 1)) (dFnS p__law_pick 0 (dCons (dVar 2) dNil))) dNil)) (dgName 7) (dIfS (dTest (dCmpV true 3 (dLst dNil))) (dAsg (dOp gAdd (dVar 6) (dPopAt 3 (dOp gIdx (dLst (dCons (dC (.int 0)) (dCons (dFnS p__law_pick 0 (dCons (dLenV 3) dNil)) dNil))) (dFnS p__law_pick 0 (dCons (dC (.int 2)) dNil))))) (dgName 6)) dNext))
      (dAsg (dOp gAdd (dVar 4) (dIf (dTest (dOp gNe (dVar 6) (dC (.str "")))) (dTup (dCons (dVar 6) dNil)) (dTup dNil))) (dgName 4)))))
      (dRet (dVar 4))))
theorem m__law_pad : MoP p__law_pad := fun ds Q Q' W W' hq _ ⟨a, b, e, h1, h2, h3, h4, q⟩ => ⟨a, b, e, h1, h2, h3, h4, fun kp h5 h6 h7 => hq _ (q kp h5 h6 h7)⟩
theorem l__law_pad : ∀ ds Q W, p__law_pad ds Q W → ds.length + 1 = 3 := fun ds Q W ⟨a, b, e, _⟩ => by rw [e]; rfl
abbrev letD (c : Nat) : D := S [c]
/-- letters that are left, keys so far -/
structure PadI (kp : List Tx) (key rest : Tx) : Prop where
  nd : (kp.flatten ++ (key ++ rest)).Nodup
  le : ∀ c ∈ kp.flatten ++ (key ++ rest), 97 ≤ c ∧ c ≤ 122
theorem pop_at {n : Nat} {k : Int} (h0 : 0 ≤ k) (h1 : k < n) : seqIndex? k n = some k.toNat := (ixN_seq (by
  unfold ixN
  rw [if_pos h0, if_pos h1])).1
theorem erase_perm {l : Tx} {j : Nat} (h : j < l.length) : (l[j] :: l.eraseIdx j).Perm l := by
  induction l generalizing j with
  | nil => cases h
  | cons x l ih =>
    cases j with
    | zero => exact List.Perm.refl _
    | succ j =>
      rw [List.getElem_cons_succ, List.eraseIdx_cons_succ]
      exact (List.Perm.swap x _ _).trans ((ih (by simpa using h)).cons x)
theorem PadI.pop {kp : List Tx} {key rest : Tx} (h : PadI kp key rest) {j : Nat} (hj : j < rest.length) : PadI kp (key ++ [rest[j]]) (rest.eraseIdx j) := by
  have p : (kp.flatten ++ (key ++ [rest[j]] ++ rest.eraseIdx j)).Perm (kp.flatten ++ (key ++ rest)) := by
    rw [List.append_assoc]
    exact ((erase_perm hj).append_left key).append_left _
  exact ⟨p.nodup_iff.mpr h.nd, fun c hc => h.le c (p.mem_iff.mp hc)⟩
theorem erase_map {α β : Type} (f : α → β) : ∀ (l : List α) (j : Nat), (l.map f).eraseIdx j = (l.eraseIdx j).map f
  | [], _ => rfl
  | _ :: _, 0 => rfl
  | x :: l, j + 1 => by
    rw [List.map_cons, List.eraseIdx_cons_succ, List.eraseIdx_cons_succ, List.map_cons, erase_map f l j]
theorem PadI.lett {kp : List Tx} {key rest : Tx} (h : PadI kp key rest) : Lett rest := fun c hc => h.le c (by simp [hc])
theorem shp_rest {rest : Tx} (h : Lett rest) : Shp 1 (.list (rest.map letD)) := shp_list (shp_map fun c hc => shp_S fun d hd => by
  simp at hd
  subst hd
  exact h _ hc)
theorem D__law_pad (q : Addr) (ds : List D) (Q : D → Prop) (h : p__law_pad ds Q noW) : t__law_pad noW (endsS q Q) (startSS n__law_pad q ds) := by
  obtain ⟨most, wide, rfl, h1, h2, h3, h4, hQ⟩ := h
  show t__law_pad noW (endsS q Q) [.src q, .va (.int most), .va (.int wide), .no, .no, .no, .no, .no]
  simp only [t__law_pad, dRet, dRetN, dAnd, dOr, dNot, dTest, dTAnd, dTOr, dTNot, dIf, dChain, dUn, dOp, dCall, dC, dVar, dCons, dNil, dTup, dLst, dSeq, dIfS, dAsg, dgName, dgNil, dPar, dParEO, dParOE, dParOO, dFor, dIter, dNext, dBreak, dCont, dDrop, dRaise, dFn, dFnS, dFnO, dM1, dLc, dSl, dSlV, dRevV, dLenV, dIdxV, dApp, dSetI, dPopAt, dCmpV, dOwn, dOwnV, dRetO, dRng1, dRng2, dRng3, dPNo, dPSo, dYes, dLenSet, dScrLen, dScrIdx, dSrcIdx, dSrcSet, dNewSrc, oLst, oRep, oListStr, gEq, gNe, gIsN, gNotN, gIsB, gNotB, gIsi, sg, List.getD_cons_zero, List.getD_cons_succ, List.set_cons_zero, List.set_cons_succ, if_true, if_false, reduceIte, endsD, endsS, endsO, endsN, endsL, asB_b, asI_i, asL_l, itemsP_l, itemsP_t, itemsP_s, itemsP_d, gAdd_i, gAdd_s, gAdd_t, gAdd_l, gI2_i, gMul_i, gMul_t, gMul_l, gMul_s, gNeg_i, gLen_s, gLen_l, gLen_t, gL1_1, gAll_l, gSum_l, gI2L_i, gMaxL_l, gMinL_l, gJoin_l, gJoin_t, gSl_l, gSl_t, gSl_s, gRev_l, wipeS, unwipe, keepV, gIdx_l, gIdx_t, gIdx_s, gIdx_d, dVarD, dDNew, dDNewT, dDPut, dDGetV, dDInV, dDEmpty, dDOne, dOwnD, dParED, dPar3, dEnum, dZip, dgTup_t, dgCons_c, dIsE, gSplit, dZipH, dM1, Bool.not_eq_true', Bool.not_eq_false', decide_eq_true_eq, decide_eq_false_iff_not, Bool.and_eq_true, Bool.or_eq_true, Bool.not_true, Bool.not_false, Bool.false_eq_true, reduceCtorEq, decide_true, decide_false]
  refine ⟨tx alpha, by rw [alpha_eq], by rw [tx_size]; decide, by decide, trivial, most, rfl, by omega, by omega, fun r r0 r1 => ?_⟩
  rw [chars_tx]
  refine ⟨by omega, ?_⟩
  unfold rng1
  refine for_rng (fun i ρ => ∃ kp rest x5 x6 x7, ρ = [.src q, .va (.int most), .va (.int wide), .ow (rest.map letD), .va (Kd kp), x5, x6, x7] ∧ PadI kp [] rest ∧ kp.length ≤ i ∧ (∀ k ∈ kp, 1 ≤ k.length ∧ (k.length : Int) ≤ wide) ∧ (kp = [] → i = 0 ∧ rest ≠ [])) ⟨[], alpha, _, _, _, rfl, ⟨by decide, fun c hc => mem_alpha.mp (by simpa using hc)⟩, Nat.le_refl _, (fun _ h => nomatch h), fun _ => ⟨rfl, by decide⟩⟩ (fun i hi ρ ⟨kp, rest, x5, x6, x7, hρ, hI, hl, hk, he⟩ N hN => ?_) (fun ρ ⟨kp, rest, x5, x6, x7, hρ, hI, hl, hk, he⟩ => ?_)
  · subst hρ
    simp only [dRet, dRetN, dAnd, dOr, dNot, dTest, dTAnd, dTOr, dTNot, dIf, dChain, dUn, dOp, dCall, dC, dVar, dCons, dNil, dTup, dLst, dSeq, dIfS, dAsg, dgName, dgNil, dPar, dParEO, dParOE, dParOO, dFor, dIter, dNext, dBreak, dCont, dDrop, dRaise, dFn, dFnS, dFnO, dM1, dLc, dSl, dSlV, dRevV, dLenV, dIdxV, dApp, dSetI, dPopAt, dCmpV, dOwn, dOwnV, dRetO, dRng1, dRng2, dRng3, dPNo, dPSo, dYes, dLenSet, dScrLen, dScrIdx, dSrcIdx, dSrcSet, dNewSrc, oLst, oRep, oListStr, gEq, gNe, gIsN, gNotN, gIsB, gNotB, gIsi, sg, List.getD_cons_zero, List.getD_cons_succ, List.set_cons_zero, List.set_cons_succ, if_true, if_false, reduceIte, endsD, endsS, endsO, endsN, endsL, asB_b, asI_i, asL_l, itemsP_l, itemsP_t, itemsP_s, itemsP_d, gAdd_i, gAdd_s, gAdd_t, gAdd_l, gI2_i, gMul_i, gMul_t, gMul_l, gMul_s, gNeg_i, gLen_s, gLen_l, gLen_t, gL1_1, gAll_l, gSum_l, gI2L_i, gMaxL_l, gMinL_l, gJoin_l, gJoin_t, gSl_l, gSl_t, gSl_s, gRev_l, wipeS, unwipe, keepV, gIdx_l, gIdx_t, gIdx_s, gIdx_d, dVarD, dDNew, dDNewT, dDPut, dDGetV, dDInV, dDEmpty, dDOne, dOwnD, dParED, dPar3, dEnum, dZip, dgTup_t, dgCons_c, dIsE, gSplit, dZipH, dM1, Bool.not_eq_true', Bool.not_eq_false', decide_eq_true_eq, decide_eq_false_iff_not, Bool.and_eq_true, Bool.or_eq_true, Bool.not_true, Bool.not_false, Bool.false_eq_true, reduceCtorEq, decide_true, decide_false]
    refine ⟨trivial, wide, rfl, by omega, by omega, fun s s0 s1 => ⟨by omega, ?_⟩⟩
    rw [empty_eq]
    refine for_rng (fun j ρ => ∃ key rest' x5 x7, ρ = [.src q, .va (.int most), .va (.int wide), .ow (rest'.map letD), .va (Kd kp), x5, .va (S key), x7] ∧ PadI kp key rest' ∧ key.length ≤ j ∧ (key = [] → j = 0 ∧ rest' = rest ∨ rest = [])) ⟨[], rest, _, _, rfl, hI, Nat.le_refl _, fun _ => .inl ⟨rfl, rfl⟩⟩ (fun j hj ρ ⟨key, rest', y5, y7, hρ, hI', hl', he'⟩ M hM => ?_) (fun ρ ⟨key, rest', y5, y7, hρ, hI', hl', he'⟩ => ?_)
    · subst hρ
      simp only [dRet, dRetN, dAnd, dOr, dNot, dTest, dTAnd, dTOr, dTNot, dIf, dChain, dUn, dOp, dCall, dC, dVar, dCons, dNil, dTup, dLst, dSeq, dIfS, dAsg, dgName, dgNil, dPar, dParEO, dParOE, dParOO, dFor, dIter, dNext, dBreak, dCont, dDrop, dRaise, dFn, dFnS, dFnO, dM1, dLc, dSl, dSlV, dRevV, dLenV, dIdxV, dApp, dSetI, dPopAt, dCmpV, dOwn, dOwnV, dRetO, dRng1, dRng2, dRng3, dPNo, dPSo, dYes, dLenSet, dScrLen, dScrIdx, dSrcIdx, dSrcSet, dNewSrc, oLst, oRep, oListStr, gEq, gNe, gIsN, gNotN, gIsB, gNotB, gIsi, sg, List.getD_cons_zero, List.getD_cons_succ, List.set_cons_zero, List.set_cons_succ, if_true, if_false, reduceIte, endsD, endsS, endsO, endsN, endsL, asB_b, asI_i, asL_l, itemsP_l, itemsP_t, itemsP_s, itemsP_d, gAdd_i, gAdd_s, gAdd_t, gAdd_l, gI2_i, gMul_i, gMul_t, gMul_l, gMul_s, gNeg_i, gLen_s, gLen_l, gLen_t, gL1_1, gAll_l, gSum_l, gI2L_i, gMaxL_l, gMinL_l, gJoin_l, gJoin_t, gSl_l, gSl_t, gSl_s, gRev_l, wipeS, unwipe, keepV, gIdx_l, gIdx_t, gIdx_s, gIdx_d, dVarD, dDNew, dDNewT, dDPut, dDGetV, dDInV, dDEmpty, dDOne, dOwnD, dParED, dPar3, dEnum, dZip, dgTup_t, dgCons_c, dIsE, gSplit, dZipH, dM1, Bool.not_eq_true', Bool.not_eq_false', decide_eq_true_eq, decide_eq_false_iff_not, Bool.and_eq_true, Bool.or_eq_true, Bool.not_true, Bool.not_false, Bool.false_eq_true, reduceCtorEq, decide_true, decide_false, eqv_nil, List.map_eq_nil_iff]
      refine ⟨Nat.zero_le _, ⟨(shp_rest hI'.lett).ok, (shp_nil (n := 0)).ok⟩, ?_⟩
      by_cases hr : rest' = []
      · rw [if_neg (fun z => z hr)]
        exact hM _ ⟨key, rest', _, _, rfl, hI', by omega, fun hz => by
          rcases he' hz with ⟨_, e⟩ | e
          · exact .inr (by rw [← e, hr])
          · exact .inr e⟩
      · rw [if_pos hr]
        have hp : 0 < rest'.length := List.length_pos_iff.mpr hr
        have hb26 : rest'.length < 1073741824 := by
          have hs : rest'.length ≤ 26 := nodup_len 97 26 rest' ((List.nodup_append.mp (List.nodup_append.mp hI'.nd).2.1).2.1) fun c hc => by
            have := hI'.lett c hc
            omega
          omega
        simp only [List.length_map]
        refine ⟨trivial, _, rfl, by omega, by omega, fun u u0 u1 => ⟨le2, trivial, 2, rfl, by omega, by omega, fun v v0 v1 => ?_⟩⟩
        have hv : v = 0 ∨ v = 1 := by omega
        have fin : ∀ k : Int, 0 ≤ k → k < rest'.length → (-2 ^ 63 ≤ k ∧ k < 2 ^ 63) ∧ ∃ j1 v1, seqIndex? k rest'.length = some j1 ∧ (rest'.map letD)[j1]? = some v1 ∧ gAdd (S key) v1 fun d => M [.src q, .va (.int most), .va (.int wide), .ow ((rest'.map letD).eraseIdx j1), .va (Kd kp), y5, .va d, .va (.int (0 + (j : Int)))] := by
          intro k k0 k1
          refine ⟨⟨by omega, by omega⟩, k.toNat, letD (rest'[k.toNat]'(by omega)), pop_at k0 k1, ?_, ?_⟩
          · rw [List.getElem?_map, List.getElem?_eq_getElem (by omega)]
            rfl
          · simp only [gAdd_s, tx_append, tx_length]
            refine ⟨?_, hM _ ⟨key ++ [rest'[k.toNat]'(by omega)], rest'.eraseIdx k.toNat, y5, .va (.int (0 + (j : Int))), ?_, hI'.pop (by omega), ?_, fun z => ?_⟩⟩
            · exact small_le (by simp; omega)
            · rw [erase_map]
            · rw [List.length_append, List.length_singleton]
              omega
            · simp at z
        rcases hv with rfl | rfl
        · refine ⟨.int 0, rfl, ?_⟩
          simp only [dRet, dRetN, dAnd, dOr, dNot, dTest, dTAnd, dTOr, dTNot, dIf, dChain, dUn, dOp, dCall, dC, dVar, dCons, dNil, dTup, dLst, dSeq, dIfS, dAsg, dgName, dgNil, dPar, dParEO, dParOE, dParOO, dFor, dIter, dNext, dBreak, dCont, dDrop, dRaise, dFn, dFnS, dFnO, dM1, dLc, dSl, dSlV, dRevV, dLenV, dIdxV, dApp, dSetI, dPopAt, dCmpV, dOwn, dOwnV, dRetO, dRng1, dRng2, dRng3, dPNo, dPSo, dYes, dLenSet, dScrLen, dScrIdx, dSrcIdx, dSrcSet, dNewSrc, oLst, oRep, oListStr, gEq, gNe, gIsN, gNotN, gIsB, gNotB, gIsi, sg, List.getD_cons_zero, List.getD_cons_succ, List.set_cons_zero, List.set_cons_succ, if_true, if_false, reduceIte, endsD, endsS, endsO, endsN, endsL, asB_b, asI_i, asL_l, itemsP_l, itemsP_t, itemsP_s, itemsP_d, gAdd_i, gAdd_s, gAdd_t, gAdd_l, gI2_i, gMul_i, gMul_t, gMul_l, gMul_s, gNeg_i, gLen_s, gLen_l, gLen_t, gL1_1, gAll_l, gSum_l, gI2L_i, gMaxL_l, gMinL_l, gJoin_l, gJoin_t, gSl_l, gSl_t, gSl_s, gRev_l, wipeS, unwipe, keepV, gIdx_l, gIdx_t, gIdx_s, gIdx_d, dVarD, dDNew, dDNewT, dDPut, dDGetV, dDInV, dDEmpty, dDOne, dOwnD, dParED, dPar3, dEnum, dZip, dgTup_t, dgCons_c, dIsE, gSplit, dZipH, dM1]
          exact fin 0 (by omega) (by omega)
        · refine ⟨.int u, rfl, ?_⟩
          simp only [dRet, dRetN, dAnd, dOr, dNot, dTest, dTAnd, dTOr, dTNot, dIf, dChain, dUn, dOp, dCall, dC, dVar, dCons, dNil, dTup, dLst, dSeq, dIfS, dAsg, dgName, dgNil, dPar, dParEO, dParOE, dParOO, dFor, dIter, dNext, dBreak, dCont, dDrop, dRaise, dFn, dFnS, dFnO, dM1, dLc, dSl, dSlV, dRevV, dLenV, dIdxV, dApp, dSetI, dPopAt, dCmpV, dOwn, dOwnV, dRetO, dRng1, dRng2, dRng3, dPNo, dPSo, dYes, dLenSet, dScrLen, dScrIdx, dSrcIdx, dSrcSet, dNewSrc, oLst, oRep, oListStr, gEq, gNe, gIsN, gNotN, gIsB, gNotB, gIsi, sg, List.getD_cons_zero, List.getD_cons_succ, List.set_cons_zero, List.set_cons_succ, if_true, if_false, reduceIte, endsD, endsS, endsO, endsN, endsL, asB_b, asI_i, asL_l, itemsP_l, itemsP_t, itemsP_s, itemsP_d, gAdd_i, gAdd_s, gAdd_t, gAdd_l, gI2_i, gMul_i, gMul_t, gMul_l, gMul_s, gNeg_i, gLen_s, gLen_l, gLen_t, gL1_1, gAll_l, gSum_l, gI2L_i, gMaxL_l, gMinL_l, gJoin_l, gJoin_t, gSl_l, gSl_t, gSl_s, gRev_l, wipeS, unwipe, keepV, gIdx_l, gIdx_t, gIdx_s, gIdx_d, dVarD, dDNew, dDNewT, dDPut, dDGetV, dDInV, dDEmpty, dDOne, dOwnD, dParED, dPar3, dEnum, dZip, dgTup_t, dgCons_c, dIsE, gSplit, dZipH, dM1]
          exact fin u u0 u1
    · subst hρ
      have hj1 : 0 < (1 + s).toNat := by omega
      have hkl : key.length ≤ 6 := by omega
      simp only [dRet, dRetN, dAnd, dOr, dNot, dTest, dTAnd, dTOr, dTNot, dIf, dChain, dUn, dOp, dCall, dC, dVar, dCons, dNil, dTup, dLst, dSeq, dIfS, dAsg, dgName, dgNil, dPar, dParEO, dParOE, dParOO, dFor, dIter, dNext, dBreak, dCont, dDrop, dRaise, dFn, dFnS, dFnO, dM1, dLc, dSl, dSlV, dRevV, dLenV, dIdxV, dApp, dSetI, dPopAt, dCmpV, dOwn, dOwnV, dRetO, dRng1, dRng2, dRng3, dPNo, dPSo, dYes, dLenSet, dScrLen, dScrIdx, dSrcIdx, dSrcSet, dNewSrc, oLst, oRep, oListStr, gEq, gNe, gIsN, gNotN, gIsB, gNotB, gIsi, sg, List.getD_cons_zero, List.getD_cons_succ, List.set_cons_zero, List.set_cons_succ, if_true, if_false, reduceIte, endsD, endsS, endsO, endsN, endsL, asB_b, asI_i, asL_l, itemsP_l, itemsP_t, itemsP_s, itemsP_d, gAdd_i, gAdd_s, gAdd_t, gAdd_l, gI2_i, gMul_i, gMul_t, gMul_l, gMul_s, gNeg_i, gLen_s, gLen_l, gLen_t, gL1_1, gAll_l, gSum_l, gI2L_i, gMaxL_l, gMinL_l, gJoin_l, gJoin_t, gSl_l, gSl_t, gSl_s, gRev_l, wipeS, unwipe, keepV, gIdx_l, gIdx_t, gIdx_s, gIdx_d, dVarD, dDNew, dDNewT, dDPut, dDGetV, dDInV, dDEmpty, dDOne, dOwnD, dParED, dPar3, dEnum, dZip, dgTup_t, dgCons_c, dIsE, gSplit, dZipH, dM1, Bool.not_eq_true', Bool.not_eq_false', decide_eq_true_eq, decide_eq_false_iff_not, Bool.and_eq_true, Bool.or_eq_true, Bool.not_true, Bool.not_false, Bool.false_eq_true, reduceCtorEq, decide_true, decide_false, eqv_S]
      have hl9 : kp.length + 1 ≤ sizeLine := small_le (by omega)
      refine ⟨rfl, ?_⟩
      by_cases hkey : key = []
      · rw [if_neg (fun z => z hkey)]
        subst hkey
        have hre : rest = [] := by
          rcases he' rfl with ⟨z, _⟩ | z
          · omega
          · exact z
        refine ⟨Nat.zero_le _, by rw [List.length_map]; show kp.length + 0 ≤ _; omega, hN _ ⟨kp, rest', y5, .va (S []), y7, ?_, hI', by omega, hk, fun z => absurd hre (he z).2⟩⟩
        rw [List.append_nil]
      · rw [if_pos hkey]
        refine ⟨le1, by rw [List.length_map]; exact hl9, hN _ ⟨kp ++ [key], rest', y5, .va (S key), y7, ?_, ?_, by rw [List.length_append]; show kp.length + 1 ≤ _; omega, fun k h => ?_, fun z => ?_⟩⟩
        · rw [Kd, List.map_append]
          rfl
        · have e : (kp ++ [key]).flatten ++ ([] ++ rest') = kp.flatten ++ (key ++ rest') := by simp
          exact ⟨by rw [e]; exact hI'.nd, by rw [e]; exact hI'.le⟩
        · rcases List.mem_append.mp h with h | h
          · exact hk k h
          · simp at h
            subst h
            exact ⟨List.length_pos_iff.mpr hkey, by omega⟩
        · simp at z
  · subst hρ
    refine ⟨rfl, hQ kp ⟨?_, by omega, fun k h => (hk k h).1, fun k h => by have := (hk k h).2; omega, fun k h c hc => hI.le c (List.mem_append.mpr (.inl (List.mem_flatten.mpr ⟨k, h, hc⟩))), (List.nodup_append.mp hI.nd).1⟩ (by omega) fun k h => (hk k h).2⟩
    cases kp with
    | nil =>
      have := (he rfl).1
      omega
    | cons x r => exact Nat.le_add_left _ _
/-! _law_log -/
abbrev n__law_log : List Str := ["source", "pad", "most", "found", "key", "turn"]
def p__law_log : DP := fun ds Q _ => ∃ kp most, ds = [Kd kp, .int most] ∧ KpOk kp ∧ 0 ≤ most ∧ most ≤ 40 ∧ ∀ l, LogOk kp.length l → (l.length : Int) ≤ most → Q (Ld l)
def t__law_log (W : Str → Prop) : DS := (dSeq (dAsg (dTup (dCons (dTup dNil) (dCons (dC (.int 0)) dNil))) (dgTup (dgCons (dgName 3) (dgCons (dgName 4) dgNil))))
      (dSeq (dFor (dRng1 (dCons (dFnS p__law_pick 0 (dCons (dOp gAdd (dVar 2) (dC (.int 1))) dNil)) dNil)) (dgName 5) (dSeq (dAsg (dIf (dTest (dOp gGt (dFnS p__law_pick 0 (dCons (dC (.int 3)) dNil)) (dC (.int 0)))) (dVar 4) (dFnS p__law_pick 0 (dCons (dCall (gL1 gLen) (dCons (dVar 1) dNil)) dNil))) (dgName 4))
      (dAsg (dOp gAdd (dVar 3) (dTup (dCons (dVar 4) dNil))) (dgName 3))))
      (dRet (dVar 3))))
theorem m__law_log : MoP p__law_log := fun ds Q Q' W W' hq _ ⟨a, b, e, h1, h2, h3, q⟩ => ⟨a, b, e, h1, h2, h3, fun kp h5 h6 => hq _ (q kp h5 h6)⟩
theorem l__law_log : ∀ ds Q W, p__law_log ds Q W → ds.length + 1 = 3 := fun ds Q W ⟨a, b, e, _⟩ => by rw [e]; rfl
theorem D__law_log (q : Addr) (ds : List D) (Q : D → Prop) (h : p__law_log ds Q noW) : t__law_log noW (endsS q Q) (startSS n__law_log q ds) := by
  obtain ⟨kp, most, rfl, hk, h1, h2, hQ⟩ := h
  show t__law_log noW (endsS q Q) [.src q, .va (Kd kp), .va (.int most), .no, .no, .no]
  simp only [t__law_log, dRet, dRetN, dAnd, dOr, dNot, dTest, dTAnd, dTOr, dTNot, dIf, dChain, dUn, dOp, dCall, dC, dVar, dCons, dNil, dTup, dLst, dSeq, dIfS, dAsg, dgName, dgNil, dPar, dParEO, dParOE, dParOO, dFor, dIter, dNext, dBreak, dCont, dDrop, dRaise, dFn, dFnS, dFnO, dM1, dLc, dSl, dSlV, dRevV, dLenV, dIdxV, dApp, dSetI, dPopAt, dCmpV, dOwn, dOwnV, dRetO, dRng1, dRng2, dRng3, dPNo, dPSo, dYes, dLenSet, dScrLen, dScrIdx, dSrcIdx, dSrcSet, dNewSrc, oLst, oRep, oListStr, gEq, gNe, gIsN, gNotN, gIsB, gNotB, gIsi, sg, List.getD_cons_zero, List.getD_cons_succ, List.set_cons_zero, List.set_cons_succ, if_true, if_false, reduceIte, endsD, endsS, endsO, endsN, endsL, asB_b, asI_i, asL_l, itemsP_l, itemsP_t, itemsP_s, itemsP_d, gAdd_i, gAdd_s, gAdd_t, gAdd_l, gI2_i, gMul_i, gMul_t, gMul_l, gMul_s, gNeg_i, gLen_s, gLen_l, gLen_t, gL1_1, gAll_l, gSum_l, gI2L_i, gMaxL_l, gMinL_l, gJoin_l, gJoin_t, gSl_l, gSl_t, gSl_s, gRev_l, wipeS, unwipe, keepV, gIdx_l, gIdx_t, gIdx_s, gIdx_d, dVarD, dDNew, dDNewT, dDPut, dDGetV, dDInV, dDEmpty, dDOne, dOwnD, dParED, dPar3, dEnum, dZip, dgTup_t, dgCons_c, dIsE, gSplit, dZipH, dM1, Bool.not_eq_true', Bool.not_eq_false', decide_eq_true_eq, decide_eq_false_iff_not, Bool.and_eq_true, Bool.or_eq_true, Bool.not_true, Bool.not_false, Bool.false_eq_true, reduceCtorEq, decide_true, decide_false]
  refine ⟨Nat.zero_le _, le2, trivial, trivial, most + 1, rfl, by omega, by omega, fun r r0 r1 => ?_⟩
  simp only [dRet, dRetN, dAnd, dOr, dNot, dTest, dTAnd, dTOr, dTNot, dIf, dChain, dUn, dOp, dCall, dC, dVar, dCons, dNil, dTup, dLst, dSeq, dIfS, dAsg, dgName, dgNil, dPar, dParEO, dParOE, dParOO, dFor, dIter, dNext, dBreak, dCont, dDrop, dRaise, dFn, dFnS, dFnO, dM1, dLc, dSl, dSlV, dRevV, dLenV, dIdxV, dApp, dSetI, dPopAt, dCmpV, dOwn, dOwnV, dRetO, dRng1, dRng2, dRng3, dPNo, dPSo, dYes, dLenSet, dScrLen, dScrIdx, dSrcIdx, dSrcSet, dNewSrc, oLst, oRep, oListStr, gEq, gNe, gIsN, gNotN, gIsB, gNotB, gIsi, sg, List.getD_cons_zero, List.getD_cons_succ, List.set_cons_zero, List.set_cons_succ, if_true, if_false, reduceIte, endsD, endsS, endsO, endsN, endsL, asB_b, asI_i, asL_l, itemsP_l, itemsP_t, itemsP_s, itemsP_d, gAdd_i, gAdd_s, gAdd_t, gAdd_l, gI2_i, gMul_i, gMul_t, gMul_l, gMul_s, gNeg_i, gLen_s, gLen_l, gLen_t, gL1_1, gAll_l, gSum_l, gI2L_i, gMaxL_l, gMinL_l, gJoin_l, gJoin_t, gSl_l, gSl_t, gSl_s, gRev_l, wipeS, unwipe, keepV, gIdx_l, gIdx_t, gIdx_s, gIdx_d, dVarD, dDNew, dDNewT, dDPut, dDGetV, dDInV, dDEmpty, dDOne, dOwnD, dParED, dPar3, dEnum, dZip, dgTup_t, dgCons_c, dIsE, gSplit, dZipH, dM1]
  refine ⟨by omega, ?_⟩
  unfold rng1
  have hk1 := hk.l1
  have hk2 := hk.l2
  refine for_rng (fun i ρ => ∃ l key x5, ρ = [.src q, .va (Kd kp), .va (.int most), .va (Ld l), .va (.int key), x5] ∧ l.length = i ∧ LogOk kp.length l ∧ 0 ≤ key ∧ key < kp.length) ⟨[], 0, _, rfl, rfl, ⟨by decide, fun _ z => nomatch z⟩, by omega, by omega⟩ (fun i hi ρ ⟨l, key, x5, hρ, hl, ok, k0, k1⟩ N hN => ?_) (fun ρ ⟨l, key, x5, hρ, hl, ok, k0, k1⟩ => ?_)
  · subst hρ
    simp only [dRet, dRetN, dAnd, dOr, dNot, dTest, dTAnd, dTOr, dTNot, dIf, dChain, dUn, dOp, dCall, dC, dVar, dCons, dNil, dTup, dLst, dSeq, dIfS, dAsg, dgName, dgNil, dPar, dParEO, dParOE, dParOO, dFor, dIter, dNext, dBreak, dCont, dDrop, dRaise, dFn, dFnS, dFnO, dM1, dLc, dSl, dSlV, dRevV, dLenV, dIdxV, dApp, dSetI, dPopAt, dCmpV, dOwn, dOwnV, dRetO, dRng1, dRng2, dRng3, dPNo, dPSo, dYes, dLenSet, dScrLen, dScrIdx, dSrcIdx, dSrcSet, dNewSrc, oLst, oRep, oListStr, gEq, gNe, gIsN, gNotN, gIsB, gNotB, gIsi, sg, List.getD_cons_zero, List.getD_cons_succ, List.set_cons_zero, List.set_cons_succ, if_true, if_false, reduceIte, endsD, endsS, endsO, endsN, endsL, asB_b, asI_i, asL_l, itemsP_l, itemsP_t, itemsP_s, itemsP_d, gAdd_i, gAdd_s, gAdd_t, gAdd_l, gI2_i, gMul_i, gMul_t, gMul_l, gMul_s, gNeg_i, gLen_s, gLen_l, gLen_t, gL1_1, gAll_l, gSum_l, gI2L_i, gMaxL_l, gMinL_l, gJoin_l, gJoin_t, gSl_l, gSl_t, gSl_s, gRev_l, wipeS, unwipe, keepV, gIdx_l, gIdx_t, gIdx_s, gIdx_d, dVarD, dDNew, dDNewT, dDPut, dDGetV, dDInV, dDEmpty, dDOne, dOwnD, dParED, dPar3, dEnum, dZip, dgTup_t, dgCons_c, dIsE, gSplit, dZipH, dM1, Bool.not_eq_true', Bool.not_eq_false', decide_eq_true_eq, decide_eq_false_iff_not, Bool.and_eq_true, Bool.or_eq_true, Bool.not_true, Bool.not_false, Bool.false_eq_true, reduceCtorEq, decide_true, decide_false]
    have fin : ∀ k : Int, 0 ≤ k → k < kp.length → [PyData.int k].length ≤ sizeLine ∧ (l.map PyData.int).length + [PyData.int k].length ≤ sizeLine ∧ N [.src q, .va (Kd kp), .va (.int most), .va (.tuple (l.map PyData.int ++ [.int k])), .va (.int k), .va (.int (0 + (i : Int)))] := fun k h0 h1 => by
      refine ⟨le1, ?_, hN _ ⟨l ++ [k], k, .va (.int (0 + (i : Int))), ?_, by rw [List.length_append, hl]; rfl, ⟨by rw [List.length_append]; show l.length + 1 ≤ 40; omega, fun c hc => ?_⟩, h0, h1⟩⟩
      · rw [List.length_map]
        exact small_le (by simp; omega)
      · rw [Ld, List.map_append]
        rfl
      · rcases List.mem_append.mp hc with hc | hc
        · exact ok.key c hc
        · simp at hc
          subst hc
          exact ⟨h0, h1⟩
    refine ⟨trivial, 3, rfl, by omega, by omega, fun s s0 s1 => ?_⟩
    simp only [dRet, dRetN, dAnd, dOr, dNot, dTest, dTAnd, dTOr, dTNot, dIf, dChain, dUn, dOp, dCall, dC, dVar, dCons, dNil, dTup, dLst, dSeq, dIfS, dAsg, dgName, dgNil, dPar, dParEO, dParOE, dParOO, dFor, dIter, dNext, dBreak, dCont, dDrop, dRaise, dFn, dFnS, dFnO, dM1, dLc, dSl, dSlV, dRevV, dLenV, dIdxV, dApp, dSetI, dPopAt, dCmpV, dOwn, dOwnV, dRetO, dRng1, dRng2, dRng3, dPNo, dPSo, dYes, dLenSet, dScrLen, dScrIdx, dSrcIdx, dSrcSet, dNewSrc, oLst, oRep, oListStr, gEq, gNe, gIsN, gNotN, gIsB, gNotB, gIsi, sg, List.getD_cons_zero, List.getD_cons_succ, List.set_cons_zero, List.set_cons_succ, if_true, if_false, reduceIte, endsD, endsS, endsO, endsN, endsL, asB_b, asI_i, asL_l, itemsP_l, itemsP_t, itemsP_s, itemsP_d, gAdd_i, gAdd_s, gAdd_t, gAdd_l, gI2_i, gMul_i, gMul_t, gMul_l, gMul_s, gNeg_i, gLen_s, gLen_l, gLen_t, gL1_1, gAll_l, gSum_l, gI2L_i, gMaxL_l, gMinL_l, gJoin_l, gJoin_t, gSl_l, gSl_t, gSl_s, gRev_l, wipeS, unwipe, keepV, gIdx_l, gIdx_t, gIdx_s, gIdx_d, dVarD, dDNew, dDNewT, dDPut, dDGetV, dDInV, dDEmpty, dDOne, dOwnD, dParED, dPar3, dEnum, dZip, dgTup_t, dgCons_c, dIsE, gSplit, dZipH, dM1, Bool.not_eq_true', Bool.not_eq_false', decide_eq_true_eq, decide_eq_false_iff_not, Bool.and_eq_true, Bool.or_eq_true, Bool.not_true, Bool.not_false, Bool.false_eq_true, reduceCtorEq, decide_true, decide_false]
    refine ⟨trivial, ?_⟩
    by_cases hs : 0 < s
    · rw [if_pos hs]
      exact fin key k0 k1
    · rw [if_neg hs]
      rw [List.length_map]
      exact ⟨trivial, _, rfl, by omega, by omega, fun u u0 u1 => fin u u0 u1⟩
  · subst hρ
    exact ⟨rfl, hQ l ok (by omega)⟩
/-! _law_runs -/
abbrev n__law_runs : List Str := ["log", "found", "key"]
abbrev p__law_runs : DP := p_runs_of
abbrev t__law_runs : (Str → Prop) → DS := t_runs_of
theorem m__law_runs : MoP p__law_runs := m_runs_of
theorem l__law_runs : ∀ ds Q W, p__law_runs ds Q W → ds.length = 1 := l_runs_of
theorem D__law_runs (W : Str → Prop) (ds : List D) (Q : D → Prop) (h : p__law_runs ds Q W) : t__law_runs W (endsD Q) (startS n__law_runs ds) := D_runs_of W ds Q h
theorem runs_snoc (l : List Int) (k : Int) : runs (l ++ [k]) = addN (runs l) k 1 := by
  unfold runs
  rw [List.foldl_append]
  rfl
theorem fold_rep (f : List Run) (k c : Int) : ∀ n : Nat, (List.replicate n k).foldl (fun f k => addN f k 1) (f ++ [(k, c)]) = f ++ [(k, c + n)]
  | 0 => by simp
  | n + 1 => by
    rw [List.replicate_succ, List.foldl_cons, addN_app, if_pos rfl, fold_rep f k (c + 1) n]
    congr 3
    omega
theorem runs_rep (k : Int) {n : Nat} (hn : 1 ≤ n) : runs (List.replicate n k) = [(k, (n : Int))] := by
  obtain ⟨j, rfl⟩ : ∃ j, n = j + 1 := ⟨n - 1, by omega⟩
  unfold runs
  rw [List.replicate_succ, List.foldl_cons, addN_nil]
  have := fold_rep [] k 1 j
  rw [List.nil_append] at this
  rw [this, List.nil_append]
  congr 2
  omega
theorem rep_Ld (k : Int) (n : Nat) : (List.replicate n [PyData.int k]).flatten = (List.replicate n k).map .int := by
  induction n with
  | zero => rfl
  | succ n ih => rw [List.replicate_succ, List.flatten_cons, ih, List.replicate_succ]; rfl
theorem log_rep {n m : Nat} {k : Int} (hm : m ≤ 40) (h0 : 0 ≤ k) (h1 : k < n) : LogOk n (List.replicate m k) := ⟨by rw [List.length_replicate]; exact hm, fun c hc => by
  rw [List.eq_of_mem_replicate hc]
  exact ⟨h0, h1⟩⟩
theorem call_count {kp : List Tx} {l : List Int} {Q : D → Prop} (hk : KpOk kp) (hl : LogOk kp.length l) (q : Q (.int (cnt kp (runs l)))) : p_count_texts [Kd kp, Ld l] Q noW := by
  refine ⟨Kd kp, Ld l, rfl, hk.okT, okT_Ld l, (fun e => by rw [hk.isKp] at e; cases e), fun kp' e hk' => ?_⟩
  have e1 : kp' = kp := by
    have h : kp.map S = kp'.map S := PyData.tuple.inj e
    exact (List.map_inj_right (fun a b h => tx_inj (PyData.str.inj h))).mp h.symm
  subst e1
  refine ⟨(fun e => by rw [hl.isLog] at e; cases e), fun l' e' hl' => ?_⟩
  have e2 : l' = l := by
    have h : l.map PyData.int = l'.map PyData.int := PyData.tuple.inj e'
    exact (List.map_inj_right (fun a b h => PyData.int.inj h)).mp h.symm
  subst e2
  exact q
theorem len_key {kp : List Tx} (hk : KpOk kp) {k : Int} (h0 : 0 ≤ k) (h1 : k < kp.length) : 1 ≤ (keyAt kp k).length ∧ (keyAt kp k).length ≤ 6 := ⟨hk.k1 _ (key_mem h0 h1), hk.k6 _ (key_mem h0 h1)⟩
end LW

namespace LW
open PySem PySem.Spec PyProof.Rows L2 DL
/-! places -/
theorem enumD_map {α : Type} (f : α → D) : ∀ (xs : List α) (i : Nat), enumD i (xs.map f) = (xs.zipIdx i).map fun p => .tuple [.int (p.2 : Nat), f p.1]
  | [], i => rfl
  | x :: xs, i => by
    rw [List.map_cons, enumD, List.zipIdx_cons, List.map_cons, enumD_map f xs (i + 1)]
/-- where a letter stands: (key, number) -/
def spot : List Tx → Nat → Nat → Nat × Nat
  | [], _, _ => (0, 0)
  | k :: r, i, c => if c ∈ k then (i, k.idxOf c + 1) else spot r (i + 1) c
def spotD (p : Nat × Nat) : D := .tuple [.int p.1, .int p.2]
/-- letter: (key, number) -/
def rowSp (at_ : Nat) (ks : List (Nat × Nat)) : List (D × D) := ks.map fun p => (S [p.1], spotD (at_, p.2 + 1))
def spots (ks : List (Tx × Nat)) : List (D × D) := ks.flatMap fun p => rowSp p.2 (p.1.zipIdx)
theorem isK_S (l : Tx) : isK (S l) := ⟨.inr (tx l), rfl⟩
theorem keyEq_S (a b : Tx) : keyEq (S a) (S b) = decide (a = b) := by
  show decide (tx a = tx b) = _
  exact decide_eq_decide.mpr tx_eq
theorem lookD_app (xs ys : List (D × D)) (k : D) : lookD (xs ++ ys) k = (lookD xs k).or (lookD ys k) := by
  unfold lookD
  rw [List.find?_append]
  cases xs.find? fun kv => keyEq kv.1 k <;> rfl
theorem look_row (at_ c : Nat) : ∀ (k : Tx) (j : Nat), lookD (rowSp at_ (k.zipIdx j)) (S [c]) = if c ∈ k then some (spotD (at_, j + k.idxOf c + 1)) else none
  | [], j => rfl
  | x :: k, j => by
    rw [List.zipIdx_cons]
    unfold rowSp lookD
    rw [List.map_cons, List.find?_cons, keyEq_S]
    by_cases e : x = c
    · subst e
      simp
    · have ne : ¬ ([x] : Tx) = [c] := fun z => e (List.cons.inj z).1
      rw [decide_eq_false ne]
      have ih := look_row at_ c k (j + 1)
      unfold rowSp lookD at ih
      show (List.find? _ _).map _ = _
      rw [ih]
      have hb : (x == c) = false := beq_eq_false_iff_ne.mpr e
      by_cases hc : c ∈ k
      · have e2 : (x :: k).idxOf c = k.idxOf c + 1 := by
          rw [List.idxOf_cons, hb]
          rfl
        rw [if_pos hc, if_pos (List.mem_cons_of_mem _ hc), e2, show j + 1 + k.idxOf c + 1 = j + (k.idxOf c + 1) + 1 by omega]
      · rw [if_neg hc, if_neg (fun z => by rcases List.mem_cons.mp z with z | z; exact e z.symm; exact hc z)]
theorem look_spots (c : Nat) : ∀ (kp : List Tx) (i : Nat), c ∈ kp.flatten → lookD (spots (kp.zipIdx i)) (S [c]) = some (spotD (spot kp i c))
  | [], i, h => by simp at h
  | k :: kp, i, h => by
    rw [List.zipIdx_cons]
    unfold spots
    rw [List.flatMap_cons, lookD_app, look_row]
    unfold spot
    by_cases hc : c ∈ k
    · rw [if_pos hc, if_pos hc]
      simp
    · rw [if_neg hc, if_neg hc]
      have : c ∈ kp.flatten := by
        rw [List.flatten_cons] at h
        rcases List.mem_append.mp h with h | h
        · exact absurd h hc
        · exact h
      exact look_spots c kp (i + 1) this
theorem hasD_none {kvs : List (D × D)} {c : Nat} (h : ∀ kv ∈ kvs, ∃ d : Nat, kv.1 = S [d] ∧ d ≠ c) : hasD kvs (S [c]) = false := by
  unfold hasD
  rw [List.any_eq_false]
  intro kv hkv
  obtain ⟨d, e, hd⟩ := h kv hkv
  rw [e, keyEq_S, decide_eq_true_eq]
  exact fun z => hd (List.cons.inj z).1
theorem putD_new {kvs : List (D × D)} {k v : D} (h : hasD kvs k = false) : putD kvs k v = kvs ++ [(k, v)] := by
  unfold putD
  rw [h]
  rfl
abbrev n_places : List Str := ["keypad", "found", "at", "key", "number", "letter"]
def p_places : DP := fun ds Q _ => ∃ kp : List Tx, ds = [Kd kp] ∧ kp.flatten.Nodup ∧ kp.flatten.length ≤ 900 ∧ kp.length ≤ 900 ∧ Q (.dict (spots kp.zipIdx))
def t_places (W : Str → Prop) : DS := (dSeq (dDNew 1)
      (dSeq (dFor (dEnum (dVar 0)) (dgTup (dgCons (dgName 2) (dgCons (dgName 3) dgNil))) (dFor (dEnum (dVar 3)) (dgTup (dgCons (dgName 4) (dgCons (dgName 5) dgNil))) (dDPut 1 (dVar 5) (dTup (dCons (dVar 2) (dCons (dOp gAdd (dVar 4) (dC (.int 1))) dNil))))))
      (dRet (dVarD 1))))
theorem m_places : MoP p_places := fun ds Q Q' W W' hq _ ⟨kp, e, h1, h2, h3, q⟩ => ⟨kp, e, h1, h2, h3, hq _ q⟩
theorem l_places : ∀ ds Q W, p_places ds Q W → ds.length = 1 := fun ds Q W ⟨kp, e, _⟩ => by rw [e]; rfl
theorem spots_mem {ks : List (Tx × Nat)} {kv : D × D} (h : kv ∈ spots ks) : ∃ d, kv.1 = S [d] ∧ ∃ p ∈ ks, d ∈ p.1 := by
  obtain ⟨p, hp, h2⟩ := List.mem_flatMap.mp h
  obtain ⟨q, hq, rfl⟩ := List.mem_map.mp h2
  exact ⟨q.1, rfl, p, hp, List.fst_mem_of_mem_zipIdx (x := q) hq⟩
theorem D_places (W : Str → Prop) (ds : List D) (Q : D → Prop) (h : p_places ds Q W) : t_places W (endsD Q) (startS n_places ds) := by
  obtain ⟨kp, rfl, hnd, hl, hl2, q⟩ := h
  show t_places W (endsD Q) [.va (Kd kp), .no, .no, .no, .no, .no]
  simp only [t_places, Kd, dRet, dRetN, dAnd, dOr, dNot, dTest, dTAnd, dTOr, dTNot, dIf, dChain, dUn, dOp, dCall, dC, dVar, dCons, dNil, dTup, dLst, dSeq, dIfS, dAsg, dgName, dgNil, dPar, dParEO, dParOE, dParOO, dFor, dIter, dNext, dBreak, dCont, dDrop, dRaise, dFn, dFnS, dFnO, dM1, dLc, dSl, dSlV, dRevV, dLenV, dIdxV, dApp, dSetI, dPopAt, dCmpV, dOwn, dOwnV, dRetO, dRng1, dRng2, dRng3, dPNo, dPSo, dYes, dLenSet, dScrLen, dScrIdx, dSrcIdx, dSrcSet, dNewSrc, oLst, oRep, oListStr, gEq, gNe, gIsN, gNotN, gIsB, gNotB, gIsi, sg, List.getD_cons_zero, List.getD_cons_succ, List.set_cons_zero, List.set_cons_succ, if_true, if_false, reduceIte, endsD, endsS, endsO, endsN, endsL, asB_b, asI_i, asL_l, itemsP_l, itemsP_t, itemsP_s, itemsP_d, gAdd_i, gAdd_s, gAdd_t, gAdd_l, gI2_i, gMul_i, gMul_t, gMul_l, gMul_s, gNeg_i, gLen_s, gLen_l, gLen_t, gL1_1, gAll_l, gSum_l, gI2L_i, gMaxL_l, gMinL_l, gJoin_l, gJoin_t, gSl_l, gSl_t, gSl_s, gRev_l, wipeS, unwipe, keepV, gIdx_l, gIdx_t, gIdx_s, gIdx_d, dVarD, dDNew, dDNewT, dDPut, dDGetV, dDInV, dDEmpty, dDOne, dOwnD, dParED, dPar3, dEnum, dZip, dgTup_t, dgCons_c, dIsE, gSplit, dZipH, dM1]
  refine ⟨fun k z => PyData.noConfusion z, ?_⟩
  rw [enumD_map]
  refine for_ind (fun p : Tx × Nat => .tuple [.int (p.2 : Nat), S p.1]) (fun done ρ => ∃ x2 x3 x4 x5, ρ = [.va (.tuple (kp.map S)), .od (spots done), x2, x3, x4, x5]) ⟨_, _, _, _, rfl⟩ (fun done p rest ρ hd ⟨x2, x3, x4, x5, hρ⟩ N hN => ?_) (fun ρ ⟨x2, x3, x4, x5, hρ⟩ => ?_)
  · subst hρ
    obtain ⟨key, at_⟩ := p
    have hfl : kp = done.map (·.1) ++ key :: rest.map (·.1) := by
      have := congrArg (List.map (·.1)) hd
      rw [List.zipIdx_map_fst, List.map_append, List.map_cons] at this
      exact this
    have hnd2 : (done.map (·.1)).flatten.Nodup ∧ key.Nodup ∧ ∀ c ∈ (done.map (·.1)).flatten, c ∉ key := by
      rw [hfl, List.flatten_append, List.flatten_cons] at hnd
      have h1 := List.nodup_append.mp hnd
      have h2 := List.nodup_append.mp h1.2.1
      exact ⟨h1.1, h2.1, fun c hc hk => h1.2.2 c hc c (List.mem_append.mpr (.inl hk)) rfl⟩
    have hlen : (done.map (·.1)).flatten.length + key.length ≤ 900 := by
      rw [hfl, List.flatten_append, List.flatten_cons, List.length_append, List.length_append] at hl
      omega
    simp only [dRet, dRetN, dAnd, dOr, dNot, dTest, dTAnd, dTOr, dTNot, dIf, dChain, dUn, dOp, dCall, dC, dVar, dCons, dNil, dTup, dLst, dSeq, dIfS, dAsg, dgName, dgNil, dPar, dParEO, dParOE, dParOO, dFor, dIter, dNext, dBreak, dCont, dDrop, dRaise, dFn, dFnS, dFnO, dM1, dLc, dSl, dSlV, dRevV, dLenV, dIdxV, dApp, dSetI, dPopAt, dCmpV, dOwn, dOwnV, dRetO, dRng1, dRng2, dRng3, dPNo, dPSo, dYes, dLenSet, dScrLen, dScrIdx, dSrcIdx, dSrcSet, dNewSrc, oLst, oRep, oListStr, gEq, gNe, gIsN, gNotN, gIsB, gNotB, gIsi, sg, List.getD_cons_zero, List.getD_cons_succ, List.set_cons_zero, List.set_cons_succ, if_true, if_false, reduceIte, endsD, endsS, endsO, endsN, endsL, asB_b, asI_i, asL_l, itemsP_l, itemsP_t, itemsP_s, itemsP_d, gAdd_i, gAdd_s, gAdd_t, gAdd_l, gI2_i, gMul_i, gMul_t, gMul_l, gMul_s, gNeg_i, gLen_s, gLen_l, gLen_t, gL1_1, gAll_l, gSum_l, gI2L_i, gMaxL_l, gMinL_l, gJoin_l, gJoin_t, gSl_l, gSl_t, gSl_s, gRev_l, wipeS, unwipe, keepV, gIdx_l, gIdx_t, gIdx_s, gIdx_d, dVarD, dDNew, dDNewT, dDPut, dDGetV, dDInV, dDEmpty, dDOne, dOwnD, dParED, dPar3, dEnum, dZip, dgTup_t, dgCons_c, dIsE, gSplit, dZipH, dM1]
    refine ⟨trivial, fun k z => PyData.noConfusion z, ?_⟩
    rw [chars_tx, enumD_map]
    have spl : ∀ ks : List (Tx × Nat), (spots ks).length = (ks.map (·.1)).flatten.length := fun ks => by
      unfold spots
      rw [List.length_flatMap, List.length_flatten, List.map_map]
      congr 1
      refine List.map_congr_left fun p _ => ?_
      show (rowSp _ _).length = p.1.length
      unfold rowSp
      rw [List.length_map, List.length_zipIdx]
    refine for_ind (ρ := [.va (.tuple (kp.map S)), .od (spots done), .va (.int at_), .va (S key), x4, x5]) (fun p : Nat × Nat => .tuple [.int (p.2 : Nat), S [p.1]]) (fun (d2 : List (Nat × Nat)) ρ => ∃ x4 x5, ρ = [.va (.tuple (kp.map S)), .od (spots done ++ rowSp at_ d2), .va (.int at_), .va (S key), x4, x5]) ⟨x4, x5, by simp [rowSp]⟩ (fun d2 q2 rest2 ρ hd2 ⟨x4, x5, hρ⟩ M hM => ?_) (fun ρ ⟨x4, x5, hρ⟩ => ?_)
    · subst hρ
      obtain ⟨c, n⟩ := q2
      have hk2 : key = d2.map (·.1) ++ c :: rest2.map (·.1) := by
        have := congrArg (List.map (·.1)) hd2
        rw [List.zipIdx_map_fst, List.map_append, List.map_cons] at this
        exact this
      have hcn : c ∉ d2.map (·.1) := fun hc => by
        have h1 := hnd2.2.1
        rw [hk2] at h1
        exact (List.nodup_append.mp h1).2.2 c hc c List.mem_cons_self rfl
      have hnone : hasD (spots done ++ rowSp at_ d2) (S [c]) = false := hasD_none fun kv hkv => by
        rcases List.mem_append.mp hkv with hkv | hkv
        · obtain ⟨d, e, p, hp, hdp⟩ := spots_mem hkv
          refine ⟨d, e, fun z => ?_⟩
          subst z
          refine hnd2.2.2 d (List.mem_flatten.mpr ⟨p.1, List.mem_map.mpr ⟨p, hp, rfl⟩, hdp⟩) ?_
          rw [hk2]
          exact List.mem_append.mpr (.inr List.mem_cons_self)
        · obtain ⟨p, hp, rfl⟩ := List.mem_map.mp hkv
          refine ⟨p.1, rfl, fun z => hcn ?_⟩
          rw [← z]
          exact List.mem_map.mpr ⟨p, hp, rfl⟩
      simp only [dRet, dRetN, dAnd, dOr, dNot, dTest, dTAnd, dTOr, dTNot, dIf, dChain, dUn, dOp, dCall, dC, dVar, dCons, dNil, dTup, dLst, dSeq, dIfS, dAsg, dgName, dgNil, dPar, dParEO, dParOE, dParOO, dFor, dIter, dNext, dBreak, dCont, dDrop, dRaise, dFn, dFnS, dFnO, dM1, dLc, dSl, dSlV, dRevV, dLenV, dIdxV, dApp, dSetI, dPopAt, dCmpV, dOwn, dOwnV, dRetO, dRng1, dRng2, dRng3, dPNo, dPSo, dYes, dLenSet, dScrLen, dScrIdx, dSrcIdx, dSrcSet, dNewSrc, oLst, oRep, oListStr, gEq, gNe, gIsN, gNotN, gIsB, gNotB, gIsi, sg, List.getD_cons_zero, List.getD_cons_succ, List.set_cons_zero, List.set_cons_succ, if_true, if_false, reduceIte, endsD, endsS, endsO, endsN, endsL, asB_b, asI_i, asL_l, itemsP_l, itemsP_t, itemsP_s, itemsP_d, gAdd_i, gAdd_s, gAdd_t, gAdd_l, gI2_i, gMul_i, gMul_t, gMul_l, gMul_s, gNeg_i, gLen_s, gLen_l, gLen_t, gL1_1, gAll_l, gSum_l, gI2L_i, gMaxL_l, gMinL_l, gJoin_l, gJoin_t, gSl_l, gSl_t, gSl_s, gRev_l, wipeS, unwipe, keepV, gIdx_l, gIdx_t, gIdx_s, gIdx_d, dVarD, dDNew, dDNewT, dDPut, dDGetV, dDInV, dDEmpty, dDOne, dOwnD, dParED, dPar3, dEnum, dZip, dgTup_t, dgCons_c, dIsE, gSplit, dZipH, dM1]
      refine ⟨trivial, le2, isK_S _, ?_, hM _ ⟨.va (.int n), .va (S [c]), ?_⟩⟩
      · have h1 := spl done
        have h2 : d2.length < key.length := by
          rw [hk2, List.length_append, List.length_map, List.length_cons]
          omega
        rw [List.length_append, h1]
        unfold rowSp
        rw [List.length_map]
        exact small1000 (by omega)
      · rw [putD_new hnone, List.append_assoc]
        unfold rowSp
        rw [List.map_append]
        rfl
    · subst hρ
      refine hN _ ⟨.va (.int at_), .va (S key), x4, x5, ?_⟩
      unfold spots
      rw [List.flatMap_append]
      simp
  · subst hρ
    exact q
abbrev n__law_spots : List Str := ["pad", "found", "at", "key", "number", "letter"]
abbrev p__law_spots : DP := p_places
abbrev t__law_spots : (Str → Prop) → DS := t_places
theorem m__law_spots : MoP p__law_spots := m_places
theorem l__law_spots : ∀ ds Q W, p__law_spots ds Q W → ds.length = 1 := l_places
theorem D__law_spots (W : Str → Prop) (ds : List D) (Q : D → Prop) (h : p__law_spots ds Q W) : t__law_spots W (endsD Q) (startS n__law_spots ds) := D_places W ds Q h
/-- different letters, not too many -/
structure PadOk (kp : List Tx) : Prop where
  nd : kp.flatten.Nodup
  fl : kp.flatten.length ≤ 900
  len : kp.length ≤ 900
theorem KpOk.pad {kp : List Tx} (h : KpOk kp) : PadOk kp := ⟨h.nd, by
  have h1 := len_flat h.k6
  have h2 := h.l2
  rw [List.length_flatten]
  omega, by
  have h2 := h.l2
  omega⟩
def keyOf (kp : List Tx) (c : Nat) : Int := ((spot kp 0 c).1 : Nat)
def numOf (kp : List Tx) (c : Nat) : Int := ((spot kp 0 c).2 : Nat)
theorem look_pad {kp : List Tx} {c : Nat} (h : c ∈ kp.flatten) : lookD (spots kp.zipIdx) (S [c]) = some (.tuple [.int (keyOf kp c), .int (numOf kp c)]) := look_spots c kp 0 h
theorem spot_at : ∀ (kp : List Tx) (i c : Nat), c ∈ kp.flatten → ∃ (j : Nat) (k : Tx), kp[j]? = some k ∧ c ∈ k ∧ spot kp i c = (i + j, k.idxOf c + 1)
  | [], i, c, h => by simp at h
  | k :: kp, i, c, h => by
    unfold spot
    by_cases hc : c ∈ k
    · rw [if_pos hc]
      exact ⟨0, k, rfl, hc, rfl⟩
    · rw [if_neg hc]
      have : c ∈ kp.flatten := by
        rw [List.flatten_cons] at h
        rcases List.mem_append.mp h with h | h
        · exact absurd h hc
        · exact h
      obtain ⟨j, k', h1, h2, h3⟩ := spot_at kp (i + 1) c this
      refine ⟨j + 1, k', by simpa using h1, h2, ?_⟩
      rw [h3, show i + 1 + j = i + (j + 1) by omega]
/-- a letter's key and number -/
theorem key_num {kp : List Tx} {c : Nat} (h : c ∈ kp.flatten) : 0 ≤ keyOf kp c ∧ keyOf kp c < kp.length ∧ 1 ≤ numOf kp c ∧ numOf kp c ≤ (keyAt kp (keyOf kp c)).length ∧ c ∈ keyAt kp (keyOf kp c) ∧ (keyAt kp (keyOf kp c))[(numOf kp c).toNat - 1]? = some c := by
  obtain ⟨j, k, h1, h2, h3⟩ := spot_at kp 0 c h
  have hj : j < kp.length := (List.getElem?_eq_some_iff.mp h1).1
  have e1 : keyOf kp c = (j : Int) := by
    unfold keyOf
    rw [h3]
    simp
  have e2 : numOf kp c = ((k.idxOf c + 1 : Nat) : Int) := by
    unfold numOf
    rw [h3]
  have e3 : keyAt kp (keyOf kp c) = k := by
    unfold keyAt
    rw [e1, Int.toNat_natCast, List.getD_eq_getElem?_getD, h1]
    rfl
  have hi : k.idxOf c < k.length := List.idxOf_lt_length_of_mem h2
  rw [e3, e1, e2]
  refine ⟨by omega, by omega, by omega, by omega, h2, ?_⟩
  rw [Int.toNat_natCast, Nat.add_sub_cancel, List.getElem?_eq_getElem hi, List.getElem_idxOf]
theorem len_le_flat {kp : List Tx} {k : Tx} (h : k ∈ kp) : k.length ≤ kp.flatten.length := by
  induction kp with
  | nil => cases h
  | cons x r ih =>
    rw [List.flatten_cons, List.length_append]
    rcases List.mem_cons.mp h with rfl | h
    · omega
    · have := ih h
      omega
theorem PadOk.num {kp : List Tx} (h : PadOk kp) {c : Nat} (hc : c ∈ kp.flatten) : 1 ≤ numOf kp c ∧ numOf kp c ≤ 900 := by
  obtain ⟨h0, h1, h2, h3, _, _⟩ := key_num hc
  have := len_le_flat (key_mem h0 h1)
  have := h.fl
  omega
/-! pressed -/
def pressedL (kp : List Tx) (w : Tx) : List Int := w.flatMap fun c => List.replicate (numOf kp c).toNat (keyOf kp c)
abbrev n_pressed : List Str := ["keypad", "text", "table", "found", "letter", "key", "number"]
def p_pressed : DP := fun ds Q _ => ∃ kp w, ds = [Kd kp, S w] ∧ PadOk kp ∧ (∀ c ∈ w, c ∈ kp.flatten) ∧ w.length ≤ 900 ∧ Q (Ld (pressedL kp w))
def t_pressed (W : Str → Prop) : DS := (dSeq (dPar 2 3 (dCons (dFn p_places W (dCons (dVar 0) dNil)) (dCons (dTup dNil) dNil)))
      (dSeq (dFor (dIter (dVar 1)) (dgName 4) (dSeq (dAsg (dOp gIdx (dVar 2) (dVar 4)) (dgTup (dgCons (dgName 5) (dgCons (dgName 6) dgNil))))
      (dAsg (dOp gAdd (dVar 3) (dOp gMul (dTup (dCons (dVar 5) dNil)) (dVar 6))) (dgName 3))))
      (dRet (dVar 3))))
theorem m_pressed : MoP p_pressed := fun ds Q Q' W W' hq _ ⟨kp, w, e, h1, h2, h3, q⟩ => ⟨kp, w, e, h1, h2, h3, hq _ q⟩
theorem l_pressed : ∀ ds Q W, p_pressed ds Q W → ds.length = 2 := fun ds Q W ⟨kp, w, e, _⟩ => by rw [e]; rfl
theorem pressed_len {kp : List Tx} (hp : PadOk kp) : ∀ {w : Tx}, (∀ c ∈ w, c ∈ kp.flatten) → (pressedL kp w).length ≤ 900 * w.length
  | [], _ => Nat.le_refl _
  | c :: w, h => by
    have h1 := (hp.num (h c List.mem_cons_self)).2
    have h2 := pressed_len hp fun d hd => h d (List.mem_cons_of_mem c hd)
    unfold pressedL at h2 ⊢
    rw [List.flatMap_cons, List.length_append, List.length_replicate, List.length_cons]
    omega
theorem le_mil {n : Nat} (h : n ≤ 1000000) : n ≤ sizeLine := Nat.le_trans h (by decide)
theorem D_pressed (W : Str → Prop) (ds : List D) (Q : D → Prop) (h : p_pressed ds Q W) : t_pressed W (endsD Q) (startS n_pressed ds) := by
  obtain ⟨kp, w, rfl, hp, hw, hl, q⟩ := h
  show t_pressed W (endsD Q) [.va (Kd kp), .va (S w), .no, .no, .no, .no, .no]
  simp only [t_pressed, dRet, dRetN, dAnd, dOr, dNot, dTest, dTAnd, dTOr, dTNot, dIf, dChain, dUn, dOp, dCall, dC, dVar, dCons, dNil, dTup, dLst, dSeq, dIfS, dAsg, dgName, dgNil, dPar, dParEO, dParOE, dParOO, dFor, dIter, dNext, dBreak, dCont, dDrop, dRaise, dFn, dFnS, dFnO, dM1, dLc, dSl, dSlV, dRevV, dLenV, dIdxV, dApp, dSetI, dPopAt, dCmpV, dOwn, dOwnV, dRetO, dRng1, dRng2, dRng3, dPNo, dPSo, dYes, dLenSet, dScrLen, dScrIdx, dSrcIdx, dSrcSet, dNewSrc, oLst, oRep, oListStr, gEq, gNe, gIsN, gNotN, gIsB, gNotB, gIsi, sg, List.getD_cons_zero, List.getD_cons_succ, List.set_cons_zero, List.set_cons_succ, if_true, if_false, reduceIte, endsD, endsS, endsO, endsN, endsL, asB_b, asI_i, asL_l, itemsP_l, itemsP_t, itemsP_s, itemsP_d, gAdd_i, gAdd_s, gAdd_t, gAdd_l, gI2_i, gMul_i, gMul_t, gMul_l, gMul_s, gNeg_i, gLen_s, gLen_l, gLen_t, gL1_1, gAll_l, gSum_l, gI2L_i, gMaxL_l, gMinL_l, gJoin_l, gJoin_t, gSl_l, gSl_t, gSl_s, gRev_l, wipeS, unwipe, keepV, gIdx_l, gIdx_t, gIdx_s, gIdx_d, dVarD, dDNew, dDNewT, dDPut, dDGetV, dDInV, dDEmpty, dDOne, dOwnD, dParED, dPar3, dEnum, dZip, dgTup_t, dgCons_c, dIsE, gSplit, dZipH, dM1]
  refine ⟨kp, rfl, hp.nd, hp.fl, hp.len, Nat.zero_le _, ?_⟩
  simp only [dRet, dRetN, dAnd, dOr, dNot, dTest, dTAnd, dTOr, dTNot, dIf, dChain, dUn, dOp, dCall, dC, dVar, dCons, dNil, dTup, dLst, dSeq, dIfS, dAsg, dgName, dgNil, dPar, dParEO, dParOE, dParOO, dFor, dIter, dNext, dBreak, dCont, dDrop, dRaise, dFn, dFnS, dFnO, dM1, dLc, dSl, dSlV, dRevV, dLenV, dIdxV, dApp, dSetI, dPopAt, dCmpV, dOwn, dOwnV, dRetO, dRng1, dRng2, dRng3, dPNo, dPSo, dYes, dLenSet, dScrLen, dScrIdx, dSrcIdx, dSrcSet, dNewSrc, oLst, oRep, oListStr, gEq, gNe, gIsN, gNotN, gIsB, gNotB, gIsi, sg, List.getD_cons_zero, List.getD_cons_succ, List.set_cons_zero, List.set_cons_succ, if_true, if_false, reduceIte, endsD, endsS, endsO, endsN, endsL, asB_b, asI_i, asL_l, itemsP_l, itemsP_t, itemsP_s, itemsP_d, gAdd_i, gAdd_s, gAdd_t, gAdd_l, gI2_i, gMul_i, gMul_t, gMul_l, gMul_s, gNeg_i, gLen_s, gLen_l, gLen_t, gL1_1, gAll_l, gSum_l, gI2L_i, gMaxL_l, gMinL_l, gJoin_l, gJoin_t, gSl_l, gSl_t, gSl_s, gRev_l, wipeS, unwipe, keepV, gIdx_l, gIdx_t, gIdx_s, gIdx_d, dVarD, dDNew, dDNewT, dDPut, dDGetV, dDInV, dDEmpty, dDOne, dOwnD, dParED, dPar3, dEnum, dZip, dgTup_t, dgCons_c, dIsE, gSplit, dZipH, dM1, chars_tx]
  refine for_ind (fun c => S [c]) (fun done ρ => ∃ x4 x5 x6, ρ = [.va (Kd kp), .va (S w), .va (.dict (spots kp.zipIdx)), .va (Ld (pressedL kp done)), x4, x5, x6]) ⟨_, _, _, rfl⟩ (fun done c rest ρ hd ⟨x4, x5, x6, hρ⟩ N hN => ?_) (fun ρ ⟨x4, x5, x6, hρ⟩ => ?_)
  · subst hρ
    have hc : c ∈ kp.flatten := hw c (by rw [hd]; exact List.mem_append.mpr (.inr List.mem_cons_self))
    have hn := hp.num hc
    have hdl : done.length < w.length := by
      rw [hd, List.length_append, List.length_cons]
      omega
    have hpl := pressed_len hp (w := done) fun d h => hw d (by rw [hd]; exact List.mem_append.mpr (.inl h))
    simp only [dRet, dRetN, dAnd, dOr, dNot, dTest, dTAnd, dTOr, dTNot, dIf, dChain, dUn, dOp, dCall, dC, dVar, dCons, dNil, dTup, dLst, dSeq, dIfS, dAsg, dgName, dgNil, dPar, dParEO, dParOE, dParOO, dFor, dIter, dNext, dBreak, dCont, dDrop, dRaise, dFn, dFnS, dFnO, dM1, dLc, dSl, dSlV, dRevV, dLenV, dIdxV, dApp, dSetI, dPopAt, dCmpV, dOwn, dOwnV, dRetO, dRng1, dRng2, dRng3, dPNo, dPSo, dYes, dLenSet, dScrLen, dScrIdx, dSrcIdx, dSrcSet, dNewSrc, oLst, oRep, oListStr, gEq, gNe, gIsN, gNotN, gIsB, gNotB, gIsi, sg, List.getD_cons_zero, List.getD_cons_succ, List.set_cons_zero, List.set_cons_succ, if_true, if_false, reduceIte, endsD, endsS, endsO, endsN, endsL, asB_b, asI_i, asL_l, itemsP_l, itemsP_t, itemsP_s, itemsP_d, gAdd_i, gAdd_s, gAdd_t, gAdd_l, gI2_i, gMul_i, gMul_t, gMul_l, gMul_s, gNeg_i, gLen_s, gLen_l, gLen_t, gL1_1, gAll_l, gSum_l, gI2L_i, gMaxL_l, gMinL_l, gJoin_l, gJoin_t, gSl_l, gSl_t, gSl_s, gRev_l, wipeS, unwipe, keepV, gIdx_l, gIdx_t, gIdx_s, gIdx_d, dVarD, dDNew, dDNewT, dDPut, dDGetV, dDInV, dDEmpty, dDOne, dOwnD, dParED, dPar3, dEnum, dZip, dgTup_t, dgCons_c, dIsE, gSplit, dZipH, dM1]
    refine ⟨_, look_pad hc, ?_⟩
    simp only [dRet, dRetN, dAnd, dOr, dNot, dTest, dTAnd, dTOr, dTNot, dIf, dChain, dUn, dOp, dCall, dC, dVar, dCons, dNil, dTup, dLst, dSeq, dIfS, dAsg, dgName, dgNil, dPar, dParEO, dParOE, dParOO, dFor, dIter, dNext, dBreak, dCont, dDrop, dRaise, dFn, dFnS, dFnO, dM1, dLc, dSl, dSlV, dRevV, dLenV, dIdxV, dApp, dSetI, dPopAt, dCmpV, dOwn, dOwnV, dRetO, dRng1, dRng2, dRng3, dPNo, dPSo, dYes, dLenSet, dScrLen, dScrIdx, dSrcIdx, dSrcSet, dNewSrc, oLst, oRep, oListStr, gEq, gNe, gIsN, gNotN, gIsB, gNotB, gIsi, sg, List.getD_cons_zero, List.getD_cons_succ, List.set_cons_zero, List.set_cons_succ, if_true, if_false, reduceIte, endsD, endsS, endsO, endsN, endsL, asB_b, asI_i, asL_l, itemsP_l, itemsP_t, itemsP_s, itemsP_d, gAdd_i, gAdd_s, gAdd_t, gAdd_l, gI2_i, gMul_i, gMul_t, gMul_l, gMul_s, gNeg_i, gLen_s, gLen_l, gLen_t, gL1_1, gAll_l, gSum_l, gI2L_i, gMaxL_l, gMinL_l, gJoin_l, gJoin_t, gSl_l, gSl_t, gSl_s, gRev_l, wipeS, unwipe, keepV, gIdx_l, gIdx_t, gIdx_s, gIdx_d, dVarD, dDNew, dDNewT, dDPut, dDGetV, dDInV, dDEmpty, dDOne, dOwnD, dParED, dPar3, dEnum, dZip, dgTup_t, dgCons_c, dIsE, gSplit, dZipH, dM1, rep_Ld]
    refine ⟨trivial, le1, ⟨by omega, by omega, by simp⟩, ?_, hN _ ⟨.va (S [c]), .va (.int (keyOf kp c)), .va (.int (numOf kp c)), ?_⟩⟩
    · rw [List.length_map, List.length_map, List.length_replicate]
      exact le_mil (by omega)
    · unfold pressedL
      rw [Ld, List.flatMap_append, List.map_append]
      simp
  · subst hρ
    exact q
/-! require_text -/
abbrev n_require_text : List Str := ["keypad", "value"]
def p_require_text : DP := fun ds Q W => ∃ kp v, ds = [Kd kp, v] ∧ PadOk kp ∧ okV v ∧ (isStrOf v kp.flatten 0 30 = true → Q .none) ∧ (isStrOf v kp.flatten 0 30 = false → W "InvalidText")
def t_require_text (W : Str → Prop) : DS := (dIfS (dTNot (dTest (dFn p_is_string_of W (dCons (dVar 1) (dCons (dM1 gJoin (dC (.str "")) (dVar 0)) (dCons (dC (.int 0)) (dCons (dC (.int 30)) dNil))))))) (dRaise W "InvalidText") dNext)
theorem m_require_text : MoP p_require_text := fun ds Q Q' W W' hq hw ⟨kp, v, e, h1, h2, q, r⟩ => ⟨kp, v, e, h1, h2, fun z => hq _ (q z), fun z => hw _ (r z)⟩
theorem l_require_text : ∀ ds Q W, p_require_text ds Q W → ds.length = 2 := fun ds Q W ⟨kp, w, e, _⟩ => by rw [e]; rfl
theorem D_require_text (W : Str → Prop) (ds : List D) (Q : D → Prop) (h : p_require_text ds Q W) : t_require_text W (endsD Q) (startS n_require_text ds) := by
  obtain ⟨kp, v, rfl, hp, hv, q, r⟩ := h
  show t_require_text W (endsD Q) [.va (Kd kp), .va v]
  simp only [t_require_text, dRet, dRetN, dAnd, dOr, dNot, dTest, dTAnd, dTOr, dTNot, dIf, dChain, dUn, dOp, dCall, dC, dVar, dCons, dNil, dTup, dLst, dSeq, dIfS, dAsg, dgName, dgNil, dPar, dParEO, dParOE, dParOO, dFor, dIter, dNext, dBreak, dCont, dDrop, dRaise, dFn, dFnS, dFnO, dM1, dLc, dSl, dSlV, dRevV, dLenV, dIdxV, dApp, dSetI, dPopAt, dCmpV, dOwn, dOwnV, dRetO, dRng1, dRng2, dRng3, dPNo, dPSo, dYes, dLenSet, dScrLen, dScrIdx, dSrcIdx, dSrcSet, dNewSrc, oLst, oRep, oListStr, gEq, gNe, gIsN, gNotN, gIsB, gNotB, gIsi, sg, List.getD_cons_zero, List.getD_cons_succ, List.set_cons_zero, List.set_cons_succ, if_true, if_false, reduceIte, endsD, endsS, endsO, endsN, endsL, asB_b, asI_i, asL_l, itemsP_l, itemsP_t, itemsP_s, itemsP_d, gAdd_i, gAdd_s, gAdd_t, gAdd_l, gI2_i, gMul_i, gMul_t, gMul_l, gMul_s, gNeg_i, gLen_s, gLen_l, gLen_t, gL1_1, gAll_l, gSum_l, gI2L_i, gMaxL_l, gMinL_l, gJoin_l, gJoin_t, gSl_l, gSl_t, gSl_s, gRev_l, wipeS, unwipe, keepV, gIdx_l, gIdx_t, gIdx_s, gIdx_d, dVarD, dDNew, dDNewT, dDPut, dDGetV, dDInV, dDEmpty, dDOne, dOwnD, dParED, dPar3, dEnum, dZip, dgTup_t, dgCons_c, dIsE, gSplit, dZipH, dM1]
  have hfl := hp.fl
  refine ⟨rfl, kp.map tx, by rw [List.map_map]; rfl, ?_, v, kp.flatten, 0, 30, by rw [empty_eq, join_tx], hv, ?_⟩
  · rw [empty_eq, tx_length, List.map_map, List.length_map]
    have e3 : ((fun x : Str => x.length) ∘ tx) = List.length := funext fun z => tx_length z
    rw [e3, ← List.length_flatten]
    show _ + _ * 0 ≤ _
    omega
  · cases e : isStrOf v kp.flatten 0 30 with
    | true => exact q e
    | false => exact r e
/-- a text of a keypad -/
structure TextOk (kp : List Tx) (w : Tx) : Prop where
  mem : ∀ c ∈ w, c ∈ kp.flatten
  len : w.length ≤ 30
theorem isText {v : D} {kp : List Tx} (h : isStrOf v kp.flatten 0 30 = true) : ∃ w, v = S w ∧ TextOk kp w := by
  have e := isStrOf_S h
  rw [e] at h
  simp only [isStrOf, tx_list, Bool.and_eq_true, decide_eq_true_eq, List.all_eq_true] at h
  exact ⟨unS v, e, h.2, by omega⟩
theorem TextOk.is {kp : List Tx} {w : Tx} (h : TextOk kp w) : isStrOf (S w) kp.flatten 0 30 = true := by
  have := h.len
  simp only [isStrOf, tx_list, Bool.and_eq_true, decide_eq_true_eq, List.all_eq_true]
  exact ⟨⟨by omega, by omega⟩, h.mem⟩
/-! sums_of -/
def sums (kp : List Tx) (w : Tx) : List Run := w.foldl (fun f c => addN f (keyOf kp c) (numOf kp c)) []
abbrev n_sums_of : List Str := ["keypad", "text", "table", "found", "letter", "key", "number"]
def p_sums_of : DP := fun ds Q _ => ∃ kp w, ds = [Kd kp, S w] ∧ PadOk kp ∧ (∀ c ∈ w, c ∈ kp.flatten) ∧ w.length ≤ 900 ∧ Q (runsD (sums kp w))
def t_sums_of (W : Str → Prop) : DS := (dSeq (dParEO 2 3 (dFn p_places W (dCons (dVar 0) dNil)) (oLst dNil))
      (dSeq (dFor (dIter (dVar 1)) (dgName 4) (dSeq (dAsg (dOp gIdx (dVar 2) (dVar 4)) (dgTup (dgCons (dgName 5) (dgCons (dgName 6) dgNil))))
      (dIfS (dTAnd (dTest (dCmpV true 3 (dLst dNil))) (dTest (dOp gEq (dOp gIdx (dIdxV 3 (dUn gNeg (dC (.int 1)))) (dC (.int 0))) (dVar 5)))) (dSetI 3 (dUn gNeg (dC (.int 1))) (dTup (dCons (dVar 5) (dCons (dOp gAdd (dOp gIdx (dIdxV 3 (dUn gNeg (dC (.int 1)))) (dC (.int 1))) (dVar 6)) dNil)))) (dApp 3 (dTup (dCons (dVar 5) (dCons (dVar 6) dNil)))))))
      (dRet (dVar 3))))
theorem m_sums_of : MoP p_sums_of := fun ds Q Q' W W' hq _ ⟨kp, w, e, h1, h2, h3, q⟩ => ⟨kp, w, e, h1, h2, h3, hq _ q⟩
theorem l_sums_of : ∀ ds Q W, p_sums_of ds Q W → ds.length = 2 := fun ds Q W ⟨kp, w, e, _⟩ => by rw [e]; rfl
theorem sums_len (kp : List Tx) (w : Tx) : ∀ f : List Run, (w.foldl (fun f c => addN f (keyOf kp c) (numOf kp c)) f).length ≤ f.length + w.length := by
  induction w with
  | nil => exact fun f => Nat.le_refl _
  | cons c w ih =>
    intro f
    have h := ih (addN f (keyOf kp c) (numOf kp c))
    have h2 := addN_len f (keyOf kp c) (numOf kp c)
    rw [List.foldl_cons, List.length_cons]
    omega
theorem D_sums_of (W : Str → Prop) (ds : List D) (Q : D → Prop) (h : p_sums_of ds Q W) : t_sums_of W (endsD Q) (startS n_sums_of ds) := by
  obtain ⟨kp, w, rfl, hp, hw, hl, q⟩ := h
  show t_sums_of W (endsD Q) [.va (Kd kp), .va (S w), .no, .no, .no, .no, .no]
  simp only [t_sums_of, dRet, dRetN, dAnd, dOr, dNot, dTest, dTAnd, dTOr, dTNot, dIf, dChain, dUn, dOp, dCall, dC, dVar, dCons, dNil, dTup, dLst, dSeq, dIfS, dAsg, dgName, dgNil, dPar, dParEO, dParOE, dParOO, dFor, dIter, dNext, dBreak, dCont, dDrop, dRaise, dFn, dFnS, dFnO, dM1, dLc, dSl, dSlV, dRevV, dLenV, dIdxV, dApp, dSetI, dPopAt, dCmpV, dOwn, dOwnV, dRetO, dRng1, dRng2, dRng3, dPNo, dPSo, dYes, dLenSet, dScrLen, dScrIdx, dSrcIdx, dSrcSet, dNewSrc, oLst, oRep, oListStr, gEq, gNe, gIsN, gNotN, gIsB, gNotB, gIsi, sg, List.getD_cons_zero, List.getD_cons_succ, List.set_cons_zero, List.set_cons_succ, if_true, if_false, reduceIte, endsD, endsS, endsO, endsN, endsL, asB_b, asI_i, asL_l, itemsP_l, itemsP_t, itemsP_s, itemsP_d, gAdd_i, gAdd_s, gAdd_t, gAdd_l, gI2_i, gMul_i, gMul_t, gMul_l, gMul_s, gNeg_i, gLen_s, gLen_l, gLen_t, gL1_1, gAll_l, gSum_l, gI2L_i, gMaxL_l, gMinL_l, gJoin_l, gJoin_t, gSl_l, gSl_t, gSl_s, gRev_l, wipeS, unwipe, keepV, gIdx_l, gIdx_t, gIdx_s, gIdx_d, dVarD, dDNew, dDNewT, dDPut, dDGetV, dDInV, dDEmpty, dDOne, dOwnD, dParED, dPar3, dEnum, dZip, dgTup_t, dgCons_c, dIsE, gSplit, dZipH, dM1]
  refine ⟨kp, rfl, hp.nd, hp.fl, hp.len, Nat.zero_le _, ?_⟩
  simp only [dRet, dRetN, dAnd, dOr, dNot, dTest, dTAnd, dTOr, dTNot, dIf, dChain, dUn, dOp, dCall, dC, dVar, dCons, dNil, dTup, dLst, dSeq, dIfS, dAsg, dgName, dgNil, dPar, dParEO, dParOE, dParOO, dFor, dIter, dNext, dBreak, dCont, dDrop, dRaise, dFn, dFnS, dFnO, dM1, dLc, dSl, dSlV, dRevV, dLenV, dIdxV, dApp, dSetI, dPopAt, dCmpV, dOwn, dOwnV, dRetO, dRng1, dRng2, dRng3, dPNo, dPSo, dYes, dLenSet, dScrLen, dScrIdx, dSrcIdx, dSrcSet, dNewSrc, oLst, oRep, oListStr, gEq, gNe, gIsN, gNotN, gIsB, gNotB, gIsi, sg, List.getD_cons_zero, List.getD_cons_succ, List.set_cons_zero, List.set_cons_succ, if_true, if_false, reduceIte, endsD, endsS, endsO, endsN, endsL, asB_b, asI_i, asL_l, itemsP_l, itemsP_t, itemsP_s, itemsP_d, gAdd_i, gAdd_s, gAdd_t, gAdd_l, gI2_i, gMul_i, gMul_t, gMul_l, gMul_s, gNeg_i, gLen_s, gLen_l, gLen_t, gL1_1, gAll_l, gSum_l, gI2L_i, gMaxL_l, gMinL_l, gJoin_l, gJoin_t, gSl_l, gSl_t, gSl_s, gRev_l, wipeS, unwipe, keepV, gIdx_l, gIdx_t, gIdx_s, gIdx_d, dVarD, dDNew, dDNewT, dDPut, dDGetV, dDInV, dDEmpty, dDOne, dOwnD, dParED, dPar3, dEnum, dZip, dgTup_t, dgCons_c, dIsE, gSplit, dZipH, dM1, chars_tx]
  refine for_ind (fun c => S [c]) (fun done ρ => ∃ x4 x5 x6, ρ = [.va (Kd kp), .va (S w), .va (.dict (spots kp.zipIdx)), .ow ((sums kp done).map runD), x4, x5, x6]) ⟨_, _, _, rfl⟩ (fun done c rest ρ hd ⟨x4, x5, x6, hρ⟩ N hN => ?_) (fun ρ ⟨x4, x5, x6, hρ⟩ => ?_)
  · subst hρ
    have hc : c ∈ kp.flatten := hw c (by rw [hd]; exact List.mem_append.mpr (.inr List.mem_cons_self))
    have hlen : (sums kp done).length ≤ 1000 := by
      have h1 := sums_len kp done []
      have h2 : done.length ≤ w.length := by
        rw [hd, List.length_append]
        omega
      have : (sums kp done).length ≤ 0 + done.length := h1
      omega
    have hN' := hN [.va (Kd kp), .va (S w), .va (.dict (spots kp.zipIdx)), .ow ((sums kp (done ++ [c])).map runD), .va (S [c]), .va (.int (keyOf kp c)), .va (.int (numOf kp c))] ⟨_, _, _, rfl⟩
    have hr : sums kp (done ++ [c]) = addN (sums kp done) (keyOf kp c) (numOf kp c) := by
      unfold sums
      rw [List.foldl_append]
      rfl
    rw [hr] at hN'
    simp only [dRet, dRetN, dAnd, dOr, dNot, dTest, dTAnd, dTOr, dTNot, dIf, dChain, dUn, dOp, dCall, dC, dVar, dCons, dNil, dTup, dLst, dSeq, dIfS, dAsg, dgName, dgNil, dPar, dParEO, dParOE, dParOO, dFor, dIter, dNext, dBreak, dCont, dDrop, dRaise, dFn, dFnS, dFnO, dM1, dLc, dSl, dSlV, dRevV, dLenV, dIdxV, dApp, dSetI, dPopAt, dCmpV, dOwn, dOwnV, dRetO, dRng1, dRng2, dRng3, dPNo, dPSo, dYes, dLenSet, dScrLen, dScrIdx, dSrcIdx, dSrcSet, dNewSrc, oLst, oRep, oListStr, gEq, gNe, gIsN, gNotN, gIsB, gNotB, gIsi, sg, List.getD_cons_zero, List.getD_cons_succ, List.set_cons_zero, List.set_cons_succ, if_true, if_false, reduceIte, endsD, endsS, endsO, endsN, endsL, asB_b, asI_i, asL_l, itemsP_l, itemsP_t, itemsP_s, itemsP_d, gAdd_i, gAdd_s, gAdd_t, gAdd_l, gI2_i, gMul_i, gMul_t, gMul_l, gMul_s, gNeg_i, gLen_s, gLen_l, gLen_t, gL1_1, gAll_l, gSum_l, gI2L_i, gMaxL_l, gMinL_l, gJoin_l, gJoin_t, gSl_l, gSl_t, gSl_s, gRev_l, wipeS, unwipe, keepV, gIdx_l, gIdx_t, gIdx_s, gIdx_d, dVarD, dDNew, dDNewT, dDPut, dDGetV, dDInV, dDEmpty, dDOne, dOwnD, dParED, dPar3, dEnum, dZip, dgTup_t, dgCons_c, dIsE, gSplit, dZipH, dM1]
    refine ⟨_, look_pad hc, ?_⟩
    generalize keyOf kp c = x at hN' ⊢
    generalize numOf kp c = n at hN' ⊢
    generalize sums kp done = f at hN' hlen ⊢
    simp only [dRet, dRetN, dAnd, dOr, dNot, dTest, dTAnd, dTOr, dTNot, dIf, dChain, dUn, dOp, dCall, dC, dVar, dCons, dNil, dTup, dLst, dSeq, dIfS, dAsg, dgName, dgNil, dPar, dParEO, dParOE, dParOO, dFor, dIter, dNext, dBreak, dCont, dDrop, dRaise, dFn, dFnS, dFnO, dM1, dLc, dSl, dSlV, dRevV, dLenV, dIdxV, dApp, dSetI, dPopAt, dCmpV, dOwn, dOwnV, dRetO, dRng1, dRng2, dRng3, dPNo, dPSo, dYes, dLenSet, dScrLen, dScrIdx, dSrcIdx, dSrcSet, dNewSrc, oLst, oRep, oListStr, gEq, gNe, gIsN, gNotN, gIsB, gNotB, gIsi, sg, List.getD_cons_zero, List.getD_cons_succ, List.set_cons_zero, List.set_cons_succ, if_true, if_false, reduceIte, endsD, endsS, endsO, endsN, endsL, asB_b, asI_i, asL_l, itemsP_l, itemsP_t, itemsP_s, itemsP_d, gAdd_i, gAdd_s, gAdd_t, gAdd_l, gI2_i, gMul_i, gMul_t, gMul_l, gMul_s, gNeg_i, gLen_s, gLen_l, gLen_t, gL1_1, gAll_l, gSum_l, gI2L_i, gMaxL_l, gMinL_l, gJoin_l, gJoin_t, gSl_l, gSl_t, gSl_s, gRev_l, wipeS, unwipe, keepV, gIdx_l, gIdx_t, gIdx_s, gIdx_d, dVarD, dDNew, dDNewT, dDPut, dDGetV, dDInV, dDEmpty, dDOne, dOwnD, dParED, dPar3, dEnum, dZip, dgTup_t, dgCons_c, dIsE, gSplit, dZipH, dM1]
    refine ⟨trivial, Nat.zero_le _, ⟨(shp_runs f).ok, (shp_nil (n := 0)).ok⟩, ?_⟩
    simp only [eqv_nil, List.map_eq_nil_iff, Bool.not_eq_true', Bool.not_eq_false', decide_eq_true_eq, decide_eq_false_iff_not, Bool.and_eq_true, Bool.or_eq_true, Bool.not_true, Bool.not_false, Bool.false_eq_true, reduceCtorEq, decide_true, decide_false]
    rcases last_cases f with rfl | ⟨i, r, rfl⟩
    · rw [if_neg (fun h => h rfl)]
      simp only [Bool.not_eq_true', Bool.not_eq_false', decide_eq_true_eq, decide_eq_false_iff_not, Bool.and_eq_true, Bool.or_eq_true, Bool.not_true, Bool.not_false, Bool.false_eq_true, reduceCtorEq, decide_true, decide_false, if_false]
      exact ⟨le2, by decide, hN'⟩
    · rw [if_pos (by simp)]
      rw [List.map_append, List.map_singleton]
      rw [addN_app] at hN'
      refine ⟨runD r, LW.atI_last _ _, .int r.1, rfl, by rfl, ?_⟩
      simp only [eqv_int, Bool.not_eq_true', Bool.not_eq_false', decide_eq_true_eq, decide_eq_false_iff_not, Bool.and_eq_true, Bool.or_eq_true, Bool.not_true, Bool.not_false, Bool.false_eq_true, reduceCtorEq, decide_true, decide_false]
      by_cases hk : r.1 = x
      · rw [if_pos hk] at hN' ⊢
        refine ⟨runD r, LW.atI_last _ _, .int r.2, rfl, le2, (i.map runD).length, ?_, ?_⟩
        · rw [List.length_append, List.length_singleton, ixN_last (by omega), Nat.add_sub_cancel]
        · have es : ((i.map runD ++ [runD r]).set (i.map runD).length (.tuple [.int x, .int (r.2 + n)])) = (i ++ [(x, r.2 + n)]).map runD := by
            rw [List.set_append_right _ _ (Nat.le_refl _), Nat.sub_self, List.map_append]
            rfl
          rw [es]
          exact hN'
      · rw [if_neg hk] at hN' ⊢
        refine ⟨le2, ?_, ?_⟩
        · rw [List.length_append, List.length_map, List.length_singleton]
          rw [List.length_append, List.length_singleton] at hlen
          exact small1000 hlen
        · rw [List.map_append, List.map_append] at hN'
          exact hN'
  · subst hρ
    exact q
end LW

namespace LW
open PySem PySem.Spec PyProof.Rows L2 DL
/-! _law_word -/
abbrev n__law_word : List Str := ["source", "pad", "most", "found", "key", "turn"]
def p__law_word : DP := fun ds Q _ => ∃ kp most, ds = [Kd kp, .int most] ∧ KpOk kp ∧ 0 ≤ most ∧ most ≤ 900 ∧ ∀ w : Tx, (∀ c ∈ w, c ∈ kp.flatten) → (w.length : Int) ≤ most → Q (S w)
def t__law_word (W : Str → Prop) : DS := (dSeq (dPar 3 4 (dCons (dC (.str "")) (dCons (dOp gIdx (dVar 1) (dC (.int 0))) dNil)))
      (dSeq (dFor (dRng1 (dCons (dFnS p__law_pick 0 (dCons (dOp gAdd (dVar 2) (dC (.int 1))) dNil)) dNil)) (dgName 5) (dSeq (dAsg (dOp gIdx (dLst (dCons (dVar 4) (dCons (dOp gIdx (dVar 1) (dFnS p__law_pick 0 (dCons (dCall (gL1 gLen) (dCons (dVar 1) dNil)) dNil))) dNil))) (dFnS p__law_pick 0 (dCons (dC (.int 2)) dNil))) (dgName 4))
      (dAsg (dOp gAdd (dVar 3) (dOp gIdx (dVar 4) (dFnS p__law_pick 0 (dCons (dCall (gL1 gLen) (dCons (dVar 4) dNil)) dNil)))) (dgName 3))))
      (dRet (dVar 3))))
theorem m__law_word : MoP p__law_word := fun ds Q Q' W W' hq _ ⟨a, b, e, h1, h2, h3, q⟩ => ⟨a, b, e, h1, h2, h3, fun w h5 h6 => hq _ (q w h5 h6)⟩
theorem l__law_word : ∀ ds Q W, p__law_word ds Q W → ds.length + 1 = 3 := fun ds Q W ⟨a, b, e, _⟩ => by rw [e]; rfl
theorem atI_pick {α : Type} {xs : List α} {k : Int} (h0 : 0 ≤ k) (h1 : k < xs.length) : ∃ x, x ∈ xs ∧ atI xs k = some x := by
  obtain ⟨n, rfl⟩ := Int.eq_ofNat_of_zero_le h0
  have hn : n < xs.length := by omega
  exact ⟨xs[n], List.getElem_mem hn, atI_nat (List.getElem?_eq_getElem hn)⟩
theorem D__law_word (q : Addr) (ds : List D) (Q : D → Prop) (h : p__law_word ds Q noW) : t__law_word noW (endsS q Q) (startSS n__law_word q ds) := by
  obtain ⟨kp, most, rfl, hk, h1, h2, hQ⟩ := h
  show t__law_word noW (endsS q Q) [.src q, .va (Kd kp), .va (.int most), .no, .no, .no]
  have hk1 := hk.l1
  have hk2 := hk.l2
  have h0k : (0 : Int) < kp.length := by omega
  simp only [t__law_word, Kd, dRet, dRetN, dAnd, dOr, dNot, dTest, dTAnd, dTOr, dTNot, dIf, dChain, dUn, dOp, dCall, dC, dVar, dCons, dNil, dTup, dLst, dSeq, dIfS, dAsg, dgName, dgNil, dPar, dParEO, dParOE, dParOO, dFor, dIter, dNext, dBreak, dCont, dDrop, dRaise, dFn, dFnS, dFnO, dM1, dLc, dSl, dSlV, dRevV, dLenV, dIdxV, dApp, dSetI, dPopAt, dCmpV, dOwn, dOwnV, dRetO, dRng1, dRng2, dRng3, dPNo, dPSo, dYes, dLenSet, dScrLen, dScrIdx, dSrcIdx, dSrcSet, dNewSrc, oLst, oRep, oListStr, gEq, gNe, gIsN, gNotN, gIsB, gNotB, gIsi, sg, List.getD_cons_zero, List.getD_cons_succ, List.set_cons_zero, List.set_cons_succ, if_true, if_false, reduceIte, endsD, endsS, endsO, endsN, endsL, asB_b, asI_i, asL_l, itemsP_l, itemsP_t, itemsP_s, itemsP_d, gAdd_i, gAdd_s, gAdd_t, gAdd_l, gI2_i, gMul_i, gMul_t, gMul_l, gMul_s, gNeg_i, gLen_s, gLen_l, gLen_t, gL1_1, gAll_l, gSum_l, gI2L_i, gMaxL_l, gMinL_l, gJoin_l, gJoin_t, gSl_l, gSl_t, gSl_s, gRev_l, wipeS, unwipe, keepV, gIdx_l, gIdx_t, gIdx_s, gIdx_d, dVarD, dDNew, dDNewT, dDPut, dDGetV, dDInV, dDEmpty, dDOne, dOwnD, dParED, dPar3, dEnum, dZip, dgTup_t, dgCons_c, dIsE, gSplit, dZipH, dM1]
  refine ⟨_, atI_key (Int.le_refl 0) h0k, trivial, most + 1, rfl, by omega, by omega, fun r r0 r1 => ?_⟩
  rw [empty_eq]
  simp only [dRet, dRetN, dAnd, dOr, dNot, dTest, dTAnd, dTOr, dTNot, dIf, dChain, dUn, dOp, dCall, dC, dVar, dCons, dNil, dTup, dLst, dSeq, dIfS, dAsg, dgName, dgNil, dPar, dParEO, dParOE, dParOO, dFor, dIter, dNext, dBreak, dCont, dDrop, dRaise, dFn, dFnS, dFnO, dM1, dLc, dSl, dSlV, dRevV, dLenV, dIdxV, dApp, dSetI, dPopAt, dCmpV, dOwn, dOwnV, dRetO, dRng1, dRng2, dRng3, dPNo, dPSo, dYes, dLenSet, dScrLen, dScrIdx, dSrcIdx, dSrcSet, dNewSrc, oLst, oRep, oListStr, gEq, gNe, gIsN, gNotN, gIsB, gNotB, gIsi, sg, List.getD_cons_zero, List.getD_cons_succ, List.set_cons_zero, List.set_cons_succ, if_true, if_false, reduceIte, endsD, endsS, endsO, endsN, endsL, asB_b, asI_i, asL_l, itemsP_l, itemsP_t, itemsP_s, itemsP_d, gAdd_i, gAdd_s, gAdd_t, gAdd_l, gI2_i, gMul_i, gMul_t, gMul_l, gMul_s, gNeg_i, gLen_s, gLen_l, gLen_t, gL1_1, gAll_l, gSum_l, gI2L_i, gMaxL_l, gMinL_l, gJoin_l, gJoin_t, gSl_l, gSl_t, gSl_s, gRev_l, wipeS, unwipe, keepV, gIdx_l, gIdx_t, gIdx_s, gIdx_d, dVarD, dDNew, dDNewT, dDPut, dDGetV, dDInV, dDEmpty, dDOne, dOwnD, dParED, dPar3, dEnum, dZip, dgTup_t, dgCons_c, dIsE, gSplit, dZipH, dM1]
  refine ⟨by omega, ?_⟩
  unfold rng1
  refine for_rng (fun i ρ => ∃ w key x5, ρ = [.src q, .va (.tuple (kp.map S)), .va (.int most), .va (S w), .va (S key), x5] ∧ w.length = i ∧ (∀ c ∈ w, c ∈ kp.flatten) ∧ key ∈ kp) ⟨[], keyAt kp 0, _, rfl, rfl, (fun _ z => nomatch z), key_mem (Int.le_refl 0) h0k⟩ (fun i hi ρ ⟨w, key, x5, hρ, hl, hw, hkey⟩ N hN => ?_) (fun ρ ⟨w, key, x5, hρ, hl, hw, hkey⟩ => ?_)
  · subst hρ
    simp only [dRet, dRetN, dAnd, dOr, dNot, dTest, dTAnd, dTOr, dTNot, dIf, dChain, dUn, dOp, dCall, dC, dVar, dCons, dNil, dTup, dLst, dSeq, dIfS, dAsg, dgName, dgNil, dPar, dParEO, dParOE, dParOO, dFor, dIter, dNext, dBreak, dCont, dDrop, dRaise, dFn, dFnS, dFnO, dM1, dLc, dSl, dSlV, dRevV, dLenV, dIdxV, dApp, dSetI, dPopAt, dCmpV, dOwn, dOwnV, dRetO, dRng1, dRng2, dRng3, dPNo, dPSo, dYes, dLenSet, dScrLen, dScrIdx, dSrcIdx, dSrcSet, dNewSrc, oLst, oRep, oListStr, gEq, gNe, gIsN, gNotN, gIsB, gNotB, gIsi, sg, List.getD_cons_zero, List.getD_cons_succ, List.set_cons_zero, List.set_cons_succ, if_true, if_false, reduceIte, endsD, endsS, endsO, endsN, endsL, asB_b, asI_i, asL_l, itemsP_l, itemsP_t, itemsP_s, itemsP_d, gAdd_i, gAdd_s, gAdd_t, gAdd_l, gI2_i, gMul_i, gMul_t, gMul_l, gMul_s, gNeg_i, gLen_s, gLen_l, gLen_t, gL1_1, gAll_l, gSum_l, gI2L_i, gMaxL_l, gMinL_l, gJoin_l, gJoin_t, gSl_l, gSl_t, gSl_s, gRev_l, wipeS, unwipe, keepV, gIdx_l, gIdx_t, gIdx_s, gIdx_d, dVarD, dDNew, dDNewT, dDPut, dDGetV, dDInV, dDEmpty, dDOne, dOwnD, dParED, dPar3, dEnum, dZip, dgTup_t, dgCons_c, dIsE, gSplit, dZipH, dM1, List.length_map]
    refine ⟨trivial, kp.length, rfl, by omega, by omega, fun s s0 s1 => ⟨_, atI_key s0 s1, le2, trivial, 2, rfl, by omega, by omega, fun u u0 u1 => ?_⟩⟩
    have fin : ∀ k : Tx, k ∈ kp → p__law_pick [PyData.int (k.length : Int)] (fun r => gIdx (S k) r fun d => gAdd (S w) d fun d => N [.src q, .va (.tuple (kp.map S)), .va (.int most), .va d, .va (S k), .va (.int (0 + (i : Int)))]) fun _ => False := fun k hk' => by
      have a1 := hk.k1 k hk'
      have a6 := hk.k6 k hk'
      refine ⟨(k.length : Int), rfl, by omega, by omega, fun v v0 v1 => ?_⟩
      simp only [dRet, dRetN, dAnd, dOr, dNot, dTest, dTAnd, dTOr, dTNot, dIf, dChain, dUn, dOp, dCall, dC, dVar, dCons, dNil, dTup, dLst, dSeq, dIfS, dAsg, dgName, dgNil, dPar, dParEO, dParOE, dParOO, dFor, dIter, dNext, dBreak, dCont, dDrop, dRaise, dFn, dFnS, dFnO, dM1, dLc, dSl, dSlV, dRevV, dLenV, dIdxV, dApp, dSetI, dPopAt, dCmpV, dOwn, dOwnV, dRetO, dRng1, dRng2, dRng3, dPNo, dPSo, dYes, dLenSet, dScrLen, dScrIdx, dSrcIdx, dSrcSet, dNewSrc, oLst, oRep, oListStr, gEq, gNe, gIsN, gNotN, gIsB, gNotB, gIsi, sg, List.getD_cons_zero, List.getD_cons_succ, List.set_cons_zero, List.set_cons_succ, if_true, if_false, reduceIte, endsD, endsS, endsO, endsN, endsL, asB_b, asI_i, asL_l, itemsP_l, itemsP_t, itemsP_s, itemsP_d, gAdd_i, gAdd_s, gAdd_t, gAdd_l, gI2_i, gMul_i, gMul_t, gMul_l, gMul_s, gNeg_i, gLen_s, gLen_l, gLen_t, gL1_1, gAll_l, gSum_l, gI2L_i, gMaxL_l, gMinL_l, gJoin_l, gJoin_t, gSl_l, gSl_t, gSl_s, gRev_l, wipeS, unwipe, keepV, gIdx_l, gIdx_t, gIdx_s, gIdx_d, dVarD, dDNew, dDNewT, dDPut, dDGetV, dDInV, dDEmpty, dDOne, dOwnD, dParED, dPar3, dEnum, dZip, dgTup_t, dgCons_c, dIsE, gSplit, dZipH, dM1, tx_length, tx_list]
      obtain ⟨c, hc, hat⟩ := atI_pick (xs := k) v0 v1
      refine ⟨small_le (by omega), c, hat, ?_⟩
      have e : ({ cps := #[c] } : Str) = tx [c] := rfl
      rw [e, tx_append]
      simp only [tx_length]
      refine ⟨small_le (by simp; omega), hN _ ⟨w ++ [c], k, .va (.int (0 + (i : Int))), rfl, by simp; omega, fun d hd => ?_, hk'⟩⟩
      rcases List.mem_append.mp hd with hd | hd
      · exact hw d hd
      · simp at hd
        subst hd
        exact List.mem_flatten.mpr ⟨k, hk', hc⟩
    have hu : u = 0 ∨ u = 1 := by omega
    rcases hu with rfl | rfl
    · refine ⟨S key, rfl, ?_⟩
      simp only [dRet, dRetN, dAnd, dOr, dNot, dTest, dTAnd, dTOr, dTNot, dIf, dChain, dUn, dOp, dCall, dC, dVar, dCons, dNil, dTup, dLst, dSeq, dIfS, dAsg, dgName, dgNil, dPar, dParEO, dParOE, dParOO, dFor, dIter, dNext, dBreak, dCont, dDrop, dRaise, dFn, dFnS, dFnO, dM1, dLc, dSl, dSlV, dRevV, dLenV, dIdxV, dApp, dSetI, dPopAt, dCmpV, dOwn, dOwnV, dRetO, dRng1, dRng2, dRng3, dPNo, dPSo, dYes, dLenSet, dScrLen, dScrIdx, dSrcIdx, dSrcSet, dNewSrc, oLst, oRep, oListStr, gEq, gNe, gIsN, gNotN, gIsB, gNotB, gIsi, sg, List.getD_cons_zero, List.getD_cons_succ, List.set_cons_zero, List.set_cons_succ, if_true, if_false, reduceIte, endsD, endsS, endsO, endsN, endsL, asB_b, asI_i, asL_l, itemsP_l, itemsP_t, itemsP_s, itemsP_d, gAdd_i, gAdd_s, gAdd_t, gAdd_l, gI2_i, gMul_i, gMul_t, gMul_l, gMul_s, gNeg_i, gLen_s, gLen_l, gLen_t, gL1_1, gAll_l, gSum_l, gI2L_i, gMaxL_l, gMinL_l, gJoin_l, gJoin_t, gSl_l, gSl_t, gSl_s, gRev_l, wipeS, unwipe, keepV, gIdx_l, gIdx_t, gIdx_s, gIdx_d, dVarD, dDNew, dDNewT, dDPut, dDGetV, dDInV, dDEmpty, dDOne, dOwnD, dParED, dPar3, dEnum, dZip, dgTup_t, dgCons_c, dIsE, gSplit, dZipH, dM1, tx_length]
      exact ⟨small_le (by have := hk.k6 key hkey; omega), trivial, fin key hkey⟩
    · refine ⟨S (keyAt kp s), rfl, ?_⟩
      simp only [dRet, dRetN, dAnd, dOr, dNot, dTest, dTAnd, dTOr, dTNot, dIf, dChain, dUn, dOp, dCall, dC, dVar, dCons, dNil, dTup, dLst, dSeq, dIfS, dAsg, dgName, dgNil, dPar, dParEO, dParOE, dParOO, dFor, dIter, dNext, dBreak, dCont, dDrop, dRaise, dFn, dFnS, dFnO, dM1, dLc, dSl, dSlV, dRevV, dLenV, dIdxV, dApp, dSetI, dPopAt, dCmpV, dOwn, dOwnV, dRetO, dRng1, dRng2, dRng3, dPNo, dPSo, dYes, dLenSet, dScrLen, dScrIdx, dSrcIdx, dSrcSet, dNewSrc, oLst, oRep, oListStr, gEq, gNe, gIsN, gNotN, gIsB, gNotB, gIsi, sg, List.getD_cons_zero, List.getD_cons_succ, List.set_cons_zero, List.set_cons_succ, if_true, if_false, reduceIte, endsD, endsS, endsO, endsN, endsL, asB_b, asI_i, asL_l, itemsP_l, itemsP_t, itemsP_s, itemsP_d, gAdd_i, gAdd_s, gAdd_t, gAdd_l, gI2_i, gMul_i, gMul_t, gMul_l, gMul_s, gNeg_i, gLen_s, gLen_l, gLen_t, gL1_1, gAll_l, gSum_l, gI2L_i, gMaxL_l, gMinL_l, gJoin_l, gJoin_t, gSl_l, gSl_t, gSl_s, gRev_l, wipeS, unwipe, keepV, gIdx_l, gIdx_t, gIdx_s, gIdx_d, dVarD, dDNew, dDNewT, dDPut, dDGetV, dDInV, dDEmpty, dDOne, dOwnD, dParED, dPar3, dEnum, dZip, dgTup_t, dgCons_c, dIsE, gSplit, dZipH, dM1, tx_length]
      exact ⟨small_le (by have := hk.k6 _ (key_mem s0 s1); omega), trivial, fin _ (key_mem s0 s1)⟩
  · subst hρ
    exact ⟨rfl, hQ w hw (by omega)⟩
/-! _law_typed -/
abbrev n__law_typed : List Str := ["pad", "word", "spots", "found", "letter"]
def p__law_typed : DP := p_pressed
def t__law_typed (W : Str → Prop) : DS := (dSeq (dPar 2 3 (dCons (dFn p__law_spots W (dCons (dVar 0) dNil)) (dCons (dTup dNil) dNil)))
      (dSeq (dFor (dIter (dVar 1)) (dgName 4) (dAsg (dOp gAdd (dVar 3) (dOp gMul (dTup (dCons (dOp gIdx (dOp gIdx (dVar 2) (dVar 4)) (dC (.int 0))) dNil)) (dOp gIdx (dOp gIdx (dVar 2) (dVar 4)) (dC (.int 1))))) (dgName 3)))
      (dRet (dVar 3))))
theorem m__law_typed : MoP p__law_typed := m_pressed
theorem l__law_typed : ∀ ds Q W, p__law_typed ds Q W → ds.length = 2 := l_pressed
theorem D__law_typed (W : Str → Prop) (ds : List D) (Q : D → Prop) (h : p__law_typed ds Q W) : t__law_typed W (endsD Q) (startS n__law_typed ds) := by
  obtain ⟨kp, w, rfl, hp, hw, hl, q⟩ := h
  show t__law_typed W (endsD Q) [.va (Kd kp), .va (S w), .no, .no, .no]
  simp only [t__law_typed, dRet, dRetN, dAnd, dOr, dNot, dTest, dTAnd, dTOr, dTNot, dIf, dChain, dUn, dOp, dCall, dC, dVar, dCons, dNil, dTup, dLst, dSeq, dIfS, dAsg, dgName, dgNil, dPar, dParEO, dParOE, dParOO, dFor, dIter, dNext, dBreak, dCont, dDrop, dRaise, dFn, dFnS, dFnO, dM1, dLc, dSl, dSlV, dRevV, dLenV, dIdxV, dApp, dSetI, dPopAt, dCmpV, dOwn, dOwnV, dRetO, dRng1, dRng2, dRng3, dPNo, dPSo, dYes, dLenSet, dScrLen, dScrIdx, dSrcIdx, dSrcSet, dNewSrc, oLst, oRep, oListStr, gEq, gNe, gIsN, gNotN, gIsB, gNotB, gIsi, sg, List.getD_cons_zero, List.getD_cons_succ, List.set_cons_zero, List.set_cons_succ, if_true, if_false, reduceIte, endsD, endsS, endsO, endsN, endsL, asB_b, asI_i, asL_l, itemsP_l, itemsP_t, itemsP_s, itemsP_d, gAdd_i, gAdd_s, gAdd_t, gAdd_l, gI2_i, gMul_i, gMul_t, gMul_l, gMul_s, gNeg_i, gLen_s, gLen_l, gLen_t, gL1_1, gAll_l, gSum_l, gI2L_i, gMaxL_l, gMinL_l, gJoin_l, gJoin_t, gSl_l, gSl_t, gSl_s, gRev_l, wipeS, unwipe, keepV, gIdx_l, gIdx_t, gIdx_s, gIdx_d, dVarD, dDNew, dDNewT, dDPut, dDGetV, dDInV, dDEmpty, dDOne, dOwnD, dParED, dPar3, dEnum, dZip, dgTup_t, dgCons_c, dIsE, gSplit, dZipH, dM1]
  refine ⟨kp, rfl, hp.nd, hp.fl, hp.len, Nat.zero_le _, ?_⟩
  simp only [dRet, dRetN, dAnd, dOr, dNot, dTest, dTAnd, dTOr, dTNot, dIf, dChain, dUn, dOp, dCall, dC, dVar, dCons, dNil, dTup, dLst, dSeq, dIfS, dAsg, dgName, dgNil, dPar, dParEO, dParOE, dParOO, dFor, dIter, dNext, dBreak, dCont, dDrop, dRaise, dFn, dFnS, dFnO, dM1, dLc, dSl, dSlV, dRevV, dLenV, dIdxV, dApp, dSetI, dPopAt, dCmpV, dOwn, dOwnV, dRetO, dRng1, dRng2, dRng3, dPNo, dPSo, dYes, dLenSet, dScrLen, dScrIdx, dSrcIdx, dSrcSet, dNewSrc, oLst, oRep, oListStr, gEq, gNe, gIsN, gNotN, gIsB, gNotB, gIsi, sg, List.getD_cons_zero, List.getD_cons_succ, List.set_cons_zero, List.set_cons_succ, if_true, if_false, reduceIte, endsD, endsS, endsO, endsN, endsL, asB_b, asI_i, asL_l, itemsP_l, itemsP_t, itemsP_s, itemsP_d, gAdd_i, gAdd_s, gAdd_t, gAdd_l, gI2_i, gMul_i, gMul_t, gMul_l, gMul_s, gNeg_i, gLen_s, gLen_l, gLen_t, gL1_1, gAll_l, gSum_l, gI2L_i, gMaxL_l, gMinL_l, gJoin_l, gJoin_t, gSl_l, gSl_t, gSl_s, gRev_l, wipeS, unwipe, keepV, gIdx_l, gIdx_t, gIdx_s, gIdx_d, dVarD, dDNew, dDNewT, dDPut, dDGetV, dDInV, dDEmpty, dDOne, dOwnD, dParED, dPar3, dEnum, dZip, dgTup_t, dgCons_c, dIsE, gSplit, dZipH, dM1, chars_tx]
  refine for_ind (fun c => S [c]) (fun done ρ => ∃ x4, ρ = [.va (Kd kp), .va (S w), .va (.dict (spots kp.zipIdx)), .va (Ld (pressedL kp done)), x4]) ⟨_, rfl⟩ (fun done c rest ρ hd ⟨x4, hρ⟩ N hN => ?_) (fun ρ ⟨x4, hρ⟩ => ?_)
  · subst hρ
    have hc : c ∈ kp.flatten := hw c (by rw [hd]; exact List.mem_append.mpr (.inr List.mem_cons_self))
    have hn := hp.num hc
    have hdl : done.length < w.length := by
      rw [hd, List.length_append, List.length_cons]
      omega
    have hpl := pressed_len hp (w := done) fun d h => hw d (by rw [hd]; exact List.mem_append.mpr (.inl h))
    simp only [dRet, dRetN, dAnd, dOr, dNot, dTest, dTAnd, dTOr, dTNot, dIf, dChain, dUn, dOp, dCall, dC, dVar, dCons, dNil, dTup, dLst, dSeq, dIfS, dAsg, dgName, dgNil, dPar, dParEO, dParOE, dParOO, dFor, dIter, dNext, dBreak, dCont, dDrop, dRaise, dFn, dFnS, dFnO, dM1, dLc, dSl, dSlV, dRevV, dLenV, dIdxV, dApp, dSetI, dPopAt, dCmpV, dOwn, dOwnV, dRetO, dRng1, dRng2, dRng3, dPNo, dPSo, dYes, dLenSet, dScrLen, dScrIdx, dSrcIdx, dSrcSet, dNewSrc, oLst, oRep, oListStr, gEq, gNe, gIsN, gNotN, gIsB, gNotB, gIsi, sg, List.getD_cons_zero, List.getD_cons_succ, List.set_cons_zero, List.set_cons_succ, if_true, if_false, reduceIte, endsD, endsS, endsO, endsN, endsL, asB_b, asI_i, asL_l, itemsP_l, itemsP_t, itemsP_s, itemsP_d, gAdd_i, gAdd_s, gAdd_t, gAdd_l, gI2_i, gMul_i, gMul_t, gMul_l, gMul_s, gNeg_i, gLen_s, gLen_l, gLen_t, gL1_1, gAll_l, gSum_l, gI2L_i, gMaxL_l, gMinL_l, gJoin_l, gJoin_t, gSl_l, gSl_t, gSl_s, gRev_l, wipeS, unwipe, keepV, gIdx_l, gIdx_t, gIdx_s, gIdx_d, dVarD, dDNew, dDNewT, dDPut, dDGetV, dDInV, dDEmpty, dDOne, dOwnD, dParED, dPar3, dEnum, dZip, dgTup_t, dgCons_c, dIsE, gSplit, dZipH, dM1]
    refine ⟨_, look_pad hc, _, rfl, le1, _, look_pad hc, _, rfl, ?_⟩
    simp only [dRet, dRetN, dAnd, dOr, dNot, dTest, dTAnd, dTOr, dTNot, dIf, dChain, dUn, dOp, dCall, dC, dVar, dCons, dNil, dTup, dLst, dSeq, dIfS, dAsg, dgName, dgNil, dPar, dParEO, dParOE, dParOO, dFor, dIter, dNext, dBreak, dCont, dDrop, dRaise, dFn, dFnS, dFnO, dM1, dLc, dSl, dSlV, dRevV, dLenV, dIdxV, dApp, dSetI, dPopAt, dCmpV, dOwn, dOwnV, dRetO, dRng1, dRng2, dRng3, dPNo, dPSo, dYes, dLenSet, dScrLen, dScrIdx, dSrcIdx, dSrcSet, dNewSrc, oLst, oRep, oListStr, gEq, gNe, gIsN, gNotN, gIsB, gNotB, gIsi, sg, List.getD_cons_zero, List.getD_cons_succ, List.set_cons_zero, List.set_cons_succ, if_true, if_false, reduceIte, endsD, endsS, endsO, endsN, endsL, asB_b, asI_i, asL_l, itemsP_l, itemsP_t, itemsP_s, itemsP_d, gAdd_i, gAdd_s, gAdd_t, gAdd_l, gI2_i, gMul_i, gMul_t, gMul_l, gMul_s, gNeg_i, gLen_s, gLen_l, gLen_t, gL1_1, gAll_l, gSum_l, gI2L_i, gMaxL_l, gMinL_l, gJoin_l, gJoin_t, gSl_l, gSl_t, gSl_s, gRev_l, wipeS, unwipe, keepV, gIdx_l, gIdx_t, gIdx_s, gIdx_d, dVarD, dDNew, dDNewT, dDPut, dDGetV, dDInV, dDEmpty, dDOne, dOwnD, dParED, dPar3, dEnum, dZip, dgTup_t, dgCons_c, dIsE, gSplit, dZipH, dM1, rep_Ld]
    refine ⟨⟨by omega, by omega, by simp⟩, ?_, hN _ ⟨.va (S [c]), ?_⟩⟩
    · rw [List.length_map, List.length_map, List.length_replicate]
      exact le_mil (by omega)
    · unfold pressedL
      rw [Ld, List.flatMap_append, List.map_append]
      simp
  · subst hρ
    exact q
/-! reads -/
theorem zipD_map {α β : Type} (f : α → D) (g : β → D) : ∀ (xs : List α) (ys : List β), zipD (xs.map f) (ys.map g) = (xs.zip ys).map fun p => .tuple [f p.1, g p.2]
  | [], _ => by simp [zipD]
  | _ :: _, [] => by simp [zipD]
  | x :: xs, y :: ys => by
    have ih := zipD_map f g xs ys
    unfold zipD at ih ⊢
    rw [List.map_cons, List.map_cons, List.zip_cons_cons, List.map_cons, ih, List.zip_cons_cons, List.map_cons]
def rdOk (kp : List Tx) (p : Run × Run) : Bool := decide (p.2.2 ≤ p.1.2) && decide ((p.1.2 - p.2.2) % ((keyAt kp p.1.1).length : Int) = 0)
/-- whether a text can be read in a log -/
def readsB (kp : List Tx) (l : List Int) (w : Tx) : Bool := decide ((runs l).map (·.1) = (sums kp w).map (·.1)) && ((runs l).zip (sums kp w)).all (rdOk kp)
abbrev n_reads : List Str := ["keypad", "log", "text", "runs", "sums", "run", "stretch", "key", "many", "total"]
def p_reads : DP := fun ds Q _ => ∃ kp l w, ds = [Kd kp, Ld l, S w] ∧ KpOk kp ∧ l.length ≤ 900 ∧ (∀ k ∈ l, 0 ≤ k ∧ k < kp.length) ∧ (∀ c ∈ w, c ∈ kp.flatten) ∧ w.length ≤ 900 ∧ Q (.bool (readsB kp l w))
def t_reads (W : Str → Prop) : DS := (dSeq (dPar 3 4 (dCons (dFn p_runs_of W (dCons (dVar 1) dNil)) (dCons (dFn p_sums_of W (dCons (dVar 0) (dCons (dVar 2) dNil))) dNil)))
      (dSeq (dIfS (dTest (dOp gNe (dLc (dIter (dVar 3)) (dgTup (dgCons (dgName 7) (dgCons (dgName 8) dgNil))) dYes (dVar 7) [7, 8]) (dLc (dIter (dVar 4)) (dgTup (dgCons (dgName 7) (dgCons (dgName 9) dgNil))) dYes (dVar 7) [7, 9]))) (dRet (dC (.bool false))) dNext)
      (dSeq (dFor (dZip (dCons (dVar 3) (dCons (dVar 4) dNil))) (dgTup (dgCons (dgName 5) (dgCons (dgName 6) dgNil))) (dIfS (dTOr (dTest (dOp gGt (dOp gIdx (dVar 6) (dC (.int 1))) (dOp gIdx (dVar 5) (dC (.int 1))))) (dTest (dOp gNe (dOp gMod (dOp gSub (dOp gIdx (dVar 5) (dC (.int 1))) (dOp gIdx (dVar 6) (dC (.int 1)))) (dCall (gL1 gLen) (dCons (dOp gIdx (dVar 0) (dOp gIdx (dVar 5) (dC (.int 0)))) dNil))) (dC (.int 0))))) (dRet (dC (.bool false))) dNext))
      (dRet (dC (.bool true))))))
theorem m_reads : MoP p_reads := fun ds Q Q' W W' hq _ ⟨kp, l, w, e, h1, h2, h3, h4, h5, q⟩ => ⟨kp, l, w, e, h1, h2, h3, h4, h5, hq _ q⟩
theorem l_reads : ∀ ds Q W, p_reads ds Q W → ds.length = 3 := fun ds Q W ⟨kp, l, w, e, _⟩ => by rw [e]; rfl
theorem runs_key {l : List Int} {n : Nat} (h : ∀ k ∈ l, 0 ≤ k ∧ k < n) : ∀ r ∈ runs l, 0 ≤ r.1 ∧ r.1 < n := fun r hr => by
  obtain ⟨h1, _, _⟩ := runs_in l [] 0 (fun _ z => nomatch z) r hr
  rcases h1 with h1 | ⟨q, hq, _⟩
  · exact h _ h1
  · cases hq
/-- the keys of runs, by comprehension -/
theorem lc_keys {vs : List Nat} {Q : List D → List Sl → Prop} {ρ : List Sl} {g : DG} {fe : DE} (rs : List Run) (hz : rs.length ≤ 1000)
    (h : ∀ r ∈ rs, ∀ (R : D → List Sl → Prop) (N : List Sl → Prop), (∀ ρ3, wipeS ρ3 vs = ρ → R (.int r.1) ρ3) → g (runD r) ρ fun ρ1 => dYes ρ1 fun b ρ2 => if b = true then fe ρ2 R else N ρ2)
    (q : Q ((rs.map (·.1)).map .int) ρ) : dLcL g dYes fe vs Q (rs.map runD) [] ρ := by
  refine lc_map runD (fun r => .int r.1) rs [] h (small_le (by simpa using hz)) ?_
  rw [List.nil_append]
  rw [List.map_map] at q
  exact q
theorem D_reads (W : Str → Prop) (ds : List D) (Q : D → Prop) (h : p_reads ds Q W) : t_reads W (endsD Q) (startS n_reads ds) := by
  obtain ⟨kp, l, w, rfl, hk, hl, hlk, hw, hwl, q⟩ := h
  show t_reads W (endsD Q) [.va (Kd kp), .va (Ld l), .va (S w), .no, .no, .no, .no, .no, .no, .no]
  simp only [t_reads, dRet, dRetN, dAnd, dOr, dNot, dTest, dTAnd, dTOr, dTNot, dIf, dChain, dUn, dOp, dCall, dC, dVar, dCons, dNil, dTup, dLst, dSeq, dIfS, dAsg, dgName, dgNil, dPar, dParEO, dParOE, dParOO, dFor, dIter, dNext, dBreak, dCont, dDrop, dRaise, dFn, dFnS, dFnO, dM1, dLc, dSl, dSlV, dRevV, dLenV, dIdxV, dApp, dSetI, dPopAt, dCmpV, dOwn, dOwnV, dRetO, dRng1, dRng2, dRng3, dPNo, dPSo, dYes, dLenSet, dScrLen, dScrIdx, dSrcIdx, dSrcSet, dNewSrc, oLst, oRep, oListStr, gEq, gNe, gIsN, gNotN, gIsB, gNotB, gIsi, sg, List.getD_cons_zero, List.getD_cons_succ, List.set_cons_zero, List.set_cons_succ, if_true, if_false, reduceIte, endsD, endsS, endsO, endsN, endsL, asB_b, asI_i, asL_l, itemsP_l, itemsP_t, itemsP_s, itemsP_d, gAdd_i, gAdd_s, gAdd_t, gAdd_l, gI2_i, gMul_i, gMul_t, gMul_l, gMul_s, gNeg_i, gLen_s, gLen_l, gLen_t, gL1_1, gAll_l, gSum_l, gI2L_i, gMaxL_l, gMinL_l, gJoin_l, gJoin_t, gSl_l, gSl_t, gSl_s, gRev_l, wipeS, unwipe, keepV, gIdx_l, gIdx_t, gIdx_s, gIdx_d, dVarD, dDNew, dDNewT, dDPut, dDGetV, dDInV, dDEmpty, dDOne, dOwnD, dParED, dPar3, dEnum, dZip, dgTup_t, dgCons_c, dIsE, gSplit, dZipH, dM1]
  have hr1 : (runs l).length ≤ 1000 := by
    have := runs_len l
    omega
  have hr2 : (sums kp w).length ≤ 1000 := by
    have h1 : (sums kp w).length ≤ ([] : List Run).length + w.length := sums_len kp w []
    simp at h1
    omega
  refine ⟨l, rfl, by omega, kp, w, rfl, hk.pad, hw, hwl, ?_⟩
  simp only [dRet, dRetN, dAnd, dOr, dNot, dTest, dTAnd, dTOr, dTNot, dIf, dChain, dUn, dOp, dCall, dC, dVar, dCons, dNil, dTup, dLst, dSeq, dIfS, dAsg, dgName, dgNil, dPar, dParEO, dParOE, dParOO, dFor, dIter, dNext, dBreak, dCont, dDrop, dRaise, dFn, dFnS, dFnO, dM1, dLc, dSl, dSlV, dRevV, dLenV, dIdxV, dApp, dSetI, dPopAt, dCmpV, dOwn, dOwnV, dRetO, dRng1, dRng2, dRng3, dPNo, dPSo, dYes, dLenSet, dScrLen, dScrIdx, dSrcIdx, dSrcSet, dNewSrc, oLst, oRep, oListStr, gEq, gNe, gIsN, gNotN, gIsB, gNotB, gIsi, sg, List.getD_cons_zero, List.getD_cons_succ, List.set_cons_zero, List.set_cons_succ, if_true, if_false, reduceIte, endsD, endsS, endsO, endsN, endsL, asB_b, asI_i, asL_l, itemsP_l, itemsP_t, itemsP_s, itemsP_d, gAdd_i, gAdd_s, gAdd_t, gAdd_l, gI2_i, gMul_i, gMul_t, gMul_l, gMul_s, gNeg_i, gLen_s, gLen_l, gLen_t, gL1_1, gAll_l, gSum_l, gI2L_i, gMaxL_l, gMinL_l, gJoin_l, gJoin_t, gSl_l, gSl_t, gSl_s, gRev_l, wipeS, unwipe, keepV, gIdx_l, gIdx_t, gIdx_s, gIdx_d, dVarD, dDNew, dDNewT, dDPut, dDGetV, dDInV, dDEmpty, dDOne, dOwnD, dParED, dPar3, dEnum, dZip, dgTup_t, dgCons_c, dIsE, gSplit, dZipH, dM1, runsD]
  refine lc_keys (runs l) hr1 (fun r hr R N hR => ?_) ?_
  · simp only [runD, dRet, dRetN, dAnd, dOr, dNot, dTest, dTAnd, dTOr, dTNot, dIf, dChain, dUn, dOp, dCall, dC, dVar, dCons, dNil, dTup, dLst, dSeq, dIfS, dAsg, dgName, dgNil, dPar, dParEO, dParOE, dParOO, dFor, dIter, dNext, dBreak, dCont, dDrop, dRaise, dFn, dFnS, dFnO, dM1, dLc, dSl, dSlV, dRevV, dLenV, dIdxV, dApp, dSetI, dPopAt, dCmpV, dOwn, dOwnV, dRetO, dRng1, dRng2, dRng3, dPNo, dPSo, dYes, dLenSet, dScrLen, dScrIdx, dSrcIdx, dSrcSet, dNewSrc, oLst, oRep, oListStr, gEq, gNe, gIsN, gNotN, gIsB, gNotB, gIsi, sg, List.getD_cons_zero, List.getD_cons_succ, List.set_cons_zero, List.set_cons_succ, if_true, if_false, reduceIte, endsD, endsS, endsO, endsN, endsL, asB_b, asI_i, asL_l, itemsP_l, itemsP_t, itemsP_s, itemsP_d, gAdd_i, gAdd_s, gAdd_t, gAdd_l, gI2_i, gMul_i, gMul_t, gMul_l, gMul_s, gNeg_i, gLen_s, gLen_l, gLen_t, gL1_1, gAll_l, gSum_l, gI2L_i, gMaxL_l, gMinL_l, gJoin_l, gJoin_t, gSl_l, gSl_t, gSl_s, gRev_l, wipeS, unwipe, keepV, gIdx_l, gIdx_t, gIdx_s, gIdx_d, dVarD, dDNew, dDNewT, dDPut, dDGetV, dDInV, dDEmpty, dDOne, dOwnD, dParED, dPar3, dEnum, dZip, dgTup_t, dgCons_c, dIsE, gSplit, dZipH, dM1]
    exact ⟨trivial, hR _ rfl⟩
  simp only [unwipe, wipeS, keepV, dRet, dRetN, dAnd, dOr, dNot, dTest, dTAnd, dTOr, dTNot, dIf, dChain, dUn, dOp, dCall, dC, dVar, dCons, dNil, dTup, dLst, dSeq, dIfS, dAsg, dgName, dgNil, dPar, dParEO, dParOE, dParOO, dFor, dIter, dNext, dBreak, dCont, dDrop, dRaise, dFn, dFnS, dFnO, dM1, dLc, dSl, dSlV, dRevV, dLenV, dIdxV, dApp, dSetI, dPopAt, dCmpV, dOwn, dOwnV, dRetO, dRng1, dRng2, dRng3, dPNo, dPSo, dYes, dLenSet, dScrLen, dScrIdx, dSrcIdx, dSrcSet, dNewSrc, oLst, oRep, oListStr, gEq, gNe, gIsN, gNotN, gIsB, gNotB, gIsi, sg, List.getD_cons_zero, List.getD_cons_succ, List.set_cons_zero, List.set_cons_succ, if_true, if_false, reduceIte, endsD, endsS, endsO, endsN, endsL, asB_b, asI_i, asL_l, itemsP_l, itemsP_t, itemsP_s, itemsP_d, gAdd_i, gAdd_s, gAdd_t, gAdd_l, gI2_i, gMul_i, gMul_t, gMul_l, gMul_s, gNeg_i, gLen_s, gLen_l, gLen_t, gL1_1, gAll_l, gSum_l, gI2L_i, gMaxL_l, gMinL_l, gJoin_l, gJoin_t, gSl_l, gSl_t, gSl_s, gRev_l, wipeS, unwipe, keepV, gIdx_l, gIdx_t, gIdx_s, gIdx_d, dVarD, dDNew, dDNewT, dDPut, dDGetV, dDInV, dDEmpty, dDOne, dOwnD, dParED, dPar3, dEnum, dZip, dgTup_t, dgCons_c, dIsE, gSplit, dZipH, dM1]
  refine lc_keys (sums kp w) hr2 (fun r hr R N hR => ?_) ?_
  · simp only [runD, dRet, dRetN, dAnd, dOr, dNot, dTest, dTAnd, dTOr, dTNot, dIf, dChain, dUn, dOp, dCall, dC, dVar, dCons, dNil, dTup, dLst, dSeq, dIfS, dAsg, dgName, dgNil, dPar, dParEO, dParOE, dParOO, dFor, dIter, dNext, dBreak, dCont, dDrop, dRaise, dFn, dFnS, dFnO, dM1, dLc, dSl, dSlV, dRevV, dLenV, dIdxV, dApp, dSetI, dPopAt, dCmpV, dOwn, dOwnV, dRetO, dRng1, dRng2, dRng3, dPNo, dPSo, dYes, dLenSet, dScrLen, dScrIdx, dSrcIdx, dSrcSet, dNewSrc, oLst, oRep, oListStr, gEq, gNe, gIsN, gNotN, gIsB, gNotB, gIsi, sg, List.getD_cons_zero, List.getD_cons_succ, List.set_cons_zero, List.set_cons_succ, if_true, if_false, reduceIte, endsD, endsS, endsO, endsN, endsL, asB_b, asI_i, asL_l, itemsP_l, itemsP_t, itemsP_s, itemsP_d, gAdd_i, gAdd_s, gAdd_t, gAdd_l, gI2_i, gMul_i, gMul_t, gMul_l, gMul_s, gNeg_i, gLen_s, gLen_l, gLen_t, gL1_1, gAll_l, gSum_l, gI2L_i, gMaxL_l, gMinL_l, gJoin_l, gJoin_t, gSl_l, gSl_t, gSl_s, gRev_l, wipeS, unwipe, keepV, gIdx_l, gIdx_t, gIdx_s, gIdx_d, dVarD, dDNew, dDNewT, dDPut, dDGetV, dDInV, dDEmpty, dDOne, dOwnD, dParED, dPar3, dEnum, dZip, dgTup_t, dgCons_c, dIsE, gSplit, dZipH, dM1]
    exact ⟨trivial, hR _ rfl⟩
  simp only [unwipe, wipeS, keepV, dRet, dRetN, dAnd, dOr, dNot, dTest, dTAnd, dTOr, dTNot, dIf, dChain, dUn, dOp, dCall, dC, dVar, dCons, dNil, dTup, dLst, dSeq, dIfS, dAsg, dgName, dgNil, dPar, dParEO, dParOE, dParOO, dFor, dIter, dNext, dBreak, dCont, dDrop, dRaise, dFn, dFnS, dFnO, dM1, dLc, dSl, dSlV, dRevV, dLenV, dIdxV, dApp, dSetI, dPopAt, dCmpV, dOwn, dOwnV, dRetO, dRng1, dRng2, dRng3, dPNo, dPSo, dYes, dLenSet, dScrLen, dScrIdx, dSrcIdx, dSrcSet, dNewSrc, oLst, oRep, oListStr, gEq, gNe, gIsN, gNotN, gIsB, gNotB, gIsi, sg, List.getD_cons_zero, List.getD_cons_succ, List.set_cons_zero, List.set_cons_succ, if_true, if_false, reduceIte, endsD, endsS, endsO, endsN, endsL, asB_b, asI_i, asL_l, itemsP_l, itemsP_t, itemsP_s, itemsP_d, gAdd_i, gAdd_s, gAdd_t, gAdd_l, gI2_i, gMul_i, gMul_t, gMul_l, gMul_s, gNeg_i, gLen_s, gLen_l, gLen_t, gL1_1, gAll_l, gSum_l, gI2L_i, gMaxL_l, gMinL_l, gJoin_l, gJoin_t, gSl_l, gSl_t, gSl_s, gRev_l, wipeS, unwipe, keepV, gIdx_l, gIdx_t, gIdx_s, gIdx_d, dVarD, dDNew, dDNewT, dDPut, dDGetV, dDInV, dDEmpty, dDOne, dOwnD, dParED, dPar3, dEnum, dZip, dgTup_t, dgCons_c, dIsE, gSplit, dZipH, dM1, eqv_list eqv_int, Bool.not_eq_true', Bool.not_eq_false', decide_eq_true_eq, decide_eq_false_iff_not, Bool.and_eq_true, Bool.or_eq_true, Bool.not_true, Bool.not_false, Bool.false_eq_true, reduceCtorEq, decide_true, decide_false]
  refine ⟨by
    have s1 : ∀ l : List Int, SeqAt.shaped (.list (l.map PyData.int)) = true := fun l => (shp_list (n := 0) (shp_map fun a _ => shp_int a)).ok
    unfold eqOk
    rw [s1, s1]
    rfl, ?_⟩
  unfold readsB at q
  by_cases he : (runs l).map (·.1) = (sums kp w).map (·.1)
  · rw [if_neg (fun z => z he)]
    rw [decide_eq_true he, Bool.true_and] at q
    rw [zipD_map]
    refine for_ind (fun p : Run × Run => .tuple [runD p.1, runD p.2]) (fun done ρ => ∃ x5 x6, ρ = [.va (Kd kp), .va (Ld l), .va (S w), .va (.list ((runs l).map runD)), .va (.list ((sums kp w).map runD)), x5, x6, .no, .no, .no] ∧ done.all (rdOk kp) = true) ⟨_, _, rfl, rfl⟩ (fun done p rest ρ hd ⟨x5, x6, hρ, hall⟩ N hN => ?_) (fun ρ ⟨x5, x6, hρ, hall⟩ => ?_)
    · subst hρ
      obtain ⟨r, t⟩ := p
      have hrm : r ∈ runs l := by
        have : (r, t) ∈ (runs l).zip (sums kp w) := by
          rw [hd]
          exact List.mem_append.mpr (.inr List.mem_cons_self)
        exact (List.of_mem_zip this).1
      obtain ⟨k0, k1⟩ := runs_key hlk r hrm
      have hkl := len_key hk k0 k1
      simp only [runD, dRet, dRetN, dAnd, dOr, dNot, dTest, dTAnd, dTOr, dTNot, dIf, dChain, dUn, dOp, dCall, dC, dVar, dCons, dNil, dTup, dLst, dSeq, dIfS, dAsg, dgName, dgNil, dPar, dParEO, dParOE, dParOO, dFor, dIter, dNext, dBreak, dCont, dDrop, dRaise, dFn, dFnS, dFnO, dM1, dLc, dSl, dSlV, dRevV, dLenV, dIdxV, dApp, dSetI, dPopAt, dCmpV, dOwn, dOwnV, dRetO, dRng1, dRng2, dRng3, dPNo, dPSo, dYes, dLenSet, dScrLen, dScrIdx, dSrcIdx, dSrcSet, dNewSrc, oLst, oRep, oListStr, gEq, gNe, gIsN, gNotN, gIsB, gNotB, gIsi, sg, List.getD_cons_zero, List.getD_cons_succ, List.set_cons_zero, List.set_cons_succ, if_true, if_false, reduceIte, endsD, endsS, endsO, endsN, endsL, asB_b, asI_i, asL_l, itemsP_l, itemsP_t, itemsP_s, itemsP_d, gAdd_i, gAdd_s, gAdd_t, gAdd_l, gI2_i, gMul_i, gMul_t, gMul_l, gMul_s, gNeg_i, gLen_s, gLen_l, gLen_t, gL1_1, gAll_l, gSum_l, gI2L_i, gMaxL_l, gMinL_l, gJoin_l, gJoin_t, gSl_l, gSl_t, gSl_s, gRev_l, wipeS, unwipe, keepV, gIdx_l, gIdx_t, gIdx_s, gIdx_d, dVarD, dDNew, dDNewT, dDPut, dDGetV, dDInV, dDEmpty, dDOne, dOwnD, dParED, dPar3, dEnum, dZip, dgTup_t, dgCons_c, dIsE, gSplit, dZipH, dM1, Bool.not_eq_true', Bool.not_eq_false', decide_eq_true_eq, decide_eq_false_iff_not, Bool.and_eq_true, Bool.or_eq_true, Bool.not_true, Bool.not_false, Bool.false_eq_true, reduceCtorEq, decide_true, decide_false]
      refine ⟨trivial, _, rfl, _, rfl, ?_⟩
      simp only [dRet, dRetN, dAnd, dOr, dNot, dTest, dTAnd, dTOr, dTNot, dIf, dChain, dUn, dOp, dCall, dC, dVar, dCons, dNil, dTup, dLst, dSeq, dIfS, dAsg, dgName, dgNil, dPar, dParEO, dParOE, dParOO, dFor, dIter, dNext, dBreak, dCont, dDrop, dRaise, dFn, dFnS, dFnO, dM1, dLc, dSl, dSlV, dRevV, dLenV, dIdxV, dApp, dSetI, dPopAt, dCmpV, dOwn, dOwnV, dRetO, dRng1, dRng2, dRng3, dPNo, dPSo, dYes, dLenSet, dScrLen, dScrIdx, dSrcIdx, dSrcSet, dNewSrc, oLst, oRep, oListStr, gEq, gNe, gIsN, gNotN, gIsB, gNotB, gIsi, sg, List.getD_cons_zero, List.getD_cons_succ, List.set_cons_zero, List.set_cons_succ, if_true, if_false, reduceIte, endsD, endsS, endsO, endsN, endsL, asB_b, asI_i, asL_l, itemsP_l, itemsP_t, itemsP_s, itemsP_d, gAdd_i, gAdd_s, gAdd_t, gAdd_l, gI2_i, gMul_i, gMul_t, gMul_l, gMul_s, gNeg_i, gLen_s, gLen_l, gLen_t, gL1_1, gAll_l, gSum_l, gI2L_i, gMaxL_l, gMinL_l, gJoin_l, gJoin_t, gSl_l, gSl_t, gSl_s, gRev_l, wipeS, unwipe, keepV, gIdx_l, gIdx_t, gIdx_s, gIdx_d, dVarD, dDNew, dDNewT, dDPut, dDGetV, dDInV, dDEmpty, dDOne, dOwnD, dParED, dPar3, dEnum, dZip, dgTup_t, dgCons_c, dIsE, gSplit, dZipH, dM1, Bool.not_eq_true', Bool.not_eq_false', decide_eq_true_eq, decide_eq_false_iff_not, Bool.and_eq_true, Bool.or_eq_true, Bool.not_true, Bool.not_false, Bool.false_eq_true, reduceCtorEq, decide_true, decide_false]
      have bad : rdOk kp (r, t) = false → Q (.bool false) := fun hb => by
        rw [hd, List.all_append, List.all_cons, hb] at q
        simpa using q
      by_cases h1 : r.2 < t.2
      · refine ⟨trivial, ?_⟩
        rw [if_pos h1]
        refine bad ?_
        unfold rdOk
        show (decide (t.2 ≤ r.2) && _) = false
        rw [decide_eq_false (by omega)]
        rfl
      · refine ⟨trivial, ?_⟩
        rw [if_neg h1]
        refine ⟨_, rfl, _, rfl, ?_⟩
        simp only [dRet, dRetN, dAnd, dOr, dNot, dTest, dTAnd, dTOr, dTNot, dIf, dChain, dUn, dOp, dCall, dC, dVar, dCons, dNil, dTup, dLst, dSeq, dIfS, dAsg, dgName, dgNil, dPar, dParEO, dParOE, dParOO, dFor, dIter, dNext, dBreak, dCont, dDrop, dRaise, dFn, dFnS, dFnO, dM1, dLc, dSl, dSlV, dRevV, dLenV, dIdxV, dApp, dSetI, dPopAt, dCmpV, dOwn, dOwnV, dRetO, dRng1, dRng2, dRng3, dPNo, dPSo, dYes, dLenSet, dScrLen, dScrIdx, dSrcIdx, dSrcSet, dNewSrc, oLst, oRep, oListStr, gEq, gNe, gIsN, gNotN, gIsB, gNotB, gIsi, sg, List.getD_cons_zero, List.getD_cons_succ, List.set_cons_zero, List.set_cons_succ, if_true, if_false, reduceIte, endsD, endsS, endsO, endsN, endsL, asB_b, asI_i, asL_l, itemsP_l, itemsP_t, itemsP_s, itemsP_d, gAdd_i, gAdd_s, gAdd_t, gAdd_l, gI2_i, gMul_i, gMul_t, gMul_l, gMul_s, gNeg_i, gLen_s, gLen_l, gLen_t, gL1_1, gAll_l, gSum_l, gI2L_i, gMaxL_l, gMinL_l, gJoin_l, gJoin_t, gSl_l, gSl_t, gSl_s, gRev_l, wipeS, unwipe, keepV, gIdx_l, gIdx_t, gIdx_s, gIdx_d, dVarD, dDNew, dDNewT, dDPut, dDGetV, dDInV, dDEmpty, dDOne, dOwnD, dParED, dPar3, dEnum, dZip, dgTup_t, dgCons_c, dIsE, gSplit, dZipH, dM1]
        refine ⟨trivial, _, rfl, _, atI_key k0 k1, ?_⟩
        simp only [dRet, dRetN, dAnd, dOr, dNot, dTest, dTAnd, dTOr, dTNot, dIf, dChain, dUn, dOp, dCall, dC, dVar, dCons, dNil, dTup, dLst, dSeq, dIfS, dAsg, dgName, dgNil, dPar, dParEO, dParOE, dParOO, dFor, dIter, dNext, dBreak, dCont, dDrop, dRaise, dFn, dFnS, dFnO, dM1, dLc, dSl, dSlV, dRevV, dLenV, dIdxV, dApp, dSetI, dPopAt, dCmpV, dOwn, dOwnV, dRetO, dRng1, dRng2, dRng3, dPNo, dPSo, dYes, dLenSet, dScrLen, dScrIdx, dSrcIdx, dSrcSet, dNewSrc, oLst, oRep, oListStr, gEq, gNe, gIsN, gNotN, gIsB, gNotB, gIsi, sg, List.getD_cons_zero, List.getD_cons_succ, List.set_cons_zero, List.set_cons_succ, if_true, if_false, reduceIte, endsD, endsS, endsO, endsN, endsL, asB_b, asI_i, asL_l, itemsP_l, itemsP_t, itemsP_s, itemsP_d, gAdd_i, gAdd_s, gAdd_t, gAdd_l, gI2_i, gMul_i, gMul_t, gMul_l, gMul_s, gNeg_i, gLen_s, gLen_l, gLen_t, gL1_1, gAll_l, gSum_l, gI2L_i, gMaxL_l, gMinL_l, gJoin_l, gJoin_t, gSl_l, gSl_t, gSl_s, gRev_l, wipeS, unwipe, keepV, gIdx_l, gIdx_t, gIdx_s, gIdx_d, dVarD, dDNew, dDNewT, dDPut, dDGetV, dDInV, dDEmpty, dDOne, dOwnD, dParED, dPar3, dEnum, dZip, dgTup_t, dgCons_c, dIsE, gSplit, dZipH, dM1, tx_length, eqv_int, Bool.not_eq_true', Bool.not_eq_false', decide_eq_true_eq, decide_eq_false_iff_not, Bool.and_eq_true, Bool.or_eq_true, Bool.not_true, Bool.not_false, Bool.false_eq_true, reduceCtorEq, decide_true, decide_false]
        refine ⟨small_le (by omega), by omega, rfl, ?_⟩
        by_cases h2 : (r.2 - t.2) % ((keyAt kp r.1).length : Int) = 0
        · rw [if_neg (fun z => z h2)]
          refine hN _ ⟨_, _, rfl, ?_⟩
          rw [List.all_append, hall, List.all_cons, List.all_nil]
          unfold rdOk
          show (true && (decide (t.2 ≤ r.2) && decide ((r.2 - t.2) % ((keyAt kp r.1).length : Int) = 0) && true)) = true
          rw [decide_eq_true h2, decide_eq_true (by omega : t.2 ≤ r.2)]
          rfl
        · rw [if_pos h2]
          refine bad ?_
          unfold rdOk
          show (decide (t.2 ≤ r.2) && decide ((r.2 - t.2) % ((keyAt kp r.1).length : Int) = 0)) = false
          rw [decide_eq_false h2, Bool.and_false]
    · subst hρ
      rw [hall] at q
      exact q
  · rw [if_pos he]
    rw [decide_eq_false he] at q
    exact q
end LW

namespace LW
open PySem PySem.Spec PyProof.Rows L2 DL
theorem map_len {kp : List Tx} : (kp.map S).length = kp.length := List.length_map _
theorem Kd_inj {a b : List Tx} (e : Kd a = Kd b) : a = b := by
  have h : a.map S = b.map S := PyData.tuple.inj e
  exact (List.map_inj_right (fun a b h => tx_inj (PyData.str.inj h))).mp h
theorem Ld_inj {a b : List Int} (e : Ld a = Ld b) : a = b := by
  have h : a.map PyData.int = b.map PyData.int := PyData.tuple.inj e
  exact (List.map_inj_right (fun a b h => PyData.int.inj h)).mp h
theorem S_inj {a b : Tx} (e : S a = S b) : a = b := tx_inj (PyData.str.inj e)
/-! can_read -/
abbrev n_can_read : List Str := ["keypad", "log", "text"]
def p_can_read : DP := fun ds Q W => ∃ v w t, ds = [v, w, t] ∧ okT v ∧ okT w ∧ okV t ∧ (isKp v = false → W "InvalidKeypad") ∧ ∀ kp, v = Kd kp → KpOk kp → (isLog kp.length w = false → W "InvalidLog") ∧ ∀ l, w = Ld l → LogOk kp.length l →
  (isStrOf t kp.flatten 0 30 = false → W "InvalidText") ∧ ∀ x, t = S x → TextOk kp x → Q (.bool (readsB kp l x))
def t_can_read (W : Str → Prop) : DS := (dSeq (dDrop (dFn p_require_keypad W (dCons (dVar 0) dNil)))
      (dSeq (dDrop (dFn p_require_log W (dCons (dVar 0) (dCons (dVar 1) dNil))))
      (dSeq (dDrop (dFn p_require_text W (dCons (dVar 0) (dCons (dVar 2) dNil))))
      (dRet (dFn p_reads W (dCons (dVar 0) (dCons (dVar 1) (dCons (dVar 2) dNil))))))))
theorem m_can_read : MoP p_can_read := fun ds Q Q' W W' hq hw ⟨v, w, t, e, h1, h2, h3, h4, h5⟩ => ⟨v, w, t, e, h1, h2, h3, fun z => hw _ (h4 z), fun kp e hk => ⟨fun z => hw _ ((h5 kp e hk).1 z), fun l e2 h6 => ⟨fun z => hw _ (((h5 kp e hk).2 l e2 h6).1 z), fun x e3 h7 => hq _ (((h5 kp e hk).2 l e2 h6).2 x e3 h7)⟩⟩⟩
theorem l_can_read : ∀ ds Q W, p_can_read ds Q W → ds.length = 3 := fun ds Q W ⟨v, w, t, e, _⟩ => by rw [e]; rfl
theorem D_can_read (W : Str → Prop) (ds : List D) (Q : D → Prop) (h : p_can_read ds Q W) : t_can_read W (endsD Q) (startS n_can_read ds) := by
  obtain ⟨v, w, t, rfl, hv, hw, ht, h3, h4⟩ := h
  show t_can_read W (endsD Q) [.va v, .va w, .va t]
  simp only [t_can_read, dRet, dRetN, dAnd, dOr, dNot, dTest, dTAnd, dTOr, dTNot, dIf, dChain, dUn, dOp, dCall, dC, dVar, dCons, dNil, dTup, dLst, dSeq, dIfS, dAsg, dgName, dgNil, dPar, dParEO, dParOE, dParOO, dFor, dIter, dNext, dBreak, dCont, dDrop, dRaise, dFn, dFnS, dFnO, dM1, dLc, dSl, dSlV, dRevV, dLenV, dIdxV, dApp, dSetI, dPopAt, dCmpV, dOwn, dOwnV, dRetO, dRng1, dRng2, dRng3, dPNo, dPSo, dYes, dLenSet, dScrLen, dScrIdx, dSrcIdx, dSrcSet, dNewSrc, oLst, oRep, oListStr, gEq, gNe, gIsN, gNotN, gIsB, gNotB, gIsi, sg, List.getD_cons_zero, List.getD_cons_succ, List.set_cons_zero, List.set_cons_succ, if_true, if_false, reduceIte, endsD, endsS, endsO, endsN, endsL, asB_b, asI_i, asL_l, itemsP_l, itemsP_t, itemsP_s, itemsP_d, gAdd_i, gAdd_s, gAdd_t, gAdd_l, gI2_i, gMul_i, gMul_t, gMul_l, gMul_s, gNeg_i, gLen_s, gLen_l, gLen_t, gL1_1, gAll_l, gSum_l, gI2L_i, gMaxL_l, gMinL_l, gJoin_l, gJoin_t, gSl_l, gSl_t, gSl_s, gRev_l, wipeS, unwipe, keepV, gIdx_l, gIdx_t, gIdx_s, gIdx_d, dVarD, dDNew, dDNewT, dDPut, dDGetV, dDInV, dDEmpty, dDOne, dOwnD, dParED, dPar3, dEnum, dZip, dgTup_t, dgCons_c, dIsE, gSplit, dZipH, dM1]
  refine ⟨v, rfl, hv, fun e => ?_, h3⟩
  obtain ⟨kp, rfl, hk⟩ := isKp_true e
  obtain ⟨h5, h6⟩ := h4 kp rfl hk
  refine ⟨kp.map S, w, rfl, hw, fun e2 => ?_, fun e2 => h5 (by rw [← map_len (kp := kp)]; exact e2)⟩
  rw [map_len] at e2
  obtain ⟨l, rfl, hl⟩ := isLog_true e2
  obtain ⟨h7, h8⟩ := h6 l rfl hl
  refine ⟨kp, t, rfl, hk.pad, ht, fun e3 => ?_, h7⟩
  obtain ⟨x, rfl, hx⟩ := isText e3
  have := hl.len
  have := hx.len
  exact ⟨kp, l, x, rfl, hk, by omega, hl.key, hx.mem, by omega, h8 x rfl hx⟩
theorem call_can_read {kp : List Tx} {l : List Int} {x : Tx} {Q : D → Prop} (hk : KpOk kp) (hl : LogOk kp.length l) (hx : TextOk kp x) (q : Q (.bool (readsB kp l x))) : p_can_read [Kd kp, Ld l, S x] Q noW := by
  have := hx.len
  refine ⟨_, _, _, rfl, hk.okT, okT_Ld l, okV_S (by omega), (fun e => by rw [hk.isKp] at e; cases e), fun kp' e hk' => ?_⟩
  cases Kd_inj e
  refine ⟨(fun e => by rw [hl.isLog] at e; cases e), fun l' e' hl' => ?_⟩
  cases Ld_inj e'
  refine ⟨(fun e => by rw [hx.is] at e; cases e), fun x' e' hx' => ?_⟩
  cases S_inj e'
  exact q
/-! presses_for -/
abbrev n_presses_for : List Str := ["keypad", "text"]
def p_presses_for : DP := fun ds Q W => ∃ v t, ds = [v, t] ∧ okT v ∧ okV t ∧ (isKp v = false → W "InvalidKeypad") ∧ ∀ kp, v = Kd kp → KpOk kp → (isStrOf t kp.flatten 0 30 = false → W "InvalidText") ∧ ∀ x, t = S x → TextOk kp x → Q (Ld (pressedL kp x))
def t_presses_for (W : Str → Prop) : DS := (dSeq (dDrop (dFn p_require_keypad W (dCons (dVar 0) dNil)))
      (dSeq (dDrop (dFn p_require_text W (dCons (dVar 0) (dCons (dVar 1) dNil))))
      (dRet (dFn p_pressed W (dCons (dVar 0) (dCons (dVar 1) dNil))))))
theorem m_presses_for : MoP p_presses_for := fun ds Q Q' W W' hq hw ⟨v, t, e, h1, h3, h4, h5⟩ => ⟨v, t, e, h1, h3, fun z => hw _ (h4 z), fun kp e hk => ⟨fun z => hw _ ((h5 kp e hk).1 z), fun x e2 h6 => hq _ ((h5 kp e hk).2 x e2 h6)⟩⟩
theorem l_presses_for : ∀ ds Q W, p_presses_for ds Q W → ds.length = 2 := fun ds Q W ⟨v, t, e, _⟩ => by rw [e]; rfl
theorem D_presses_for (W : Str → Prop) (ds : List D) (Q : D → Prop) (h : p_presses_for ds Q W) : t_presses_for W (endsD Q) (startS n_presses_for ds) := by
  obtain ⟨v, t, rfl, hv, ht, h3, h4⟩ := h
  show t_presses_for W (endsD Q) [.va v, .va t]
  simp only [t_presses_for, dRet, dRetN, dAnd, dOr, dNot, dTest, dTAnd, dTOr, dTNot, dIf, dChain, dUn, dOp, dCall, dC, dVar, dCons, dNil, dTup, dLst, dSeq, dIfS, dAsg, dgName, dgNil, dPar, dParEO, dParOE, dParOO, dFor, dIter, dNext, dBreak, dCont, dDrop, dRaise, dFn, dFnS, dFnO, dM1, dLc, dSl, dSlV, dRevV, dLenV, dIdxV, dApp, dSetI, dPopAt, dCmpV, dOwn, dOwnV, dRetO, dRng1, dRng2, dRng3, dPNo, dPSo, dYes, dLenSet, dScrLen, dScrIdx, dSrcIdx, dSrcSet, dNewSrc, oLst, oRep, oListStr, gEq, gNe, gIsN, gNotN, gIsB, gNotB, gIsi, sg, List.getD_cons_zero, List.getD_cons_succ, List.set_cons_zero, List.set_cons_succ, if_true, if_false, reduceIte, endsD, endsS, endsO, endsN, endsL, asB_b, asI_i, asL_l, itemsP_l, itemsP_t, itemsP_s, itemsP_d, gAdd_i, gAdd_s, gAdd_t, gAdd_l, gI2_i, gMul_i, gMul_t, gMul_l, gMul_s, gNeg_i, gLen_s, gLen_l, gLen_t, gL1_1, gAll_l, gSum_l, gI2L_i, gMaxL_l, gMinL_l, gJoin_l, gJoin_t, gSl_l, gSl_t, gSl_s, gRev_l, wipeS, unwipe, keepV, gIdx_l, gIdx_t, gIdx_s, gIdx_d, dVarD, dDNew, dDNewT, dDPut, dDGetV, dDInV, dDEmpty, dDOne, dOwnD, dParED, dPar3, dEnum, dZip, dgTup_t, dgCons_c, dIsE, gSplit, dZipH, dM1]
  refine ⟨v, rfl, hv, fun e => ?_, h3⟩
  obtain ⟨kp, rfl, hk⟩ := isKp_true e
  obtain ⟨h7, h8⟩ := h4 kp rfl hk
  refine ⟨kp, t, rfl, hk.pad, ht, fun e3 => ?_, h7⟩
  obtain ⟨x, rfl, hx⟩ := isText e3
  have := hx.len
  exact ⟨kp, x, rfl, hk.pad, hx.mem, by omega, h8 x rfl hx⟩
theorem call_presses {kp : List Tx} {x : Tx} {Q : D → Prop} (hk : KpOk kp) (hx : TextOk kp x) (q : Q (Ld (pressedL kp x))) : p_presses_for [Kd kp, S x] Q noW := by
  have := hx.len
  refine ⟨_, _, rfl, hk.okT, okV_S (by omega), (fun e => by rw [hk.isKp] at e; cases e), fun kp' e hk' => ?_⟩
  cases Kd_inj e
  refine ⟨(fun e => by rw [hx.is] at e; cases e), fun x' e' hx' => ?_⟩
  cases S_inj e'
  exact q
theorem KpOk.num {kp : List Tx} (h : KpOk kp) {c : Nat} (hc : c ∈ kp.flatten) : 0 ≤ keyOf kp c ∧ keyOf kp c < kp.length ∧ 1 ≤ numOf kp c ∧ numOf kp c ≤ 6 := by
  obtain ⟨h0, h1, h2, h3, _, _⟩ := key_num hc
  have := (len_key h h0 h1).2
  exact ⟨h0, h1, h2, by omega⟩
theorem pressed_ok {kp : List Tx} (h : KpOk kp) : ∀ {w : Tx}, (∀ c ∈ w, c ∈ kp.flatten) → (pressedL kp w).length ≤ 6 * w.length ∧ ∀ k ∈ pressedL kp w, 0 ≤ k ∧ k < kp.length
  | [], _ => ⟨Nat.le_refl _, fun _ z => nomatch z⟩
  | c :: w, hw => by
    have h1 := h.num (hw c List.mem_cons_self)
    have h2 := pressed_ok h fun d hd => hw d (List.mem_cons_of_mem c hd)
    have e : pressedL kp (c :: w) = List.replicate (numOf kp c).toNat (keyOf kp c) ++ pressedL kp w := rfl
    rw [e]
    refine ⟨?_, fun k hk => ?_⟩
    · rw [List.length_append, List.length_replicate, List.length_cons]
      have := h2.1
      omega
    · rcases List.mem_append.mp hk with hk | hk
      · rw [List.eq_of_mem_replicate hk]
        exact ⟨h1.1, h1.2.1⟩
      · exact h2.2 k hk
/-! count_alike -/
abbrev n_count_alike : List Str := ["keypad", "text"]
def p_count_alike : DP := fun ds Q W => ∃ v t, ds = [v, t] ∧ okT v ∧ okV t ∧ (isKp v = false → W "InvalidKeypad") ∧ ∀ kp, v = Kd kp → KpOk kp → (isStrOf t kp.flatten 0 30 = false → W "InvalidText") ∧ ∀ x, t = S x → TextOk kp x → Q (.int (cnt kp (runs (pressedL kp x))))
def t_count_alike (W : Str → Prop) : DS := (dSeq (dDrop (dFn p_require_keypad W (dCons (dVar 0) dNil)))
      (dSeq (dDrop (dFn p_require_text W (dCons (dVar 0) (dCons (dVar 1) dNil))))
      (dRet (dFn p_counted W (dCons (dVar 0) (dCons (dFn p_pressed W (dCons (dVar 0) (dCons (dVar 1) dNil))) dNil))))))
theorem m_count_alike : MoP p_count_alike := fun ds Q Q' W W' hq hw ⟨v, t, e, h1, h3, h4, h5⟩ => ⟨v, t, e, h1, h3, fun z => hw _ (h4 z), fun kp e hk => ⟨fun z => hw _ ((h5 kp e hk).1 z), fun x e2 h6 => hq _ ((h5 kp e hk).2 x e2 h6)⟩⟩
theorem l_count_alike : ∀ ds Q W, p_count_alike ds Q W → ds.length = 2 := fun ds Q W ⟨v, t, e, _⟩ => by rw [e]; rfl
theorem D_count_alike (W : Str → Prop) (ds : List D) (Q : D → Prop) (h : p_count_alike ds Q W) : t_count_alike W (endsD Q) (startS n_count_alike ds) := by
  obtain ⟨v, t, rfl, hv, ht, h3, h4⟩ := h
  show t_count_alike W (endsD Q) [.va v, .va t]
  simp only [t_count_alike, dRet, dRetN, dAnd, dOr, dNot, dTest, dTAnd, dTOr, dTNot, dIf, dChain, dUn, dOp, dCall, dC, dVar, dCons, dNil, dTup, dLst, dSeq, dIfS, dAsg, dgName, dgNil, dPar, dParEO, dParOE, dParOO, dFor, dIter, dNext, dBreak, dCont, dDrop, dRaise, dFn, dFnS, dFnO, dM1, dLc, dSl, dSlV, dRevV, dLenV, dIdxV, dApp, dSetI, dPopAt, dCmpV, dOwn, dOwnV, dRetO, dRng1, dRng2, dRng3, dPNo, dPSo, dYes, dLenSet, dScrLen, dScrIdx, dSrcIdx, dSrcSet, dNewSrc, oLst, oRep, oListStr, gEq, gNe, gIsN, gNotN, gIsB, gNotB, gIsi, sg, List.getD_cons_zero, List.getD_cons_succ, List.set_cons_zero, List.set_cons_succ, if_true, if_false, reduceIte, endsD, endsS, endsO, endsN, endsL, asB_b, asI_i, asL_l, itemsP_l, itemsP_t, itemsP_s, itemsP_d, gAdd_i, gAdd_s, gAdd_t, gAdd_l, gI2_i, gMul_i, gMul_t, gMul_l, gMul_s, gNeg_i, gLen_s, gLen_l, gLen_t, gL1_1, gAll_l, gSum_l, gI2L_i, gMaxL_l, gMinL_l, gJoin_l, gJoin_t, gSl_l, gSl_t, gSl_s, gRev_l, wipeS, unwipe, keepV, gIdx_l, gIdx_t, gIdx_s, gIdx_d, dVarD, dDNew, dDNewT, dDPut, dDGetV, dDInV, dDEmpty, dDOne, dOwnD, dParED, dPar3, dEnum, dZip, dgTup_t, dgCons_c, dIsE, gSplit, dZipH, dM1]
  refine ⟨v, rfl, hv, fun e => ?_, h3⟩
  obtain ⟨kp, rfl, hk⟩ := isKp_true e
  obtain ⟨h7, h8⟩ := h4 kp rfl hk
  refine ⟨kp, t, rfl, hk.pad, ht, fun e3 => ?_, h7⟩
  obtain ⟨x, rfl, hx⟩ := isText e3
  have := hx.len
  have hp := pressed_ok hk hx.mem
  exact ⟨kp, x, rfl, hk.pad, hx.mem, by omega, kp, pressedL kp x, rfl, hk, by omega, hp.2, h8 x rfl hx⟩
theorem call_alike {kp : List Tx} {x : Tx} {Q : D → Prop} (hk : KpOk kp) (hx : TextOk kp x) (q : Q (.int (cnt kp (runs (pressedL kp x))))) : p_count_alike [Kd kp, S x] Q noW := by
  have := hx.len
  refine ⟨_, _, rfl, hk.okT, okV_S (by omega), (fun e => by rw [hk.isKp] at e; cases e), fun kp' e hk' => ?_⟩
  cases Kd_inj e
  refine ⟨(fun e => by rw [hx.is] at e; cases e), fun x' e' hx' => ?_⟩
  cases S_inj e'
  exact q
/-! lengths -/
abbrev n_lengths : List Str := ["keypad", "log"]
def p_lengths : DP := fun ds Q W => ∃ v w, ds = [v, w] ∧ okT v ∧ okT w ∧ (isKp v = false → W "InvalidKeypad") ∧ ∀ kp, v = Kd kp → KpOk kp → (isLog kp.length w = false → W "InvalidLog") ∧ ∀ l, w = Ld l → LogOk kp.length l → Q (.tuple [.int (runs l).length, .int l.length])
def t_lengths (W : Str → Prop) : DS := (dSeq (dDrop (dFn p_require_keypad W (dCons (dVar 0) dNil)))
      (dSeq (dDrop (dFn p_require_log W (dCons (dVar 0) (dCons (dVar 1) dNil))))
      (dRet (dTup (dCons (dCall (gL1 gLen) (dCons (dFn p_runs_of W (dCons (dVar 1) dNil)) dNil)) (dCons (dCall (gL1 gLen) (dCons (dVar 1) dNil)) dNil))))))
theorem m_lengths : MoP p_lengths := fun ds Q Q' W W' hq hw ⟨v, w, e, h1, h2, h3, h4⟩ => ⟨v, w, e, h1, h2, fun z => hw _ (h3 z), fun kp e hk => ⟨fun z => hw _ ((h4 kp e hk).1 z), fun l e2 h5 => hq _ ((h4 kp e hk).2 l e2 h5)⟩⟩
theorem l_lengths : ∀ ds Q W, p_lengths ds Q W → ds.length = 2 := fun ds Q W ⟨v, w, e, _⟩ => by rw [e]; rfl
theorem D_lengths (W : Str → Prop) (ds : List D) (Q : D → Prop) (h : p_lengths ds Q W) : t_lengths W (endsD Q) (startS n_lengths ds) := by
  obtain ⟨v, w, rfl, hv, hw, h3, h4⟩ := h
  show t_lengths W (endsD Q) [.va v, .va w]
  simp only [t_lengths, dRet, dRetN, dAnd, dOr, dNot, dTest, dTAnd, dTOr, dTNot, dIf, dChain, dUn, dOp, dCall, dC, dVar, dCons, dNil, dTup, dLst, dSeq, dIfS, dAsg, dgName, dgNil, dPar, dParEO, dParOE, dParOO, dFor, dIter, dNext, dBreak, dCont, dDrop, dRaise, dFn, dFnS, dFnO, dM1, dLc, dSl, dSlV, dRevV, dLenV, dIdxV, dApp, dSetI, dPopAt, dCmpV, dOwn, dOwnV, dRetO, dRng1, dRng2, dRng3, dPNo, dPSo, dYes, dLenSet, dScrLen, dScrIdx, dSrcIdx, dSrcSet, dNewSrc, oLst, oRep, oListStr, gEq, gNe, gIsN, gNotN, gIsB, gNotB, gIsi, sg, List.getD_cons_zero, List.getD_cons_succ, List.set_cons_zero, List.set_cons_succ, if_true, if_false, reduceIte, endsD, endsS, endsO, endsN, endsL, asB_b, asI_i, asL_l, itemsP_l, itemsP_t, itemsP_s, itemsP_d, gAdd_i, gAdd_s, gAdd_t, gAdd_l, gI2_i, gMul_i, gMul_t, gMul_l, gMul_s, gNeg_i, gLen_s, gLen_l, gLen_t, gL1_1, gAll_l, gSum_l, gI2L_i, gMaxL_l, gMinL_l, gJoin_l, gJoin_t, gSl_l, gSl_t, gSl_s, gRev_l, wipeS, unwipe, keepV, gIdx_l, gIdx_t, gIdx_s, gIdx_d, dVarD, dDNew, dDNewT, dDPut, dDGetV, dDInV, dDEmpty, dDOne, dOwnD, dParED, dPar3, dEnum, dZip, dgTup_t, dgCons_c, dIsE, gSplit, dZipH, dM1]
  refine ⟨v, rfl, hv, fun e => ?_, h3⟩
  obtain ⟨kp, rfl, hk⟩ := isKp_true e
  obtain ⟨h5, h6⟩ := h4 kp rfl hk
  refine ⟨kp.map S, w, rfl, hw, fun e2 => ?_, fun e2 => h5 (by rw [← map_len (kp := kp)]; exact e2)⟩
  rw [map_len] at e2
  obtain ⟨l, rfl, hl⟩ := isLog_true e2
  have := hl.len
  have := runs_len l
  refine ⟨l, rfl, by omega, ?_⟩
  simp only [runsD, dRet, dRetN, dAnd, dOr, dNot, dTest, dTAnd, dTOr, dTNot, dIf, dChain, dUn, dOp, dCall, dC, dVar, dCons, dNil, dTup, dLst, dSeq, dIfS, dAsg, dgName, dgNil, dPar, dParEO, dParOE, dParOO, dFor, dIter, dNext, dBreak, dCont, dDrop, dRaise, dFn, dFnS, dFnO, dM1, dLc, dSl, dSlV, dRevV, dLenV, dIdxV, dApp, dSetI, dPopAt, dCmpV, dOwn, dOwnV, dRetO, dRng1, dRng2, dRng3, dPNo, dPSo, dYes, dLenSet, dScrLen, dScrIdx, dSrcIdx, dSrcSet, dNewSrc, oLst, oRep, oListStr, gEq, gNe, gIsN, gNotN, gIsB, gNotB, gIsi, sg, List.getD_cons_zero, List.getD_cons_succ, List.set_cons_zero, List.set_cons_succ, if_true, if_false, reduceIte, endsD, endsS, endsO, endsN, endsL, asB_b, asI_i, asL_l, itemsP_l, itemsP_t, itemsP_s, itemsP_d, gAdd_i, gAdd_s, gAdd_t, gAdd_l, gI2_i, gMul_i, gMul_t, gMul_l, gMul_s, gNeg_i, gLen_s, gLen_l, gLen_t, gL1_1, gAll_l, gSum_l, gI2L_i, gMaxL_l, gMinL_l, gJoin_l, gJoin_t, gSl_l, gSl_t, gSl_s, gRev_l, wipeS, unwipe, keepV, gIdx_l, gIdx_t, gIdx_s, gIdx_d, dVarD, dDNew, dDNewT, dDPut, dDGetV, dDInV, dDEmpty, dDOne, dOwnD, dParED, dPar3, dEnum, dZip, dgTup_t, dgCons_c, dIsE, gSplit, dZipH, dM1, List.length_map]
  refine ⟨?_, ?_⟩
  all_goals first | exact h6 l rfl hl | exact le2 | exact small_le (by omega) | skip
theorem call_lengths {kp : List Tx} {l : List Int} {Q : D → Prop} (hk : KpOk kp) (hl : LogOk kp.length l) (q : Q (.tuple [.int (runs l).length, .int l.length])) : p_lengths [Kd kp, Ld l] Q noW := by
  refine ⟨_, _, rfl, hk.okT, okT_Ld l, (fun e => by rw [hk.isKp] at e; cases e), fun kp' e hk' => ?_⟩
  cases Kd_inj e
  refine ⟨(fun e => by rw [hl.isLog] at e; cases e), fun l' e' hl' => ?_⟩
  cases Ld_inj e'
  exact q
/-! sure_letters -/
def fst1 (kp : List Tx) (k : Int) : Nat := (keyAt kp k).headD 0
def sureL (kp : List Tx) (l : List Int) : Tx := if cnt kp (runs l) > 1 then [] else l.map (fst1 kp)
abbrev n_sure_letters : List Str := ["keypad", "log", "key"]
def p_sure_letters : DP := fun ds Q W => ∃ v w, ds = [v, w] ∧ okT v ∧ okT w ∧ (isKp v = false → W "InvalidKeypad") ∧ ∀ kp, v = Kd kp → KpOk kp → (isLog kp.length w = false → W "InvalidLog") ∧ ∀ l, w = Ld l → LogOk kp.length l → Q (S (sureL kp l))
def t_sure_letters (W : Str → Prop) : DS := (dSeq (dDrop (dFn p_require_keypad W (dCons (dVar 0) dNil)))
      (dSeq (dDrop (dFn p_require_log W (dCons (dVar 0) (dCons (dVar 1) dNil))))
      (dSeq (dIfS (dTest (dOp gGt (dFn p_counted W (dCons (dVar 0) (dCons (dVar 1) dNil))) (dC (.int 1)))) (dRet (dC (.str ""))) dNext)
      (dRet (dM1 gJoin (dC (.str "")) (dLc (dIter (dVar 1)) (dgName 2) dYes (dOp gIdx (dOp gIdx (dVar 0) (dVar 2)) (dC (.int 0))) [2]))))))
theorem m_sure_letters : MoP p_sure_letters := fun ds Q Q' W W' hq hw ⟨v, w, e, h1, h2, h3, h4⟩ => ⟨v, w, e, h1, h2, fun z => hw _ (h3 z), fun kp e hk => ⟨fun z => hw _ ((h4 kp e hk).1 z), fun l e2 h5 => hq _ ((h4 kp e hk).2 l e2 h5)⟩⟩
theorem l_sure_letters : ∀ ds Q W, p_sure_letters ds Q W → ds.length = 2 := fun ds Q W ⟨v, w, e, _⟩ => by rw [e]; rfl
theorem D_sure_letters (W : Str → Prop) (ds : List D) (Q : D → Prop) (h : p_sure_letters ds Q W) : t_sure_letters W (endsD Q) (startS n_sure_letters ds) := by
  obtain ⟨v, w, rfl, hv, hw, h3, h4⟩ := h
  show t_sure_letters W (endsD Q) [.va v, .va w, .no]
  simp only [t_sure_letters, dRet, dRetN, dAnd, dOr, dNot, dTest, dTAnd, dTOr, dTNot, dIf, dChain, dUn, dOp, dCall, dC, dVar, dCons, dNil, dTup, dLst, dSeq, dIfS, dAsg, dgName, dgNil, dPar, dParEO, dParOE, dParOO, dFor, dIter, dNext, dBreak, dCont, dDrop, dRaise, dFn, dFnS, dFnO, dM1, dLc, dSl, dSlV, dRevV, dLenV, dIdxV, dApp, dSetI, dPopAt, dCmpV, dOwn, dOwnV, dRetO, dRng1, dRng2, dRng3, dPNo, dPSo, dYes, dLenSet, dScrLen, dScrIdx, dSrcIdx, dSrcSet, dNewSrc, oLst, oRep, oListStr, gEq, gNe, gIsN, gNotN, gIsB, gNotB, gIsi, sg, List.getD_cons_zero, List.getD_cons_succ, List.set_cons_zero, List.set_cons_succ, if_true, if_false, reduceIte, endsD, endsS, endsO, endsN, endsL, asB_b, asI_i, asL_l, itemsP_l, itemsP_t, itemsP_s, itemsP_d, gAdd_i, gAdd_s, gAdd_t, gAdd_l, gI2_i, gMul_i, gMul_t, gMul_l, gMul_s, gNeg_i, gLen_s, gLen_l, gLen_t, gL1_1, gAll_l, gSum_l, gI2L_i, gMaxL_l, gMinL_l, gJoin_l, gJoin_t, gSl_l, gSl_t, gSl_s, gRev_l, wipeS, unwipe, keepV, gIdx_l, gIdx_t, gIdx_s, gIdx_d, dVarD, dDNew, dDNewT, dDPut, dDGetV, dDInV, dDEmpty, dDOne, dOwnD, dParED, dPar3, dEnum, dZip, dgTup_t, dgCons_c, dIsE, gSplit, dZipH, dM1]
  refine ⟨v, rfl, hv, fun e => ?_, h3⟩
  obtain ⟨kp, rfl, hk⟩ := isKp_true e
  obtain ⟨h5, h6⟩ := h4 kp rfl hk
  refine ⟨kp.map S, w, rfl, hw, fun e2 => ?_, fun e2 => h5 (by rw [← map_len (kp := kp)]; exact e2)⟩
  rw [map_len] at e2
  obtain ⟨l, rfl, hl⟩ := isLog_true e2
  have hll := hl.len
  refine ⟨kp, l, rfl, hk, by omega, hl.key, ?_⟩
  have q := h6 l rfl hl
  unfold sureL at q
  simp only [dRet, dRetN, dAnd, dOr, dNot, dTest, dTAnd, dTOr, dTNot, dIf, dChain, dUn, dOp, dCall, dC, dVar, dCons, dNil, dTup, dLst, dSeq, dIfS, dAsg, dgName, dgNil, dPar, dParEO, dParOE, dParOO, dFor, dIter, dNext, dBreak, dCont, dDrop, dRaise, dFn, dFnS, dFnO, dM1, dLc, dSl, dSlV, dRevV, dLenV, dIdxV, dApp, dSetI, dPopAt, dCmpV, dOwn, dOwnV, dRetO, dRng1, dRng2, dRng3, dPNo, dPSo, dYes, dLenSet, dScrLen, dScrIdx, dSrcIdx, dSrcSet, dNewSrc, oLst, oRep, oListStr, gEq, gNe, gIsN, gNotN, gIsB, gNotB, gIsi, sg, List.getD_cons_zero, List.getD_cons_succ, List.set_cons_zero, List.set_cons_succ, if_true, if_false, reduceIte, endsD, endsS, endsO, endsN, endsL, asB_b, asI_i, asL_l, itemsP_l, itemsP_t, itemsP_s, itemsP_d, gAdd_i, gAdd_s, gAdd_t, gAdd_l, gI2_i, gMul_i, gMul_t, gMul_l, gMul_s, gNeg_i, gLen_s, gLen_l, gLen_t, gL1_1, gAll_l, gSum_l, gI2L_i, gMaxL_l, gMinL_l, gJoin_l, gJoin_t, gSl_l, gSl_t, gSl_s, gRev_l, wipeS, unwipe, keepV, gIdx_l, gIdx_t, gIdx_s, gIdx_d, dVarD, dDNew, dDNewT, dDPut, dDGetV, dDInV, dDEmpty, dDOne, dOwnD, dParED, dPar3, dEnum, dZip, dgTup_t, dgCons_c, dIsE, gSplit, dZipH, dM1, Bool.not_eq_true', Bool.not_eq_false', decide_eq_true_eq, decide_eq_false_iff_not, Bool.and_eq_true, Bool.or_eq_true, Bool.not_true, Bool.not_false, Bool.false_eq_true, reduceCtorEq, decide_true, decide_false]
  refine ⟨trivial, ?_⟩
  by_cases h1 : cnt kp (runs l) > 1
  · rw [if_pos h1] at q ⊢
    exact q
  · rw [if_neg h1] at q ⊢
    have hf : ∀ k ∈ l, (keyAt kp k)[0]? = some (fst1 kp k) := fun k hk' => by
      have h9 := hl.key k hk'
      have h8 := len_key hk h9.1 h9.2
      unfold fst1
      cases e : keyAt kp k with
      | nil => rw [e] at h8; simp at h8
      | cons a b => rfl
    refine ⟨rfl, ?_⟩
    refine lc_map PyData.int (fun k => S [fst1 kp k]) l [] (fun k hk' R N hR => ?_) (small_le (by simp; omega)) ?_
    · have h9 := hl.key k hk'
      simp only [dRet, dRetN, dAnd, dOr, dNot, dTest, dTAnd, dTOr, dTNot, dIf, dChain, dUn, dOp, dCall, dC, dVar, dCons, dNil, dTup, dLst, dSeq, dIfS, dAsg, dgName, dgNil, dPar, dParEO, dParOE, dParOO, dFor, dIter, dNext, dBreak, dCont, dDrop, dRaise, dFn, dFnS, dFnO, dM1, dLc, dSl, dSlV, dRevV, dLenV, dIdxV, dApp, dSetI, dPopAt, dCmpV, dOwn, dOwnV, dRetO, dRng1, dRng2, dRng3, dPNo, dPSo, dYes, dLenSet, dScrLen, dScrIdx, dSrcIdx, dSrcSet, dNewSrc, oLst, oRep, oListStr, gEq, gNe, gIsN, gNotN, gIsB, gNotB, gIsi, sg, List.getD_cons_zero, List.getD_cons_succ, List.set_cons_zero, List.set_cons_succ, if_true, if_false, reduceIte, endsD, endsS, endsO, endsN, endsL, asB_b, asI_i, asL_l, itemsP_l, itemsP_t, itemsP_s, itemsP_d, gAdd_i, gAdd_s, gAdd_t, gAdd_l, gI2_i, gMul_i, gMul_t, gMul_l, gMul_s, gNeg_i, gLen_s, gLen_l, gLen_t, gL1_1, gAll_l, gSum_l, gI2L_i, gMaxL_l, gMinL_l, gJoin_l, gJoin_t, gSl_l, gSl_t, gSl_s, gRev_l, wipeS, unwipe, keepV, gIdx_l, gIdx_t, gIdx_s, gIdx_d, dVarD, dDNew, dDNewT, dDPut, dDGetV, dDInV, dDEmpty, dDOne, dOwnD, dParED, dPar3, dEnum, dZip, dgTup_t, dgCons_c, dIsE, gSplit, dZipH, dM1]
      refine ⟨_, atI_key h9.1 h9.2, ?_⟩
      simp only [dRet, dRetN, dAnd, dOr, dNot, dTest, dTAnd, dTOr, dTNot, dIf, dChain, dUn, dOp, dCall, dC, dVar, dCons, dNil, dTup, dLst, dSeq, dIfS, dAsg, dgName, dgNil, dPar, dParEO, dParOE, dParOO, dFor, dIter, dNext, dBreak, dCont, dDrop, dRaise, dFn, dFnS, dFnO, dM1, dLc, dSl, dSlV, dRevV, dLenV, dIdxV, dApp, dSetI, dPopAt, dCmpV, dOwn, dOwnV, dRetO, dRng1, dRng2, dRng3, dPNo, dPSo, dYes, dLenSet, dScrLen, dScrIdx, dSrcIdx, dSrcSet, dNewSrc, oLst, oRep, oListStr, gEq, gNe, gIsN, gNotN, gIsB, gNotB, gIsi, sg, List.getD_cons_zero, List.getD_cons_succ, List.set_cons_zero, List.set_cons_succ, if_true, if_false, reduceIte, endsD, endsS, endsO, endsN, endsL, asB_b, asI_i, asL_l, itemsP_l, itemsP_t, itemsP_s, itemsP_d, gAdd_i, gAdd_s, gAdd_t, gAdd_l, gI2_i, gMul_i, gMul_t, gMul_l, gMul_s, gNeg_i, gLen_s, gLen_l, gLen_t, gL1_1, gAll_l, gSum_l, gI2L_i, gMaxL_l, gMinL_l, gJoin_l, gJoin_t, gSl_l, gSl_t, gSl_s, gRev_l, wipeS, unwipe, keepV, gIdx_l, gIdx_t, gIdx_s, gIdx_d, dVarD, dDNew, dDNewT, dDPut, dDGetV, dDInV, dDEmpty, dDOne, dOwnD, dParED, dPar3, dEnum, dZip, dgTup_t, dgCons_c, dIsE, gSplit, dZipH, dM1, tx_length, tx_list]
      exact ⟨small_le (by have := len_key hk h9.1 h9.2; omega), _, atI_nat (j := 0) (hf k hk'), hR _ rfl⟩
    · simp only [List.nil_append, unwipe, wipeS, keepV, dRet, dRetN, dAnd, dOr, dNot, dTest, dTAnd, dTOr, dTNot, dIf, dChain, dUn, dOp, dCall, dC, dVar, dCons, dNil, dTup, dLst, dSeq, dIfS, dAsg, dgName, dgNil, dPar, dParEO, dParOE, dParOO, dFor, dIter, dNext, dBreak, dCont, dDrop, dRaise, dFn, dFnS, dFnO, dM1, dLc, dSl, dSlV, dRevV, dLenV, dIdxV, dApp, dSetI, dPopAt, dCmpV, dOwn, dOwnV, dRetO, dRng1, dRng2, dRng3, dPNo, dPSo, dYes, dLenSet, dScrLen, dScrIdx, dSrcIdx, dSrcSet, dNewSrc, oLst, oRep, oListStr, gEq, gNe, gIsN, gNotN, gIsB, gNotB, gIsi, sg, List.getD_cons_zero, List.getD_cons_succ, List.set_cons_zero, List.set_cons_succ, if_true, if_false, reduceIte, endsD, endsS, endsO, endsN, endsL, asB_b, asI_i, asL_l, itemsP_l, itemsP_t, itemsP_s, itemsP_d, gAdd_i, gAdd_s, gAdd_t, gAdd_l, gI2_i, gMul_i, gMul_t, gMul_l, gMul_s, gNeg_i, gLen_s, gLen_l, gLen_t, gL1_1, gAll_l, gSum_l, gI2L_i, gMaxL_l, gMinL_l, gJoin_l, gJoin_t, gSl_l, gSl_t, gSl_s, gRev_l, wipeS, unwipe, keepV, gIdx_l, gIdx_t, gIdx_s, gIdx_d, dVarD, dDNew, dDNewT, dDPut, dDGetV, dDInV, dDEmpty, dDOne, dOwnD, dParED, dPar3, dEnum, dZip, dgTup_t, dgCons_c, dIsE, gSplit, dZipH, dM1]
      refine ⟨l.map fun k => tx [fst1 kp k], by rw [List.map_map]; rfl, ?_, ?_⟩
      · have e3 : (fun x : Str => x.length) ∘ (fun k => tx [fst1 kp k]) = fun _ => 1 := funext fun k => tx_length _
        have e6 : ∀ l : List Int, (l.map fun _ => 1).sum = l.length := fun l => by
          induction l with
          | nil => rfl
          | cons a b ih => rw [List.map_cons, List.sum_cons, ih, List.length_cons]; omega
        rw [List.map_map, e3, e6, List.length_map, empty_eq, tx_length]
        show _ + _ * 0 ≤ _
        omega
      · have e4 : (l.map fun k => tx [fst1 kp k]) = (l.map fun k => [fst1 kp k]).map tx := by rw [List.map_map]; rfl
        rw [e4, empty_eq, join_tx]
        have e5 : ∀ l : List Int, (l.map fun k => [fst1 kp k]).flatten = l.map (fst1 kp) := fun l => by
          induction l with
          | nil => rfl
          | cons a b ih => rw [List.map_cons, List.flatten_cons, ih]; rfl
        rw [e5]
        exact q
theorem call_sure {kp : List Tx} {l : List Int} {Q : D → Prop} (hk : KpOk kp) (hl : LogOk kp.length l) (q : Q (S (sureL kp l))) : p_sure_letters [Kd kp, Ld l] Q noW := by
  refine ⟨_, _, rfl, hk.okT, okT_Ld l, (fun e => by rw [hk.isKp] at e; cases e), fun kp' e hk' => ?_⟩
  cases Kd_inj e
  refine ⟨(fun e => by rw [hl.isLog] at e; cases e), fun l' e' hl' => ?_⟩
  cases Ld_inj e'
  exact q
/-! _law_is_bool -/
abbrev n__law_is_bool : List Str := ["actual", "expected"]
def p__law_is_bool : DP := fun ds Q _ => ∃ a b, ds = [.bool a, .bool b] ∧ Q (.bool (decide (a = b)))
def t__law_is_bool (W : Str → Prop) : DS := (dRet (dAnd (dUn (gIsi isBool) (dVar 0)) (dOp gEq (dVar 0) (dVar 1))))
theorem m__law_is_bool : MoP p__law_is_bool := fun ds Q Q' W W' hq _ ⟨a, b, e, q⟩ => ⟨a, b, e, hq _ q⟩
theorem l__law_is_bool : ∀ ds Q W, p__law_is_bool ds Q W → ds.length = 2 := fun ds Q W ⟨a, b, e, _⟩ => by rw [e]; rfl
theorem D__law_is_bool (W : Str → Prop) (ds : List D) (Q : D → Prop) (h : p__law_is_bool ds Q W) : t__law_is_bool W (endsD Q) (startS n__law_is_bool ds) := by
  obtain ⟨a, b, rfl, q⟩ := h
  show t__law_is_bool W (endsD Q) [.va (.bool a), .va (.bool b)]
  simp only [t__law_is_bool, dRet, dRetN, dAnd, dOr, dNot, dTest, dTAnd, dTOr, dTNot, dIf, dChain, dUn, dOp, dCall, dC, dVar, dCons, dNil, dTup, dLst, dSeq, dIfS, dAsg, dgName, dgNil, dPar, dParEO, dParOE, dParOO, dFor, dIter, dNext, dBreak, dCont, dDrop, dRaise, dFn, dFnS, dFnO, dM1, dLc, dSl, dSlV, dRevV, dLenV, dIdxV, dApp, dSetI, dPopAt, dCmpV, dOwn, dOwnV, dRetO, dRng1, dRng2, dRng3, dPNo, dPSo, dYes, dLenSet, dScrLen, dScrIdx, dSrcIdx, dSrcSet, dNewSrc, oLst, oRep, oListStr, gEq, gNe, gIsN, gNotN, gIsB, gNotB, gIsi, sg, List.getD_cons_zero, List.getD_cons_succ, List.set_cons_zero, List.set_cons_succ, if_true, if_false, reduceIte, endsD, endsS, endsO, endsN, endsL, asB_b, asI_i, asL_l, itemsP_l, itemsP_t, itemsP_s, itemsP_d, gAdd_i, gAdd_s, gAdd_t, gAdd_l, gI2_i, gMul_i, gMul_t, gMul_l, gMul_s, gNeg_i, gLen_s, gLen_l, gLen_t, gL1_1, gAll_l, gSum_l, gI2L_i, gMaxL_l, gMinL_l, gJoin_l, gJoin_t, gSl_l, gSl_t, gSl_s, gRev_l, wipeS, unwipe, keepV, gIdx_l, gIdx_t, gIdx_s, gIdx_d, dVarD, dDNew, dDNewT, dDPut, dDGetV, dDInV, dDEmpty, dDOne, dOwnD, dParED, dPar3, dEnum, dZip, dgTup_t, dgCons_c, dIsE, gSplit, dZipH, dM1]
  refine ⟨rfl, ?_⟩
  rw [show isBool (.bool a) = true from rfl, if_pos rfl]
  refine ⟨by cases a <;> cases b <;> rfl, ?_⟩
  rw [eqv_bool]
  exact q
end LW

namespace LW
open PySem PySem.Spec PyProof.Rows L2 DL
/-! common_log -/
def cmOk (kp : List Tx) (p : Run × Run) : Bool := decide ((p.1.2 - p.2.2) % ((keyAt kp p.1.1).length : Int) = 0)
def cmOf (ps : List (Run × Run)) : List Int := ps.flatMap fun p => List.replicate (max p.1.2 p.2.2).toNat p.1.1
def commonL (kp : List Tx) (a b : Tx) : Option (List Int) := if (sums kp a).map (·.1) = (sums kp b).map (·.1) ∧ ((sums kp a).zip (sums kp b)).all (cmOk kp) = true then some (cmOf ((sums kp a).zip (sums kp b))) else none
def optD : Option (List Int) → D
  | some l => Ld l
  | none => .none
theorem sums_in {kp : List Tx} (hp : KpOk kp) : ∀ (w : Tx) (f : List Run) (n : Nat), (∀ c ∈ w, c ∈ kp.flatten) → (∀ r ∈ f, 0 ≤ r.1 ∧ r.1 < kp.length ∧ 1 ≤ r.2 ∧ r.2 ≤ n) → ∀ r ∈ w.foldl (fun f c => addN f (keyOf kp c) (numOf kp c)) f, 0 ≤ r.1 ∧ r.1 < kp.length ∧ 1 ≤ r.2 ∧ r.2 ≤ ((n + 6 * w.length : Nat) : Int)
  | [], f, n, _, h, r, hr => h r hr
  | c :: w, f, n, hw, h, r, hr => by
    have hc := hw c List.mem_cons_self
    obtain ⟨h0, h1, hn⟩ := hp.num hc
    have h2 : ∀ r ∈ addN f (keyOf kp c) (numOf kp c), 0 ≤ r.1 ∧ r.1 < kp.length ∧ 1 ≤ r.2 ∧ r.2 ≤ ((n + 6 : Nat) : Int) := fun q hq => by
      rcases addN_mem hq with hq | ⟨e, hq | ⟨p, hp, hq⟩⟩
      · have := h q hq
        exact ⟨this.1, this.2.1, this.2.2.1, by omega⟩
      · exact ⟨by omega, by omega, by omega, by omega⟩
      · have := h p hp
        exact ⟨by omega, by omega, by omega, by omega⟩
    have := sums_in hp w _ (n + 6) (fun d hd => hw d (List.mem_cons_of_mem c hd)) h2 r hr
    exact ⟨this.1, this.2.1, this.2.2.1, by rw [List.length_cons]; omega⟩
theorem sums_ok {kp : List Tx} (hp : KpOk kp) {w : Tx} (hw : ∀ c ∈ w, c ∈ kp.flatten) : ∀ r ∈ sums kp w, 0 ≤ r.1 ∧ r.1 < kp.length ∧ 1 ≤ r.2 ∧ r.2 ≤ ((6 * w.length : Nat) : Int) := fun r hr => by
  have := sums_in hp w [] 0 hw (fun _ z => nomatch z) r hr
  rw [Nat.zero_add] at this
  exact this
theorem sums_ln (kp : List Tx) (w : Tx) : (sums kp w).length ≤ w.length := by
  have h : (sums kp w).length ≤ ([] : List Run).length + w.length := sums_len kp w []
  rw [List.length_nil, Nat.zero_add] at h
  exact h
theorem cmOf_len : ∀ (ps : List (Run × Run)), (∀ p ∈ ps, p.1.2 ≤ 180 ∧ p.2.2 ≤ 180) → (cmOf ps).length ≤ 180 * ps.length
  | [], _ => Nat.le_refl _
  | p :: ps, h => by
    have h1 := h p List.mem_cons_self
    have h2 := cmOf_len ps fun q hq => h q (List.mem_cons_of_mem p hq)
    have e : cmOf (p :: ps) = List.replicate (max p.1.2 p.2.2).toNat p.1.1 ++ cmOf ps := rfl
    rw [e, List.length_append, List.length_replicate, List.length_cons]
    omega
abbrev n_common_log : List Str := ["keypad", "one", "other", "first", "second", "found", "key", "total", "same", "more"]
def p_common_log : DP := fun ds Q W => ∃ v t u, ds = [v, t, u] ∧ okT v ∧ okV t ∧ okV u ∧ (isKp v = false → W "InvalidKeypad") ∧ ∀ kp, v = Kd kp → KpOk kp → (isStrOf t kp.flatten 0 30 = false → W "InvalidText") ∧ ∀ x, t = S x → TextOk kp x → (isStrOf u kp.flatten 0 30 = false → W "InvalidText") ∧ ∀ y, u = S y → TextOk kp y → Q (optD (commonL kp x y))
def t_common_log (W : Str → Prop) : DS := (dSeq (dDrop (dFn p_require_keypad W (dCons (dVar 0) dNil)))
      (dSeq (dDrop (dFn p_require_text W (dCons (dVar 0) (dCons (dVar 1) dNil))))
      (dSeq (dDrop (dFn p_require_text W (dCons (dVar 0) (dCons (dVar 2) dNil))))
      (dSeq (dPar3 3 4 5 (dCons (dFn p_sums_of W (dCons (dVar 0) (dCons (dVar 1) dNil))) (dCons (dFn p_sums_of W (dCons (dVar 0) (dCons (dVar 2) dNil))) (dCons (dTup dNil) dNil))))
      (dSeq (dIfS (dTest (dOp gNe (dLc (dIter (dVar 3)) (dgTup (dgCons (dgName 6) (dgCons (dgName 7) dgNil))) dYes (dVar 6) [6, 7]) (dLc (dIter (dVar 4)) (dgTup (dgCons (dgName 6) (dgCons (dgName 7) dgNil))) dYes (dVar 6) [6, 7]))) (dRet (dC .none)) dNext)
      (dSeq (dFor (dZip (dCons (dVar 3) (dCons (dVar 4) dNil))) (dgTup (dgCons (dgTup (dgCons (dgName 6) (dgCons (dgName 7) dgNil))) (dgCons (dgTup (dgCons (dgName 8) (dgCons (dgName 9) dgNil))) dgNil))) (dSeq (dIfS (dTest (dOp gNe (dOp gMod (dOp gSub (dVar 7) (dVar 9)) (dCall (gL1 gLen) (dCons (dOp gIdx (dVar 0) (dVar 6)) dNil))) (dC (.int 0)))) (dRet (dC .none)) dNext)
      (dAsg (dOp gAdd (dVar 5) (dOp gMul (dTup (dCons (dVar 6) dNil)) (dCall (gI2L fun i j => if j > i then j else i) (dCons (dVar 7) (dCons (dVar 9) dNil))))) (dgName 5))))
      (dRet (dVar 5))))))))
theorem m_common_log : MoP p_common_log := fun ds Q Q' W W' hq hw ⟨v, t, u, e, h1, h2, h3, h4, h5⟩ => ⟨v, t, u, e, h1, h2, h3, fun z => hw _ (h4 z), fun kp e hk => ⟨fun z => hw _ ((h5 kp e hk).1 z), fun x e2 h6 => ⟨fun z => hw _ (((h5 kp e hk).2 x e2 h6).1 z), fun y e3 h7 => hq _ (((h5 kp e hk).2 x e2 h6).2 y e3 h7)⟩⟩⟩
theorem l_common_log : ∀ ds Q W, p_common_log ds Q W → ds.length = 3 := fun ds Q W ⟨v, t, u, e, _⟩ => by rw [e]; rfl
theorem D_common_log (W : Str → Prop) (ds : List D) (Q : D → Prop) (h : p_common_log ds Q W) : t_common_log W (endsD Q) (startS n_common_log ds) := by
  obtain ⟨v, t, u, rfl, hv, ht, hu, h3, h4⟩ := h
  show t_common_log W (endsD Q) [.va v, .va t, .va u, .no, .no, .no, .no, .no, .no, .no]
  simp only [t_common_log, dRet, dRetN, dAnd, dOr, dNot, dTest, dTAnd, dTOr, dTNot, dIf, dChain, dUn, dOp, dCall, dC, dVar, dCons, dNil, dTup, dLst, dSeq, dIfS, dAsg, dgName, dgNil, dPar, dParEO, dParOE, dParOO, dFor, dIter, dNext, dBreak, dCont, dDrop, dRaise, dFn, dFnS, dFnO, dM1, dLc, dSl, dSlV, dRevV, dLenV, dIdxV, dApp, dSetI, dPopAt, dCmpV, dOwn, dOwnV, dRetO, dRng1, dRng2, dRng3, dPNo, dPSo, dYes, dLenSet, dScrLen, dScrIdx, dSrcIdx, dSrcSet, dNewSrc, oLst, oRep, oListStr, gEq, gNe, gIsN, gNotN, gIsB, gNotB, gIsi, sg, List.getD_cons_zero, List.getD_cons_succ, List.set_cons_zero, List.set_cons_succ, if_true, if_false, reduceIte, endsD, endsS, endsO, endsN, endsL, asB_b, asI_i, asL_l, itemsP_l, itemsP_t, itemsP_s, itemsP_d, gAdd_i, gAdd_s, gAdd_t, gAdd_l, gI2_i, gMul_i, gMul_t, gMul_l, gMul_s, gNeg_i, gLen_s, gLen_l, gLen_t, gL1_1, gAll_l, gSum_l, gI2L_i, gMaxL_l, gMinL_l, gJoin_l, gJoin_t, gSl_l, gSl_t, gSl_s, gRev_l, wipeS, unwipe, keepV, gIdx_l, gIdx_t, gIdx_s, gIdx_d, dVarD, dDNew, dDNewT, dDPut, dDGetV, dDInV, dDEmpty, dDOne, dOwnD, dParED, dPar3, dEnum, dZip, dgTup_t, dgCons_c, dIsE, gSplit, dZipH, dM1]
  refine ⟨v, rfl, hv, fun e => ?_, h3⟩
  obtain ⟨kp, rfl, hk⟩ := isKp_true e
  obtain ⟨h7, h8⟩ := h4 kp rfl hk
  refine ⟨kp, t, rfl, hk.pad, ht, fun e3 => ?_, h7⟩
  obtain ⟨x, rfl, hx⟩ := isText e3
  obtain ⟨h9, h10⟩ := h8 x rfl hx
  refine ⟨kp, u, rfl, hk.pad, hu, fun e4 => ?_, h9⟩
  obtain ⟨y, rfl, hy⟩ := isText e4
  have q := h10 y rfl hy
  have hxl := hx.len
  have hyl := hy.len
  refine ⟨kp, x, rfl, hk.pad, hx.mem, by omega, kp, y, rfl, hk.pad, hy.mem, by omega, ?_⟩
  have l1 := sums_ln kp x
  have l2 := sums_ln kp y
  simp only [dRet, dRetN, dAnd, dOr, dNot, dTest, dTAnd, dTOr, dTNot, dIf, dChain, dUn, dOp, dCall, dC, dVar, dCons, dNil, dTup, dLst, dSeq, dIfS, dAsg, dgName, dgNil, dPar, dParEO, dParOE, dParOO, dFor, dIter, dNext, dBreak, dCont, dDrop, dRaise, dFn, dFnS, dFnO, dM1, dLc, dSl, dSlV, dRevV, dLenV, dIdxV, dApp, dSetI, dPopAt, dCmpV, dOwn, dOwnV, dRetO, dRng1, dRng2, dRng3, dPNo, dPSo, dYes, dLenSet, dScrLen, dScrIdx, dSrcIdx, dSrcSet, dNewSrc, oLst, oRep, oListStr, gEq, gNe, gIsN, gNotN, gIsB, gNotB, gIsi, sg, List.getD_cons_zero, List.getD_cons_succ, List.set_cons_zero, List.set_cons_succ, if_true, if_false, reduceIte, endsD, endsS, endsO, endsN, endsL, asB_b, asI_i, asL_l, itemsP_l, itemsP_t, itemsP_s, itemsP_d, gAdd_i, gAdd_s, gAdd_t, gAdd_l, gI2_i, gMul_i, gMul_t, gMul_l, gMul_s, gNeg_i, gLen_s, gLen_l, gLen_t, gL1_1, gAll_l, gSum_l, gI2L_i, gMaxL_l, gMinL_l, gJoin_l, gJoin_t, gSl_l, gSl_t, gSl_s, gRev_l, wipeS, unwipe, keepV, gIdx_l, gIdx_t, gIdx_s, gIdx_d, dVarD, dDNew, dDNewT, dDPut, dDGetV, dDInV, dDEmpty, dDOne, dOwnD, dParED, dPar3, dEnum, dZip, dgTup_t, dgCons_c, dIsE, gSplit, dZipH, dM1, runsD]
  refine ⟨Nat.zero_le _, ?_⟩
  refine lc_keys (sums kp x) (by omega) (fun r hr R N hR => ?_) ?_
  · simp only [runD, dRet, dRetN, dAnd, dOr, dNot, dTest, dTAnd, dTOr, dTNot, dIf, dChain, dUn, dOp, dCall, dC, dVar, dCons, dNil, dTup, dLst, dSeq, dIfS, dAsg, dgName, dgNil, dPar, dParEO, dParOE, dParOO, dFor, dIter, dNext, dBreak, dCont, dDrop, dRaise, dFn, dFnS, dFnO, dM1, dLc, dSl, dSlV, dRevV, dLenV, dIdxV, dApp, dSetI, dPopAt, dCmpV, dOwn, dOwnV, dRetO, dRng1, dRng2, dRng3, dPNo, dPSo, dYes, dLenSet, dScrLen, dScrIdx, dSrcIdx, dSrcSet, dNewSrc, oLst, oRep, oListStr, gEq, gNe, gIsN, gNotN, gIsB, gNotB, gIsi, sg, List.getD_cons_zero, List.getD_cons_succ, List.set_cons_zero, List.set_cons_succ, if_true, if_false, reduceIte, endsD, endsS, endsO, endsN, endsL, asB_b, asI_i, asL_l, itemsP_l, itemsP_t, itemsP_s, itemsP_d, gAdd_i, gAdd_s, gAdd_t, gAdd_l, gI2_i, gMul_i, gMul_t, gMul_l, gMul_s, gNeg_i, gLen_s, gLen_l, gLen_t, gL1_1, gAll_l, gSum_l, gI2L_i, gMaxL_l, gMinL_l, gJoin_l, gJoin_t, gSl_l, gSl_t, gSl_s, gRev_l, wipeS, unwipe, keepV, gIdx_l, gIdx_t, gIdx_s, gIdx_d, dVarD, dDNew, dDNewT, dDPut, dDGetV, dDInV, dDEmpty, dDOne, dOwnD, dParED, dPar3, dEnum, dZip, dgTup_t, dgCons_c, dIsE, gSplit, dZipH, dM1]
    exact ⟨trivial, hR _ rfl⟩
  simp only [unwipe, wipeS, keepV, dRet, dRetN, dAnd, dOr, dNot, dTest, dTAnd, dTOr, dTNot, dIf, dChain, dUn, dOp, dCall, dC, dVar, dCons, dNil, dTup, dLst, dSeq, dIfS, dAsg, dgName, dgNil, dPar, dParEO, dParOE, dParOO, dFor, dIter, dNext, dBreak, dCont, dDrop, dRaise, dFn, dFnS, dFnO, dM1, dLc, dSl, dSlV, dRevV, dLenV, dIdxV, dApp, dSetI, dPopAt, dCmpV, dOwn, dOwnV, dRetO, dRng1, dRng2, dRng3, dPNo, dPSo, dYes, dLenSet, dScrLen, dScrIdx, dSrcIdx, dSrcSet, dNewSrc, oLst, oRep, oListStr, gEq, gNe, gIsN, gNotN, gIsB, gNotB, gIsi, sg, List.getD_cons_zero, List.getD_cons_succ, List.set_cons_zero, List.set_cons_succ, if_true, if_false, reduceIte, endsD, endsS, endsO, endsN, endsL, asB_b, asI_i, asL_l, itemsP_l, itemsP_t, itemsP_s, itemsP_d, gAdd_i, gAdd_s, gAdd_t, gAdd_l, gI2_i, gMul_i, gMul_t, gMul_l, gMul_s, gNeg_i, gLen_s, gLen_l, gLen_t, gL1_1, gAll_l, gSum_l, gI2L_i, gMaxL_l, gMinL_l, gJoin_l, gJoin_t, gSl_l, gSl_t, gSl_s, gRev_l, wipeS, unwipe, keepV, gIdx_l, gIdx_t, gIdx_s, gIdx_d, dVarD, dDNew, dDNewT, dDPut, dDGetV, dDInV, dDEmpty, dDOne, dOwnD, dParED, dPar3, dEnum, dZip, dgTup_t, dgCons_c, dIsE, gSplit, dZipH, dM1]
  refine lc_keys (sums kp y) (by omega) (fun r hr R N hR => ?_) ?_
  · simp only [runD, dRet, dRetN, dAnd, dOr, dNot, dTest, dTAnd, dTOr, dTNot, dIf, dChain, dUn, dOp, dCall, dC, dVar, dCons, dNil, dTup, dLst, dSeq, dIfS, dAsg, dgName, dgNil, dPar, dParEO, dParOE, dParOO, dFor, dIter, dNext, dBreak, dCont, dDrop, dRaise, dFn, dFnS, dFnO, dM1, dLc, dSl, dSlV, dRevV, dLenV, dIdxV, dApp, dSetI, dPopAt, dCmpV, dOwn, dOwnV, dRetO, dRng1, dRng2, dRng3, dPNo, dPSo, dYes, dLenSet, dScrLen, dScrIdx, dSrcIdx, dSrcSet, dNewSrc, oLst, oRep, oListStr, gEq, gNe, gIsN, gNotN, gIsB, gNotB, gIsi, sg, List.getD_cons_zero, List.getD_cons_succ, List.set_cons_zero, List.set_cons_succ, if_true, if_false, reduceIte, endsD, endsS, endsO, endsN, endsL, asB_b, asI_i, asL_l, itemsP_l, itemsP_t, itemsP_s, itemsP_d, gAdd_i, gAdd_s, gAdd_t, gAdd_l, gI2_i, gMul_i, gMul_t, gMul_l, gMul_s, gNeg_i, gLen_s, gLen_l, gLen_t, gL1_1, gAll_l, gSum_l, gI2L_i, gMaxL_l, gMinL_l, gJoin_l, gJoin_t, gSl_l, gSl_t, gSl_s, gRev_l, wipeS, unwipe, keepV, gIdx_l, gIdx_t, gIdx_s, gIdx_d, dVarD, dDNew, dDNewT, dDPut, dDGetV, dDInV, dDEmpty, dDOne, dOwnD, dParED, dPar3, dEnum, dZip, dgTup_t, dgCons_c, dIsE, gSplit, dZipH, dM1]
    exact ⟨trivial, hR _ rfl⟩
  simp only [unwipe, wipeS, keepV, dRet, dRetN, dAnd, dOr, dNot, dTest, dTAnd, dTOr, dTNot, dIf, dChain, dUn, dOp, dCall, dC, dVar, dCons, dNil, dTup, dLst, dSeq, dIfS, dAsg, dgName, dgNil, dPar, dParEO, dParOE, dParOO, dFor, dIter, dNext, dBreak, dCont, dDrop, dRaise, dFn, dFnS, dFnO, dM1, dLc, dSl, dSlV, dRevV, dLenV, dIdxV, dApp, dSetI, dPopAt, dCmpV, dOwn, dOwnV, dRetO, dRng1, dRng2, dRng3, dPNo, dPSo, dYes, dLenSet, dScrLen, dScrIdx, dSrcIdx, dSrcSet, dNewSrc, oLst, oRep, oListStr, gEq, gNe, gIsN, gNotN, gIsB, gNotB, gIsi, sg, List.getD_cons_zero, List.getD_cons_succ, List.set_cons_zero, List.set_cons_succ, if_true, if_false, reduceIte, endsD, endsS, endsO, endsN, endsL, asB_b, asI_i, asL_l, itemsP_l, itemsP_t, itemsP_s, itemsP_d, gAdd_i, gAdd_s, gAdd_t, gAdd_l, gI2_i, gMul_i, gMul_t, gMul_l, gMul_s, gNeg_i, gLen_s, gLen_l, gLen_t, gL1_1, gAll_l, gSum_l, gI2L_i, gMaxL_l, gMinL_l, gJoin_l, gJoin_t, gSl_l, gSl_t, gSl_s, gRev_l, wipeS, unwipe, keepV, gIdx_l, gIdx_t, gIdx_s, gIdx_d, dVarD, dDNew, dDNewT, dDPut, dDGetV, dDInV, dDEmpty, dDOne, dOwnD, dParED, dPar3, dEnum, dZip, dgTup_t, dgCons_c, dIsE, gSplit, dZipH, dM1, eqv_list eqv_int, Bool.not_eq_true', Bool.not_eq_false', decide_eq_true_eq, decide_eq_false_iff_not, Bool.and_eq_true, Bool.or_eq_true, Bool.not_true, Bool.not_false, Bool.false_eq_true, reduceCtorEq, decide_true, decide_false]
  refine ⟨by
    have s1 : ∀ l : List Int, SeqAt.shaped (.list (l.map PyData.int)) = true := fun l => (shp_list (n := 0) (shp_map fun a _ => shp_int a)).ok
    unfold eqOk
    rw [s1, s1]
    rfl, ?_⟩
  unfold commonL at q
  by_cases he : (sums kp x).map (·.1) = (sums kp y).map (·.1)
  · rw [if_neg (fun z => z he)]
    rw [zipD_map]
    have hz1 := List.length_zip (l₁ := sums kp x) (l₂ := sums kp y)
    refine for_ind (fun p : Run × Run => .tuple [runD p.1, runD p.2]) (fun done ρ => ∃ x6 x7 x8 x9, ρ = [.va (Kd kp), .va (S x), .va (S y), .va (.list ((sums kp x).map runD)), .va (.list ((sums kp y).map runD)), .va (Ld (cmOf done)), x6, x7, x8, x9] ∧ done.all (cmOk kp) = true) ⟨_, _, _, _, rfl, rfl⟩ (fun done p rest ρ hd ⟨x6, x7, x8, x9, hρ, hall⟩ N hN => ?_) (fun ρ ⟨x6, x7, x8, x9, hρ, hall⟩ => ?_)
    · subst hρ
      have hin : ∀ p' ∈ (sums kp x).zip (sums kp y), (0 ≤ p'.1.1 ∧ p'.1.1 < kp.length ∧ 1 ≤ p'.1.2 ∧ p'.1.2 ≤ 180) ∧ 1 ≤ p'.2.2 ∧ p'.2.2 ≤ 180 := fun p' hp' => by
        have h1 := List.of_mem_zip hp'
        have h2 := sums_ok hk hx.mem _ h1.1
        have h3 := sums_ok hk hy.mem _ h1.2
        exact ⟨⟨h2.1, h2.2.1, h2.2.2.1, by omega⟩, h3.2.2.1, by omega⟩
      have hpm := hin p (by rw [hd]; exact List.mem_append.mpr (.inr List.mem_cons_self))
      have hlen : (cmOf done).length ≤ 180 * done.length := cmOf_len done fun p' hp' => by
        have := hin p' (by rw [hd]; exact List.mem_append.mpr (.inl hp'))
        omega
      have hdl : done.length < 30 := by
        have := congrArg List.length hd
        rw [List.length_append, List.length_cons] at this
        omega
      obtain ⟨r, t⟩ := p
      simp only at hpm
      obtain ⟨⟨k0, k1, a1, a2⟩, b1, b2⟩ := hpm
      have hkl := len_key hk k0 k1
      simp (config := {maxSteps := 2000000}) only [runD, dRet, dRetN, dAnd, dOr, dNot, dTest, dTAnd, dTOr, dTNot, dIf, dChain, dUn, dOp, dCall, dC, dVar, dCons, dNil, dTup, dLst, dSeq, dIfS, dAsg, dgName, dgNil, dPar, dParEO, dParOE, dParOO, dFor, dIter, dNext, dBreak, dCont, dDrop, dRaise, dFn, dFnS, dFnO, dM1, dLc, dSl, dSlV, dRevV, dLenV, dIdxV, dApp, dSetI, dPopAt, dCmpV, dOwn, dOwnV, dRetO, dRng1, dRng2, dRng3, dPNo, dPSo, dYes, dLenSet, dScrLen, dScrIdx, dSrcIdx, dSrcSet, dNewSrc, oLst, oRep, oListStr, gEq, gNe, gIsN, gNotN, gIsB, gNotB, gIsi, sg, List.getD_cons_zero, List.getD_cons_succ, List.set_cons_zero, List.set_cons_succ, if_true, if_false, reduceIte, endsD, endsS, endsO, endsN, endsL, asB_b, asI_i, asL_l, itemsP_l, itemsP_t, itemsP_s, itemsP_d, gAdd_i, gAdd_s, gAdd_t, gAdd_l, gI2_i, gMul_i, gMul_t, gMul_l, gMul_s, gNeg_i, gLen_s, gLen_l, gLen_t, gL1_1, gAll_l, gSum_l, gI2L_i, gMaxL_l, gMinL_l, gJoin_l, gJoin_t, gSl_l, gSl_t, gSl_s, gRev_l, wipeS, unwipe, keepV, gIdx_l, gIdx_t, gIdx_s, gIdx_d, dVarD, dDNew, dDNewT, dDPut, dDGetV, dDInV, dDEmpty, dDOne, dOwnD, dParED, dPar3, dEnum, dZip, dgTup_t, dgCons_c, dIsE, gSplit, dZipH, dM1]
      have es : (if t.2 > r.2 then t.2 else r.2) = max r.2 t.2 := by split <;> omega
      rw [es]
      have hmx : max r.2 t.2 ≤ 180 := by omega
      refine ⟨trivial, trivial, trivial, trivial, _, atI_key k0 k1, ?_⟩
      simp only [dRet, dRetN, dAnd, dOr, dNot, dTest, dTAnd, dTOr, dTNot, dIf, dChain, dUn, dOp, dCall, dC, dVar, dCons, dNil, dTup, dLst, dSeq, dIfS, dAsg, dgName, dgNil, dPar, dParEO, dParOE, dParOO, dFor, dIter, dNext, dBreak, dCont, dDrop, dRaise, dFn, dFnS, dFnO, dM1, dLc, dSl, dSlV, dRevV, dLenV, dIdxV, dApp, dSetI, dPopAt, dCmpV, dOwn, dOwnV, dRetO, dRng1, dRng2, dRng3, dPNo, dPSo, dYes, dLenSet, dScrLen, dScrIdx, dSrcIdx, dSrcSet, dNewSrc, oLst, oRep, oListStr, gEq, gNe, gIsN, gNotN, gIsB, gNotB, gIsi, sg, List.getD_cons_zero, List.getD_cons_succ, List.set_cons_zero, List.set_cons_succ, if_true, if_false, reduceIte, endsD, endsS, endsO, endsN, endsL, asB_b, asI_i, asL_l, itemsP_l, itemsP_t, itemsP_s, itemsP_d, gAdd_i, gAdd_s, gAdd_t, gAdd_l, gI2_i, gMul_i, gMul_t, gMul_l, gMul_s, gNeg_i, gLen_s, gLen_l, gLen_t, gL1_1, gAll_l, gSum_l, gI2L_i, gMaxL_l, gMinL_l, gJoin_l, gJoin_t, gSl_l, gSl_t, gSl_s, gRev_l, wipeS, unwipe, keepV, gIdx_l, gIdx_t, gIdx_s, gIdx_d, dVarD, dDNew, dDNewT, dDPut, dDGetV, dDInV, dDEmpty, dDOne, dOwnD, dParED, dPar3, dEnum, dZip, dgTup_t, dgCons_c, dIsE, gSplit, dZipH, dM1, tx_length, eqv_int, Bool.not_eq_true', Bool.not_eq_false', decide_eq_true_eq, decide_eq_false_iff_not, Bool.and_eq_true, Bool.or_eq_true, Bool.not_true, Bool.not_false, Bool.false_eq_true, reduceCtorEq, decide_true, decide_false]
      refine ⟨small_le (by omega), by omega, rfl, ?_⟩
      by_cases h2 : (r.2 - t.2) % ((keyAt kp r.1).length : Int) = 0
      · rw [if_neg (fun z => z h2)]
        refine ⟨le1, ⟨by omega, by omega, by simp⟩, ?_, ?_⟩
        · rw [rep_Ld, List.length_map, List.length_map, List.length_replicate]
          exact le_mil (by omega)
        · refine hN _ ⟨.va (.int r.1), .va (.int r.2), .va (.int t.1), .va (.int t.2), ?_, ?_⟩
          rotate_left
          · rw [List.all_append, hall, List.all_cons, List.all_nil]
            unfold cmOk
            show (true && (decide ((r.2 - t.2) % ((keyAt kp r.1).length : Int) = 0) && true)) = true
            rw [decide_eq_true h2]
            rfl
          · rw [rep_Ld, ← List.map_append]
            have e5 : cmOf (done ++ [(r, t)]) = cmOf done ++ List.replicate (max r.2 t.2).toNat r.1 := by
              unfold cmOf
              rw [List.flatMap_append]
              simp
            rw [e5]
      · rw [if_pos h2]
        rw [if_neg] at q
        · exact q
        · intro z
          have z2 := z.2
          rw [hd, List.all_append, List.all_cons] at z2
          unfold cmOk at z2
          simp [h2] at z2
    · subst hρ
      rw [if_pos ⟨he, hall⟩] at q
      exact q
  · rw [if_pos he]
    rw [if_neg (fun z => he z.1)] at q
    exact q
theorem call_common {kp : List Tx} {x y : Tx} {Q : D → Prop} (hk : KpOk kp) (hx : TextOk kp x) (hy : TextOk kp y) (q : Q (optD (commonL kp x y))) : p_common_log [Kd kp, S x, S y] Q noW := by
  have := hx.len
  have := hy.len
  refine ⟨_, _, _, rfl, hk.okT, okV_S (by omega), okV_S (by omega), (fun e => by rw [hk.isKp] at e; cases e), fun kp' e hk' => ?_⟩
  cases Kd_inj e
  refine ⟨(fun e => by rw [hx.is] at e; cases e), fun x' e' hx' => ?_⟩
  cases S_inj e'
  refine ⟨(fun e => by rw [hy.is] at e; cases e), fun y' e' hy' => ?_⟩
  cases S_inj e'
  exact q
/-! _law_sums of k21 -/
abbrev n__law_sums : List Str := ["pad", "word", "found", "letter", "key", "number"]
def p__law_sums : DP := p_sums_of
def t__law_sums (W : Str → Prop) : DS := (dSeq (dOwn 2 (oLst dNil))
      (dSeq (dFor (dIter (dVar 1)) (dgName 3) (dSeq (dAsg (dOp gIdx (dFn p__law_spots W (dCons (dVar 0) dNil)) (dVar 3)) (dgTup (dgCons (dgName 4) (dgCons (dgName 5) dgNil))))
      (dIfS (dTAnd (dTest (dCmpV true 2 (dLst dNil))) (dTest (dOp gEq (dOp gIdx (dIdxV 2 (dUn gNeg (dC (.int 1)))) (dC (.int 0))) (dVar 4)))) (dSetI 2 (dUn gNeg (dC (.int 1))) (dTup (dCons (dVar 4) (dCons (dOp gAdd (dOp gIdx (dIdxV 2 (dUn gNeg (dC (.int 1)))) (dC (.int 1))) (dVar 5)) dNil)))) (dApp 2 (dTup (dCons (dVar 4) (dCons (dVar 5) dNil)))))))
      (dRet (dVar 2))))
theorem m__law_sums : MoP p__law_sums := m_sums_of
theorem l__law_sums : ∀ ds Q W, p__law_sums ds Q W → ds.length = 2 := l_sums_of
theorem D__law_sums (W : Str → Prop) (ds : List D) (Q : D → Prop) (h : p__law_sums ds Q W) : t__law_sums W (endsD Q) (startS n__law_sums ds) := by
  obtain ⟨kp, w, rfl, hp, hw, hl, q⟩ := h
  show t__law_sums W (endsD Q) [.va (Kd kp), .va (S w), .no, .no, .no, .no]
  simp only [t__law_sums, dRet, dRetN, dAnd, dOr, dNot, dTest, dTAnd, dTOr, dTNot, dIf, dChain, dUn, dOp, dCall, dC, dVar, dCons, dNil, dTup, dLst, dSeq, dIfS, dAsg, dgName, dgNil, dPar, dParEO, dParOE, dParOO, dFor, dIter, dNext, dBreak, dCont, dDrop, dRaise, dFn, dFnS, dFnO, dM1, dLc, dSl, dSlV, dRevV, dLenV, dIdxV, dApp, dSetI, dPopAt, dCmpV, dOwn, dOwnV, dRetO, dRng1, dRng2, dRng3, dPNo, dPSo, dYes, dLenSet, dScrLen, dScrIdx, dSrcIdx, dSrcSet, dNewSrc, oLst, oRep, oListStr, gEq, gNe, gIsN, gNotN, gIsB, gNotB, gIsi, sg, List.getD_cons_zero, List.getD_cons_succ, List.set_cons_zero, List.set_cons_succ, if_true, if_false, reduceIte, endsD, endsS, endsO, endsN, endsL, asB_b, asI_i, asL_l, itemsP_l, itemsP_t, itemsP_s, itemsP_d, gAdd_i, gAdd_s, gAdd_t, gAdd_l, gI2_i, gMul_i, gMul_t, gMul_l, gMul_s, gNeg_i, gLen_s, gLen_l, gLen_t, gL1_1, gAll_l, gSum_l, gI2L_i, gMaxL_l, gMinL_l, gJoin_l, gJoin_t, gSl_l, gSl_t, gSl_s, gRev_l, wipeS, unwipe, keepV, gIdx_l, gIdx_t, gIdx_s, gIdx_d, dVarD, dDNew, dDNewT, dDPut, dDGetV, dDInV, dDEmpty, dDOne, dOwnD, dParED, dPar3, dEnum, dZip, dgTup_t, dgCons_c, dIsE, gSplit, dZipH, dM1]
  refine ⟨Nat.zero_le _, ?_⟩
  simp only [chars_tx]
  refine for_ind (fun c => S [c]) (fun done ρ => ∃ x4 x5 x6, ρ = [.va (Kd kp), .va (S w), .ow ((sums kp done).map runD), x4, x5, x6]) ⟨_, _, _, rfl⟩ (fun done c rest ρ hd ⟨x4, x5, x6, hρ⟩ N hN => ?_) (fun ρ ⟨x4, x5, x6, hρ⟩ => ?_)
  · subst hρ
    have hc : c ∈ kp.flatten := hw c (by rw [hd]; exact List.mem_append.mpr (.inr List.mem_cons_self))
    have hlen : (sums kp done).length ≤ 1000 := by
      have h1 := sums_len kp done []
      have h2 : done.length ≤ w.length := by
        rw [hd, List.length_append]
        omega
      have : (sums kp done).length ≤ 0 + done.length := h1
      omega
    have hN' := hN [.va (Kd kp), .va (S w), .ow ((sums kp (done ++ [c])).map runD), .va (S [c]), .va (.int (keyOf kp c)), .va (.int (numOf kp c))] ⟨_, _, _, rfl⟩
    have hr : sums kp (done ++ [c]) = addN (sums kp done) (keyOf kp c) (numOf kp c) := by
      unfold sums
      rw [List.foldl_append]
      rfl
    rw [hr] at hN'
    simp only [dRet, dRetN, dAnd, dOr, dNot, dTest, dTAnd, dTOr, dTNot, dIf, dChain, dUn, dOp, dCall, dC, dVar, dCons, dNil, dTup, dLst, dSeq, dIfS, dAsg, dgName, dgNil, dPar, dParEO, dParOE, dParOO, dFor, dIter, dNext, dBreak, dCont, dDrop, dRaise, dFn, dFnS, dFnO, dM1, dLc, dSl, dSlV, dRevV, dLenV, dIdxV, dApp, dSetI, dPopAt, dCmpV, dOwn, dOwnV, dRetO, dRng1, dRng2, dRng3, dPNo, dPSo, dYes, dLenSet, dScrLen, dScrIdx, dSrcIdx, dSrcSet, dNewSrc, oLst, oRep, oListStr, gEq, gNe, gIsN, gNotN, gIsB, gNotB, gIsi, sg, List.getD_cons_zero, List.getD_cons_succ, List.set_cons_zero, List.set_cons_succ, if_true, if_false, reduceIte, endsD, endsS, endsO, endsN, endsL, asB_b, asI_i, asL_l, itemsP_l, itemsP_t, itemsP_s, itemsP_d, gAdd_i, gAdd_s, gAdd_t, gAdd_l, gI2_i, gMul_i, gMul_t, gMul_l, gMul_s, gNeg_i, gLen_s, gLen_l, gLen_t, gL1_1, gAll_l, gSum_l, gI2L_i, gMaxL_l, gMinL_l, gJoin_l, gJoin_t, gSl_l, gSl_t, gSl_s, gRev_l, wipeS, unwipe, keepV, gIdx_l, gIdx_t, gIdx_s, gIdx_d, dVarD, dDNew, dDNewT, dDPut, dDGetV, dDInV, dDEmpty, dDOne, dOwnD, dParED, dPar3, dEnum, dZip, dgTup_t, dgCons_c, dIsE, gSplit, dZipH, dM1]
    refine ⟨kp, rfl, hp.nd, hp.fl, hp.len, ?_⟩
    simp only [dRet, dRetN, dAnd, dOr, dNot, dTest, dTAnd, dTOr, dTNot, dIf, dChain, dUn, dOp, dCall, dC, dVar, dCons, dNil, dTup, dLst, dSeq, dIfS, dAsg, dgName, dgNil, dPar, dParEO, dParOE, dParOO, dFor, dIter, dNext, dBreak, dCont, dDrop, dRaise, dFn, dFnS, dFnO, dM1, dLc, dSl, dSlV, dRevV, dLenV, dIdxV, dApp, dSetI, dPopAt, dCmpV, dOwn, dOwnV, dRetO, dRng1, dRng2, dRng3, dPNo, dPSo, dYes, dLenSet, dScrLen, dScrIdx, dSrcIdx, dSrcSet, dNewSrc, oLst, oRep, oListStr, gEq, gNe, gIsN, gNotN, gIsB, gNotB, gIsi, sg, List.getD_cons_zero, List.getD_cons_succ, List.set_cons_zero, List.set_cons_succ, if_true, if_false, reduceIte, endsD, endsS, endsO, endsN, endsL, asB_b, asI_i, asL_l, itemsP_l, itemsP_t, itemsP_s, itemsP_d, gAdd_i, gAdd_s, gAdd_t, gAdd_l, gI2_i, gMul_i, gMul_t, gMul_l, gMul_s, gNeg_i, gLen_s, gLen_l, gLen_t, gL1_1, gAll_l, gSum_l, gI2L_i, gMaxL_l, gMinL_l, gJoin_l, gJoin_t, gSl_l, gSl_t, gSl_s, gRev_l, wipeS, unwipe, keepV, gIdx_l, gIdx_t, gIdx_s, gIdx_d, dVarD, dDNew, dDNewT, dDPut, dDGetV, dDInV, dDEmpty, dDOne, dOwnD, dParED, dPar3, dEnum, dZip, dgTup_t, dgCons_c, dIsE, gSplit, dZipH, dM1]
    refine ⟨_, look_pad hc, ?_⟩
    generalize keyOf kp c = x at hN' ⊢
    generalize numOf kp c = n at hN' ⊢
    generalize sums kp done = f at hN' hlen ⊢
    simp only [dRet, dRetN, dAnd, dOr, dNot, dTest, dTAnd, dTOr, dTNot, dIf, dChain, dUn, dOp, dCall, dC, dVar, dCons, dNil, dTup, dLst, dSeq, dIfS, dAsg, dgName, dgNil, dPar, dParEO, dParOE, dParOO, dFor, dIter, dNext, dBreak, dCont, dDrop, dRaise, dFn, dFnS, dFnO, dM1, dLc, dSl, dSlV, dRevV, dLenV, dIdxV, dApp, dSetI, dPopAt, dCmpV, dOwn, dOwnV, dRetO, dRng1, dRng2, dRng3, dPNo, dPSo, dYes, dLenSet, dScrLen, dScrIdx, dSrcIdx, dSrcSet, dNewSrc, oLst, oRep, oListStr, gEq, gNe, gIsN, gNotN, gIsB, gNotB, gIsi, sg, List.getD_cons_zero, List.getD_cons_succ, List.set_cons_zero, List.set_cons_succ, if_true, if_false, reduceIte, endsD, endsS, endsO, endsN, endsL, asB_b, asI_i, asL_l, itemsP_l, itemsP_t, itemsP_s, itemsP_d, gAdd_i, gAdd_s, gAdd_t, gAdd_l, gI2_i, gMul_i, gMul_t, gMul_l, gMul_s, gNeg_i, gLen_s, gLen_l, gLen_t, gL1_1, gAll_l, gSum_l, gI2L_i, gMaxL_l, gMinL_l, gJoin_l, gJoin_t, gSl_l, gSl_t, gSl_s, gRev_l, wipeS, unwipe, keepV, gIdx_l, gIdx_t, gIdx_s, gIdx_d, dVarD, dDNew, dDNewT, dDPut, dDGetV, dDInV, dDEmpty, dDOne, dOwnD, dParED, dPar3, dEnum, dZip, dgTup_t, dgCons_c, dIsE, gSplit, dZipH, dM1]
    refine ⟨trivial, Nat.zero_le _, ⟨(shp_runs f).ok, (shp_nil (n := 0)).ok⟩, ?_⟩
    simp only [eqv_nil, List.map_eq_nil_iff, Bool.not_eq_true', Bool.not_eq_false', decide_eq_true_eq, decide_eq_false_iff_not, Bool.and_eq_true, Bool.or_eq_true, Bool.not_true, Bool.not_false, Bool.false_eq_true, reduceCtorEq, decide_true, decide_false]
    rcases last_cases f with rfl | ⟨i, r, rfl⟩
    · rw [if_neg (fun h => h rfl)]
      simp only [Bool.not_eq_true', Bool.not_eq_false', decide_eq_true_eq, decide_eq_false_iff_not, Bool.and_eq_true, Bool.or_eq_true, Bool.not_true, Bool.not_false, Bool.false_eq_true, reduceCtorEq, decide_true, decide_false, if_false]
      exact ⟨le2, by decide, hN'⟩
    · rw [if_pos (by simp)]
      rw [List.map_append, List.map_singleton]
      rw [addN_app] at hN'
      refine ⟨runD r, LW.atI_last _ _, .int r.1, rfl, by rfl, ?_⟩
      simp only [eqv_int, Bool.not_eq_true', Bool.not_eq_false', decide_eq_true_eq, decide_eq_false_iff_not, Bool.and_eq_true, Bool.or_eq_true, Bool.not_true, Bool.not_false, Bool.false_eq_true, reduceCtorEq, decide_true, decide_false]
      by_cases hk : r.1 = x
      · rw [if_pos hk] at hN' ⊢
        refine ⟨runD r, LW.atI_last _ _, .int r.2, rfl, le2, (i.map runD).length, ?_, ?_⟩
        · rw [List.length_append, List.length_singleton, ixN_last (by omega), Nat.add_sub_cancel]
        · have es : ((i.map runD ++ [runD r]).set (i.map runD).length (.tuple [.int x, .int (r.2 + n)])) = (i ++ [(x, r.2 + n)]).map runD := by
            rw [List.set_append_right _ _ (Nat.le_refl _), Nat.sub_self, List.map_append]
            rfl
          rw [es]
          exact hN'
      · rw [if_neg hk] at hN' ⊢
        refine ⟨le2, ?_, ?_⟩
        · rw [List.length_append, List.length_map, List.length_singleton]
          rw [List.length_append, List.length_singleton] at hlen
          exact small1000 hlen
        · rw [List.map_append, List.map_append] at hN'
          exact hN'
  · subst hρ
    exact q
end LW

namespace LW
open PySem PySem.Spec PyProof.Rows L2 DL
theorem seq_gen {a b : DS} {DD : DEnds} {ρ : List Sl} (h : ∀ K : List Sl → Prop, (∀ ρ', b DD ρ' → K ρ') → a { nx := K, rt := DD.rt, bk := DD.bk, ct := DD.ct, ro := DD.ro } ρ) : dSeq a b DD ρ := h _ fun _ h => h
/-! _law_due -/
theorem mod_neg {a b : Int} : a % b = 0 ↔ (-a) % b = 0 := by
  rw [← Int.dvd_iff_emod_eq_zero, ← Int.dvd_iff_emod_eq_zero, Int.dvd_neg]
theorem due_mod {r t m : Int} : ((max r t - r) % m = 0 ∧ (max r t - t) % m = 0) ↔ (r - t) % m = 0 := by
  by_cases h : r ≤ t
  · rw [Int.max_eq_right h, Int.sub_self, Int.zero_emod, mod_neg (a := r - t), Int.neg_sub]
    simp
  · rw [Int.max_eq_left (by omega), Int.sub_self, Int.zero_emod]
    simp
abbrev n__law_due : List Str := ["pad", "one", "other", "first", "second", "found", "at", "run", "many", "key", "total"]
def p__law_due : DP := fun ds Q _ => ∃ kp x y, ds = [Kd kp, S x, S y] ∧ KpOk kp ∧ TextOk kp x ∧ TextOk kp y ∧ Q (optD (commonL kp x y))
def t__law_due (W : Str → Prop) : DS := (dSeq (dPar3 3 4 5 (dCons (dFn p__law_sums W (dCons (dVar 0) (dCons (dVar 1) dNil))) (dCons (dFn p__law_sums W (dCons (dVar 0) (dCons (dVar 2) dNil))) (dCons (dTup dNil) dNil))))
      (dSeq (dIfS (dTest (dOp gNe (dLc (dIter (dVar 3)) (dgTup (dgCons (dgName 9) (dgCons (dgName 10) dgNil))) dYes (dVar 9) [9, 10]) (dLc (dIter (dVar 4)) (dgTup (dgCons (dgName 9) (dgCons (dgName 10) dgNil))) dYes (dVar 9) [9, 10]))) (dRet (dC .none)) dNext)
      (dSeq (dFor (dEnum (dVar 3)) (dgTup (dgCons (dgName 6) (dgCons (dgName 7) dgNil))) (dSeq (dAsg (dCall (gI2L fun i j => if j > i then j else i) (dCons (dOp gIdx (dVar 7) (dC (.int 1))) (dCons (dOp gIdx (dOp gIdx (dVar 4) (dVar 6)) (dC (.int 1))) dNil))) (dgName 8))
      (dSeq (dIfS (dTOr (dTest (dOp gNe (dOp gMod (dOp gSub (dVar 8) (dOp gIdx (dVar 7) (dC (.int 1)))) (dCall (gL1 gLen) (dCons (dOp gIdx (dVar 0) (dOp gIdx (dVar 7) (dC (.int 0)))) dNil))) (dC (.int 0)))) (dTest (dOp gNe (dOp gMod (dOp gSub (dVar 8) (dOp gIdx (dOp gIdx (dVar 4) (dVar 6)) (dC (.int 1)))) (dCall (gL1 gLen) (dCons (dOp gIdx (dVar 0) (dOp gIdx (dVar 7) (dC (.int 0)))) dNil))) (dC (.int 0))))) (dRet (dC .none)) dNext)
      (dAsg (dOp gAdd (dVar 5) (dOp gMul (dTup (dCons (dOp gIdx (dVar 7) (dC (.int 0))) dNil)) (dVar 8))) (dgName 5)))))
      (dRet (dVar 5)))))
theorem m__law_due : MoP p__law_due := fun ds Q Q' W W' hq _ ⟨kp, x, y, e, h1, h2, h3, q⟩ => ⟨kp, x, y, e, h1, h2, h3, hq _ q⟩
theorem l__law_due : ∀ ds Q W, p__law_due ds Q W → ds.length = 3 := fun ds Q W ⟨kp, x, y, e, _⟩ => by rw [e]; rfl
theorem D__law_due (W : Str → Prop) (ds : List D) (Q : D → Prop) (h : p__law_due ds Q W) : t__law_due W (endsD Q) (startS n__law_due ds) := by
  obtain ⟨kp, x, y, rfl, hk, hx, hy, q⟩ := h
  show t__law_due W (endsD Q) [.va (Kd kp), .va (S x), .va (S y), .no, .no, .no, .no, .no, .no, .no, .no]
  simp only [t__law_due, dRet, dRetN, dAnd, dOr, dNot, dTest, dTAnd, dTOr, dTNot, dIf, dChain, dUn, dOp, dCall, dC, dVar, dCons, dNil, dTup, dLst, dSeq, dIfS, dAsg, dgName, dgNil, dPar, dParEO, dParOE, dParOO, dFor, dIter, dNext, dBreak, dCont, dDrop, dRaise, dFn, dFnS, dFnO, dM1, dLc, dSl, dSlV, dRevV, dLenV, dIdxV, dApp, dSetI, dPopAt, dCmpV, dOwn, dOwnV, dRetO, dRng1, dRng2, dRng3, dPNo, dPSo, dYes, dLenSet, dScrLen, dScrIdx, dSrcIdx, dSrcSet, dNewSrc, oLst, oRep, oListStr, gEq, gNe, gIsN, gNotN, gIsB, gNotB, gIsi, sg, List.getD_cons_zero, List.getD_cons_succ, List.set_cons_zero, List.set_cons_succ, if_true, if_false, reduceIte, endsD, endsS, endsO, endsN, endsL, asB_b, asI_i, asL_l, itemsP_l, itemsP_t, itemsP_s, itemsP_d, gAdd_i, gAdd_s, gAdd_t, gAdd_l, gI2_i, gMul_i, gMul_t, gMul_l, gMul_s, gNeg_i, gLen_s, gLen_l, gLen_t, gL1_1, gAll_l, gSum_l, gI2L_i, gMaxL_l, gMinL_l, gJoin_l, gJoin_t, gSl_l, gSl_t, gSl_s, gRev_l, wipeS, unwipe, keepV, gIdx_l, gIdx_t, gIdx_s, gIdx_d, dVarD, dDNew, dDNewT, dDPut, dDGetV, dDInV, dDEmpty, dDOne, dOwnD, dParED, dPar3, dEnum, dZip, dgTup_t, dgCons_c, dIsE, gSplit, dZipH, dM1]
  have hxl := hx.len
  have hyl := hy.len
  refine ⟨kp, x, rfl, hk.pad, hx.mem, by omega, kp, y, rfl, hk.pad, hy.mem, by omega, ?_⟩
  have l1 := sums_ln kp x
  have l2 := sums_ln kp y
  simp only [dRet, dRetN, dAnd, dOr, dNot, dTest, dTAnd, dTOr, dTNot, dIf, dChain, dUn, dOp, dCall, dC, dVar, dCons, dNil, dTup, dLst, dSeq, dIfS, dAsg, dgName, dgNil, dPar, dParEO, dParOE, dParOO, dFor, dIter, dNext, dBreak, dCont, dDrop, dRaise, dFn, dFnS, dFnO, dM1, dLc, dSl, dSlV, dRevV, dLenV, dIdxV, dApp, dSetI, dPopAt, dCmpV, dOwn, dOwnV, dRetO, dRng1, dRng2, dRng3, dPNo, dPSo, dYes, dLenSet, dScrLen, dScrIdx, dSrcIdx, dSrcSet, dNewSrc, oLst, oRep, oListStr, gEq, gNe, gIsN, gNotN, gIsB, gNotB, gIsi, sg, List.getD_cons_zero, List.getD_cons_succ, List.set_cons_zero, List.set_cons_succ, if_true, if_false, reduceIte, endsD, endsS, endsO, endsN, endsL, asB_b, asI_i, asL_l, itemsP_l, itemsP_t, itemsP_s, itemsP_d, gAdd_i, gAdd_s, gAdd_t, gAdd_l, gI2_i, gMul_i, gMul_t, gMul_l, gMul_s, gNeg_i, gLen_s, gLen_l, gLen_t, gL1_1, gAll_l, gSum_l, gI2L_i, gMaxL_l, gMinL_l, gJoin_l, gJoin_t, gSl_l, gSl_t, gSl_s, gRev_l, wipeS, unwipe, keepV, gIdx_l, gIdx_t, gIdx_s, gIdx_d, dVarD, dDNew, dDNewT, dDPut, dDGetV, dDInV, dDEmpty, dDOne, dOwnD, dParED, dPar3, dEnum, dZip, dgTup_t, dgCons_c, dIsE, gSplit, dZipH, dM1, runsD]
  refine ⟨Nat.zero_le _, ?_⟩
  refine lc_keys (sums kp x) (by omega) (fun r hr R N hR => ?_) ?_
  · simp only [runD, dRet, dRetN, dAnd, dOr, dNot, dTest, dTAnd, dTOr, dTNot, dIf, dChain, dUn, dOp, dCall, dC, dVar, dCons, dNil, dTup, dLst, dSeq, dIfS, dAsg, dgName, dgNil, dPar, dParEO, dParOE, dParOO, dFor, dIter, dNext, dBreak, dCont, dDrop, dRaise, dFn, dFnS, dFnO, dM1, dLc, dSl, dSlV, dRevV, dLenV, dIdxV, dApp, dSetI, dPopAt, dCmpV, dOwn, dOwnV, dRetO, dRng1, dRng2, dRng3, dPNo, dPSo, dYes, dLenSet, dScrLen, dScrIdx, dSrcIdx, dSrcSet, dNewSrc, oLst, oRep, oListStr, gEq, gNe, gIsN, gNotN, gIsB, gNotB, gIsi, sg, List.getD_cons_zero, List.getD_cons_succ, List.set_cons_zero, List.set_cons_succ, if_true, if_false, reduceIte, endsD, endsS, endsO, endsN, endsL, asB_b, asI_i, asL_l, itemsP_l, itemsP_t, itemsP_s, itemsP_d, gAdd_i, gAdd_s, gAdd_t, gAdd_l, gI2_i, gMul_i, gMul_t, gMul_l, gMul_s, gNeg_i, gLen_s, gLen_l, gLen_t, gL1_1, gAll_l, gSum_l, gI2L_i, gMaxL_l, gMinL_l, gJoin_l, gJoin_t, gSl_l, gSl_t, gSl_s, gRev_l, wipeS, unwipe, keepV, gIdx_l, gIdx_t, gIdx_s, gIdx_d, dVarD, dDNew, dDNewT, dDPut, dDGetV, dDInV, dDEmpty, dDOne, dOwnD, dParED, dPar3, dEnum, dZip, dgTup_t, dgCons_c, dIsE, gSplit, dZipH, dM1]
    exact ⟨trivial, hR _ rfl⟩
  simp only [unwipe, wipeS, keepV, dRet, dRetN, dAnd, dOr, dNot, dTest, dTAnd, dTOr, dTNot, dIf, dChain, dUn, dOp, dCall, dC, dVar, dCons, dNil, dTup, dLst, dSeq, dIfS, dAsg, dgName, dgNil, dPar, dParEO, dParOE, dParOO, dFor, dIter, dNext, dBreak, dCont, dDrop, dRaise, dFn, dFnS, dFnO, dM1, dLc, dSl, dSlV, dRevV, dLenV, dIdxV, dApp, dSetI, dPopAt, dCmpV, dOwn, dOwnV, dRetO, dRng1, dRng2, dRng3, dPNo, dPSo, dYes, dLenSet, dScrLen, dScrIdx, dSrcIdx, dSrcSet, dNewSrc, oLst, oRep, oListStr, gEq, gNe, gIsN, gNotN, gIsB, gNotB, gIsi, sg, List.getD_cons_zero, List.getD_cons_succ, List.set_cons_zero, List.set_cons_succ, if_true, if_false, reduceIte, endsD, endsS, endsO, endsN, endsL, asB_b, asI_i, asL_l, itemsP_l, itemsP_t, itemsP_s, itemsP_d, gAdd_i, gAdd_s, gAdd_t, gAdd_l, gI2_i, gMul_i, gMul_t, gMul_l, gMul_s, gNeg_i, gLen_s, gLen_l, gLen_t, gL1_1, gAll_l, gSum_l, gI2L_i, gMaxL_l, gMinL_l, gJoin_l, gJoin_t, gSl_l, gSl_t, gSl_s, gRev_l, wipeS, unwipe, keepV, gIdx_l, gIdx_t, gIdx_s, gIdx_d, dVarD, dDNew, dDNewT, dDPut, dDGetV, dDInV, dDEmpty, dDOne, dOwnD, dParED, dPar3, dEnum, dZip, dgTup_t, dgCons_c, dIsE, gSplit, dZipH, dM1]
  refine lc_keys (sums kp y) (by omega) (fun r hr R N hR => ?_) ?_
  · simp only [runD, dRet, dRetN, dAnd, dOr, dNot, dTest, dTAnd, dTOr, dTNot, dIf, dChain, dUn, dOp, dCall, dC, dVar, dCons, dNil, dTup, dLst, dSeq, dIfS, dAsg, dgName, dgNil, dPar, dParEO, dParOE, dParOO, dFor, dIter, dNext, dBreak, dCont, dDrop, dRaise, dFn, dFnS, dFnO, dM1, dLc, dSl, dSlV, dRevV, dLenV, dIdxV, dApp, dSetI, dPopAt, dCmpV, dOwn, dOwnV, dRetO, dRng1, dRng2, dRng3, dPNo, dPSo, dYes, dLenSet, dScrLen, dScrIdx, dSrcIdx, dSrcSet, dNewSrc, oLst, oRep, oListStr, gEq, gNe, gIsN, gNotN, gIsB, gNotB, gIsi, sg, List.getD_cons_zero, List.getD_cons_succ, List.set_cons_zero, List.set_cons_succ, if_true, if_false, reduceIte, endsD, endsS, endsO, endsN, endsL, asB_b, asI_i, asL_l, itemsP_l, itemsP_t, itemsP_s, itemsP_d, gAdd_i, gAdd_s, gAdd_t, gAdd_l, gI2_i, gMul_i, gMul_t, gMul_l, gMul_s, gNeg_i, gLen_s, gLen_l, gLen_t, gL1_1, gAll_l, gSum_l, gI2L_i, gMaxL_l, gMinL_l, gJoin_l, gJoin_t, gSl_l, gSl_t, gSl_s, gRev_l, wipeS, unwipe, keepV, gIdx_l, gIdx_t, gIdx_s, gIdx_d, dVarD, dDNew, dDNewT, dDPut, dDGetV, dDInV, dDEmpty, dDOne, dOwnD, dParED, dPar3, dEnum, dZip, dgTup_t, dgCons_c, dIsE, gSplit, dZipH, dM1]
    exact ⟨trivial, hR _ rfl⟩
  simp only [unwipe, wipeS, keepV, dRet, dRetN, dAnd, dOr, dNot, dTest, dTAnd, dTOr, dTNot, dIf, dChain, dUn, dOp, dCall, dC, dVar, dCons, dNil, dTup, dLst, dSeq, dIfS, dAsg, dgName, dgNil, dPar, dParEO, dParOE, dParOO, dFor, dIter, dNext, dBreak, dCont, dDrop, dRaise, dFn, dFnS, dFnO, dM1, dLc, dSl, dSlV, dRevV, dLenV, dIdxV, dApp, dSetI, dPopAt, dCmpV, dOwn, dOwnV, dRetO, dRng1, dRng2, dRng3, dPNo, dPSo, dYes, dLenSet, dScrLen, dScrIdx, dSrcIdx, dSrcSet, dNewSrc, oLst, oRep, oListStr, gEq, gNe, gIsN, gNotN, gIsB, gNotB, gIsi, sg, List.getD_cons_zero, List.getD_cons_succ, List.set_cons_zero, List.set_cons_succ, if_true, if_false, reduceIte, endsD, endsS, endsO, endsN, endsL, asB_b, asI_i, asL_l, itemsP_l, itemsP_t, itemsP_s, itemsP_d, gAdd_i, gAdd_s, gAdd_t, gAdd_l, gI2_i, gMul_i, gMul_t, gMul_l, gMul_s, gNeg_i, gLen_s, gLen_l, gLen_t, gL1_1, gAll_l, gSum_l, gI2L_i, gMaxL_l, gMinL_l, gJoin_l, gJoin_t, gSl_l, gSl_t, gSl_s, gRev_l, wipeS, unwipe, keepV, gIdx_l, gIdx_t, gIdx_s, gIdx_d, dVarD, dDNew, dDNewT, dDPut, dDGetV, dDInV, dDEmpty, dDOne, dOwnD, dParED, dPar3, dEnum, dZip, dgTup_t, dgCons_c, dIsE, gSplit, dZipH, dM1, eqv_list eqv_int, Bool.not_eq_true', Bool.not_eq_false', decide_eq_true_eq, decide_eq_false_iff_not, Bool.and_eq_true, Bool.or_eq_true, Bool.not_true, Bool.not_false, Bool.false_eq_true, reduceCtorEq, decide_true, decide_false]
  refine ⟨by
    have s1 : ∀ l : List Int, SeqAt.shaped (.list (l.map PyData.int)) = true := fun l => (shp_list (n := 0) (shp_map fun a _ => shp_int a)).ok
    unfold eqOk
    rw [s1, s1]
    rfl, ?_⟩
  unfold commonL at q
  by_cases he : (sums kp x).map (·.1) = (sums kp y).map (·.1)
  · rw [if_neg (fun z => z he)]
    refine ⟨fun k z => PyData.noConfusion z, ?_⟩
    rw [enumD_map]
    have hln : (sums kp x).length = (sums kp y).length := by
      have := congrArg List.length he
      rw [List.length_map, List.length_map] at this
      exact this
    refine for_ind (fun p : Run × Nat => .tuple [.int (p.2 : Nat), runD p.1]) (fun done ρ => ∃ x6 x7 x8, ρ = [.va (Kd kp), .va (S x), .va (S y), .va (.list ((sums kp x).map runD)), .va (.list ((sums kp y).map runD)), .va (Ld (cmOf (((sums kp x).zip (sums kp y)).take done.length))), x6, x7, x8, .no, .no] ∧ (((sums kp x).zip (sums kp y)).take done.length).all (cmOk kp) = true) ⟨_, _, _, rfl, rfl⟩ (fun done p rest ρ hd ⟨x6, x7, x8, hρ, hall⟩ N hN => ?_) (fun ρ ⟨x6, x7, x8, hρ, hall⟩ => ?_)
    · subst hρ
      obtain ⟨r, i⟩ := p
      have hdl : done.length < (sums kp x).length := by
        have := congrArg List.length hd
        rw [List.length_zipIdx, List.length_append, List.length_cons] at this
        omega
      have hget : (sums kp x).zipIdx[done.length]? = some (r, i) := by
        rw [hd, List.getElem?_append_right (Nat.le_refl _), Nat.sub_self]
        rfl
      rw [List.getElem?_zipIdx, List.getElem?_eq_getElem hdl] at hget
      simp only [Option.map_some, Nat.zero_add, Option.some.injEq, Prod.mk.injEq] at hget
      obtain ⟨hr, rfl⟩ := hget
      obtain ⟨t, ht⟩ : ∃ t, (sums kp y)[done.length]? = some t := ⟨_, List.getElem?_eq_getElem (by omega)⟩
      have htm := List.mem_of_getElem? ht
      have hrm : r ∈ sums kp x := by rw [← hr]; exact List.getElem_mem hdl
      have o1 := sums_ok hk hx.mem r hrm
      have o2 := sums_ok hk hy.mem t htm
      have hzl : ((sums kp x).zip (sums kp y)).length = (sums kp x).length := by rw [List.length_zip]; omega
      have hz : ((sums kp x).zip (sums kp y))[done.length]? = some (r, t) := by
        rw [List.getElem?_zip_eq_some]
        exact ⟨by rw [List.getElem?_eq_getElem hdl, hr], ht⟩
      have htk : ((sums kp x).zip (sums kp y)).take (done.length + 1) = ((sums kp x).zip (sums kp y)).take done.length ++ [(r, t)] := by
        rw [List.take_add_one, hz]
        rfl
      have hlen : (cmOf (((sums kp x).zip (sums kp y)).take done.length)).length ≤ 180 * (((sums kp x).zip (sums kp y)).take done.length).length := cmOf_len _ fun p' hp' => by
        have h1 := List.of_mem_zip (List.mem_of_mem_take hp')
        have h2 := sums_ok hk hx.mem _ h1.1
        have h3 := sums_ok hk hy.mem _ h1.2
        omega
      rw [List.length_take] at hlen
      have hkl := len_key hk o1.1 o1.2.1
      have hN' := hN [.va (Kd kp), .va (S x), .va (S y), .va (.list ((sums kp x).map runD)), .va (.list ((sums kp y).map runD)), .va (Ld (cmOf (((sums kp x).zip (sums kp y)).take (done.length + 1)))), .va (.int (done.length : Nat)), .va (runD r), .va (.int (max r.2 t.2)), .no, .no]
      have es : (if t.2 > r.2 then t.2 else r.2) = max r.2 t.2 := by split <;> omega
      have hmx : max r.2 t.2 ≤ 180 := by omega
      have hat : atI ((sums kp y).map runD) (done.length : Nat) = some (runD t) := atI_nat (by rw [List.getElem?_map, ht]; rfl)
      refine (show dgTup _ (PyData.tuple [.int (done.length : Nat), .tuple [.int r.1, .int r.2]]) _ _ from ?_)
      simp only [dgTup_t, dgCons_c, dgNil, dgName, dgTup, dgCons, List.set_cons_zero, List.set_cons_succ]
      refine ⟨trivial, seq_gen fun K hK => ?_⟩
      simp only [dRet, dRetN, dAnd, dOr, dNot, dTest, dTAnd, dTOr, dTNot, dIf, dChain, dUn, dOp, dCall, dC, dVar, dCons, dNil, dTup, dLst, dSeq, dIfS, dAsg, dgName, dgNil, dPar, dParEO, dParOE, dParOO, dFor, dIter, dNext, dBreak, dCont, dDrop, dRaise, dFn, dFnS, dFnO, dM1, dLc, dSl, dSlV, dRevV, dLenV, dIdxV, dApp, dSetI, dPopAt, dCmpV, dOwn, dOwnV, dRetO, dRng1, dRng2, dRng3, dPNo, dPSo, dYes, dLenSet, dScrLen, dScrIdx, dSrcIdx, dSrcSet, dNewSrc, oLst, oRep, oListStr, gEq, gNe, gIsN, gNotN, gIsB, gNotB, gIsi, sg, List.getD_cons_zero, List.getD_cons_succ, List.set_cons_zero, List.set_cons_succ, if_true, if_false, reduceIte, endsD, endsS, endsO, endsN, endsL, asB_b, asI_i, asL_l, itemsP_l, itemsP_t, itemsP_s, itemsP_d, gAdd_i, gAdd_s, gAdd_t, gAdd_l, gI2_i, gMul_i, gMul_t, gMul_l, gMul_s, gNeg_i, gLen_s, gLen_l, gLen_t, gL1_1, gAll_l, gSum_l, gI2L_i, gMaxL_l, gMinL_l, gJoin_l, gJoin_t, gSl_l, gSl_t, gSl_s, gRev_l, wipeS, unwipe, keepV, gIdx_l, gIdx_t, gIdx_s, gIdx_d, dVarD, dDNew, dDNewT, dDPut, dDGetV, dDInV, dDEmpty, dDOne, dOwnD, dParED, dPar3, dEnum, dZip, dgTup_t, dgCons_c, dIsE, gSplit, dZipH, dM1]
      refine ⟨_, rfl, _, hat, ?_⟩
      simp only [runD, dRet, dRetN, dAnd, dOr, dNot, dTest, dTAnd, dTOr, dTNot, dIf, dChain, dUn, dOp, dCall, dC, dVar, dCons, dNil, dTup, dLst, dSeq, dIfS, dAsg, dgName, dgNil, dPar, dParEO, dParOE, dParOO, dFor, dIter, dNext, dBreak, dCont, dDrop, dRaise, dFn, dFnS, dFnO, dM1, dLc, dSl, dSlV, dRevV, dLenV, dIdxV, dApp, dSetI, dPopAt, dCmpV, dOwn, dOwnV, dRetO, dRng1, dRng2, dRng3, dPNo, dPSo, dYes, dLenSet, dScrLen, dScrIdx, dSrcIdx, dSrcSet, dNewSrc, oLst, oRep, oListStr, gEq, gNe, gIsN, gNotN, gIsB, gNotB, gIsi, sg, List.getD_cons_zero, List.getD_cons_succ, List.set_cons_zero, List.set_cons_succ, if_true, if_false, reduceIte, endsD, endsS, endsO, endsN, endsL, asB_b, asI_i, asL_l, itemsP_l, itemsP_t, itemsP_s, itemsP_d, gAdd_i, gAdd_s, gAdd_t, gAdd_l, gI2_i, gMul_i, gMul_t, gMul_l, gMul_s, gNeg_i, gLen_s, gLen_l, gLen_t, gL1_1, gAll_l, gSum_l, gI2L_i, gMaxL_l, gMinL_l, gJoin_l, gJoin_t, gSl_l, gSl_t, gSl_s, gRev_l, wipeS, unwipe, keepV, gIdx_l, gIdx_t, gIdx_s, gIdx_d, dVarD, dDNew, dDNewT, dDPut, dDGetV, dDInV, dDEmpty, dDOne, dOwnD, dParED, dPar3, dEnum, dZip, dgTup_t, dgCons_c, dIsE, gSplit, dZipH, dM1]
      refine ⟨_, rfl, ?_⟩
      simp only [dRet, dRetN, dAnd, dOr, dNot, dTest, dTAnd, dTOr, dTNot, dIf, dChain, dUn, dOp, dCall, dC, dVar, dCons, dNil, dTup, dLst, dSeq, dIfS, dAsg, dgName, dgNil, dPar, dParEO, dParOE, dParOO, dFor, dIter, dNext, dBreak, dCont, dDrop, dRaise, dFn, dFnS, dFnO, dM1, dLc, dSl, dSlV, dRevV, dLenV, dIdxV, dApp, dSetI, dPopAt, dCmpV, dOwn, dOwnV, dRetO, dRng1, dRng2, dRng3, dPNo, dPSo, dYes, dLenSet, dScrLen, dScrIdx, dSrcIdx, dSrcSet, dNewSrc, oLst, oRep, oListStr, gEq, gNe, gIsN, gNotN, gIsB, gNotB, gIsi, sg, List.getD_cons_zero, List.getD_cons_succ, List.set_cons_zero, List.set_cons_succ, if_true, if_false, reduceIte, endsD, endsS, endsO, endsN, endsL, asB_b, asI_i, asL_l, itemsP_l, itemsP_t, itemsP_s, itemsP_d, gAdd_i, gAdd_s, gAdd_t, gAdd_l, gI2_i, gMul_i, gMul_t, gMul_l, gMul_s, gNeg_i, gLen_s, gLen_l, gLen_t, gL1_1, gAll_l, gSum_l, gI2L_i, gMaxL_l, gMinL_l, gJoin_l, gJoin_t, gSl_l, gSl_t, gSl_s, gRev_l, wipeS, unwipe, keepV, gIdx_l, gIdx_t, gIdx_s, gIdx_d, dVarD, dDNew, dDNewT, dDPut, dDGetV, dDInV, dDEmpty, dDOne, dOwnD, dParED, dPar3, dEnum, dZip, dgTup_t, dgCons_c, dIsE, gSplit, dZipH, dM1, es]
      refine hK _ (seq_gen fun K2 hK2 => ?_)
      clear hK
      have hgo : ∀ m : Nat, 1 ≤ m → m ≤ 6 → True := fun _ _ _ => trivial
      have bad : ¬ (r.2 - t.2) % ((keyAt kp r.1).length : Int) = 0 → Q PyData.none := fun h2 => by
        rw [if_neg] at q
        · exact q
        · intro z
          have z2 := List.all_eq_true.mp z.2 (r, t) (List.mem_of_getElem? hz)
          unfold cmOk at z2
          exact h2 (of_decide_eq_true z2)
      have good : (r.2 - t.2) % ((keyAt kp r.1).length : Int) = 0 → K2 [.va (Kd kp), .va (S x), .va (S y), .va (.list ((sums kp x).map runD)), .va (.list ((sums kp y).map runD)), .va (Ld (cmOf (((sums kp x).zip (sums kp y)).take done.length))), .va (.int (done.length : Nat)), .va (.tuple [.int r.1, .int r.2]), .va (.int (max r.2 t.2)), .no, .no] := fun h2 => by
        refine hK2 _ ?_
        simp only [dRet, dRetN, dAnd, dOr, dNot, dTest, dTAnd, dTOr, dTNot, dIf, dChain, dUn, dOp, dCall, dC, dVar, dCons, dNil, dTup, dLst, dSeq, dIfS, dAsg, dgName, dgNil, dPar, dParEO, dParOE, dParOO, dFor, dIter, dNext, dBreak, dCont, dDrop, dRaise, dFn, dFnS, dFnO, dM1, dLc, dSl, dSlV, dRevV, dLenV, dIdxV, dApp, dSetI, dPopAt, dCmpV, dOwn, dOwnV, dRetO, dRng1, dRng2, dRng3, dPNo, dPSo, dYes, dLenSet, dScrLen, dScrIdx, dSrcIdx, dSrcSet, dNewSrc, oLst, oRep, oListStr, gEq, gNe, gIsN, gNotN, gIsB, gNotB, gIsi, sg, List.getD_cons_zero, List.getD_cons_succ, List.set_cons_zero, List.set_cons_succ, if_true, if_false, reduceIte, endsD, endsS, endsO, endsN, endsL, asB_b, asI_i, asL_l, itemsP_l, itemsP_t, itemsP_s, itemsP_d, gAdd_i, gAdd_s, gAdd_t, gAdd_l, gI2_i, gMul_i, gMul_t, gMul_l, gMul_s, gNeg_i, gLen_s, gLen_l, gLen_t, gL1_1, gAll_l, gSum_l, gI2L_i, gMaxL_l, gMinL_l, gJoin_l, gJoin_t, gSl_l, gSl_t, gSl_s, gRev_l, wipeS, unwipe, keepV, gIdx_l, gIdx_t, gIdx_s, gIdx_d, dVarD, dDNew, dDNewT, dDPut, dDGetV, dDInV, dDEmpty, dDOne, dOwnD, dParED, dPar3, dEnum, dZip, dgTup_t, dgCons_c, dIsE, gSplit, dZipH, dM1]
        refine ⟨_, rfl, le1, ?_⟩
        have hlk : (done ++ [(r, done.length)]).length = done.length + 1 := by rw [List.length_append]; rfl
        have e5 : cmOf (((sums kp x).zip (sums kp y)).take (done.length + 1)) = cmOf (((sums kp x).zip (sums kp y)).take done.length) ++ List.replicate (max r.2 t.2).toNat r.1 := by
          rw [htk]
          unfold cmOf
          rw [List.flatMap_append]
          simp
        refine ⟨⟨by omega, by omega, by simp⟩, ?_, ?_⟩
        · rw [rep_Ld, List.length_map, List.length_map, List.length_replicate]
          exact le_mil (by omega)
        · rw [rep_Ld, ← List.map_append, ← e5]
          refine hN' ⟨.va (.int (done.length : Nat)), .va (runD r), .va (.int (max r.2 t.2)), ?_, ?_⟩
          · rw [hlk]
          · rw [hlk, htk, List.all_append, hall, List.all_cons, List.all_nil]
            unfold cmOk
            show (true && (decide ((r.2 - t.2) % ((keyAt kp r.1).length : Int) = 0) && true)) = true
            rw [decide_eq_true h2]
            rfl
      have hdm := due_mod (r := r.2) (t := t.2) (m := ((keyAt kp r.1).length : Int))
      simp only [dIfS, dTOr]
      simp only [dRet, dRetN, dAnd, dOr, dNot, dTest, dTAnd, dTOr, dTNot, dIf, dChain, dUn, dOp, dCall, dC, dVar, dCons, dNil, dTup, dLst, dSeq, dIfS, dAsg, dgName, dgNil, dPar, dParEO, dParOE, dParOO, dFor, dIter, dNext, dBreak, dCont, dDrop, dRaise, dFn, dFnS, dFnO, dM1, dLc, dSl, dSlV, dRevV, dLenV, dIdxV, dApp, dSetI, dPopAt, dCmpV, dOwn, dOwnV, dRetO, dRng1, dRng2, dRng3, dPNo, dPSo, dYes, dLenSet, dScrLen, dScrIdx, dSrcIdx, dSrcSet, dNewSrc, oLst, oRep, oListStr, gEq, gNe, gIsN, gNotN, gIsB, gNotB, gIsi, sg, List.getD_cons_zero, List.getD_cons_succ, List.set_cons_zero, List.set_cons_succ, if_true, if_false, reduceIte, endsD, endsS, endsO, endsN, endsL, asB_b, asI_i, asL_l, itemsP_l, itemsP_t, itemsP_s, itemsP_d, gAdd_i, gAdd_s, gAdd_t, gAdd_l, gI2_i, gMul_i, gMul_t, gMul_l, gMul_s, gNeg_i, gLen_s, gLen_l, gLen_t, gL1_1, gAll_l, gSum_l, gI2L_i, gMaxL_l, gMinL_l, gJoin_l, gJoin_t, gSl_l, gSl_t, gSl_s, gRev_l, wipeS, unwipe, keepV, gIdx_l, gIdx_t, gIdx_s, gIdx_d, dVarD, dDNew, dDNewT, dDPut, dDGetV, dDInV, dDEmpty, dDOne, dOwnD, dParED, dPar3, dEnum, dZip, dgTup_t, dgCons_c, dIsE, gSplit, dZipH, dM1]
      try refine ⟨trivial, ?_⟩
      refine ⟨_, rfl, ?_⟩
      simp only [dRet, dRetN, dAnd, dOr, dNot, dTest, dTAnd, dTOr, dTNot, dIf, dChain, dUn, dOp, dCall, dC, dVar, dCons, dNil, dTup, dLst, dSeq, dIfS, dAsg, dgName, dgNil, dPar, dParEO, dParOE, dParOO, dFor, dIter, dNext, dBreak, dCont, dDrop, dRaise, dFn, dFnS, dFnO, dM1, dLc, dSl, dSlV, dRevV, dLenV, dIdxV, dApp, dSetI, dPopAt, dCmpV, dOwn, dOwnV, dRetO, dRng1, dRng2, dRng3, dPNo, dPSo, dYes, dLenSet, dScrLen, dScrIdx, dSrcIdx, dSrcSet, dNewSrc, oLst, oRep, oListStr, gEq, gNe, gIsN, gNotN, gIsB, gNotB, gIsi, sg, List.getD_cons_zero, List.getD_cons_succ, List.set_cons_zero, List.set_cons_succ, if_true, if_false, reduceIte, endsD, endsS, endsO, endsN, endsL, asB_b, asI_i, asL_l, itemsP_l, itemsP_t, itemsP_s, itemsP_d, gAdd_i, gAdd_s, gAdd_t, gAdd_l, gI2_i, gMul_i, gMul_t, gMul_l, gMul_s, gNeg_i, gLen_s, gLen_l, gLen_t, gL1_1, gAll_l, gSum_l, gI2L_i, gMaxL_l, gMinL_l, gJoin_l, gJoin_t, gSl_l, gSl_t, gSl_s, gRev_l, wipeS, unwipe, keepV, gIdx_l, gIdx_t, gIdx_s, gIdx_d, dVarD, dDNew, dDNewT, dDPut, dDGetV, dDInV, dDEmpty, dDOne, dOwnD, dParED, dPar3, dEnum, dZip, dgTup_t, dgCons_c, dIsE, gSplit, dZipH, dM1]
      try refine ⟨trivial, ?_⟩
      refine ⟨_, rfl, ?_⟩
      simp only [dRet, dRetN, dAnd, dOr, dNot, dTest, dTAnd, dTOr, dTNot, dIf, dChain, dUn, dOp, dCall, dC, dVar, dCons, dNil, dTup, dLst, dSeq, dIfS, dAsg, dgName, dgNil, dPar, dParEO, dParOE, dParOO, dFor, dIter, dNext, dBreak, dCont, dDrop, dRaise, dFn, dFnS, dFnO, dM1, dLc, dSl, dSlV, dRevV, dLenV, dIdxV, dApp, dSetI, dPopAt, dCmpV, dOwn, dOwnV, dRetO, dRng1, dRng2, dRng3, dPNo, dPSo, dYes, dLenSet, dScrLen, dScrIdx, dSrcIdx, dSrcSet, dNewSrc, oLst, oRep, oListStr, gEq, gNe, gIsN, gNotN, gIsB, gNotB, gIsi, sg, List.getD_cons_zero, List.getD_cons_succ, List.set_cons_zero, List.set_cons_succ, if_true, if_false, reduceIte, endsD, endsS, endsO, endsN, endsL, asB_b, asI_i, asL_l, itemsP_l, itemsP_t, itemsP_s, itemsP_d, gAdd_i, gAdd_s, gAdd_t, gAdd_l, gI2_i, gMul_i, gMul_t, gMul_l, gMul_s, gNeg_i, gLen_s, gLen_l, gLen_t, gL1_1, gAll_l, gSum_l, gI2L_i, gMaxL_l, gMinL_l, gJoin_l, gJoin_t, gSl_l, gSl_t, gSl_s, gRev_l, wipeS, unwipe, keepV, gIdx_l, gIdx_t, gIdx_s, gIdx_d, dVarD, dDNew, dDNewT, dDPut, dDGetV, dDInV, dDEmpty, dDOne, dOwnD, dParED, dPar3, dEnum, dZip, dgTup_t, dgCons_c, dIsE, gSplit, dZipH, dM1]
      try refine ⟨trivial, ?_⟩
      refine ⟨_, atI_key o1.1 o1.2.1, ?_⟩
      simp only [dRet, dRetN, dAnd, dOr, dNot, dTest, dTAnd, dTOr, dTNot, dIf, dChain, dUn, dOp, dCall, dC, dVar, dCons, dNil, dTup, dLst, dSeq, dIfS, dAsg, dgName, dgNil, dPar, dParEO, dParOE, dParOO, dFor, dIter, dNext, dBreak, dCont, dDrop, dRaise, dFn, dFnS, dFnO, dM1, dLc, dSl, dSlV, dRevV, dLenV, dIdxV, dApp, dSetI, dPopAt, dCmpV, dOwn, dOwnV, dRetO, dRng1, dRng2, dRng3, dPNo, dPSo, dYes, dLenSet, dScrLen, dScrIdx, dSrcIdx, dSrcSet, dNewSrc, oLst, oRep, oListStr, gEq, gNe, gIsN, gNotN, gIsB, gNotB, gIsi, sg, List.getD_cons_zero, List.getD_cons_succ, List.set_cons_zero, List.set_cons_succ, if_true, if_false, reduceIte, endsD, endsS, endsO, endsN, endsL, asB_b, asI_i, asL_l, itemsP_l, itemsP_t, itemsP_s, itemsP_d, gAdd_i, gAdd_s, gAdd_t, gAdd_l, gI2_i, gMul_i, gMul_t, gMul_l, gMul_s, gNeg_i, gLen_s, gLen_l, gLen_t, gL1_1, gAll_l, gSum_l, gI2L_i, gMaxL_l, gMinL_l, gJoin_l, gJoin_t, gSl_l, gSl_t, gSl_s, gRev_l, wipeS, unwipe, keepV, gIdx_l, gIdx_t, gIdx_s, gIdx_d, dVarD, dDNew, dDNewT, dDPut, dDGetV, dDInV, dDEmpty, dDOne, dOwnD, dParED, dPar3, dEnum, dZip, dgTup_t, dgCons_c, dIsE, gSplit, dZipH, dM1, tx_length, eqv_int, Bool.not_eq_true', Bool.not_eq_false', decide_eq_true_eq, decide_eq_false_iff_not, Bool.and_eq_true, Bool.or_eq_true, Bool.not_true, Bool.not_false, Bool.false_eq_true, reduceCtorEq, decide_true, decide_false]
      refine ⟨small_le (by omega), by omega, rfl, ?_⟩
      by_cases m1 : (max r.2 t.2 - r.2) % ((keyAt kp r.1).length : Int) = 0
      · rw [if_neg (fun z => z m1)]
        try refine ⟨trivial, ?_⟩
        refine ⟨_, hat, ?_⟩
        simp only [runD, dRet, dRetN, dAnd, dOr, dNot, dTest, dTAnd, dTOr, dTNot, dIf, dChain, dUn, dOp, dCall, dC, dVar, dCons, dNil, dTup, dLst, dSeq, dIfS, dAsg, dgName, dgNil, dPar, dParEO, dParOE, dParOO, dFor, dIter, dNext, dBreak, dCont, dDrop, dRaise, dFn, dFnS, dFnO, dM1, dLc, dSl, dSlV, dRevV, dLenV, dIdxV, dApp, dSetI, dPopAt, dCmpV, dOwn, dOwnV, dRetO, dRng1, dRng2, dRng3, dPNo, dPSo, dYes, dLenSet, dScrLen, dScrIdx, dSrcIdx, dSrcSet, dNewSrc, oLst, oRep, oListStr, gEq, gNe, gIsN, gNotN, gIsB, gNotB, gIsi, sg, List.getD_cons_zero, List.getD_cons_succ, List.set_cons_zero, List.set_cons_succ, if_true, if_false, reduceIte, endsD, endsS, endsO, endsN, endsL, asB_b, asI_i, asL_l, itemsP_l, itemsP_t, itemsP_s, itemsP_d, gAdd_i, gAdd_s, gAdd_t, gAdd_l, gI2_i, gMul_i, gMul_t, gMul_l, gMul_s, gNeg_i, gLen_s, gLen_l, gLen_t, gL1_1, gAll_l, gSum_l, gI2L_i, gMaxL_l, gMinL_l, gJoin_l, gJoin_t, gSl_l, gSl_t, gSl_s, gRev_l, wipeS, unwipe, keepV, gIdx_l, gIdx_t, gIdx_s, gIdx_d, dVarD, dDNew, dDNewT, dDPut, dDGetV, dDInV, dDEmpty, dDOne, dOwnD, dParED, dPar3, dEnum, dZip, dgTup_t, dgCons_c, dIsE, gSplit, dZipH, dM1]
        try refine ⟨trivial, ?_⟩
        refine ⟨_, rfl, ?_⟩
        simp only [dRet, dRetN, dAnd, dOr, dNot, dTest, dTAnd, dTOr, dTNot, dIf, dChain, dUn, dOp, dCall, dC, dVar, dCons, dNil, dTup, dLst, dSeq, dIfS, dAsg, dgName, dgNil, dPar, dParEO, dParOE, dParOO, dFor, dIter, dNext, dBreak, dCont, dDrop, dRaise, dFn, dFnS, dFnO, dM1, dLc, dSl, dSlV, dRevV, dLenV, dIdxV, dApp, dSetI, dPopAt, dCmpV, dOwn, dOwnV, dRetO, dRng1, dRng2, dRng3, dPNo, dPSo, dYes, dLenSet, dScrLen, dScrIdx, dSrcIdx, dSrcSet, dNewSrc, oLst, oRep, oListStr, gEq, gNe, gIsN, gNotN, gIsB, gNotB, gIsi, sg, List.getD_cons_zero, List.getD_cons_succ, List.set_cons_zero, List.set_cons_succ, if_true, if_false, reduceIte, endsD, endsS, endsO, endsN, endsL, asB_b, asI_i, asL_l, itemsP_l, itemsP_t, itemsP_s, itemsP_d, gAdd_i, gAdd_s, gAdd_t, gAdd_l, gI2_i, gMul_i, gMul_t, gMul_l, gMul_s, gNeg_i, gLen_s, gLen_l, gLen_t, gL1_1, gAll_l, gSum_l, gI2L_i, gMaxL_l, gMinL_l, gJoin_l, gJoin_t, gSl_l, gSl_t, gSl_s, gRev_l, wipeS, unwipe, keepV, gIdx_l, gIdx_t, gIdx_s, gIdx_d, dVarD, dDNew, dDNewT, dDPut, dDGetV, dDInV, dDEmpty, dDOne, dOwnD, dParED, dPar3, dEnum, dZip, dgTup_t, dgCons_c, dIsE, gSplit, dZipH, dM1]
        try refine ⟨trivial, ?_⟩
        refine ⟨_, rfl, ?_⟩
        simp only [dRet, dRetN, dAnd, dOr, dNot, dTest, dTAnd, dTOr, dTNot, dIf, dChain, dUn, dOp, dCall, dC, dVar, dCons, dNil, dTup, dLst, dSeq, dIfS, dAsg, dgName, dgNil, dPar, dParEO, dParOE, dParOO, dFor, dIter, dNext, dBreak, dCont, dDrop, dRaise, dFn, dFnS, dFnO, dM1, dLc, dSl, dSlV, dRevV, dLenV, dIdxV, dApp, dSetI, dPopAt, dCmpV, dOwn, dOwnV, dRetO, dRng1, dRng2, dRng3, dPNo, dPSo, dYes, dLenSet, dScrLen, dScrIdx, dSrcIdx, dSrcSet, dNewSrc, oLst, oRep, oListStr, gEq, gNe, gIsN, gNotN, gIsB, gNotB, gIsi, sg, List.getD_cons_zero, List.getD_cons_succ, List.set_cons_zero, List.set_cons_succ, if_true, if_false, reduceIte, endsD, endsS, endsO, endsN, endsL, asB_b, asI_i, asL_l, itemsP_l, itemsP_t, itemsP_s, itemsP_d, gAdd_i, gAdd_s, gAdd_t, gAdd_l, gI2_i, gMul_i, gMul_t, gMul_l, gMul_s, gNeg_i, gLen_s, gLen_l, gLen_t, gL1_1, gAll_l, gSum_l, gI2L_i, gMaxL_l, gMinL_l, gJoin_l, gJoin_t, gSl_l, gSl_t, gSl_s, gRev_l, wipeS, unwipe, keepV, gIdx_l, gIdx_t, gIdx_s, gIdx_d, dVarD, dDNew, dDNewT, dDPut, dDGetV, dDInV, dDEmpty, dDOne, dOwnD, dParED, dPar3, dEnum, dZip, dgTup_t, dgCons_c, dIsE, gSplit, dZipH, dM1]
        try refine ⟨trivial, ?_⟩
        refine ⟨_, atI_key o1.1 o1.2.1, ?_⟩
        simp only [dRet, dRetN, dAnd, dOr, dNot, dTest, dTAnd, dTOr, dTNot, dIf, dChain, dUn, dOp, dCall, dC, dVar, dCons, dNil, dTup, dLst, dSeq, dIfS, dAsg, dgName, dgNil, dPar, dParEO, dParOE, dParOO, dFor, dIter, dNext, dBreak, dCont, dDrop, dRaise, dFn, dFnS, dFnO, dM1, dLc, dSl, dSlV, dRevV, dLenV, dIdxV, dApp, dSetI, dPopAt, dCmpV, dOwn, dOwnV, dRetO, dRng1, dRng2, dRng3, dPNo, dPSo, dYes, dLenSet, dScrLen, dScrIdx, dSrcIdx, dSrcSet, dNewSrc, oLst, oRep, oListStr, gEq, gNe, gIsN, gNotN, gIsB, gNotB, gIsi, sg, List.getD_cons_zero, List.getD_cons_succ, List.set_cons_zero, List.set_cons_succ, if_true, if_false, reduceIte, endsD, endsS, endsO, endsN, endsL, asB_b, asI_i, asL_l, itemsP_l, itemsP_t, itemsP_s, itemsP_d, gAdd_i, gAdd_s, gAdd_t, gAdd_l, gI2_i, gMul_i, gMul_t, gMul_l, gMul_s, gNeg_i, gLen_s, gLen_l, gLen_t, gL1_1, gAll_l, gSum_l, gI2L_i, gMaxL_l, gMinL_l, gJoin_l, gJoin_t, gSl_l, gSl_t, gSl_s, gRev_l, wipeS, unwipe, keepV, gIdx_l, gIdx_t, gIdx_s, gIdx_d, dVarD, dDNew, dDNewT, dDPut, dDGetV, dDInV, dDEmpty, dDOne, dOwnD, dParED, dPar3, dEnum, dZip, dgTup_t, dgCons_c, dIsE, gSplit, dZipH, dM1, tx_length, eqv_int, Bool.not_eq_true', Bool.not_eq_false', decide_eq_true_eq, decide_eq_false_iff_not, Bool.and_eq_true, Bool.or_eq_true, Bool.not_true, Bool.not_false, Bool.false_eq_true, reduceCtorEq, decide_true, decide_false]
        refine ⟨small_le (by omega), by omega, rfl, ?_⟩
        by_cases m2 : (max r.2 t.2 - t.2) % ((keyAt kp r.1).length : Int) = 0
        · rw [if_neg (fun z => z m2)]
          exact good (hdm.mp ⟨m1, m2⟩)
        · rw [if_pos m2]
          exact bad fun z => m2 (hdm.mpr z).2
      · rw [if_pos m1]
        exact bad fun z => m1 (hdm.mpr z).1
    · subst hρ
      rw [List.length_zipIdx] at hall
      have hzl : ((sums kp x).zip (sums kp y)).length = (sums kp x).length := by rw [List.length_zip]; omega
      rw [List.take_of_length_le (by omega)] at hall
      rw [if_pos ⟨he, hall⟩] at q
      show Q (Ld (cmOf (((sums kp x).zip (sums kp y)).take ((sums kp x).zipIdx).length)))
      rw [List.length_zipIdx, List.take_of_length_le (by omega)]
      exact q
  · rw [if_pos he]
    rw [if_neg (fun z => he z.1)] at q
    exact q
end LW

namespace LW
open PySem PySem.Spec PyProof.Rows L2 DL
/-! _law_run_words -/
/-- a beginning and the presses it takes -/
abbrev WU := Tx × Nat
def wuD (p : WU) : D := .tuple [S p.1, .int (p.2 : Nat)]
def ext1 (many : Nat) (p : WU) (q : Nat × Nat) : List WU := if p.2 + q.2 + 1 ≤ many then [(p.1 ++ [q.1], p.2 + q.2 + 1)] else []
def ext (key : Tx) (many : Nat) (p : WU) : List WU := key.zipIdx.flatMap (ext1 many p)
def stepW (key : Tx) (many : Nat) (f : List WU) : List WU := f.flatMap (ext key many)
def lev (key : Tx) (many : Nat) : Nat → List WU
  | 0 => [([], 0)]
  | t + 1 => stepW key many (lev key many t)
def finB (key : Tx) (many : Nat) (p : WU) : Bool := decide (((many : Int) - (p.2 : Int)) % (key.length : Int) = 0)
def finW (key : Tx) (many : Nat) (f : List WU) : List Tx := (f.filter (finB key many)).map (·.1)
def wordsTo (key : Tx) (many : Nat) : Nat → List Tx
  | 0 => []
  | t + 1 => wordsTo key many t ++ finW key many (lev key many (t + 1))
def runWords (key : Tx) (many : Nat) : List Tx := wordsTo key many (many + 1)
theorem lev_in {key : Tx} {many : Nat} : ∀ t, ∀ p ∈ lev key many t, t ≤ p.2 ∧ p.2 ≤ many ∧ p.1.length = t
  | 0, p, h => by
    simp [lev] at h
    subst h
    simp
  | t + 1, p, h => by
    rw [lev, stepW, List.mem_flatMap] at h
    obtain ⟨q, hq, h⟩ := h
    rw [ext, List.mem_flatMap] at h
    obtain ⟨r, hr, h⟩ := h
    have ih := lev_in t q hq
    unfold ext1 at h
    split at h
    · simp at h
      subst h
      refine ⟨?_, ?_, ?_⟩
      · show t + 1 ≤ q.2 + r.2 + 1
        omega
      · assumption
      · show (q.1 ++ [r.1]).length = t + 1
        rw [List.length_append, ih.2.2]
        rfl
    · simp at h
theorem lev_sub {key : Tx} {many : Nat} : ∀ t, ∀ p ∈ lev key many t, ∀ c ∈ p.1, c ∈ key
  | 0, p, h, c, hc => by
    simp [lev] at h
    subst h
    cases hc
  | t + 1, p, h, c, hc => by
    rw [lev, stepW, List.mem_flatMap] at h
    obtain ⟨q, hq, h⟩ := h
    rw [ext, List.mem_flatMap] at h
    obtain ⟨r, hr, h⟩ := h
    have ih := lev_sub t q hq
    unfold ext1 at h
    split at h
    · simp at h
      subst h
      rcases List.mem_append.mp hc with hc | hc
      · exact ih c hc
      · simp at hc
        subst hc
        have := List.fst_mem_of_mem_zipIdx hr
        exact this
    · simp at h
/-- the weight of a level -/
def wgt (many : Nat) (f : List WU) : Nat := (f.map fun p => 2 ^ (many - p.2)).sum
theorem wgt_app (many : Nat) (f g : List WU) : wgt many (f ++ g) = wgt many f + wgt many g := by
  unfold wgt
  rw [List.map_append, List.sum_append]
theorem wgt_row (many : Nat) (p : WU) : ∀ (key : Tx) (i : Nat), p.2 ≤ many → wgt many ((key.zipIdx i).flatMap (ext1 many p)) ≤ 2 ^ (many - p.2 - i) - 1
  | [], i, _ => Nat.zero_le _
  | c :: key, i, h => by
    have ih := wgt_row many p key (i + 1) h
    rw [List.zipIdx_cons, List.flatMap_cons, wgt_app]
    unfold ext1
    by_cases hh : p.2 + i + 1 ≤ many
    · rw [if_pos hh]
      have e : 2 ^ (many - p.2 - i) = 2 ^ (many - p.2 - (i + 1)) * 2 := by
        rw [← Nat.pow_succ]
        congr 1
        omega
      have e2 : wgt many [(p.1 ++ [c], p.2 + i + 1)] = 2 ^ (many - p.2 - (i + 1)) := by
        simp [wgt]
        congr 1
        omega
      have h1 : 1 ≤ 2 ^ (many - p.2 - (i + 1)) := Nat.one_le_two_pow
      simp only at *
      rw [e2, e]
      unfold ext1 at ih
      omega
    · rw [if_neg hh]
      have e : many - p.2 - i = 0 := by omega
      have e2 : many - p.2 - (i + 1) = 0 := by omega
      rw [e2] at ih
      rw [e]
      unfold ext1 at ih
      show 0 + _ ≤ _
      omega
theorem wgt_step (key : Tx) (many : Nat) : ∀ f : List WU, (∀ p ∈ f, p.2 ≤ many) → wgt many (stepW key many f) ≤ wgt many f
  | [], _ => Nat.le_refl _
  | p :: f, h => by
    have h1 := wgt_row many p key 0 (h p List.mem_cons_self)
    have h2 := wgt_step key many f fun q hq => h q (List.mem_cons_of_mem _ hq)
    have e : wgt many (p :: f) = 2 ^ (many - p.2) + wgt many f := by simp [wgt]
    have e2 : stepW key many (p :: f) = ext key many p ++ stepW key many f := by simp [stepW]
    have h0 : 1 ≤ 2 ^ (many - p.2) := Nat.one_le_two_pow
    rw [e, e2, wgt_app]
    unfold ext
    rw [Nat.sub_zero] at h1
    omega
theorem wgt_lev (key : Tx) (many : Nat) : ∀ t, wgt many (lev key many t) ≤ 2 ^ many
  | 0 => by simp [wgt, lev]
  | t + 1 => Nat.le_trans (wgt_step key many _ fun p hp => (lev_in t p hp).2.1) (wgt_lev key many t)
theorem len_wgt (many : Nat) : ∀ f : List WU, f.length ≤ wgt many f
  | [] => Nat.le_refl _
  | p :: f => by
    have h2 := len_wgt many f
    have e : wgt many (p :: f) = 2 ^ (many - p.2) + wgt many f := by simp [wgt]
    have h1 : 1 ≤ 2 ^ (many - p.2) := Nat.one_le_two_pow
    rw [e, List.length_cons]
    omega
theorem lev_len (key : Tx) (many t : Nat) : (lev key many t).length ≤ 2 ^ many := Nat.le_trans (len_wgt many _) (wgt_lev key many t)
theorem finW_len (key : Tx) (many : Nat) (f : List WU) : (finW key many f).length ≤ f.length := by
  unfold finW
  rw [List.length_map]
  exact List.length_filter_le _ _
theorem wordsTo_len (key : Tx) (many : Nat) : ∀ t, (wordsTo key many t).length ≤ t * 2 ^ many
  | 0 => Nat.zero_le _
  | t + 1 => by
    have h1 := wordsTo_len key many t
    have h2 := finW_len key many (lev key many (t + 1))
    have h3 := lev_len key many (t + 1)
    rw [wordsTo, List.length_append, Nat.add_mul, Nat.one_mul]
    omega
theorem lev_end {key : Tx} {many t : Nat} (h : many < t) : lev key many t = [] := by
  cases e : lev key many t with
  | nil => rfl
  | cons p r =>
    have := lev_in t p (by rw [e]; exact List.mem_cons_self)
    omega
theorem lev_nil {key : Tx} {many t : Nat} (h : lev key many t = []) : ∀ s, lev key many (t + s) = []
  | 0 => h
  | s + 1 => by
    rw [← Nat.add_assoc, lev, lev_nil h s]
    rfl
theorem words_end {key : Tx} {many t : Nat} (h : lev key many t = []) : ∀ s, wordsTo key many (t + s) = wordsTo key many t
  | 0 => rfl
  | s + 1 => by
    rw [← Nat.add_assoc, wordsTo, words_end h s, Nat.add_assoc, lev_nil h (s + 1)]
    simp [finW]
abbrev n__law_run_words : List Str := ["key", "many", "found", "front", "longer", "word", "used", "number", "letter"]
def p__law_run_words : DP := fun ds Q _ => ∃ (key : Tx) (many : Nat), ds = [S key, .int many] ∧ Lett key ∧ 1 ≤ key.length ∧ key.length ≤ 30 ∧ many ≤ 16 ∧ Q (.list ((runWords key many).map S))
def t__law_run_words (W : Str → Prop) : DS := (dSeq (dPar 2 3 (dCons (dLst dNil) (dCons (dLst (dCons (dTup (dCons (dC (.str "")) (dCons (dC (.int 0)) dNil))) dNil)) dNil)))
      (dSeq (dWhile (dTest (dOp gNe (dVar 3) (dLst dNil))) (dSeq (dOwn 4 (oLst dNil))
      (dSeq (dFor (dIter (dVar 3)) (dgTup (dgCons (dgName 5) (dgCons (dgName 6) dgNil))) (dFor (dEnum (dVar 0)) (dgTup (dgCons (dgName 7) (dgCons (dgName 8) dgNil))) (dIfS (dTest (dOp gLe (dOp gAdd (dOp gAdd (dVar 6) (dVar 7)) (dC (.int 1))) (dVar 1))) (dApp 4 (dTup (dCons (dOp gAdd (dVar 5) (dVar 8)) (dCons (dOp gAdd (dOp gAdd (dVar 6) (dVar 7)) (dC (.int 1))) dNil)))) dNext)))
      (dSeq (dAsg (dOp gAdd (dVar 2) (dLc (dIter (dVar 4)) (dgTup (dgCons (dgName 5) (dgCons (dgName 6) dgNil))) (dTest (dOp gEq (dOp gMod (dOp gSub (dVar 1) (dVar 6)) (dCall (gL1 gLen) (dCons (dVar 0) dNil))) (dC (.int 0)))) (dVar 5) [5, 6])) (dgName 2))
      (dAsg (dVar 4) (dgName 3))))))
      (dRet (dVar 2))))
theorem m__law_run_words : MoP p__law_run_words := fun ds Q Q' W W' hq _ ⟨k, m, e, h0, h1, h2, h3, q⟩ => ⟨k, m, e, h0, h1, h2, h3, hq _ q⟩
theorem l__law_run_words : ∀ ds Q W, p__law_run_words ds Q W → ds.length = 2 := fun ds Q W ⟨k, m, e, _⟩ => by rw [e]; rfl
theorem two16 {m : Nat} (h : m ≤ 16) : 2 ^ m ≤ 65536 := Nat.le_trans (Nat.pow_le_pow_right (by decide) h) (by decide)
theorem eqv_wuD (a b : WU) : PyData.eqv (wuD a) (wuD b) = decide (a = b) := eqv_pair (f := S) (g := fun n : Nat => PyData.int n) eqv_S (fun a b => by rw [eqv_int]; exact decide_eq_decide.mpr Int.ofNat_inj) a b
theorem shp_wuD (p : WU) (hp : Lett p.1) : Shp 1 (wuD p) := shp_tuple fun d hd => by
  rcases List.mem_cons.mp hd with rfl | hd
  · exact shp_S hp
  · rcases List.mem_cons.mp hd with rfl | hd
    · exact shp_int _
    · cases hd
theorem D__law_run_words (W : Str → Prop) (ds : List D) (Q : D → Prop) (h : p__law_run_words ds Q W) : t__law_run_words W (endsD Q) (startS n__law_run_words ds) := by
  obtain ⟨key, many, rfl, hlt, hk1, hk2, hm, q⟩ := h
  show t__law_run_words W (endsD Q) [.va (S key), .va (.int many), .no, .no, .no, .no, .no, .no, .no]
  have h2m := two16 hm
  unfold t__law_run_words
  refine seq_gen fun K hK => ?_
  simp only [dRet, dRetN, dAnd, dOr, dNot, dTest, dTAnd, dTOr, dTNot, dIf, dChain, dUn, dOp, dCall, dC, dVar, dCons, dNil, dTup, dLst, dSeq, dIfS, dAsg, dgName, dgNil, dPar, dParEO, dParOE, dParOO, dFor, dIter, dNext, dBreak, dCont, dDrop, dRaise, dFn, dFnS, dFnO, dM1, dLc, dSl, dSlV, dRevV, dLenV, dIdxV, dApp, dSetI, dPopAt, dCmpV, dOwn, dOwnV, dRetO, dRng1, dRng2, dRng3, dPNo, dPSo, dYes, dLenSet, dScrLen, dScrIdx, dSrcIdx, dSrcSet, dNewSrc, oLst, oRep, oListStr, gEq, gNe, gIsN, gNotN, gIsB, gNotB, gIsi, sg, List.getD_cons_zero, List.getD_cons_succ, List.set_cons_zero, List.set_cons_succ, if_true, if_false, reduceIte, endsD, endsS, endsO, endsN, endsL, asB_b, asI_i, asL_l, itemsP_l, itemsP_t, itemsP_s, itemsP_d, gAdd_i, gAdd_s, gAdd_t, gAdd_l, gI2_i, gMul_i, gMul_t, gMul_l, gMul_s, gNeg_i, gLen_s, gLen_l, gLen_t, gL1_1, gAll_l, gSum_l, gI2L_i, gMaxL_l, gMinL_l, gJoin_l, gJoin_t, gSl_l, gSl_t, gSl_s, gRev_l, wipeS, unwipe, keepV, gIdx_l, gIdx_t, gIdx_s, gIdx_d, dVarD, dDNew, dDNewT, dDPut, dDGetV, dDInV, dDEmpty, dDOne, dOwnD, dParED, dPar3, dEnum, dZip, dgTup_t, dgCons_c, dIsE, gSplit, dZipH, dM1]
  refine ⟨Nat.zero_le _, le2, le1, hK _ (seq_gen fun K2 hK2 => ?_)⟩
  clear hK
  refine ⟨fun m ρ => ∃ t x4 x5 x6 x7 x8, m + t = many + 1 ∧ ρ = [.va (S key), .va (.int many), .va (.list ((wordsTo key many t).map S)), .va (.list ((lev key many t).map wuD)), x4, x5, x6, x7, x8], ⟨many + 1, 0, .no, .no, .no, .no, .no, rfl, ?_⟩, fun m ρ ⟨t, x4, x5, x6, x7, x8, hmt, hρ⟩ => ?_⟩
  · rw [empty_eq]
    rfl
  · subst hρ
    have hsl : ∀ t, Shp 2 (.list ((lev key many t).map wuD)) := fun t => shp_list (shp_map fun r hr => shp_wuD r fun c hc => hlt c (lev_sub t r hr c hc))
    simp only [dTest, dOp, dVar, dLst, dCons, dNil, gNe, sg, List.getD_cons_zero, List.getD_cons_succ]
    refine ⟨Nat.zero_le _, ?_⟩
    refine ⟨by unfold eqOk; rw [(hsl t).ok, (shp_nil (n := 0)).ok]; rfl, ?_⟩
    simp only [eqv_nil, List.map_eq_nil_iff]
    by_cases hz : lev key many t = []
    · rw [decide_eq_true hz]
      simp only [Bool.not_true, asB_b, if_false, Bool.false_eq_true]
      refine hK2 _ ?_
      simp only [dRet, dRetN, dAnd, dOr, dNot, dTest, dTAnd, dTOr, dTNot, dIf, dChain, dUn, dOp, dCall, dC, dVar, dCons, dNil, dTup, dLst, dSeq, dIfS, dAsg, dgName, dgNil, dPar, dParEO, dParOE, dParOO, dFor, dIter, dNext, dBreak, dCont, dDrop, dRaise, dFn, dFnS, dFnO, dM1, dLc, dSl, dSlV, dRevV, dLenV, dIdxV, dApp, dSetI, dPopAt, dCmpV, dOwn, dOwnV, dRetO, dRng1, dRng2, dRng3, dPNo, dPSo, dYes, dLenSet, dScrLen, dScrIdx, dSrcIdx, dSrcSet, dNewSrc, oLst, oRep, oListStr, gEq, gNe, gIsN, gNotN, gIsB, gNotB, gIsi, sg, List.getD_cons_zero, List.getD_cons_succ, List.set_cons_zero, List.set_cons_succ, if_true, if_false, reduceIte, endsD, endsS, endsO, endsN, endsL, asB_b, asI_i, asL_l, itemsP_l, itemsP_t, itemsP_s, itemsP_d, gAdd_i, gAdd_s, gAdd_t, gAdd_l, gI2_i, gMul_i, gMul_t, gMul_l, gMul_s, gNeg_i, gLen_s, gLen_l, gLen_t, gL1_1, gAll_l, gSum_l, gI2L_i, gMaxL_l, gMinL_l, gJoin_l, gJoin_t, gSl_l, gSl_t, gSl_s, gRev_l, wipeS, unwipe, keepV, gIdx_l, gIdx_t, gIdx_s, gIdx_d, dVarD, dDNew, dDNewT, dDPut, dDGetV, dDInV, dDEmpty, dDOne, dOwnD, dParED, dPar3, dEnum, dZip, dgTup_t, dgCons_c, dIsE, gSplit, dZipH, dM1]
      have h1 := words_end hz (many + 1 - t)
      rw [show t + (many + 1 - t) = many + 1 by omega] at h1
      rw [← h1]
      exact q
    · rw [decide_eq_false hz]
      have htm : t ≤ many := by
        refine Nat.le_of_not_lt fun z => hz (lev_end z)
      simp only [Bool.not_false, asB_b, if_true]
      refine seq_gen fun K hK => ?_
      simp only [dOwn, oLst, dNil, List.set_cons_zero, List.set_cons_succ]
      refine ⟨Nat.zero_le _, hK _ (seq_gen fun K1 hK1 => ?_)⟩
      clear hK
      have hstep : ∀ (a : List WU) (p : WU) (b : List WU), lev key many t = a ++ p :: b → (stepW key many (a ++ [p])).length ≤ 2 ^ many := fun a p b e => by
        have h1 : lev key many (t + 1) = stepW key many (a ++ [p]) ++ stepW key many b := by
          rw [lev, e]
          simp [stepW]
        have h2 := lev_len key many (t + 1)
        rw [h1, List.length_append] at h2
        omega
      simp only [dFor, dIter, dVar, sg, List.getD_cons_zero, List.getD_cons_succ, itemsP_l]
      refine for_ind wuD (fun done ρ => ∃ x5 x6 x7 x8, ρ = [.va (S key), .va (.int many), .va (.list ((wordsTo key many t).map S)), .va (.list ((lev key many t).map wuD)), .ow ((stepW key many done).map wuD), x5, x6, x7, x8]) ⟨_, _, _, _, rfl⟩ (fun done p rest ρ hd ⟨x5, x6, x7, x8, hρ⟩ N hN => ?_) (fun ρ ⟨x5, x6, x7, x8, hρ⟩ => ?_)
      · subst hρ
        have hs2 := hstep done p rest hd
        have es : stepW key many (done ++ [p]) = stepW key many done ++ ext key many p := by simp [stepW]
        have hp := lev_in t p (by rw [hd]; exact List.mem_append.mpr (.inr List.mem_cons_self))
        rw [es, List.length_append] at hs2
        rw [es] at hN
        obtain ⟨w, u⟩ := p
        simp only at hp
        simp only [wuD, dgTup_t, dgCons_c, dgNil, dgName, dgTup, dgCons, List.set_cons_zero, List.set_cons_succ, dEnum, dVar, sg, List.getD_cons_zero, List.getD_cons_succ, itemsP_s]
        refine ⟨trivial, fun k z => PyData.noConfusion z, ?_⟩
        rw [chars_tx, enumD_map]
        refine for_ind (fun q : Nat × Nat => .tuple [.int (q.2 : Nat), S [q.1]]) (fun dn ρ => ∃ x7 x8, ρ = [.va (S key), .va (.int many), .va (.list ((wordsTo key many t).map S)), .va (.list ((lev key many t).map wuD)), .ow ((stepW key many done ++ dn.flatMap (ext1 many (w, u))).map wuD), .va (S w), .va (.int (u : Nat)), x7, x8]) ⟨x7, x8, by simp⟩ (fun dn r rs ρ hdn ⟨x7, x8, hρ⟩ M hM => ?_) (fun ρ ⟨x7, x8, hρ⟩ => ?_)
        · subst hρ
          obtain ⟨c, i⟩ := r
          have hln : (dn.flatMap (ext1 many (w, u))).length ≤ (ext key many (w, u)).length := by
            unfold ext
            rw [hdn, List.flatMap_append, List.length_append]
            omega
          have hM' := fun x => hM [.va (S key), .va (.int many), .va (.list ((wordsTo key many t).map S)), .va (.list ((lev key many t).map wuD)), .ow ((stepW key many done ++ (dn.flatMap (ext1 many (w, u)) ++ ext1 many (w, u) (c, i))).map wuD), .va (S w), .va (.int (u : Nat)), .va (.int (i : Nat)), x] ⟨.va (.int (i : Nat)), x, by rw [List.flatMap_append]; simp⟩
          clear hM
          have he : ext1 many (w, u) (c, i) = if u + i + 1 ≤ many then [(w ++ [c], u + i + 1)] else [] := rfl
          simp only [dRet, dRetN, dAnd, dOr, dNot, dTest, dTAnd, dTOr, dTNot, dIf, dChain, dUn, dOp, dCall, dC, dVar, dCons, dNil, dTup, dLst, dSeq, dIfS, dAsg, dgName, dgNil, dPar, dParEO, dParOE, dParOO, dFor, dIter, dNext, dBreak, dCont, dDrop, dRaise, dFn, dFnS, dFnO, dM1, dLc, dSl, dSlV, dRevV, dLenV, dIdxV, dApp, dSetI, dPopAt, dCmpV, dOwn, dOwnV, dRetO, dRng1, dRng2, dRng3, dPNo, dPSo, dYes, dLenSet, dScrLen, dScrIdx, dSrcIdx, dSrcSet, dNewSrc, oLst, oRep, oListStr, gEq, gNe, gIsN, gNotN, gIsB, gNotB, gIsi, sg, List.getD_cons_zero, List.getD_cons_succ, List.set_cons_zero, List.set_cons_succ, if_true, if_false, reduceIte, endsD, endsS, endsO, endsN, endsL, asB_b, asI_i, asL_l, itemsP_l, itemsP_t, itemsP_s, itemsP_d, gAdd_i, gAdd_s, gAdd_t, gAdd_l, gI2_i, gMul_i, gMul_t, gMul_l, gMul_s, gNeg_i, gLen_s, gLen_l, gLen_t, gL1_1, gAll_l, gSum_l, gI2L_i, gMaxL_l, gMinL_l, gJoin_l, gJoin_t, gSl_l, gSl_t, gSl_s, gRev_l, wipeS, unwipe, keepV, gIdx_l, gIdx_t, gIdx_s, gIdx_d, dVarD, dDNew, dDNewT, dDPut, dDGetV, dDInV, dDEmpty, dDOne, dOwnD, dParED, dPar3, dEnum, dZip, dgTup_t, dgCons_c, dIsE, gSplit, dZipH, dM1, Bool.not_eq_true', Bool.not_eq_false', decide_eq_true_eq, decide_eq_false_iff_not, Bool.and_eq_true, Bool.or_eq_true, Bool.not_true, Bool.not_false, Bool.false_eq_true, reduceCtorEq, decide_true, decide_false]
          refine ⟨trivial, trivial, ?_⟩
          by_cases h : u + i + 1 ≤ many
          · rw [if_pos (by omega)]
            have hM2 := hM' (.va (S [c]))
            rw [he, if_pos h] at hM2
            have e : ((stepW key many done ++ (dn.flatMap (ext1 many (w, u)) ++ [(w ++ [c], u + i + 1)])).map wuD) = (stepW key many done ++ dn.flatMap (ext1 many (w, u))).map wuD ++ [PyData.tuple [PyData.str (tx w ++ tx [c]), PyData.int (↑u + ↑i + 1)]] := by
              rw [← List.append_assoc, List.map_append, tx_append]
              rfl
            rw [e] at hM2
            refine ⟨?_, le2, ?_, hM2⟩
            · rw [tx_length, tx_length]
              exact small_le (by simp; omega)
            · have : 65537 ≤ sizeLine := by decide
              rw [List.length_map, List.length_append]
              omega
          · rw [if_neg (by omega)]
            have hM2 := hM' (.va (S [c]))
            rw [he, if_neg h, List.append_nil] at hM2
            exact hM2
        · subst hρ
          exact hN _ ⟨_, _, _, _, rfl⟩
      · subst hρ
        refine hK1 _ (seq_gen fun K3 hK3 => ?_)
        have hl1 := wordsTo_len key many t
        have hl2 := lev_len key many (t + 1)
        have hl3 : t * 2 ^ many ≤ 17 * 65536 := Nat.mul_le_mul (by omega) h2m
        have hl4 := finW_len key many (lev key many (t + 1))
        simp only [dRet, dRetN, dAnd, dOr, dNot, dTest, dTAnd, dTOr, dTNot, dIf, dChain, dUn, dOp, dCall, dC, dVar, dCons, dNil, dTup, dLst, dSeq, dIfS, dAsg, dgName, dgNil, dPar, dParEO, dParOE, dParOO, dFor, dIter, dNext, dBreak, dCont, dDrop, dRaise, dFn, dFnS, dFnO, dM1, dLc, dSl, dSlV, dRevV, dLenV, dIdxV, dApp, dSetI, dPopAt, dCmpV, dOwn, dOwnV, dRetO, dRng1, dRng2, dRng3, dPNo, dPSo, dYes, dLenSet, dScrLen, dScrIdx, dSrcIdx, dSrcSet, dNewSrc, oLst, oRep, oListStr, gEq, gNe, gIsN, gNotN, gIsB, gNotB, gIsi, sg, List.getD_cons_zero, List.getD_cons_succ, List.set_cons_zero, List.set_cons_succ, if_true, if_false, reduceIte, endsD, endsS, endsO, endsN, endsL, asB_b, asI_i, asL_l, itemsP_l, itemsP_t, itemsP_s, itemsP_d, gAdd_i, gAdd_s, gAdd_t, gAdd_l, gI2_i, gMul_i, gMul_t, gMul_l, gMul_s, gNeg_i, gLen_s, gLen_l, gLen_t, gL1_1, gAll_l, gSum_l, gI2L_i, gMaxL_l, gMinL_l, gJoin_l, gJoin_t, gSl_l, gSl_t, gSl_s, gRev_l, wipeS, unwipe, keepV, gIdx_l, gIdx_t, gIdx_s, gIdx_d, dVarD, dDNew, dDNewT, dDPut, dDGetV, dDInV, dDEmpty, dDOne, dOwnD, dParED, dPar3, dEnum, dZip, dgTup_t, dgCons_c, dIsE, gSplit, dZipH, dM1]
        refine lc_filter wuD (finB key many) (fun p => S p.1) (lev key many (t + 1)) [] (fun p hp R N hR hN => ?_) (le_mil (by simp; omega)) ?_
        · have hp2 := lev_in (t + 1) p hp
          simp only [wuD, wipeS, dRet, dRetN, dAnd, dOr, dNot, dTest, dTAnd, dTOr, dTNot, dIf, dChain, dUn, dOp, dCall, dC, dVar, dCons, dNil, dTup, dLst, dSeq, dIfS, dAsg, dgName, dgNil, dPar, dParEO, dParOE, dParOO, dFor, dIter, dNext, dBreak, dCont, dDrop, dRaise, dFn, dFnS, dFnO, dM1, dLc, dSl, dSlV, dRevV, dLenV, dIdxV, dApp, dSetI, dPopAt, dCmpV, dOwn, dOwnV, dRetO, dRng1, dRng2, dRng3, dPNo, dPSo, dYes, dLenSet, dScrLen, dScrIdx, dSrcIdx, dSrcSet, dNewSrc, oLst, oRep, oListStr, gEq, gNe, gIsN, gNotN, gIsB, gNotB, gIsi, sg, List.getD_cons_zero, List.getD_cons_succ, List.set_cons_zero, List.set_cons_succ, if_true, if_false, reduceIte, endsD, endsS, endsO, endsN, endsL, asB_b, asI_i, asL_l, itemsP_l, itemsP_t, itemsP_s, itemsP_d, gAdd_i, gAdd_s, gAdd_t, gAdd_l, gI2_i, gMul_i, gMul_t, gMul_l, gMul_s, gNeg_i, gLen_s, gLen_l, gLen_t, gL1_1, gAll_l, gSum_l, gI2L_i, gMaxL_l, gMinL_l, gJoin_l, gJoin_t, gSl_l, gSl_t, gSl_s, gRev_l, wipeS, unwipe, keepV, gIdx_l, gIdx_t, gIdx_s, gIdx_d, dVarD, dDNew, dDNewT, dDPut, dDGetV, dDInV, dDEmpty, dDOne, dOwnD, dParED, dPar3, dEnum, dZip, dgTup_t, dgCons_c, dIsE, gSplit, dZipH, dM1, tx_length, eqv_int]
          refine ⟨trivial, trivial, small_le (by omega), by omega, rfl, ?_⟩
          unfold finB at hR hN
          by_cases h : ((many : Int) - (p.2 : Int)) % (key.length : Int) = 0
          · rw [decide_eq_true h]
            exact hR (decide_eq_true h) _ rfl
          · rw [decide_eq_false h]
            exact hN (decide_eq_false h) _ rfl
        · rw [List.nil_append]
          simp only [unwipe, wipeS, keepV, dRet, dRetN, dAnd, dOr, dNot, dTest, dTAnd, dTOr, dTNot, dIf, dChain, dUn, dOp, dCall, dC, dVar, dCons, dNil, dTup, dLst, dSeq, dIfS, dAsg, dgName, dgNil, dPar, dParEO, dParOE, dParOO, dFor, dIter, dNext, dBreak, dCont, dDrop, dRaise, dFn, dFnS, dFnO, dM1, dLc, dSl, dSlV, dRevV, dLenV, dIdxV, dApp, dSetI, dPopAt, dCmpV, dOwn, dOwnV, dRetO, dRng1, dRng2, dRng3, dPNo, dPSo, dYes, dLenSet, dScrLen, dScrIdx, dSrcIdx, dSrcSet, dNewSrc, oLst, oRep, oListStr, gEq, gNe, gIsN, gNotN, gIsB, gNotB, gIsi, sg, List.getD_cons_zero, List.getD_cons_succ, List.set_cons_zero, List.set_cons_succ, if_true, if_false, reduceIte, endsD, endsS, endsO, endsN, endsL, asB_b, asI_i, asL_l, itemsP_l, itemsP_t, itemsP_s, itemsP_d, gAdd_i, gAdd_s, gAdd_t, gAdd_l, gI2_i, gMul_i, gMul_t, gMul_l, gMul_s, gNeg_i, gLen_s, gLen_l, gLen_t, gL1_1, gAll_l, gSum_l, gI2L_i, gMaxL_l, gMinL_l, gJoin_l, gJoin_t, gSl_l, gSl_t, gSl_s, gRev_l, wipeS, unwipe, keepV, gIdx_l, gIdx_t, gIdx_s, gIdx_d, dVarD, dDNew, dDNewT, dDPut, dDGetV, dDInV, dDEmpty, dDOne, dOwnD, dParED, dPar3, dEnum, dZip, dgTup_t, dgCons_c, dIsE, gSplit, dZipH, dM1]
          have ef : (List.map (fun p : WU => S p.1) (List.filter (finB key many) (lev key many (t + 1)))) = (finW key many (lev key many (t + 1))).map S := by
            unfold finW
            rw [List.map_map]
            rfl
          rw [ef, ← List.map_append]
          refine ⟨?_, hK3 _ ?_⟩
          · rw [List.length_map, List.length_map]
            have : 17 * 65536 + 65536 ≤ sizeLine := by decide
            omega
          · simp only [dRet, dRetN, dAnd, dOr, dNot, dTest, dTAnd, dTOr, dTNot, dIf, dChain, dUn, dOp, dCall, dC, dVar, dCons, dNil, dTup, dLst, dSeq, dIfS, dAsg, dgName, dgNil, dPar, dParEO, dParOE, dParOO, dFor, dIter, dNext, dBreak, dCont, dDrop, dRaise, dFn, dFnS, dFnO, dM1, dLc, dSl, dSlV, dRevV, dLenV, dIdxV, dApp, dSetI, dPopAt, dCmpV, dOwn, dOwnV, dRetO, dRng1, dRng2, dRng3, dPNo, dPSo, dYes, dLenSet, dScrLen, dScrIdx, dSrcIdx, dSrcSet, dNewSrc, oLst, oRep, oListStr, gEq, gNe, gIsN, gNotN, gIsB, gNotB, gIsi, sg, List.getD_cons_zero, List.getD_cons_succ, List.set_cons_zero, List.set_cons_succ, if_true, if_false, reduceIte, endsD, endsS, endsO, endsN, endsL, asB_b, asI_i, asL_l, itemsP_l, itemsP_t, itemsP_s, itemsP_d, gAdd_i, gAdd_s, gAdd_t, gAdd_l, gI2_i, gMul_i, gMul_t, gMul_l, gMul_s, gNeg_i, gLen_s, gLen_l, gLen_t, gL1_1, gAll_l, gSum_l, gI2L_i, gMaxL_l, gMinL_l, gJoin_l, gJoin_t, gSl_l, gSl_t, gSl_s, gRev_l, wipeS, unwipe, keepV, gIdx_l, gIdx_t, gIdx_s, gIdx_d, dVarD, dDNew, dDNewT, dDPut, dDGetV, dDInV, dDEmpty, dDOne, dOwnD, dParED, dPar3, dEnum, dZip, dgTup_t, dgCons_c, dIsE, gSplit, dZipH, dM1]
            exact ⟨m - 1, by omega, t + 1, _, _, _, _, _, by omega, rfl⟩
end LW

namespace LW
open PySem PySem.Spec PyProof.Rows L2 DL
/-! _law_all_words -/
def nxtW (kp : List Tx) (f : List Tx) (r : Run) : List Tx := f.flatMap fun w => (runWords (keyAt kp r.1) r.2.toNat).map (w ++ ·)
def allW (kp : List Tx) (rs : List Run) : List Tx := rs.foldl (nxtW kp) [[]]
def sumR (rs : List Run) : Int := (rs.map (·.2)).sum
theorem sumR_addN (f : List Run) (k n : Int) : sumR (addN f k n) = sumR f + n := by
  rcases last_cases f with rfl | ⟨i, r, rfl⟩
  · rw [addN_nil]
    simp [sumR]
  · rw [addN_app]
    split <;> simp [sumR, List.sum_append] <;> omega
theorem sumR_fold : ∀ (l : List Int) (f : List Run), sumR (l.foldl (fun f k => addN f k 1) f) = sumR f + l.length
  | [], f => by simp
  | k :: l, f => by
    rw [List.foldl_cons, sumR_fold l, sumR_addN, List.length_cons]
    omega
theorem sumR_runs (l : List Int) : sumR (runs l) = l.length := by
  have := sumR_fold l []
  unfold runs
  rw [this]
  simp [sumR]
theorem runWords_len (key : Tx) (many : Nat) : (runWords key many).length ≤ 4 ^ many := by
  have h1 := wordsTo_len key many (many + 1)
  have h2 : many + 1 ≤ 2 ^ many := Nat.lt_two_pow_self
  have h3 : (many + 1) * 2 ^ many ≤ 2 ^ many * 2 ^ many := Nat.mul_le_mul_right _ h2
  have h4 : 2 ^ many * 2 ^ many = 4 ^ many := by
    rw [← Nat.mul_pow]
  unfold runWords
  omega
theorem nxtW_len (kp : List Tx) (r : Run) : ∀ (f : List Tx), (nxtW kp f r).length ≤ f.length * 4 ^ r.2.toNat
  | [] => Nat.zero_le _
  | w :: f => by
    have h1 := nxtW_len kp r f
    have h2 := runWords_len (keyAt kp r.1) r.2.toNat
    have e : nxtW kp (w :: f) r = (runWords (keyAt kp r.1) r.2.toNat).map (w ++ ·) ++ nxtW kp f r := by simp [nxtW]
    rw [e, List.length_append, List.length_map, List.length_cons, Nat.add_mul, Nat.one_mul]
    omega
theorem allW_len (kp : List Tx) : ∀ (rs : List Run) (f : List Tx), (∀ r ∈ rs, 0 ≤ r.2) → (rs.foldl (nxtW kp) f).length ≤ f.length * 4 ^ (sumR rs).toNat
  | [], f, _ => by simp [sumR]
  | r :: rs, f, h => by
    have h1 := allW_len kp rs (nxtW kp f r) fun q hq => h q (List.mem_cons_of_mem _ hq)
    have h2 := nxtW_len kp r f
    have h3 := h r List.mem_cons_self
    have h4 : 0 ≤ sumR rs := by
      have : ∀ rs : List Run, (∀ r ∈ rs, 0 ≤ r.2) → 0 ≤ sumR rs := fun rs => by
        induction rs with
        | nil => intro _; simp [sumR]
        | cons a b ih =>
          intro h
          have := ih fun q hq => h q (List.mem_cons_of_mem _ hq)
          have := h a List.mem_cons_self
          simp [sumR] at *
          omega
      exact this rs fun q hq => h q (List.mem_cons_of_mem _ hq)
    have e : sumR (r :: rs) = r.2 + sumR rs := by simp [sumR]
    rw [List.foldl_cons, e, show (r.2 + sumR rs).toNat = r.2.toNat + (sumR rs).toNat by omega, Nat.pow_add, ← Nat.mul_assoc]
    exact Nat.le_trans h1 (Nat.mul_le_mul_right _ h2)
theorem wordsTo_in {key : Tx} {many : Nat} : ∀ t, ∀ w ∈ wordsTo key many t, 1 ≤ w.length ∧ w.length ≤ many ∧ ∀ c ∈ w, c ∈ key
  | 0, w, h => nomatch h
  | t + 1, w, h => by
    rw [wordsTo] at h
    rcases List.mem_append.mp h with h | h
    · exact wordsTo_in t w h
    · unfold finW at h
      obtain ⟨p, hp, rfl⟩ := List.mem_map.mp h
      have hp2 := (List.mem_filter.mp hp).1
      have h1 := lev_in (t + 1) p hp2
      exact ⟨by omega, by omega, lev_sub (t + 1) p hp2⟩
theorem nxtW_in {kp : List Tx} {f : List Tx} {r : Run} {w : Tx} : w ∈ nxtW kp f r ↔ ∃ v ∈ f, ∃ u ∈ runWords (keyAt kp r.1) r.2.toNat, v ++ u = w := by
  unfold nxtW
  rw [List.mem_flatMap]
  constructor
  · rintro ⟨v, hv, h⟩
    obtain ⟨u, hu, e⟩ := List.mem_map.mp h
    exact ⟨v, hv, u, hu, e⟩
  · rintro ⟨v, hv, u, hu, e⟩
    exact ⟨v, hv, List.mem_map.mpr ⟨u, hu, e⟩⟩
theorem allW_le {kp : List Tx} : ∀ (rs : List Run) (f : List Tx) (B : Nat), (∀ r ∈ rs, 0 ≤ r.2) → (∀ v ∈ f, v.length ≤ B) → ∀ w ∈ rs.foldl (nxtW kp) f, (w.length : Int) ≤ B + sumR rs
  | [], f, B, _, hf, w, hw => by
    have := hf w hw
    simp [sumR]
    exact this
  | r :: rs, f, B, h, hf, w, hw => by
    have h3 := h r List.mem_cons_self
    have h1 := allW_le rs (nxtW kp f r) (B + r.2.toNat) (fun q hq => h q (List.mem_cons_of_mem _ hq)) (fun v hv => by
      obtain ⟨a, ha, u, hu, rfl⟩ := nxtW_in.mp hv
      have h4 := hf a ha
      have h5 := wordsTo_in _ u hu
      rw [List.length_append]
      omega) w hw
    have e : sumR (r :: rs) = r.2 + sumR rs := by simp [sumR]
    rw [e]
    omega
abbrev n__law_all_words : List Str := ["pad", "log", "found", "key", "many", "longer", "word", "more"]
def p__law_all_words : DP := fun ds Q _ => ∃ kp l, ds = [Kd kp, Ld l] ∧ KpOk kp ∧ l.length ≤ 10 ∧ (∀ k ∈ l, 0 ≤ k ∧ k < kp.length) ∧ ∀ ws : List Tx, ws.Perm (allW kp (runs l)) → Q (.list (ws.map S))
def t__law_all_words (W : Str → Prop) : DS := (dSeq (dAsg (dLst (dCons (dC (.str "")) dNil)) (dgName 2))
      (dSeq (dFor (dIter (dFn p__law_runs W (dCons (dVar 1) dNil))) (dgTup (dgCons (dgName 3) (dgCons (dgName 4) dgNil))) (dSeq (dAsg (dLst dNil) (dgName 5))
      (dSeq (dFor (dIter (dVar 2)) (dgName 6) (dAsg (dOp gAdd (dVar 5) (dLc (dIter (dFn p__law_run_words W (dCons (dOp gIdx (dVar 0) (dVar 3)) (dCons (dVar 4) dNil)))) (dgName 7) dYes (dOp gAdd (dVar 6) (dVar 7)) [7])) (dgName 5)))
      (dAsg (dVar 5) (dgName 2)))))
      (dRet (dCall (gL1 gSortS) (dCons (dVar 2) dNil)))))
theorem m__law_all_words : MoP p__law_all_words := fun ds Q Q' W W' hq _ ⟨k, m, e, h0, h1, h2, q⟩ => ⟨k, m, e, h0, h1, h2, fun ws hw => hq _ (q ws hw)⟩
theorem l__law_all_words : ∀ ds Q W, p__law_all_words ds Q W → ds.length = 2 := fun ds Q W ⟨k, m, e, _⟩ => by rw [e]; rfl
theorem D__law_all_words (W : Str → Prop) (ds : List D) (Q : D → Prop) (h : p__law_all_words ds Q W) : t__law_all_words W (endsD Q) (startS n__law_all_words ds) := by
  obtain ⟨kp, l, rfl, hk, hl, hlk, q⟩ := h
  show t__law_all_words W (endsD Q) [.va (Kd kp), .va (Ld l), .no, .no, .no, .no, .no, .no]
  unfold t__law_all_words
  refine seq_gen fun K hK => ?_
  simp only [dRet, dRetN, dAnd, dOr, dNot, dTest, dTAnd, dTOr, dTNot, dIf, dChain, dUn, dOp, dCall, dC, dVar, dCons, dNil, dTup, dLst, dSeq, dIfS, dAsg, dgName, dgNil, dPar, dParEO, dParOE, dParOO, dFor, dIter, dNext, dBreak, dCont, dDrop, dRaise, dFn, dFnS, dFnO, dM1, dLc, dSl, dSlV, dRevV, dLenV, dIdxV, dApp, dSetI, dPopAt, dCmpV, dOwn, dOwnV, dRetO, dRng1, dRng2, dRng3, dPNo, dPSo, dYes, dLenSet, dScrLen, dScrIdx, dSrcIdx, dSrcSet, dNewSrc, oLst, oRep, oListStr, gEq, gNe, gIsN, gNotN, gIsB, gNotB, gIsi, sg, List.getD_cons_zero, List.getD_cons_succ, List.set_cons_zero, List.set_cons_succ, if_true, if_false, reduceIte, endsD, endsS, endsO, endsN, endsL, asB_b, asI_i, asL_l, itemsP_l, itemsP_t, itemsP_s, itemsP_d, gAdd_i, gAdd_s, gAdd_t, gAdd_l, gI2_i, gMul_i, gMul_t, gMul_l, gMul_s, gNeg_i, gLen_s, gLen_l, gLen_t, gL1_1, gAll_l, gSum_l, gI2L_i, gMaxL_l, gMinL_l, gJoin_l, gJoin_t, gSl_l, gSl_t, gSl_s, gRev_l, wipeS, unwipe, keepV, gIdx_l, gIdx_t, gIdx_s, gIdx_d, dVarD, dDNew, dDNewT, dDPut, dDGetV, dDInV, dDEmpty, dDOne, dOwnD, dParED, dPar3, dEnum, dZip, dgTup_t, dgCons_c, dIsE, gSplit, dZipH, dM1]
  refine ⟨le1, hK _ (seq_gen fun K2 hK2 => ?_)⟩
  clear hK
  have hro := runs_ok (kp := kp) (l := l) (by omega) hlk
  have hsum := sumR_runs l
  simp only [dFor, dIter, dFn, dCons, dNil, dVar, sg, List.getD_cons_zero, List.getD_cons_succ]
  refine ⟨l, rfl, by omega, ?_⟩
  simp only [runsD, itemsP_l]
  rw [empty_eq]
  refine for_ind runD (fun done ρ => ∃ x3 x4 x5 x6 x7, ρ = [.va (Kd kp), .va (Ld l), .va (.list ((allW kp done).map S)), x3, x4, x5, x6, x7]) ⟨_, _, _, _, _, rfl⟩ (fun done r rest ρ hd ⟨x3, x4, x5, x6, x7, hρ⟩ N hN => ?_) (fun ρ ⟨x3, x4, x5, x6, x7, hρ⟩ => ?_)
  · subst hρ
    have hnn : ∀ r' ∈ runs l, 0 ≤ r'.2 := fun r' h => (hro r' h).n0
    have hsplit : sumR done + r.2 + sumR rest = l.length := by
      rw [← hsum, hd]
      simp [sumR, List.sum_append]
      omega
    have hpos : ∀ rs : List Run, (∀ r ∈ rs, 0 ≤ r.2) → 0 ≤ sumR rs := fun rs => by
      induction rs with
      | nil => intro _; simp [sumR]
      | cons a b ih =>
        intro h
        have := ih fun q hq => h q (List.mem_cons_of_mem _ hq)
        have := h a List.mem_cons_self
        simp [sumR] at *
        omega
    have hp1 := hpos done fun q hq => hnn q (by rw [hd]; exact List.mem_append.mpr (.inl hq))
    have hp2 := hpos rest fun q hq => hnn q (by rw [hd]; exact List.mem_append.mpr (.inr (List.mem_cons_of_mem _ hq)))
    have ok := hro r (by rw [hd]; exact List.mem_append.mpr (.inr List.mem_cons_self))
    have hkl := len_key hk ok.k0 ok.k1
    have hkm := key_mem ok.k0 ok.k1
    obtain ⟨k, r2⟩ := r
    obtain ⟨many, hmany⟩ : ∃ n : Nat, r2 = (n : Int) := Int.eq_ofNat_of_zero_le ok.n0
    subst hmany
    simp only at hsplit
    have ea : allW kp (done ++ [(k, (many : Int))]) = nxtW kp (allW kp done) (k, (many : Int)) := by
      unfold allW
      rw [List.foldl_append]
      rfl
    rw [ea] at hN
    have hwl : ∀ w ∈ allW kp done, (w.length : Int) ≤ 0 + sumR done := allW_le (kp := kp) done [[]] 0 (fun q hq => hnn q (by rw [hd]; exact List.mem_append.mpr (.inl hq))) (fun v hv => by simp at hv; simp [hv])
    have hcl : (allW kp done).length ≤ 1 * 4 ^ (sumR done).toNat := allW_len kp done [[]] fun q hq => hnn q (by rw [hd]; exact List.mem_append.mpr (.inl hq))
    have hnl := nxtW_len kp (k, (many : Int)) (allW kp done)
    simp only [Int.toNat_natCast] at hnl
    have hnl2 : (nxtW kp (allW kp done) (k, (many : Int))).length ≤ 1048576 := by
      refine Nat.le_trans hnl ?_
      rw [Nat.one_mul] at hcl
      refine Nat.le_trans (Nat.mul_le_mul_right _ hcl) ?_
      rw [← Nat.pow_add]
      exact Nat.le_trans (Nat.pow_le_pow_right (by decide) (by omega : (sumR done).toNat + many ≤ 10)) (by decide)
    simp only [runD, dgTup_t, dgCons_c, dgNil, dgName, dgTup, dgCons, List.set_cons_zero, List.set_cons_succ]
    refine ⟨trivial, seq_gen fun K hK => ?_⟩
    simp only [dRet, dRetN, dAnd, dOr, dNot, dTest, dTAnd, dTOr, dTNot, dIf, dChain, dUn, dOp, dCall, dC, dVar, dCons, dNil, dTup, dLst, dSeq, dIfS, dAsg, dgName, dgNil, dPar, dParEO, dParOE, dParOO, dFor, dIter, dNext, dBreak, dCont, dDrop, dRaise, dFn, dFnS, dFnO, dM1, dLc, dSl, dSlV, dRevV, dLenV, dIdxV, dApp, dSetI, dPopAt, dCmpV, dOwn, dOwnV, dRetO, dRng1, dRng2, dRng3, dPNo, dPSo, dYes, dLenSet, dScrLen, dScrIdx, dSrcIdx, dSrcSet, dNewSrc, oLst, oRep, oListStr, gEq, gNe, gIsN, gNotN, gIsB, gNotB, gIsi, sg, List.getD_cons_zero, List.getD_cons_succ, List.set_cons_zero, List.set_cons_succ, if_true, if_false, reduceIte, endsD, endsS, endsO, endsN, endsL, asB_b, asI_i, asL_l, itemsP_l, itemsP_t, itemsP_s, itemsP_d, gAdd_i, gAdd_s, gAdd_t, gAdd_l, gI2_i, gMul_i, gMul_t, gMul_l, gMul_s, gNeg_i, gLen_s, gLen_l, gLen_t, gL1_1, gAll_l, gSum_l, gI2L_i, gMaxL_l, gMinL_l, gJoin_l, gJoin_t, gSl_l, gSl_t, gSl_s, gRev_l, wipeS, unwipe, keepV, gIdx_l, gIdx_t, gIdx_s, gIdx_d, dVarD, dDNew, dDNewT, dDPut, dDGetV, dDInV, dDEmpty, dDOne, dOwnD, dParED, dPar3, dEnum, dZip, dgTup_t, dgCons_c, dIsE, gSplit, dZipH, dM1]
    refine ⟨Nat.zero_le _, hK _ (seq_gen fun K3 hK3 => ?_)⟩
    clear hK
    simp only [dFor, dIter, dVar, sg, List.getD_cons_zero, List.getD_cons_succ, itemsP_l]
    refine for_ind S (fun dn ρ => ∃ x6 x7, ρ = [.va (Kd kp), .va (Ld l), .va (.list ((allW kp done).map S)), .va (.int k), .va (.int (many : Int)), .va (.list ((nxtW kp dn (k, (many : Int))).map S)), x6, x7]) ⟨_, _, rfl⟩ (fun dn w ws ρ hdn ⟨x6, x7, hρ⟩ M hM => ?_) (fun ρ ⟨x6, x7, hρ⟩ => ?_)
    · subst hρ
      have en : nxtW kp (dn ++ [w]) (k, (many : Int)) = nxtW kp dn (k, (many : Int)) ++ (runWords (keyAt kp k) many).map (w ++ ·) := by
        unfold nxtW
        rw [List.flatMap_append]
        simp
      have hln : (nxtW kp dn (k, (many : Int))).length + (runWords (keyAt kp k) many).length ≤ 1048576 := by
        have e2 : nxtW kp (allW kp done) (k, (many : Int)) = nxtW kp (dn ++ [w]) (k, (many : Int)) ++ nxtW kp ws (k, (many : Int)) := by
          rw [hdn]
          unfold nxtW
          simp [List.flatMap_append]
        rw [e2, en, List.length_append, List.length_append, List.length_map] at hnl2
        omega
      rw [en] at hM
      have hw := hwl w (by rw [hdn]; exact List.mem_append.mpr (.inr List.mem_cons_self))
      simp only [dRet, dRetN, dAnd, dOr, dNot, dTest, dTAnd, dTOr, dTNot, dIf, dChain, dUn, dOp, dCall, dC, dVar, dCons, dNil, dTup, dLst, dSeq, dIfS, dAsg, dgName, dgNil, dPar, dParEO, dParOE, dParOO, dFor, dIter, dNext, dBreak, dCont, dDrop, dRaise, dFn, dFnS, dFnO, dM1, dLc, dSl, dSlV, dRevV, dLenV, dIdxV, dApp, dSetI, dPopAt, dCmpV, dOwn, dOwnV, dRetO, dRng1, dRng2, dRng3, dPNo, dPSo, dYes, dLenSet, dScrLen, dScrIdx, dSrcIdx, dSrcSet, dNewSrc, oLst, oRep, oListStr, gEq, gNe, gIsN, gNotN, gIsB, gNotB, gIsi, sg, List.getD_cons_zero, List.getD_cons_succ, List.set_cons_zero, List.set_cons_succ, if_true, if_false, reduceIte, endsD, endsS, endsO, endsN, endsL, asB_b, asI_i, asL_l, itemsP_l, itemsP_t, itemsP_s, itemsP_d, gAdd_i, gAdd_s, gAdd_t, gAdd_l, gI2_i, gMul_i, gMul_t, gMul_l, gMul_s, gNeg_i, gLen_s, gLen_l, gLen_t, gL1_1, gAll_l, gSum_l, gI2L_i, gMaxL_l, gMinL_l, gJoin_l, gJoin_t, gSl_l, gSl_t, gSl_s, gRev_l, wipeS, unwipe, keepV, gIdx_l, gIdx_t, gIdx_s, gIdx_d, dVarD, dDNew, dDNewT, dDPut, dDGetV, dDInV, dDEmpty, dDOne, dOwnD, dParED, dPar3, dEnum, dZip, dgTup_t, dgCons_c, dIsE, gSplit, dZipH, dM1]
      refine ⟨_, atI_key ok.k0 ok.k1, keyAt kp k, many, rfl, hk.le _ hkm, by have := hkl.1; simpa using this, by have := hkl.2; simp only at this; omega, by omega, ?_⟩
      simp only [dRet, dRetN, dAnd, dOr, dNot, dTest, dTAnd, dTOr, dTNot, dIf, dChain, dUn, dOp, dCall, dC, dVar, dCons, dNil, dTup, dLst, dSeq, dIfS, dAsg, dgName, dgNil, dPar, dParEO, dParOE, dParOO, dFor, dIter, dNext, dBreak, dCont, dDrop, dRaise, dFn, dFnS, dFnO, dM1, dLc, dSl, dSlV, dRevV, dLenV, dIdxV, dApp, dSetI, dPopAt, dCmpV, dOwn, dOwnV, dRetO, dRng1, dRng2, dRng3, dPNo, dPSo, dYes, dLenSet, dScrLen, dScrIdx, dSrcIdx, dSrcSet, dNewSrc, oLst, oRep, oListStr, gEq, gNe, gIsN, gNotN, gIsB, gNotB, gIsi, sg, List.getD_cons_zero, List.getD_cons_succ, List.set_cons_zero, List.set_cons_succ, if_true, if_false, reduceIte, endsD, endsS, endsO, endsN, endsL, asB_b, asI_i, asL_l, itemsP_l, itemsP_t, itemsP_s, itemsP_d, gAdd_i, gAdd_s, gAdd_t, gAdd_l, gI2_i, gMul_i, gMul_t, gMul_l, gMul_s, gNeg_i, gLen_s, gLen_l, gLen_t, gL1_1, gAll_l, gSum_l, gI2L_i, gMaxL_l, gMinL_l, gJoin_l, gJoin_t, gSl_l, gSl_t, gSl_s, gRev_l, wipeS, unwipe, keepV, gIdx_l, gIdx_t, gIdx_s, gIdx_d, dVarD, dDNew, dDNewT, dDPut, dDGetV, dDInV, dDEmpty, dDOne, dOwnD, dParED, dPar3, dEnum, dZip, dgTup_t, dgCons_c, dIsE, gSplit, dZipH, dM1]
      have hm20 : 1048576 ≤ sizeLine := by decide
      refine lc_map S (fun u => S (w ++ u)) (runWords (keyAt kp k) many) [] (fun u hu R N hR => ?_) (by simp only [List.length_nil, Nat.zero_add]; omega) ?_
      · have hu2 := wordsTo_in _ u hu
        simp only [wipeS, dRet, dRetN, dAnd, dOr, dNot, dTest, dTAnd, dTOr, dTNot, dIf, dChain, dUn, dOp, dCall, dC, dVar, dCons, dNil, dTup, dLst, dSeq, dIfS, dAsg, dgName, dgNil, dPar, dParEO, dParOE, dParOO, dFor, dIter, dNext, dBreak, dCont, dDrop, dRaise, dFn, dFnS, dFnO, dM1, dLc, dSl, dSlV, dRevV, dLenV, dIdxV, dApp, dSetI, dPopAt, dCmpV, dOwn, dOwnV, dRetO, dRng1, dRng2, dRng3, dPNo, dPSo, dYes, dLenSet, dScrLen, dScrIdx, dSrcIdx, dSrcSet, dNewSrc, oLst, oRep, oListStr, gEq, gNe, gIsN, gNotN, gIsB, gNotB, gIsi, sg, List.getD_cons_zero, List.getD_cons_succ, List.set_cons_zero, List.set_cons_succ, if_true, if_false, reduceIte, endsD, endsS, endsO, endsN, endsL, asB_b, asI_i, asL_l, itemsP_l, itemsP_t, itemsP_s, itemsP_d, gAdd_i, gAdd_s, gAdd_t, gAdd_l, gI2_i, gMul_i, gMul_t, gMul_l, gMul_s, gNeg_i, gLen_s, gLen_l, gLen_t, gL1_1, gAll_l, gSum_l, gI2L_i, gMaxL_l, gMinL_l, gJoin_l, gJoin_t, gSl_l, gSl_t, gSl_s, gRev_l, wipeS, unwipe, keepV, gIdx_l, gIdx_t, gIdx_s, gIdx_d, dVarD, dDNew, dDNewT, dDPut, dDGetV, dDInV, dDEmpty, dDOne, dOwnD, dParED, dPar3, dEnum, dZip, dgTup_t, dgCons_c, dIsE, gSplit, dZipH, dM1, tx_append, tx_length]
        exact ⟨small_le (by omega), hR _ rfl⟩
      · rw [List.nil_append]
        simp only [unwipe, wipeS, keepV, dRet, dRetN, dAnd, dOr, dNot, dTest, dTAnd, dTOr, dTNot, dIf, dChain, dUn, dOp, dCall, dC, dVar, dCons, dNil, dTup, dLst, dSeq, dIfS, dAsg, dgName, dgNil, dPar, dParEO, dParOE, dParOO, dFor, dIter, dNext, dBreak, dCont, dDrop, dRaise, dFn, dFnS, dFnO, dM1, dLc, dSl, dSlV, dRevV, dLenV, dIdxV, dApp, dSetI, dPopAt, dCmpV, dOwn, dOwnV, dRetO, dRng1, dRng2, dRng3, dPNo, dPSo, dYes, dLenSet, dScrLen, dScrIdx, dSrcIdx, dSrcSet, dNewSrc, oLst, oRep, oListStr, gEq, gNe, gIsN, gNotN, gIsB, gNotB, gIsi, sg, List.getD_cons_zero, List.getD_cons_succ, List.set_cons_zero, List.set_cons_succ, if_true, if_false, reduceIte, endsD, endsS, endsO, endsN, endsL, asB_b, asI_i, asL_l, itemsP_l, itemsP_t, itemsP_s, itemsP_d, gAdd_i, gAdd_s, gAdd_t, gAdd_l, gI2_i, gMul_i, gMul_t, gMul_l, gMul_s, gNeg_i, gLen_s, gLen_l, gLen_t, gL1_1, gAll_l, gSum_l, gI2L_i, gMaxL_l, gMinL_l, gJoin_l, gJoin_t, gSl_l, gSl_t, gSl_s, gRev_l, wipeS, unwipe, keepV, gIdx_l, gIdx_t, gIdx_s, gIdx_d, dVarD, dDNew, dDNewT, dDPut, dDGetV, dDInV, dDEmpty, dDOne, dOwnD, dParED, dPar3, dEnum, dZip, dgTup_t, dgCons_c, dIsE, gSplit, dZipH, dM1]
        have ef : (runWords (keyAt kp k) many).map (fun u => S (w ++ u)) = ((runWords (keyAt kp k) many).map (w ++ ·)).map S := by
          rw [List.map_map]
          rfl
        rw [ef, ← List.map_append]
        refine ⟨?_, hM _ ⟨_, _, rfl⟩⟩
        rw [List.length_map, List.length_map, List.length_map]
        omega
    · subst hρ
      refine hK3 _ ?_
      simp only [dRet, dRetN, dAnd, dOr, dNot, dTest, dTAnd, dTOr, dTNot, dIf, dChain, dUn, dOp, dCall, dC, dVar, dCons, dNil, dTup, dLst, dSeq, dIfS, dAsg, dgName, dgNil, dPar, dParEO, dParOE, dParOO, dFor, dIter, dNext, dBreak, dCont, dDrop, dRaise, dFn, dFnS, dFnO, dM1, dLc, dSl, dSlV, dRevV, dLenV, dIdxV, dApp, dSetI, dPopAt, dCmpV, dOwn, dOwnV, dRetO, dRng1, dRng2, dRng3, dPNo, dPSo, dYes, dLenSet, dScrLen, dScrIdx, dSrcIdx, dSrcSet, dNewSrc, oLst, oRep, oListStr, gEq, gNe, gIsN, gNotN, gIsB, gNotB, gIsi, sg, List.getD_cons_zero, List.getD_cons_succ, List.set_cons_zero, List.set_cons_succ, if_true, if_false, reduceIte, endsD, endsS, endsO, endsN, endsL, asB_b, asI_i, asL_l, itemsP_l, itemsP_t, itemsP_s, itemsP_d, gAdd_i, gAdd_s, gAdd_t, gAdd_l, gI2_i, gMul_i, gMul_t, gMul_l, gMul_s, gNeg_i, gLen_s, gLen_l, gLen_t, gL1_1, gAll_l, gSum_l, gI2L_i, gMaxL_l, gMinL_l, gJoin_l, gJoin_t, gSl_l, gSl_t, gSl_s, gRev_l, wipeS, unwipe, keepV, gIdx_l, gIdx_t, gIdx_s, gIdx_d, dVarD, dDNew, dDNewT, dDPut, dDGetV, dDInV, dDEmpty, dDOne, dOwnD, dParED, dPar3, dEnum, dZip, dgTup_t, dgCons_c, dIsE, gSplit, dZipH, dM1]
      exact hN _ ⟨_, _, _, _, _, rfl⟩
  · subst hρ
    refine hK2 _ ?_
    simp only [dRet, dRetN, dAnd, dOr, dNot, dTest, dTAnd, dTOr, dTNot, dIf, dChain, dUn, dOp, dCall, dC, dVar, dCons, dNil, dTup, dLst, dSeq, dIfS, dAsg, dgName, dgNil, dPar, dParEO, dParOE, dParOO, dFor, dIter, dNext, dBreak, dCont, dDrop, dRaise, dFn, dFnS, dFnO, dM1, dLc, dSl, dSlV, dRevV, dLenV, dIdxV, dApp, dSetI, dPopAt, dCmpV, dOwn, dOwnV, dRetO, dRng1, dRng2, dRng3, dPNo, dPSo, dYes, dLenSet, dScrLen, dScrIdx, dSrcIdx, dSrcSet, dNewSrc, oLst, oRep, oListStr, gEq, gNe, gIsN, gNotN, gIsB, gNotB, gIsi, sg, List.getD_cons_zero, List.getD_cons_succ, List.set_cons_zero, List.set_cons_succ, if_true, if_false, reduceIte, endsD, endsS, endsO, endsN, endsL, asB_b, asI_i, asL_l, itemsP_l, itemsP_t, itemsP_s, itemsP_d, gAdd_i, gAdd_s, gAdd_t, gAdd_l, gI2_i, gMul_i, gMul_t, gMul_l, gMul_s, gNeg_i, gLen_s, gLen_l, gLen_t, gL1_1, gAll_l, gSum_l, gI2L_i, gMaxL_l, gMinL_l, gJoin_l, gJoin_t, gSl_l, gSl_t, gSl_s, gRev_l, wipeS, unwipe, keepV, gIdx_l, gIdx_t, gIdx_s, gIdx_d, dVarD, dDNew, dDNewT, dDPut, dDGetV, dDInV, dDEmpty, dDOne, dOwnD, dParED, dPar3, dEnum, dZip, dgTup_t, dgCons_c, dIsE, gSplit, dZipH, dM1]
    refine ⟨(allW kp (runs l)).map tx, by rw [List.map_map]; rfl, fun ys hy => ?_⟩
    have e1 : ys.map PyData.str = (ys.map fun s => s.cps.toList).map S := by
      rw [List.map_map]
      exact List.map_congr_left fun s _ => congrArg PyData.str (str_tx s)
    rw [e1]
    refine q _ ?_
    have h2 := hy.1.map fun s : Str => s.cps.toList
    rw [List.map_map] at h2
    have e3 : ((fun s : Str => s.cps.toList) ∘ tx) = id := funext fun z => tx_list z
    rw [e3, List.map_id] at h2
    exact h2
end LW

namespace LW
open PySem PySem.Spec PyProof.Rows L2 DL
/-! _law_reads: the ends that can be reached -/
/-- log[a:e] is all presses of key -/
def Blk (l : List Int) (a e : Nat) (k : Int) : Prop := (l.drop a).take (e - a) = List.replicate (e - a) k
/-- from a, with one letter, to e -/
def Hop (kp : List Tx) (l : List Int) (c : Nat) (a e : Nat) : Prop := ∃ j : Nat, e = a + (numOf kp c).toNat + j * (keyAt kp (keyOf kp c)).length ∧ e ≤ l.length ∧ Blk l a e (keyOf kp c)
/-- the ends behind a word, newest letter first -/
def Rch (kp : List Tx) (l : List Int) : Tx → Nat → Prop
  | [], e => e = 0
  | c :: w, e => ∃ a, Rch kp l w a ∧ Hop kp l c a e
theorem Rch.le {kp : List Tx} {l : List Int} : ∀ {w : Tx} {e : Nat}, Rch kp l w e → e ≤ l.length
  | [], e, h => by
    have h : e = 0 := h
    omega
  | c :: w, e, ⟨a, _, j, _, h, _⟩ => h
theorem Blk.le {l : List Int} {a e e' : Nat} {k : Int} (h : Blk l a e k) (h2 : e' ≤ e) : Blk l a e' k := by
  unfold Blk at *
  have h3 := congrArg (List.take (e' - a)) h
  rw [List.take_take, List.take_replicate, Nat.min_eq_left (by omega)] at h3
  exact h3
/-! a dict of ints -/
def dkv (ks : List Nat) : List (D × D) := ks.map fun n => (.int (n : Nat), .bool true)
theorem keyEq_int (a b : Nat) : keyEq (.int (a : Nat)) (.int (b : Nat)) = decide (a = b) := by
  show decide ((a : Int) = (b : Int)) = _
  exact decide_eq_decide.mpr Int.ofNat_inj
theorem isK_int (i : Int) : isK (.int i) := ⟨.inl i, rfl⟩
theorem has_dkv (ks : List Nat) (n : Nat) : hasD (dkv ks) (.int (n : Nat)) = decide (n ∈ ks) := by
  unfold hasD dkv
  rw [List.any_map]
  induction ks with
  | nil => rfl
  | cons x r ih =>
    rw [List.any_cons, ih]
    show (keyEq (.int (x : Nat)) (.int (n : Nat)) || _) = _
    rw [keyEq_int]
    by_cases h : x = n
    · subst h
      simp
    · rw [decide_eq_false h, Bool.false_or]
      refine decide_eq_decide.mpr ?_
      rw [List.mem_cons]
      constructor
      · exact .inr
      · rintro (h2 | h2)
        · exact absurd h2.symm h
        · exact h2
def insN (ks : List Nat) (n : Nat) : List Nat := if n ∈ ks then ks else ks ++ [n]
theorem put_dkv (ks : List Nat) (n : Nat) : putD (dkv ks) (.int (n : Nat)) (.bool true) = dkv (insN ks n) := by
  unfold putD insN
  rw [has_dkv]
  by_cases h : n ∈ ks
  · rw [decide_eq_true h, if_pos rfl, if_pos h]
    unfold dkv
    rw [List.map_map]
    refine List.map_congr_left fun x _ => ?_
    show (if keyEq (.int (x : Nat)) (.int (n : Nat)) = true then _ else _) = _
    split <;> rfl
  · rw [decide_eq_false h, if_neg (fun z => Bool.noConfusion z), if_neg h]
    unfold dkv
    rw [List.map_append]
    rfl
theorem mem_insN {ks : List Nat} {n e : Nat} : e ∈ insN ks n ↔ e ∈ ks ∨ e = n := by
  unfold insN
  split
  · constructor
    · exact .inl
    · rintro (h | rfl)
      · exact h
      · assumption
  · simp
theorem nd_insN {ks : List Nat} {n : Nat} (h : ks.Nodup) : (insN ks n).Nodup := by
  unfold insN
  split
  · exact h
  · rename_i hn
    rw [List.nodup_append]
    refine ⟨h, by simp, fun a ha b hb => ?_⟩
    simp at hb
    subst hb
    exact fun z => hn (z ▸ ha)
theorem nd_len : ∀ (n : Nat) (ks : List Nat), ks.Nodup → (∀ e ∈ ks, e < n) → ks.length ≤ n
  | 0, ks, _, h => by
    cases ks with
    | nil => exact Nat.le_refl _
    | cons x r =>
      have := h x List.mem_cons_self
      omega
  | n + 1, ks, hn, h => by
    by_cases hx : n ∈ ks
    · have h1 := nd_len n (ks.erase n) (hn.erase n) fun e he => by
        have h2 := h e (List.mem_of_mem_erase he)
        have h3 := ((List.Nodup.mem_erase_iff hn).mp he).1
        omega
      rw [List.length_erase_of_mem hx] at h1
      omega
    · have h1 := nd_len n ks hn fun e he => by
        have h2 := h e he
        have h3 : e ≠ n := fun z => hx (z ▸ he)
        omega
      omega
abbrev n__law_reads : List Str := ["pad", "log", "word", "spots", "states", "letter", "key", "number", "later", "at", "end"]
def p__law_reads : DP := fun ds Q _ => ∃ kp l w, ds = [Kd kp, Ld l, S w] ∧ KpOk kp ∧ l.length ≤ 900 ∧ (∀ c ∈ w, c ∈ kp.flatten) ∧ ∀ b : Bool, (b = true ↔ Rch kp l w.reverse l.length) → Q (.bool b)
def t__law_reads (W : Str → Prop) : DS := (dSeq (dParED 3 4 (dFn p__law_spots W (dCons (dVar 0) dNil)) (dDOne (dC (.int 0)) (dC (.bool true))))
      (dSeq (dFor (dIter (dVar 2)) (dgName 5) (dSeq (dAsg (dOp gIdx (dVar 3) (dVar 5)) (dgTup (dgCons (dgName 6) (dgCons (dgName 7) dgNil))))
      (dSeq (dDNew 8)
      (dSeq (dFor (dIter (dVarD 4)) (dgName 9) (dSeq (dAsg (dOp gAdd (dVar 9) (dVar 7)) (dgName 10))
      (dWhile (dTAnd (dTest (dOp gLe (dVar 10) (dCall (gL1 gLen) (dCons (dVar 1) dNil)))) (dTest (dOp gEq (dSl (dVar 1) (dPSo (dVar 9)) (dPSo (dVar 10))) (dOp gMul (dTup (dCons (dVar 6) dNil)) (dOp gSub (dVar 10) (dVar 9)))))) (dSeq (dDPut 8 (dVar 10) (dC (.bool true)))
      (dAsg (dOp gAdd (dVar 10) (dCall (gL1 gLen) (dCons (dOp gIdx (dVar 0) (dVar 6)) dNil))) (dgName 10))))))
      (dAsg (dVarD 8) (dgName 4))))))
      (dRet (dDInV false (dCall (gL1 gLen) (dCons (dVar 1) dNil)) 4))))
theorem m__law_reads : MoP p__law_reads := fun ds Q Q' W W' hq _ ⟨k, l, w, e, h0, h1, h2, q⟩ => ⟨k, l, w, e, h0, h1, h2, fun b hb => hq _ (q b hb)⟩
theorem l__law_reads : ∀ ds Q W, p__law_reads ds Q W → ds.length = 3 := fun ds Q W ⟨k, l, w, e, _⟩ => by rw [e]; rfl
theorem D__law_reads (W : Str → Prop) (ds : List D) (Q : D → Prop) (h : p__law_reads ds Q W) : t__law_reads W (endsD Q) (startS n__law_reads ds) := by
  obtain ⟨kp, l, w, rfl, hk, hl, hw, q⟩ := h
  show t__law_reads W (endsD Q) [.va (Kd kp), .va (Ld l), .va (S w), .no, .no, .no, .no, .no, .no, .no, .no]
  unfold t__law_reads
  refine seq_gen fun K hK => ?_
  simp only [dRet, dRetN, dAnd, dOr, dNot, dTest, dTAnd, dTOr, dTNot, dIf, dChain, dUn, dOp, dCall, dC, dVar, dCons, dNil, dTup, dLst, dSeq, dIfS, dAsg, dgName, dgNil, dPar, dParEO, dParOE, dParOO, dFor, dIter, dNext, dBreak, dCont, dDrop, dRaise, dFn, dFnS, dFnO, dM1, dLc, dSl, dSlV, dRevV, dLenV, dIdxV, dApp, dSetI, dPopAt, dCmpV, dOwn, dOwnV, dRetO, dRng1, dRng2, dRng3, dPNo, dPSo, dYes, dLenSet, dScrLen, dScrIdx, dSrcIdx, dSrcSet, dNewSrc, oLst, oRep, oListStr, gEq, gNe, gIsN, gNotN, gIsB, gNotB, gIsi, sg, List.getD_cons_zero, List.getD_cons_succ, List.set_cons_zero, List.set_cons_succ, if_true, if_false, reduceIte, endsD, endsS, endsO, endsN, endsL, asB_b, asI_i, asL_l, itemsP_l, itemsP_t, itemsP_s, itemsP_d, gAdd_i, gAdd_s, gAdd_t, gAdd_l, gI2_i, gMul_i, gMul_t, gMul_l, gMul_s, gNeg_i, gLen_s, gLen_l, gLen_t, gL1_1, gAll_l, gSum_l, gI2L_i, gMaxL_l, gMinL_l, gJoin_l, gJoin_t, gSl_l, gSl_t, gSl_s, gRev_l, wipeS, unwipe, keepV, gIdx_l, gIdx_t, gIdx_s, gIdx_d, dVarD, dDNew, dDNewT, dDPut, dDGetV, dDInV, dDEmpty, dDOne, dOwnD, dParED, dPar3, dEnum, dZip, dgTup_t, dgCons_c, dIsE, gSplit, dZipH, dM1]
  have hp := hk.pad
  refine ⟨kp, rfl, hp.nd, hp.fl, hp.len, isK_int 0, hK _ (seq_gen fun K2 hK2 => ?_)⟩
  clear hK
  simp only [dFor, dIter, dVar, sg, List.getD_cons_zero, List.getD_cons_succ, itemsP_s]
  rw [chars_tx]
  refine for_ind (fun c => S [c]) (fun done ρ => ∃ ks st x5 x6 x7 x8 x9 x10, ρ = [.va (Kd kp), .va (Ld l), .va (S w), .va (.dict (spots kp.zipIdx)), st, x5, x6, x7, x8, x9, x10] ∧ (st = .od (dkv ks) ∨ st = .va (.dict (dkv ks))) ∧ ∀ e, e ∈ ks ↔ Rch kp l done.reverse e) ⟨[0], _, _, _, _, _, _, _, rfl, .inl rfl, fun e => ?_⟩ (fun done c rest ρ hd ⟨ks, st, x5, x6, x7, x8, x9, x10, hρ, hst, hks⟩ N hN => ?_) (fun ρ ⟨ks, st, x5, x6, x7, x8, x9, x10, hρ, hst, hks⟩ => ?_)
  · show e ∈ [0] ↔ e = 0
    simp
  · subst hρ
    have hc : c ∈ kp.flatten := hw c (by rw [hd]; exact List.mem_append.mpr (.inr List.mem_cons_self))
    obtain ⟨k0, k1, n1, n2⟩ := hk.num hc
    have hkl := len_key hk k0 k1
    obtain ⟨num, hnum⟩ : ∃ n : Nat, numOf kp c = (n : Int) := Int.eq_ofNat_of_zero_le (by omega)
    have hrch : ∀ e, Rch kp l (done ++ [c]).reverse e ↔ ∃ a, Rch kp l done.reverse a ∧ Hop kp l c a e := fun e => by
      rw [List.reverse_append, List.reverse_singleton]
      exact Iff.rfl
    simp only [dgName, List.set_cons_zero, List.set_cons_succ]
    refine seq_gen fun K hK => ?_
    simp only [dRet, dRetN, dAnd, dOr, dNot, dTest, dTAnd, dTOr, dTNot, dIf, dChain, dUn, dOp, dCall, dC, dVar, dCons, dNil, dTup, dLst, dSeq, dIfS, dAsg, dgName, dgNil, dPar, dParEO, dParOE, dParOO, dFor, dIter, dNext, dBreak, dCont, dDrop, dRaise, dFn, dFnS, dFnO, dM1, dLc, dSl, dSlV, dRevV, dLenV, dIdxV, dApp, dSetI, dPopAt, dCmpV, dOwn, dOwnV, dRetO, dRng1, dRng2, dRng3, dPNo, dPSo, dYes, dLenSet, dScrLen, dScrIdx, dSrcIdx, dSrcSet, dNewSrc, oLst, oRep, oListStr, gEq, gNe, gIsN, gNotN, gIsB, gNotB, gIsi, sg, List.getD_cons_zero, List.getD_cons_succ, List.set_cons_zero, List.set_cons_succ, if_true, if_false, reduceIte, endsD, endsS, endsO, endsN, endsL, asB_b, asI_i, asL_l, itemsP_l, itemsP_t, itemsP_s, itemsP_d, gAdd_i, gAdd_s, gAdd_t, gAdd_l, gI2_i, gMul_i, gMul_t, gMul_l, gMul_s, gNeg_i, gLen_s, gLen_l, gLen_t, gL1_1, gAll_l, gSum_l, gI2L_i, gMaxL_l, gMinL_l, gJoin_l, gJoin_t, gSl_l, gSl_t, gSl_s, gRev_l, wipeS, unwipe, keepV, gIdx_l, gIdx_t, gIdx_s, gIdx_d, dVarD, dDNew, dDNewT, dDPut, dDGetV, dDInV, dDEmpty, dDOne, dOwnD, dParED, dPar3, dEnum, dZip, dgTup_t, dgCons_c, dIsE, gSplit, dZipH, dM1]
    refine ⟨_, look_pad hc, ?_⟩
    simp only [dRet, dRetN, dAnd, dOr, dNot, dTest, dTAnd, dTOr, dTNot, dIf, dChain, dUn, dOp, dCall, dC, dVar, dCons, dNil, dTup, dLst, dSeq, dIfS, dAsg, dgName, dgNil, dPar, dParEO, dParOE, dParOO, dFor, dIter, dNext, dBreak, dCont, dDrop, dRaise, dFn, dFnS, dFnO, dM1, dLc, dSl, dSlV, dRevV, dLenV, dIdxV, dApp, dSetI, dPopAt, dCmpV, dOwn, dOwnV, dRetO, dRng1, dRng2, dRng3, dPNo, dPSo, dYes, dLenSet, dScrLen, dScrIdx, dSrcIdx, dSrcSet, dNewSrc, oLst, oRep, oListStr, gEq, gNe, gIsN, gNotN, gIsB, gNotB, gIsi, sg, List.getD_cons_zero, List.getD_cons_succ, List.set_cons_zero, List.set_cons_succ, if_true, if_false, reduceIte, endsD, endsS, endsO, endsN, endsL, asB_b, asI_i, asL_l, itemsP_l, itemsP_t, itemsP_s, itemsP_d, gAdd_i, gAdd_s, gAdd_t, gAdd_l, gI2_i, gMul_i, gMul_t, gMul_l, gMul_s, gNeg_i, gLen_s, gLen_l, gLen_t, gL1_1, gAll_l, gSum_l, gI2L_i, gMaxL_l, gMinL_l, gJoin_l, gJoin_t, gSl_l, gSl_t, gSl_s, gRev_l, wipeS, unwipe, keepV, gIdx_l, gIdx_t, gIdx_s, gIdx_d, dVarD, dDNew, dDNewT, dDPut, dDGetV, dDInV, dDEmpty, dDOne, dOwnD, dParED, dPar3, dEnum, dZip, dgTup_t, dgCons_c, dIsE, gSplit, dZipH, dM1]
    refine ⟨trivial, hK _ (seq_gen fun K3 hK3 => ?_)⟩
    clear hK
    simp only [dDNew, List.set_cons_zero, List.set_cons_succ]
    refine hK3 _ (seq_gen fun K4 hK4 => ?_)
    clear hK3
    have hst2 : ∀ (fe : DG) (tt : DS) (DD : DEnds) (y5 y6 y7 y8 y9 y10 : Sl), dForL fe tt (ks.map fun n : Nat => .int (n : Nat)) DD [.va (Kd kp), .va (Ld l), .va (S w), .va (.dict (spots kp.zipIdx)), .va (.dict (dkv ks)), y5, y6, y7, y8, y9, y10] → dFor (dIter (dVarD 4)) fe tt DD [.va (Kd kp), .va (Ld l), .va (S w), .va (.dict (spots kp.zipIdx)), st, y5, y6, y7, y8, y9, y10] := fun fe tt DD y5 y6 y7 y8 y9 y10 h => by
      have ek : (dkv ks).map (·.1) = ks.map fun n : Nat => PyData.int (n : Nat) := by
        unfold dkv
        rw [List.map_map]
        rfl
      rcases hst with rfl | rfl
      · simp only [dFor, dIter, dVarD, sg, List.getD_cons_zero, List.getD_cons_succ, List.set_cons_zero, List.set_cons_succ, itemsP_d, ek]
        exact h
      · simp only [dFor, dIter, dVarD, sg, List.getD_cons_zero, List.getD_cons_succ, itemsP_d, ek]
        exact h
    refine hst2 _ _ _ _ _ _ _ _ _ ?_
    refine for_ind (fun n : Nat => PyData.int (n : Nat)) (fun dn ρ => ∃ ls x9 x10, ρ = [.va (Kd kp), .va (Ld l), .va (S w), .va (.dict (spots kp.zipIdx)), .va (.dict (dkv ks)), .va (S [c]), .va (.int (keyOf kp c)), .va (.int (numOf kp c)), .od (dkv ls), x9, x10] ∧ ls.Nodup ∧ ∀ e, e ∈ ls ↔ ∃ a ∈ dn, Hop kp l c a e) ⟨[], _, _, rfl, List.nodup_nil, fun e => by simp⟩ (fun dn a rs ρ hdn ⟨ls, x9, x10, hρ, hnd, hls⟩ M hM => ?_) (fun ρ ⟨ls, x9, x10, hρ, hnd, hls⟩ => ?_)
    · subst hρ
      have ha : a ≤ l.length := ((hks a).mp (by rw [hdn]; exact List.mem_append.mpr (.inr List.mem_cons_self))).le
      simp only [dgName, List.set_cons_zero, List.set_cons_succ]
      refine seq_gen fun K5 hK5 => ?_
      simp only [dRet, dRetN, dAnd, dOr, dNot, dTest, dTAnd, dTOr, dTNot, dIf, dChain, dUn, dOp, dCall, dC, dVar, dCons, dNil, dTup, dLst, dSeq, dIfS, dAsg, dgName, dgNil, dPar, dParEO, dParOE, dParOO, dFor, dIter, dNext, dBreak, dCont, dDrop, dRaise, dFn, dFnS, dFnO, dM1, dLc, dSl, dSlV, dRevV, dLenV, dIdxV, dApp, dSetI, dPopAt, dCmpV, dOwn, dOwnV, dRetO, dRng1, dRng2, dRng3, dPNo, dPSo, dYes, dLenSet, dScrLen, dScrIdx, dSrcIdx, dSrcSet, dNewSrc, oLst, oRep, oListStr, gEq, gNe, gIsN, gNotN, gIsB, gNotB, gIsi, sg, List.getD_cons_zero, List.getD_cons_succ, List.set_cons_zero, List.set_cons_succ, if_true, if_false, reduceIte, endsD, endsS, endsO, endsN, endsL, asB_b, asI_i, asL_l, itemsP_l, itemsP_t, itemsP_s, itemsP_d, gAdd_i, gAdd_s, gAdd_t, gAdd_l, gI2_i, gMul_i, gMul_t, gMul_l, gMul_s, gNeg_i, gLen_s, gLen_l, gLen_t, gL1_1, gAll_l, gSum_l, gI2L_i, gMaxL_l, gMinL_l, gJoin_l, gJoin_t, gSl_l, gSl_t, gSl_s, gRev_l, wipeS, unwipe, keepV, gIdx_l, gIdx_t, gIdx_s, gIdx_d, dVarD, dDNew, dDNewT, dDPut, dDGetV, dDInV, dDEmpty, dDOne, dOwnD, dParED, dPar3, dEnum, dZip, dgTup_t, dgCons_c, dIsE, gSplit, dZipH, dM1]
      refine hK5 _ ?_
      clear hK5
      obtain ⟨n, hn⟩ : ∃ n, n = (keyAt kp (keyOf kp c)).length := ⟨_, rfl⟩
      have hhop : ∀ e, Hop kp l c a e ↔ ∃ j : Nat, e = a + num + j * n ∧ e ≤ l.length ∧ Blk l a e (keyOf kp c) := fun e => by
        unfold Hop
        rw [hnum, ← hn]
        exact Iff.rfl
      rw [← hn] at hkl
      refine ⟨fun m ρ => ∃ (j en : Nat) (ks2 : List Nat), m + en = l.length + 12 ∧ en = a + num + j * n ∧ ρ = [.va (Kd kp), .va (Ld l), .va (S w), .va (.dict (spots kp.zipIdx)), .va (.dict (dkv ks)), .va (S [c]), .va (.int (keyOf kp c)), .va (.int (numOf kp c)), .od (dkv ks2), .va (.int (a : Nat)), .va (.int (en : Nat))] ∧ ks2.Nodup ∧ ∀ e, e ∈ ks2 ↔ (∃ a ∈ dn, Hop kp l c a e) ∨ ∃ i : Nat, i < j ∧ e = a + num + i * n ∧ e ≤ l.length ∧ Blk l a e (keyOf kp c), ⟨l.length + 12 - (a + num), 0, a + num, ls, by omega, by omega, ?_, hnd, fun e => ?_⟩, fun m ρ ⟨j, en, ks2, hm, hen, hρ, hnd2, hks2⟩ => ?_⟩
      · rw [hnum]
        rfl
      · rw [hls]
        constructor
        · exact .inl
        · rintro (h | ⟨i, hi, _⟩)
          · exact h
          · omega
      · subst hρ
        have hae : a ≤ en := by
          rw [hen]
          omega
        have fin : (¬ (en ≤ l.length ∧ Blk l a en (keyOf kp c))) → M [.va (Kd kp), .va (Ld l), .va (S w), .va (.dict (spots kp.zipIdx)), .va (.dict (dkv ks)), .va (S [c]), .va (.int (keyOf kp c)), .va (.int (numOf kp c)), .od (dkv ks2), .va (.int (a : Nat)), .va (.int (en : Nat))] := fun hnot => by
          refine hM _ ⟨ks2, _, _, rfl, hnd2, fun e => ?_⟩
          rw [hks2]
          constructor
          · rintro (⟨a', ha', h⟩ | ⟨i, _, h1, h2, h3⟩)
            · exact ⟨a', List.mem_append.mpr (.inl ha'), h⟩
            · exact ⟨a, by simp, (hhop e).mpr ⟨i, h1, h2, h3⟩⟩
          · rintro ⟨a', ha', h⟩
            rcases List.mem_append.mp ha' with ha' | ha'
            · exact .inl ⟨a', ha', h⟩
            · simp at ha'
              subst ha'
              obtain ⟨i, h1, h2, h3⟩ := (hhop e).mp h
              refine .inr ⟨i, ?_, h1, h2, h3⟩
              refine Nat.lt_of_not_le fun hji => hnot ?_
              have hjn : j * n ≤ i * n := Nat.mul_le_mul_right _ hji
              exact ⟨by omega, h3.le (by omega)⟩
        simp only [dRet, dRetN, dAnd, dOr, dNot, dTest, dTAnd, dTOr, dTNot, dIf, dChain, dUn, dOp, dCall, dC, dVar, dCons, dNil, dTup, dLst, dSeq, dIfS, dAsg, dgName, dgNil, dPar, dParEO, dParOE, dParOO, dFor, dIter, dNext, dBreak, dCont, dDrop, dRaise, dFn, dFnS, dFnO, dM1, dLc, dSl, dSlV, dRevV, dLenV, dIdxV, dApp, dSetI, dPopAt, dCmpV, dOwn, dOwnV, dRetO, dRng1, dRng2, dRng3, dPNo, dPSo, dYes, dLenSet, dScrLen, dScrIdx, dSrcIdx, dSrcSet, dNewSrc, oLst, oRep, oListStr, gEq, gNe, gIsN, gNotN, gIsB, gNotB, gIsi, sg, List.getD_cons_zero, List.getD_cons_succ, List.set_cons_zero, List.set_cons_succ, if_true, if_false, reduceIte, endsD, endsS, endsO, endsN, endsL, asB_b, asI_i, asL_l, itemsP_l, itemsP_t, itemsP_s, itemsP_d, gAdd_i, gAdd_s, gAdd_t, gAdd_l, gI2_i, gMul_i, gMul_t, gMul_l, gMul_s, gNeg_i, gLen_s, gLen_l, gLen_t, gL1_1, gAll_l, gSum_l, gI2L_i, gMaxL_l, gMinL_l, gJoin_l, gJoin_t, gSl_l, gSl_t, gSl_s, gRev_l, wipeS, unwipe, keepV, gIdx_l, gIdx_t, gIdx_s, gIdx_d, dVarD, dDNew, dDNewT, dDPut, dDGetV, dDInV, dDEmpty, dDOne, dOwnD, dParED, dPar3, dEnum, dZip, dgTup_t, dgCons_c, dIsE, gSplit, dZipH, dM1, Bool.not_eq_true', Bool.not_eq_false', decide_eq_true_eq, decide_eq_false_iff_not, Bool.and_eq_true, Bool.or_eq_true, Bool.not_true, Bool.not_false, Bool.false_eq_true, reduceCtorEq, decide_true, decide_false]
        refine ⟨trivial, ?_⟩
        by_cases hel : en ≤ l.length
        · rw [if_pos (by rw [List.length_map]; omega)]
          have ecut : DL.cutD (l.map PyData.int) (some (a : Int)) (some (en : Int)) = ((l.drop a).take (en - a)).map PyData.int := by
            unfold DL.cutD
            rw [show HT.sIx (l.map PyData.int).length 0 (some ((a : Nat) : Int)) = min a (l.map PyData.int).length from HT.sIx_nat _ _ _, show HT.sIx (l.map PyData.int).length (l.map PyData.int).length (some ((en : Nat) : Int)) = min en (l.map PyData.int).length from HT.sIx_nat _ _ _, List.length_map, Nat.min_eq_left ha, Nat.min_eq_left hel, List.map_take, List.map_drop]
          have erep : (List.replicate ((en : Int) - (a : Int)).toNat [PyData.int (keyOf kp c)]).flatten = (List.replicate (en - a) (keyOf kp c)).map PyData.int := by
            rw [rep_Ld, show ((en : Int) - (a : Int)).toNat = en - a by omega]
          rw [ecut, erep]
          refine ⟨le1, trivial, ⟨by omega, by omega, by simp⟩, by unfold eqOk; rw [(shp_Ld _).ok, (shp_Ld _).ok]; rfl, ?_⟩
          rw [eqv_Ld]
          by_cases hb : Blk l a en (keyOf kp c)
          · unfold Blk at hb
            rw [decide_eq_true hb, if_pos rfl]
            have hb : Blk l a en (keyOf kp c) := hb
            refine ⟨isK_int _, ?_, _, atI_key k0 k1, ?_⟩
            · have h1 := nd_len (l.length + 1) ks2 hnd2 fun e he => by
                rcases (hks2 e).mp he with ⟨a', _, h⟩ | ⟨i, _, _, h, _⟩
                · obtain ⟨_, _, h, _⟩ := h
                  omega
                · omega
              have : 1001 ≤ sizeLine := by decide
              unfold dkv
              rw [List.length_map]
              omega
            · simp only [dRet, dRetN, dAnd, dOr, dNot, dTest, dTAnd, dTOr, dTNot, dIf, dChain, dUn, dOp, dCall, dC, dVar, dCons, dNil, dTup, dLst, dSeq, dIfS, dAsg, dgName, dgNil, dPar, dParEO, dParOE, dParOO, dFor, dIter, dNext, dBreak, dCont, dDrop, dRaise, dFn, dFnS, dFnO, dM1, dLc, dSl, dSlV, dRevV, dLenV, dIdxV, dApp, dSetI, dPopAt, dCmpV, dOwn, dOwnV, dRetO, dRng1, dRng2, dRng3, dPNo, dPSo, dYes, dLenSet, dScrLen, dScrIdx, dSrcIdx, dSrcSet, dNewSrc, oLst, oRep, oListStr, gEq, gNe, gIsN, gNotN, gIsB, gNotB, gIsi, sg, List.getD_cons_zero, List.getD_cons_succ, List.set_cons_zero, List.set_cons_succ, if_true, if_false, reduceIte, endsD, endsS, endsO, endsN, endsL, asB_b, asI_i, asL_l, itemsP_l, itemsP_t, itemsP_s, itemsP_d, gAdd_i, gAdd_s, gAdd_t, gAdd_l, gI2_i, gMul_i, gMul_t, gMul_l, gMul_s, gNeg_i, gLen_s, gLen_l, gLen_t, gL1_1, gAll_l, gSum_l, gI2L_i, gMaxL_l, gMinL_l, gJoin_l, gJoin_t, gSl_l, gSl_t, gSl_s, gRev_l, wipeS, unwipe, keepV, gIdx_l, gIdx_t, gIdx_s, gIdx_d, dVarD, dDNew, dDNewT, dDPut, dDGetV, dDInV, dDEmpty, dDOne, dOwnD, dParED, dPar3, dEnum, dZip, dgTup_t, dgCons_c, dIsE, gSplit, dZipH, dM1, tx_length]
              rw [← hn]
              refine ⟨small_le (by omega), l.length + 12 - (en + n), by omega, j + 1, en + n, insN ks2 en, by omega, by rw [hen, Nat.add_mul]; omega, ?_, nd_insN hnd2, fun e => ?_⟩
              · rw [put_dkv]
                rfl
              · rw [mem_insN, hks2]
                constructor
                · rintro ((h | ⟨i, h1, h2, h3, h4⟩) | rfl)
                  · exact .inl h
                  · exact .inr ⟨i, by omega, h2, h3, h4⟩
                  · exact .inr ⟨j, by omega, hen, hel, hb⟩
                · rintro (h | ⟨i, h1, h2, h3, h4⟩)
                  · exact .inl (.inl h)
                  · by_cases hij : i < j
                    · exact .inl (.inr ⟨i, hij, h2, h3, h4⟩)
                    · have : i = j := by omega
                      subst this
                      exact .inr (by omega)
          · unfold Blk at hb
            rw [decide_eq_false hb, if_neg (fun z => Bool.noConfusion z)]
            exact fin fun z => hb z.2
        · rw [if_neg (by rw [List.length_map]; omega)]
          exact fin fun z => hel z.1
    · subst hρ
      refine hK4 _ ?_
      simp only [dRet, dRetN, dAnd, dOr, dNot, dTest, dTAnd, dTOr, dTNot, dIf, dChain, dUn, dOp, dCall, dC, dVar, dCons, dNil, dTup, dLst, dSeq, dIfS, dAsg, dgName, dgNil, dPar, dParEO, dParOE, dParOO, dFor, dIter, dNext, dBreak, dCont, dDrop, dRaise, dFn, dFnS, dFnO, dM1, dLc, dSl, dSlV, dRevV, dLenV, dIdxV, dApp, dSetI, dPopAt, dCmpV, dOwn, dOwnV, dRetO, dRng1, dRng2, dRng3, dPNo, dPSo, dYes, dLenSet, dScrLen, dScrIdx, dSrcIdx, dSrcSet, dNewSrc, oLst, oRep, oListStr, gEq, gNe, gIsN, gNotN, gIsB, gNotB, gIsi, sg, List.getD_cons_zero, List.getD_cons_succ, List.set_cons_zero, List.set_cons_succ, if_true, if_false, reduceIte, endsD, endsS, endsO, endsN, endsL, asB_b, asI_i, asL_l, itemsP_l, itemsP_t, itemsP_s, itemsP_d, gAdd_i, gAdd_s, gAdd_t, gAdd_l, gI2_i, gMul_i, gMul_t, gMul_l, gMul_s, gNeg_i, gLen_s, gLen_l, gLen_t, gL1_1, gAll_l, gSum_l, gI2L_i, gMaxL_l, gMinL_l, gJoin_l, gJoin_t, gSl_l, gSl_t, gSl_s, gRev_l, wipeS, unwipe, keepV, gIdx_l, gIdx_t, gIdx_s, gIdx_d, dVarD, dDNew, dDNewT, dDPut, dDGetV, dDInV, dDEmpty, dDOne, dOwnD, dParED, dPar3, dEnum, dZip, dgTup_t, dgCons_c, dIsE, gSplit, dZipH, dM1]
      refine hN _ ⟨ls, _, _, _, _, _, _, _, rfl, .inr rfl, fun e => ?_⟩
      rw [hrch, hls]
      constructor
      · rintro ⟨a, ha, h⟩
        exact ⟨a, (hks a).mp ha, h⟩
      · rintro ⟨a, ha, h⟩
        exact ⟨a, (hks a).mpr ha, h⟩
  · subst hρ
    refine hK2 _ ?_
    have hq : ∀ b : Bool, b = hasD (dkv ks) (.int (l.length : Nat)) → Q (.bool b) := fun b hb => q b (by
      rw [hb, has_dkv, decide_eq_true_eq]
      exact hks _)
    rcases hst with rfl | rfl
    · simp only [dRet, dRetN, dAnd, dOr, dNot, dTest, dTAnd, dTOr, dTNot, dIf, dChain, dUn, dOp, dCall, dC, dVar, dCons, dNil, dTup, dLst, dSeq, dIfS, dAsg, dgName, dgNil, dPar, dParEO, dParOE, dParOO, dFor, dIter, dNext, dBreak, dCont, dDrop, dRaise, dFn, dFnS, dFnO, dM1, dLc, dSl, dSlV, dRevV, dLenV, dIdxV, dApp, dSetI, dPopAt, dCmpV, dOwn, dOwnV, dRetO, dRng1, dRng2, dRng3, dPNo, dPSo, dYes, dLenSet, dScrLen, dScrIdx, dSrcIdx, dSrcSet, dNewSrc, oLst, oRep, oListStr, gEq, gNe, gIsN, gNotN, gIsB, gNotB, gIsi, sg, List.getD_cons_zero, List.getD_cons_succ, List.set_cons_zero, List.set_cons_succ, if_true, if_false, reduceIte, endsD, endsS, endsO, endsN, endsL, asB_b, asI_i, asL_l, itemsP_l, itemsP_t, itemsP_s, itemsP_d, gAdd_i, gAdd_s, gAdd_t, gAdd_l, gI2_i, gMul_i, gMul_t, gMul_l, gMul_s, gNeg_i, gLen_s, gLen_l, gLen_t, gL1_1, gAll_l, gSum_l, gI2L_i, gMaxL_l, gMinL_l, gJoin_l, gJoin_t, gSl_l, gSl_t, gSl_s, gRev_l, wipeS, unwipe, keepV, gIdx_l, gIdx_t, gIdx_s, gIdx_d, dVarD, dDNew, dDNewT, dDPut, dDGetV, dDInV, dDEmpty, dDOne, dOwnD, dParED, dPar3, dEnum, dZip, dgTup_t, dgCons_c, dIsE, gSplit, dZipH, dM1, List.length_map]
      exact ⟨isK_int _, hq _ rfl⟩
    · simp only [dRet, dRetN, dAnd, dOr, dNot, dTest, dTAnd, dTOr, dTNot, dIf, dChain, dUn, dOp, dCall, dC, dVar, dCons, dNil, dTup, dLst, dSeq, dIfS, dAsg, dgName, dgNil, dPar, dParEO, dParOE, dParOO, dFor, dIter, dNext, dBreak, dCont, dDrop, dRaise, dFn, dFnS, dFnO, dM1, dLc, dSl, dSlV, dRevV, dLenV, dIdxV, dApp, dSetI, dPopAt, dCmpV, dOwn, dOwnV, dRetO, dRng1, dRng2, dRng3, dPNo, dPSo, dYes, dLenSet, dScrLen, dScrIdx, dSrcIdx, dSrcSet, dNewSrc, oLst, oRep, oListStr, gEq, gNe, gIsN, gNotN, gIsB, gNotB, gIsi, sg, List.getD_cons_zero, List.getD_cons_succ, List.set_cons_zero, List.set_cons_succ, if_true, if_false, reduceIte, endsD, endsS, endsO, endsN, endsL, asB_b, asI_i, asL_l, itemsP_l, itemsP_t, itemsP_s, itemsP_d, gAdd_i, gAdd_s, gAdd_t, gAdd_l, gI2_i, gMul_i, gMul_t, gMul_l, gMul_s, gNeg_i, gLen_s, gLen_l, gLen_t, gL1_1, gAll_l, gSum_l, gI2L_i, gMaxL_l, gMinL_l, gJoin_l, gJoin_t, gSl_l, gSl_t, gSl_s, gRev_l, wipeS, unwipe, keepV, gIdx_l, gIdx_t, gIdx_s, gIdx_d, dVarD, dDNew, dDNewT, dDPut, dDGetV, dDInV, dDEmpty, dDOne, dOwnD, dParED, dPar3, dEnum, dZip, dgTup_t, dgCons_c, dIsE, gSplit, dZipH, dM1, List.length_map]
      refine ⟨.inl ⟨isK_int _, ?_⟩, hq _ rfl⟩
      cases ks with
      | nil => exact .inl rfl
      | cons a r => exact .inr ⟨_, _, rfl, isK_int _⟩
end LW

namespace LW
open PySem PySem.Spec PyProof.Rows L2 DL
/-- s(i) = e(i) + s(i - 1) + .. + s(i - m), newest first -/
def solL (m : Nat) (e : Nat → Int) : Nat → List Int
  | 0 => []
  | i + 1 => (e i + ((solL m e i).take m).sum) :: solL m e i
def sol (m : Nat) (e : Nat → Int) (i : Nat) : Int := e i + ((solL m e i).take m).sum
theorem solL_len (m : Nat) (e : Nat → Int) : ∀ i, (solL m e i).length = i
  | 0 => rfl
  | i + 1 => by rw [solL, List.length_cons, solL_len]
theorem rowT_sol (m many : Nat) (b : Int) : ∀ i, rowT m many b i = solL m (fun i => if i < many ∧ i % m = 0 then b else 0) i
  | 0 => rfl
  | i + 1 => by rw [rowT, solL, rowT_sol m many b i]; rfl
theorem sol_add (m : Nat) (e f : Nat → Int) : ∀ i k, ((solL m (fun i => e i + f i) i).take k).sum = ((solL m e i).take k).sum + ((solL m f i).take k).sum
  | 0, k => by simp [solL]
  | i + 1, 0 => by simp
  | i + 1, k + 1 => by
    simp only [solL, List.take_succ_cons, List.sum_cons]
    rw [sol_add m e f i m, sol_add m e f i k]
    omega
theorem sol_mul (m : Nat) (b : Int) (e : Nat → Int) : ∀ i k, ((solL m (fun i => b * e i) i).take k).sum = b * ((solL m e i).take k).sum
  | 0, k => by simp [solL]
  | i + 1, 0 => by simp
  | i + 1, k + 1 => by
    simp only [solL, List.take_succ_cons, List.sum_cons]
    rw [sol_mul m b e i m, sol_mul m b e i k, Int.mul_add, Int.mul_add]
/-- in how many ways a run of n presses of a key with m letters can be read -/
def cR (m n : Nat) : Int := (row m n 1).headD 0
theorem solL_get (m : Nat) (e : Nat → Int) : ∀ i j, j < i → (solL m e i)[j]? = some (sol m e (i - 1 - j))
  | i + 1, 0, _ => rfl
  | i + 1, j + 1, h => by
    rw [solL, List.getElem?_cons_succ, solL_get m e i j (by omega)]
    congr 2
    omega
theorem row_mul (m n : Nat) (b : Int) : (row m n b).headD 0 = b * cR m n := by
  unfold cR row
  rw [rowT_sol, rowT_sol]
  have e : (fun i => if i < n ∧ i % m = 0 then b else 0) = fun i => b * (if i < n ∧ i % m = 0 then (1 : Int) else 0) := funext fun i => by
    split
    · rw [Int.mul_one]
    · rw [Int.mul_zero]
  rw [e]
  show b * _ + _ = b * (_ + _)
  rw [sol_mul, Int.mul_add]
theorem cnt_prod (kp : List Tx) : ∀ rs : List Run, cnt kp rs = (rs.map fun r => cR (keyAt kp r.1).length r.2.toNat).foldr (· * ·) 1
  | [] => rfl
  | r :: rs => by
    rw [cnt, row_mul, cnt_prod kp rs, List.map_cons, List.foldr_cons, Int.mul_comm]
end LW

namespace LW
open PySem PySem.Spec PyProof.Rows L2 DL
/-! the mathematics of reads -/
theorem snoc_ind {α : Type} {P : List α → Prop} (h0 : P []) (hs : ∀ l x, P l → P (l ++ [x])) (l : List α) : P l := by
  rw [← List.reverse_reverse l]
  induction l.reverse with
  | nil => exact h0
  | cons x r ih =>
    rw [List.reverse_cons]
    exact hs _ _ ih
theorem runs_app (l : List Int) (k : Int) {p : Nat} (hp : 1 ≤ p) : runs (l ++ List.replicate p k) = addN (runs l) k p := by
  obtain ⟨q, rfl⟩ : ∃ q, p = q + 1 := ⟨p - 1, by omega⟩
  have e : runs (l ++ List.replicate (q + 1) k) = (List.replicate q k).foldl (fun f k => addN f k 1) (addN (runs l) k 1) := by
    unfold runs
    rw [List.foldl_append, List.replicate_succ, List.foldl_cons]
  rw [e]
  rcases last_cases (runs l) with h | ⟨i, r, h⟩
  · rw [h, addN_nil, addN_nil]
    have := fold_rep [] k 1 q
    rw [List.nil_append] at this
    rw [this]
    simp
    omega
  · rw [h, addN_app, addN_app]
    by_cases hk : r.1 = k
    · rw [if_pos hk, if_pos hk, fold_rep]
      simp
      omega
    · rw [if_neg hk, if_neg hk, fold_rep]
      simp
      omega
theorem runs_dec (l : List Int) : l = [] ∨ ∃ (l1 : List Int) (k : Int) (n : Nat), 1 ≤ n ∧ l = l1 ++ List.replicate n k ∧ runs l = runs l1 ++ [(k, (n : Int))] := by
  induction l using snoc_ind with
  | h0 => exact .inl rfl
  | hs l x ih =>
    refine .inr ?_
    rcases ih with rfl | ⟨l1, k, n, hn, rfl, hr⟩
    · exact ⟨[], x, 1, Nat.le_refl _, rfl, rfl⟩
    · by_cases hk : k = x
      · subst hk
        refine ⟨l1, k, n + 1, by omega, by rw [List.append_assoc, ← List.replicate_succ'], ?_⟩
        rw [runs_snoc, hr, addN_app, if_pos rfl]
        rfl
      · refine ⟨l1 ++ List.replicate n k, x, 1, Nat.le_refl _, rfl, ?_⟩
        rw [runs_snoc]
        conv => lhs; rw [hr]
        rw [addN_app, if_neg hk, ← hr]
        rfl
theorem runs_nil {l : List Int} (h : runs l = []) : l = [] := by
  rcases runs_dec l with h2 | ⟨l1, k, n, _, _, h3⟩
  · exact h2
  · rw [h3] at h
    simp at h
theorem snoc_inj {α : Type} {a b : List α} {x y : α} (h : a ++ [x] = b ++ [y]) : a = b ∧ x = y := by
  have := List.append_inj' h rfl
  exact ⟨this.1, by simpa using this.2⟩
theorem runs_last {l : List Int} {R : List Run} {k r : Int} (h : runs l = R ++ [(k, r)]) : ∃ (l1 : List Int) (n : Nat), 1 ≤ n ∧ r = (n : Int) ∧ l = l1 ++ List.replicate n k ∧ runs l1 = R := by
  rcases runs_dec l with h2 | ⟨l1, k', n, hn, e, h3⟩
  · subst h2
    have : ([] : List Run) = R ++ [(k, r)] := h
    simp at this
  · rw [h3] at h
    obtain ⟨h4, h5⟩ := snoc_inj h
    cases h5
    exact ⟨l1, n, hn, rfl, e, h4⟩
/-- runs and sums agree -/
def RS (kp : List Tx) (rs ss : List Run) : Prop := rs.map (·.1) = ss.map (·.1) ∧ (rs.zip ss).all (rdOk kp) = true
theorem readsB_iff (kp : List Tx) (l : List Int) (w : Tx) : readsB kp l w = true ↔ RS kp (runs l) (sums kp w) := by
  unfold readsB RS
  rw [Bool.and_eq_true, decide_eq_true_eq]
theorem RS_snoc (kp : List Tx) (rs ss : List Run) (a b : Run) : RS kp (rs ++ [a]) (ss ++ [b]) ↔ RS kp rs ss ∧ a.1 = b.1 ∧ rdOk kp (a, b) = true := by
  unfold RS
  rw [List.map_append, List.map_append, List.map_singleton, List.map_singleton]
  constructor
  · rintro ⟨h1, h2⟩
    obtain ⟨h3, h4⟩ := snoc_inj h1
    have hl : rs.length = ss.length := by
      have := congrArg List.length h3
      simpa using this
    rw [List.zip_append hl, List.all_append, Bool.and_eq_true] at h2
    exact ⟨⟨h3, h2.1⟩, h4, by simpa using h2.2⟩
  · rintro ⟨⟨h3, h2⟩, h4, h5⟩
    have hl : rs.length = ss.length := by
      have := congrArg List.length h3
      simpa using this
    rw [List.zip_append hl, List.all_append, Bool.and_eq_true]
    exact ⟨by rw [h3, h4], h2, by simpa using h5⟩
theorem RS_nil_r {kp : List Tx} {rs : List Run} (h : RS kp rs []) : rs = [] := by
  have := h.1
  simpa using this
theorem RS_nil (kp : List Tx) : RS kp [] [] := ⟨rfl, rfl⟩
theorem RS_snoc_r {kp : List Tx} {rs ss : List Run} {b : Run} (h : RS kp rs (ss ++ [b])) : ∃ R r, rs = R ++ [(b.1, r)] ∧ RS kp R ss ∧ rdOk kp ((b.1, r), b) = true := by
  rcases last_cases rs with rfl | ⟨i, a, rfl⟩
  · have := h.1
    simp at this
  · obtain ⟨h1, h2, h3⟩ := (RS_snoc kp i ss a b).mp h
    obtain ⟨a1, a2⟩ := a
    simp only at h2
    subst h2
    exact ⟨i, a2, rfl, h1, h3⟩
theorem RS_snoc_l {kp : List Tx} {rs ss : List Run} {a : Run} (h : RS kp (rs ++ [a]) ss) : ∃ S s, ss = S ++ [(a.1, s)] ∧ RS kp rs S ∧ rdOk kp (a, (a.1, s)) = true := by
  rcases last_cases ss with rfl | ⟨i, b, rfl⟩
  · have := h.1
    simp at this
  · obtain ⟨h1, h2, h3⟩ := (RS_snoc kp rs i a b).mp h
    obtain ⟨b1, b2⟩ := b
    simp only at h2
    subst h2
    exact ⟨i, b2, rfl, h1, h3⟩
theorem rdOk_iff (kp : List Tx) (k r s : Int) : rdOk kp ((k, r), (k, s)) = true ↔ s ≤ r ∧ (r - s) % ((keyAt kp k).length : Int) = 0 := by
  unfold rdOk
  rw [Bool.and_eq_true, decide_eq_true_eq, decide_eq_true_eq]
theorem sums_snoc (kp : List Tx) (w : Tx) (c : Nat) : sums kp (w ++ [c]) = addN (sums kp w) (keyOf kp c) (numOf kp c) := by
  unfold sums
  rw [List.foldl_append]
  rfl
theorem sums_pos (kp : List Tx) (w : Tx) : (∀ c ∈ w, 1 ≤ numOf kp c) → ∀ r ∈ sums kp w, 1 ≤ r.2 := by
  induction w using snoc_ind with
  | h0 =>
    intro _ r h
    cases h
  | hs w c ih =>
    intro h r hr
    rw [sums_snoc] at hr
    have ih' := ih fun d hd => h d (List.mem_append.mpr (.inl hd))
    have hc := h c (by simp)
    rcases addN_mem hr with h1 | ⟨_, h2 | ⟨q, hq, h2⟩⟩
    · exact ih' r h1
    · omega
    · have := ih' q hq
      omega
theorem mod_step {a m : Int} (h : a % m = 0) (j : Int) : (a + j * m) % m = 0 := by
  rw [Int.add_mul_emod_self_right]
  exact h
theorem reads_snoc {kp : List Tx} {w : Tx} {c n m : Nat} {k : Int} (hk : keyOf kp c = k) (hn : numOf kp c = (n : Int)) (hm : (keyAt kp k).length = m) (n1 : 1 ≤ n) (m1 : 1 ≤ m) (hw : ∀ d ∈ w, 1 ≤ numOf kp d) (l : List Int) :
    readsB kp l (w ++ [c]) = true ↔ ∃ (j : Nat) (l1 : List Int), l = l1 ++ List.replicate (n + j * m) k ∧ readsB kp l1 w = true := by
  rw [readsB_iff, sums_snoc, hk, hn]
  have hpos := sums_pos kp w hw
  constructor
  · intro h
    rcases last_cases (sums kp w) with hs | ⟨S, s, hs⟩
    · rw [hs, addN_nil] at h
      obtain ⟨R, r, e, h1, h2⟩ := RS_snoc_r (ss := []) (b := (k, (n : Int))) h
      obtain ⟨l1, q, hq, rfl, rfl, hR⟩ := runs_last e
      obtain ⟨h3, h4⟩ := (rdOk_iff kp k q n).mp h2
      rw [hm] at h4
      obtain ⟨j, hj⟩ := Int.dvd_of_emod_eq_zero h4
      have hj0 : 0 ≤ j := by
        rcases Int.lt_or_le j 0 with hlt | hge
        · have : (m : Int) * j < 0 := Int.mul_neg_of_pos_of_neg (by omega) hlt
          omega
        · exact hge
      obtain ⟨i, rfl⟩ := Int.eq_ofNat_of_zero_le hj0
      refine ⟨i, l1, ?_, ?_⟩
      · have : q = n + i * m := by
          have h5 : (q : Int) - n = ((m * i : Nat) : Int) := by rw [hj]; rfl
          rw [Nat.mul_comm]
          omega
        rw [this]
      · rw [readsB_iff, hs, hR]
        exact h1
    · obtain ⟨sk, s2⟩ := s
      have hs1 : 1 ≤ s2 := hpos (sk, s2) (by rw [hs]; simp)
      rw [hs, addN_app] at h
      by_cases hsk : sk = k
      · rw [if_pos hsk] at h
        subst hsk
        obtain ⟨R, r, e, h1, h2⟩ := RS_snoc_r (b := (sk, s2 + (n : Int))) h
        obtain ⟨l1, q, hq, rfl, rfl, hR⟩ := runs_last e
        obtain ⟨h3, h4⟩ := (rdOk_iff kp sk q (s2 + n)).mp h2
        obtain ⟨p, hp⟩ : ∃ p : Nat, q = p + n := ⟨q - n, by omega⟩
        subst hp
        refine ⟨0, l1 ++ List.replicate p sk, ?_, ?_⟩
        · rw [List.append_assoc, Nat.zero_mul, Nat.add_zero, List.replicate_append_replicate]
        · have hp1 : 1 ≤ p := by omega
          rw [readsB_iff, hs, runs_app _ _ hp1, hR]
          have e2 : addN R sk p = R ++ [(sk, (p : Int))] := by
            rw [runs_app _ _ (by omega)] at e
            rcases last_cases (runs l1) with h6 | ⟨i, x, h6⟩
            · rw [h6] at hR
              subst hR
              rfl
            · rw [h6] at e hR
              rw [addN_app] at e
              subst hR
              by_cases hx : x.1 = sk
              · rw [if_pos hx] at e
                have := (snoc_inj e).1
                have := congrArg List.length this
                simp at this
              · rw [addN_app, if_neg hx]
          rw [e2]
          refine (RS_snoc kp R S (sk, (p : Int)) (sk, s2)).mpr ⟨h1, rfl, (rdOk_iff kp sk p s2).mpr ⟨by omega, ?_⟩⟩
          rw [← h4]
          congr 1
          omega
      · rw [if_neg hsk] at h
        obtain ⟨R, r, e, h1, h2⟩ := RS_snoc_r (ss := S ++ [(sk, s2)]) (b := (k, (n : Int))) h
        obtain ⟨l1, q, hq, rfl, rfl, hR⟩ := runs_last e
        obtain ⟨h3, h4⟩ := (rdOk_iff kp k q n).mp h2
        rw [hm] at h4
        obtain ⟨j, hj⟩ := Int.dvd_of_emod_eq_zero h4
        have hj0 : 0 ≤ j := by
          rcases Int.lt_or_le j 0 with hlt | hge
          · have : (m : Int) * j < 0 := Int.mul_neg_of_pos_of_neg (by omega) hlt
            omega
          · exact hge
        obtain ⟨i, rfl⟩ := Int.eq_ofNat_of_zero_le hj0
        refine ⟨i, l1, ?_, ?_⟩
        · have : q = n + i * m := by
            have h5 : (q : Int) - n = ((m * i : Nat) : Int) := by rw [hj]; rfl
            rw [Nat.mul_comm]
            omega
          rw [this]
        · rw [readsB_iff, hs, hR]
          exact h1
  · rintro ⟨j, l1, rfl, h⟩
    rw [readsB_iff] at h
    rw [runs_app _ _ (by omega)]
    have hjm : ((n + j * m : Nat) : Int) = n + (j : Int) * (m : Int) := by
      rw [Int.natCast_add, Int.natCast_mul]
    have hnn : (0 : Int) ≤ (j : Int) * (m : Int) := by
      rw [← Int.natCast_mul]
      omega
    rcases last_cases (sums kp w) with hs | ⟨S, s, hs⟩
    · rw [hs] at h ⊢
      rw [RS_nil_r h, addN_nil, addN_nil]
      refine (RS_snoc kp [] [] (k, _) (k, (n : Int))).mpr ⟨RS_nil kp, rfl, (rdOk_iff kp k _ n).mpr ⟨by omega, ?_⟩⟩
      rw [hjm, hm, show (n : Int) + (j : Int) * m - n = 0 + (j : Int) * m by omega]
      exact mod_step (by simp) _
    · obtain ⟨sk, s2⟩ := s
      rw [hs] at h ⊢
      obtain ⟨R, r, e, h1, h2⟩ := RS_snoc_r h
      simp only at e
      obtain ⟨h3, h4⟩ := (rdOk_iff kp sk r s2).mp h2
      rw [e, addN_app, addN_app]
      by_cases hsk : sk = k
      · rw [if_pos hsk, if_pos hsk]
        subst hsk
        refine (RS_snoc kp R S (sk, _) (sk, _)).mpr ⟨h1, rfl, (rdOk_iff kp sk _ _).mpr ⟨by omega, ?_⟩⟩
        rw [hm] at h4
        rw [hjm, hm, show r + (n + (j : Int) * m) - (s2 + n) = (r - s2) + (j : Int) * m by omega]
        exact mod_step h4 _
      · rw [if_neg hsk, if_neg hsk]
        refine (RS_snoc kp (R ++ [(sk, r)]) (S ++ [(sk, s2)]) (k, _) (k, (n : Int))).mpr ⟨by rw [← e]; exact h, rfl, (rdOk_iff kp k _ n).mpr ⟨by omega, ?_⟩⟩
        rw [hjm, hm, show (n : Int) + (j : Int) * m - n = 0 + (j : Int) * m by omega]
        exact mod_step (by simp) _
theorem readsB_nil (kp : List Tx) (l : List Int) : readsB kp l [] = true ↔ l = [] := by
  rw [readsB_iff]
  constructor
  · intro h
    exact runs_nil (RS_nil_r h)
  · rintro rfl
    exact RS_nil kp
theorem take_blk {l : List Int} {a e : Nat} {k : Int} (hae : a ≤ e) (he : e ≤ l.length) : Blk l a e k ↔ l.take e = l.take a ++ List.replicate (e - a) k := by
  unfold Blk
  have h1 : l.take e = l.take a ++ (l.drop a).take (e - a) := by
    conv => lhs; rw [show e = a + (e - a) by omega]
    rw [List.take_add]
  rw [h1]
  constructor
  · intro h
    rw [h]
  · intro h
    exact List.append_cancel_left h
theorem rch_reads {kp : List Tx} (hp : KpOk kp) (l : List Int) : ∀ (w : Tx), (∀ c ∈ w, c ∈ kp.flatten) → ∀ e, Rch kp l w.reverse e ↔ e ≤ l.length ∧ readsB kp (l.take e) w = true := by
  intro w
  induction w using snoc_ind with
  | h0 =>
    intro _ e
    rw [readsB_nil]
    show e = 0 ↔ _
    constructor
    · rintro rfl
      exact ⟨Nat.zero_le _, rfl⟩
    · rintro ⟨h1, h2⟩
      have := congrArg List.length h2
      rw [List.length_take] at this
      simp at this
      rcases this with h | h
      · exact h
      · subst h
        simpa using h1
  | hs w c ih =>
    intro hw e
    have hc := hw c (by simp)
    have hw' : ∀ d ∈ w, d ∈ kp.flatten := fun d hd => hw d (List.mem_append.mpr (.inl hd))
    obtain ⟨k0, k1, n1, n6⟩ := hp.num hc
    have hkl := len_key hp k0 k1
    obtain ⟨n, hn⟩ : ∃ n : Nat, numOf kp c = (n : Int) := Int.eq_ofNat_of_zero_le (by omega)
    rw [reads_snoc rfl hn rfl (by omega) hkl.1 (fun d hd => (hp.num (hw' d hd)).2.2.1)]
    rw [List.reverse_append, List.reverse_singleton]
    show (∃ a, Rch kp l w.reverse a ∧ Hop kp l c a e) ↔ _
    constructor
    · rintro ⟨a, h1, j, h2, h3, h4⟩
      rw [ih hw'] at h1
      rw [hn, Int.toNat_natCast] at h2
      refine ⟨h3, j, l.take a, ?_, h1.2⟩
      rw [take_blk (by omega) h3] at h4
      rw [h4]
      congr 1
      congr 1
      omega
    · rintro ⟨h3, j, l1, h4, h5⟩
      have hl1 := congrArg List.length h4
      rw [List.length_take, List.length_append, List.length_replicate, Nat.min_eq_left h3] at hl1
      have e1 : l.take l1.length = l1 := by
        have := congrArg (List.take l1.length) h4
        rw [List.take_take, Nat.min_eq_left (by omega), List.take_left'] at this
        · exact this
        · rfl
      refine ⟨l1.length, (ih hw' _).mpr ⟨by omega, by rw [e1]; exact h5⟩, j, by rw [hn, Int.toNat_natCast]; omega, h3, ?_⟩
      rw [take_blk (by omega) h3, e1, h4]
      congr 1
      congr 1
      omega
theorem rch_all {kp : List Tx} (hp : KpOk kp) (l : List Int) (w : Tx) (hw : ∀ c ∈ w, c ∈ kp.flatten) : Rch kp l w.reverse l.length ↔ readsB kp l w = true := by
  rw [rch_reads hp l w hw, List.take_length]
  constructor
  · exact fun h => h.2
  · exact fun h => ⟨Nat.le_refl _, h⟩
end LW

namespace LW
open PySem PySem.Spec PyProof.Rows L2 DL
/-! the mathematics of all words -/
/-- the presses of letters of one key -/
def us (key : Tx) (u : Tx) : Nat := (u.map fun c => key.idxOf c + 1).sum
theorem us_snoc (key u : Tx) (c : Nat) : us key (u ++ [c]) = us key u + (key.idxOf c + 1) := by
  simp [us]
theorem us_len (key : Tx) : ∀ u : Tx, u.length ≤ us key u
  | [] => Nat.zero_le _
  | c :: u => by
    have := us_len key u
    simp only [us, List.map_cons, List.sum_cons, List.length_cons] at *
    omega
theorem lev_iff {key : Tx} (hn : key.Nodup) (many : Nat) : ∀ (t : Nat) (p : WU), p ∈ lev key many t ↔ p.1.length = t ∧ (∀ c ∈ p.1, c ∈ key) ∧ p.2 = us key p.1 ∧ p.2 ≤ many
  | 0, p => by
    obtain ⟨u, n⟩ := p
    constructor
    · intro h
      simp [lev] at h
      obtain ⟨rfl, rfl⟩ := h
      simp [us]
    · rintro ⟨h1, _, h3, _⟩
      have : u = [] := by simpa using h1
      subst this
      simp [us] at h3
      subst h3
      simp [lev]
  | t + 1, p => by
    obtain ⟨u, n⟩ := p
    rw [lev, stepW, List.mem_flatMap]
    constructor
    · rintro ⟨q, hq, h⟩
      rw [ext, List.mem_flatMap] at h
      obtain ⟨r, hr, h⟩ := h
      obtain ⟨h1, h2, h3, h4⟩ := (lev_iff hn many t q).mp hq
      unfold ext1 at h
      split at h
      · simp at h
        obtain ⟨rfl, rfl⟩ := h
        have hr2 := List.mem_zipIdx_iff_getElem?.mp hr
        obtain ⟨hlt, he⟩ := List.getElem?_eq_some_iff.mp hr2
        have hi : key.idxOf r.1 = r.2 := by
          rw [← he]
          exact hn.idxOf_getElem r.2 hlt
        refine ⟨by simp [h1], fun c hc => ?_, ?_, ?_⟩
        · rcases List.mem_append.mp hc with hc | hc
          · exact h2 c hc
          · simp at hc
            subst hc
            rw [← he]
            exact List.getElem_mem hlt
        · rw [us_snoc, hi]
          show q.2 + r.2 + 1 = _
          omega
        · assumption
      · simp at h
    · rintro ⟨h1, h2, h3, h4⟩
      simp only at h1 h2 h3 h4
      have hne : u ≠ [] := by
        intro h
        rw [h] at h1
        simp at h1
      obtain ⟨v, c, rfl⟩ : ∃ v c, u = v ++ [c] := ⟨u.dropLast, u.getLast hne, (List.dropLast_concat_getLast hne).symm⟩
      rw [us_snoc] at h3
      have hc : c ∈ key := h2 c (by simp)
      refine ⟨(v, us key v), (lev_iff hn many t _).mpr ⟨by simpa using h1, fun d hd => h2 d (List.mem_append.mpr (.inl hd)), rfl, by simp only; omega⟩, ?_⟩
      rw [ext, List.mem_flatMap]
      refine ⟨(c, key.idxOf c), List.mem_zipIdx_iff_getElem?.mpr ?_, ?_⟩
      · have := List.idxOf_lt_length_of_mem hc
        rw [List.getElem?_eq_getElem this, List.getElem_idxOf]
      · unfold ext1
        rw [if_pos (by simp only; omega)]
        simp
        omega
theorem mem_wordsTo {key : Tx} {many : Nat} {u : Tx} : ∀ t, u ∈ wordsTo key many t ↔ ∃ s, 1 ≤ s ∧ s ≤ t ∧ u ∈ finW key many (lev key many s)
  | 0 => by
    constructor
    · intro h
      cases h
    · rintro ⟨s, h1, h2, _⟩
      omega
  | t + 1 => by
    rw [wordsTo, List.mem_append, mem_wordsTo t]
    constructor
    · rintro (⟨s, h1, h2, h3⟩ | h)
      · exact ⟨s, h1, by omega, h3⟩
      · exact ⟨t + 1, by omega, Nat.le_refl _, h⟩
    · rintro ⟨s, h1, h2, h3⟩
      by_cases hs : s = t + 1
      · subst hs
        exact .inr h3
      · exact .inl ⟨s, h1, by omega, h3⟩
theorem mem_runWords {key : Tx} (hn : key.Nodup) (many : Nat) (u : Tx) : u ∈ runWords key many ↔ u ≠ [] ∧ (∀ c ∈ u, c ∈ key) ∧ us key u ≤ many ∧ ((many : Int) - (us key u : Nat)) % (key.length : Int) = 0 := by
  unfold runWords
  rw [mem_wordsTo]
  constructor
  · rintro ⟨s, h1, h2, h3⟩
    unfold finW at h3
    obtain ⟨p, hp, rfl⟩ := List.mem_map.mp h3
    obtain ⟨hp1, hp2⟩ := List.mem_filter.mp hp
    obtain ⟨e1, e2, e3, e4⟩ := (lev_iff hn many s p).mp hp1
    unfold finB at hp2
    rw [decide_eq_true_eq, e3] at hp2
    refine ⟨fun h => ?_, e2, by omega, hp2⟩
    rw [h] at e1
    simp at e1
    omega
  · rintro ⟨h1, h2, h3, h4⟩
    have hl := us_len key u
    have h5 : u.length ≠ 0 := fun h => h1 (List.length_eq_zero_iff.mp h)
    refine ⟨u.length, by omega, by omega, ?_⟩
    unfold finW
    refine List.mem_map.mpr ⟨(u, us key u), List.mem_filter.mpr ⟨(lev_iff hn many _ _).mpr ⟨rfl, h2, rfl, h3⟩, ?_⟩, rfl⟩
    unfold finB
    rw [decide_eq_true_eq]
    exact h4
/-! how many -/
def em (m i : Nat) : Int := if i % m = 0 then 1 else 0
def gw (m many : Nat) (f : List WU) : Int := (f.map fun p => sol m (em m) (many - p.2)).sum
theorem gw_app (m many : Nat) (f g : List WU) : gw m many (f ++ g) = gw m many f + gw m many g := by
  simp [gw, List.sum_append]
theorem gw_row (m many : Nat) (p : WU) (hp : p.2 ≤ many) : ∀ (key : Tx) (s : Nat), gw m many ((key.zipIdx s).flatMap (ext1 many p)) = (((solL m (em m) (many - p.2)).drop s).take key.length).sum
  | [], s => by simp [gw]
  | c :: key, s => by
    rw [List.zipIdx_cons, List.flatMap_cons, gw_app, gw_row m many p hp key (s + 1), List.length_cons]
    have hl := solL_len m (em m) (many - p.2)
    unfold ext1
    by_cases h : p.2 + s + 1 ≤ many
    · simp only
      rw [if_pos h]
      have h1 := solL_get m (em m) (many - p.2) s (by omega)
      have hs : s < (solL m (em m) (many - p.2)).length := by omega
      rw [List.getElem?_eq_getElem hs] at h1
      rw [List.drop_eq_getElem_cons hs, List.take_succ_cons, List.sum_cons, Option.some.inj h1]
      simp only [gw, List.map_cons, List.map_nil, List.sum_cons, List.sum_nil, Int.add_zero]
      rw [show many - (p.2 + s + 1) = many - p.2 - 1 - s by omega]
    · simp only
      rw [if_neg h, List.drop_eq_nil_of_le (by omega), List.drop_eq_nil_of_le (by omega)]
      simp [gw]
theorem gw_ext {key : Tx} {m many : Nat} (hm : key.length = m) (p : WU) (hp : p.2 ≤ many) : gw m many (ext key many p) = ((solL m (em m) (many - p.2)).take m).sum := by
  have := gw_row m many p hp key 0
  rw [List.drop_zero, hm] at this
  exact this
theorem gw_step {key : Tx} {m many : Nat} (hm : key.length = m) : ∀ f : List WU, (∀ p ∈ f, p.2 ≤ many) → gw m many f = ((f.filter (finB key many)).length : Nat) + gw m many (stepW key many f)
  | [], _ => by simp [gw, stepW]
  | p :: f, h => by
    have ih := gw_step hm f fun q hq => h q (List.mem_cons_of_mem _ hq)
    have hp := h p List.mem_cons_self
    have e1 : gw m many (p :: f) = sol m (em m) (many - p.2) + gw m many f := by simp [gw]
    have e2 : stepW key many (p :: f) = ext key many p ++ stepW key many f := by simp [stepW]
    rw [e1, e2, gw_app, gw_ext hm p hp, ih]
    have e3 : sol m (em m) (many - p.2) = em m (many - p.2) + ((solL m (em m) (many - p.2)).take m).sum := rfl
    rw [e3]
    have e4 : finB key many p = true ↔ em m (many - p.2) = 1 := by
      unfold finB em
      rw [decide_eq_true_eq, hm, show ((many : Int) - (p.2 : Int)) = ((many - p.2 : Nat) : Int) by omega]
      constructor
      · intro h
        rw [if_pos (by omega)]
      · intro h
        split at h
        · omega
        · omega
    have e5 : em m (many - p.2) = 0 ∨ em m (many - p.2) = 1 := by
      unfold em
      split
      · exact .inr rfl
      · exact .inl rfl
    by_cases hf : finB key many p = true
    · rw [List.filter_cons_of_pos hf, List.length_cons, e4.mp hf]
      omega
    · rw [List.filter_cons_of_neg hf]
      rcases e5 with e5 | e5
      · rw [e5]
        omega
      · exact absurd (e4.mpr e5) hf
theorem wordsTo_gw {key : Tx} {m many : Nat} (hm : key.length = m) : ∀ t, ((wordsTo key many t).length : Int) = gw m many (lev key many 1) - gw m many (lev key many (t + 1))
  | 0 => by simp [wordsTo]
  | t + 1 => by
    rw [wordsTo, List.length_append, Int.natCast_add, wordsTo_gw hm t]
    have h1 := gw_step hm (lev key many (t + 1)) fun p hp => (lev_in (t + 1) p hp).2.1
    have h2 : (finW key many (lev key many (t + 1))).length = ((lev key many (t + 1)).filter (finB key many)).length := by
      unfold finW
      rw [List.length_map]
    rw [h2]
    have h3 : lev key many (t + 1 + 1) = stepW key many (lev key many (t + 1)) := rfl
    rw [h3]
    omega
theorem solL_congr {m : Nat} {e f : Nat → Int} : ∀ i, (∀ j, j < i → e j = f j) → solL m e i = solL m f i
  | 0, _ => rfl
  | i + 1, h => by
    rw [solL, solL, solL_congr i fun j hj => h j (by omega), h i (by omega)]
theorem cR_sol (m many : Nat) : cR m many = ((solL m (em m) many).take m).sum := by
  unfold cR row
  rw [rowT, List.headD_cons]
  unfold rowV
  rw [if_neg (by omega), rowT_sol, Int.zero_add]
  rw [solL_congr (f := em m) many fun j hj => ?_]
  simp only [em]
  by_cases h : j % m = 0
  · rw [if_pos ⟨hj, h⟩, if_pos h]
  · rw [if_neg (fun z => h z.2), if_neg h]
theorem runWords_cR {key : Tx} {m : Nat} (hm : key.length = m) (many : Nat) : ((runWords key many).length : Int) = cR m many := by
  unfold runWords
  rw [wordsTo_gw hm, lev_end (t := many + 1 + 1) (by omega)]
  have h1 : lev key many 1 = ext key many ([], 0) := by simp [lev, stepW]
  rw [h1, gw_ext hm ([], 0) (Nat.zero_le _), cR_sol]
  simp [gw]
theorem allW_snoc (kp : List Tx) (rs : List Run) (r : Run) : allW kp (rs ++ [r]) = nxtW kp (allW kp rs) r := by
  unfold allW
  rw [List.foldl_append]
  rfl
theorem nxtW_len_eq (kp : List Tx) (r : Run) : ∀ f : List Tx, (nxtW kp f r).length = f.length * (runWords (keyAt kp r.1) r.2.toNat).length
  | [] => by simp [nxtW]
  | w :: f => by
    have e : nxtW kp (w :: f) r = (runWords (keyAt kp r.1) r.2.toNat).map (w ++ ·) ++ nxtW kp f r := by simp [nxtW]
    rw [e, List.length_append, List.length_map, nxtW_len_eq kp r f, List.length_cons, Nat.add_mul, Nat.one_mul]
    omega
theorem prod_snoc (l : List Int) (x : Int) : (l ++ [x]).foldr (· * ·) 1 = l.foldr (· * ·) 1 * x := by
  induction l with
  | nil => simp
  | cons a l ih =>
    rw [List.cons_append, List.foldr_cons, List.foldr_cons, ih, Int.mul_assoc]
theorem allW_cnt (kp : List Tx) (rs : List Run) : ((allW kp rs).length : Int) = cnt kp rs := by
  rw [cnt_prod]
  induction rs using snoc_ind with
  | h0 => rfl
  | hs rs r ih =>
    rw [allW_snoc, nxtW_len_eq, Int.natCast_mul, ih, runWords_cR rfl, List.map_append, List.map_singleton, prod_snoc]
/-! letters of a keypad -/
theorem spot_of {c : Nat} {k : Tx} : ∀ (kp : List Tx) (i j : Nat), kp.flatten.Nodup → kp[j]? = some k → c ∈ k → spot kp i c = (i + j, k.idxOf c + 1)
  | [], i, j, _, h, _ => by simp at h
  | q :: kp, i, 0, _, h, hc => by
    simp at h
    subst h
    unfold spot
    rw [if_pos hc]
    rfl
  | q :: kp, i, j + 1, hn, h, hc => by
    rw [List.flatten_cons, List.nodup_append] at hn
    have hnot : c ∉ q := fun hq => hn.2.2 c hq c (List.mem_flatten.mpr ⟨k, List.mem_of_getElem? (by simpa using h), hc⟩) rfl
    unfold spot
    rw [if_neg hnot, spot_of kp (i + 1) j hn.2.1 (by simpa using h) hc]
    rw [Nat.add_assoc, Nat.add_comm 1 j]
theorem letter_of {kp : List Tx} (hp : KpOk kp) {k : Int} (k0 : 0 ≤ k) (k1 : k < kp.length) {c : Nat} (hc : c ∈ keyAt kp k) : keyOf kp c = k ∧ numOf kp c = (((keyAt kp k).idxOf c + 1 : Nat) : Int) ∧ c ∈ kp.flatten := by
  have hn : k.toNat < kp.length := by omega
  have e : kp[k.toNat]? = some (keyAt kp k) := by
    unfold keyAt
    rw [List.getD_eq_getElem?_getD, List.getElem?_eq_getElem hn]
    rfl
  have h := spot_of kp 0 k.toNat hp.nd e hc
  refine ⟨?_, ?_, List.mem_flatten.mpr ⟨_, key_mem k0 k1, hc⟩⟩
  · unfold keyOf
    rw [h]
    simp only
    omega
  · unfold numOf
    rw [h]
theorem key_nodup {kp : List Tx} (hp : KpOk kp) {k : Int} (k0 : 0 ≤ k) (k1 : k < kp.length) : (keyAt kp k).Nodup := by
  have h := hp.nd
  have hm := key_mem (kp := kp) k0 k1
  unfold List.Nodup at h ⊢
  exact (List.pairwise_flatten.mp h).1 _ hm
theorem addN_addN (S : List Run) (k a b : Int) : addN (addN S k a) k b = addN S k (a + b) := by
  rcases last_cases S with rfl | ⟨i, r, rfl⟩
  · rw [addN_nil, addN_nil]
    have := addN_app [] (k, a) k b
    rw [List.nil_append] at this
    rw [this, if_pos rfl]
    rfl
  · rw [addN_app, addN_app]
    by_cases h : r.1 = k
    · rw [if_pos h, if_pos h, addN_app, if_pos rfl, Int.add_assoc]
    · rw [if_neg h, if_neg h, addN_app, if_pos rfl]
theorem sums_run {kp : List Tx} (hp : KpOk kp) {k : Int} (k0 : 0 ≤ k) (k1 : k < kp.length) (v u : Tx) : u ≠ [] → (∀ c ∈ u, c ∈ keyAt kp k) → sums kp (v ++ u) = addN (sums kp v) k ((us (keyAt kp k) u : Nat) : Int) := by
  induction u using snoc_ind with
  | h0 => exact fun h => absurd rfl h
  | hs u c ih =>
    intro _ h
    obtain ⟨e1, e2, _⟩ := letter_of hp k0 k1 (h c (by simp))
    rw [← List.append_assoc, sums_snoc, e1, e2, us_snoc]
    by_cases hu : u = []
    · subst hu
      simp [us]
    · rw [ih hu fun d hd => h d (List.mem_append.mpr (.inl hd)), addN_addN]
      congr 1
theorem add_far {kp : List Tx} {R S : List Run} {k n : Int} (h : addN R k n = R ++ [(k, n)]) (hs : RS kp R S) (n' : Int) : addN S k n' = S ++ [(k, n')] := by
  rcases last_cases R with rfl | ⟨i, r, rfl⟩
  · have := hs.1
    have : S = [] := by simpa using this.symm
    subst this
    rfl
  · rw [addN_app] at h
    by_cases hk : r.1 = k
    · rw [if_pos hk] at h
      have := congrArg List.length h
      simp at this
    · obtain ⟨S', s, rfl, _, _⟩ := RS_snoc_l hs
      rw [addN_app, if_neg hk]
theorem len_ind {P : List Int → Prop} (h : ∀ l, (∀ l', l'.length < l.length → P l') → P l) (l : List Int) : P l := by
  have : ∀ n (l : List Int), l.length < n → P l := by
    intro n
    induction n with
    | zero =>
      intro l h
      omega
    | succ n ih =>
      intro l hl
      exact h l fun l' hl' => ih l' (by omega)
  exact this (l.length + 1) l (Nat.lt_succ_self _)
/-- all keys of a log are keys -/
abbrev KeyL (kp : List Tx) (l : List Int) : Prop := ∀ k ∈ l, 0 ≤ k ∧ k < kp.length
theorem allW_reads {kp : List Tx} (hp : KpOk kp) (l : List Int) : KeyL kp l → ∀ w ∈ allW kp (runs l), readsB kp l w = true ∧ ∀ c ∈ w, c ∈ kp.flatten := by
  induction l using len_ind with
  | h l ih =>
    intro hl w hw
    rcases runs_dec l with rfl | ⟨l1, k, n, hn, e, hr⟩
    · have : w = [] := by simpa [runs, allW] using hw
      subst this
      exact ⟨rfl, fun c h => nomatch h⟩
    · have hk : 0 ≤ k ∧ k < kp.length := hl k (by rw [e]; refine List.mem_append.mpr (.inr ?_); rw [List.mem_replicate]; exact ⟨by omega, rfl⟩)
      rw [hr, allW_snoc] at hw
      obtain ⟨v, hv, u, hu, rfl⟩ := nxtW_in.mp hw
      simp only [Int.toNat_natCast] at hu
      obtain ⟨u1, u2, u3, u4⟩ := (mem_runWords (key_nodup hp hk.1 hk.2) n u).mp hu
      obtain ⟨ihv, ihw⟩ := ih l1 (by rw [e, List.length_append, List.length_replicate]; omega) (fun q hq => hl q (by rw [e]; exact List.mem_append.mpr (.inl hq))) v hv
      rw [readsB_iff] at ihv
      have hadd : addN (runs l1) k n = runs l1 ++ [(k, (n : Int))] := by
        rw [← hr, e, runs_app _ _ hn]
      refine ⟨?_, fun c hc => ?_⟩
      · rw [readsB_iff, hr, sums_run hp hk.1 hk.2 v u u1 u2, add_far hadd ihv]
        refine (RS_snoc kp _ _ (k, (n : Int)) (k, _)).mpr ⟨ihv, rfl, (rdOk_iff kp k _ _).mpr ⟨by omega, u4⟩⟩
      · rcases List.mem_append.mp hc with hc | hc
        · exact ihw c hc
        · exact (letter_of hp hk.1 hk.2 (u2 c hc)).2.2
theorem head_mem {key : Tx} (h : 1 ≤ key.length) : key.headD 0 ∈ key := by
  cases key with
  | nil => simp at h
  | cons a r => exact List.mem_cons_self
theorem us_rep {key : Tx} (h : 1 ≤ key.length) (n : Nat) : us key (List.replicate n (key.headD 0)) = n := by
  cases key with
  | nil => simp at h
  | cons a r => simp [us]
theorem rep_words {key : Tx} (hn : key.Nodup) (h : 1 ≤ key.length) {n : Nat} (n1 : 1 ≤ n) : List.replicate n (key.headD 0) ∈ runWords key n := by
  refine (mem_runWords hn n _).mpr ⟨?_, fun c hc => ?_, by rw [us_rep h]; exact Nat.le_refl _, by rw [us_rep h, Int.sub_self]; rfl⟩
  · intro z
    have := congrArg List.length z
    simp at this
    omega
  · rw [List.eq_of_mem_replicate hc]
    exact head_mem h
theorem max_word {kp : List Tx} (hp : KpOk kp) (l : List Int) : KeyL kp l → l.map (fst1 kp) ∈ allW kp (runs l) := by
  induction l using len_ind with
  | h l ih =>
    intro hl
    rcases runs_dec l with rfl | ⟨l1, k, n, hn, e, hr⟩
    · exact List.mem_cons_self
    · have hk : 0 ≤ k ∧ k < kp.length := hl k (by rw [e]; refine List.mem_append.mpr (.inr ?_); rw [List.mem_replicate]; exact ⟨by omega, rfl⟩)
      rw [hr, allW_snoc, nxtW_in]
      refine ⟨l1.map (fst1 kp), ih l1 (by rw [e, List.length_append, List.length_replicate]; omega) (fun q hq => hl q (by rw [e]; exact List.mem_append.mpr (.inl hq))), List.replicate n (fst1 kp k), ?_, ?_⟩
      · simp only [Int.toNat_natCast]
        exact rep_words (key_nodup hp hk.1 hk.2) (len_key hp hk.1 hk.2).1 hn
      · rw [e, List.map_append, List.map_replicate]
theorem one_word {key : Tx} (hn : key.Nodup) (h : 1 ≤ key.length) {n : Nat} (n1 : 1 ≤ n) : ∃ c, [c] ∈ runWords key n := by
  have hlt : (n - 1) % key.length < key.length := Nat.mod_lt _ (by omega)
  refine ⟨key[(n - 1) % key.length], (mem_runWords hn n _).mpr ⟨by simp, fun c hc => ?_, ?_, ?_⟩⟩
  · simp at hc
    rw [hc]
    exact List.getElem_mem hlt
  · have e : us key [key[(n - 1) % key.length]] = (n - 1) % key.length + 1 := by
      simp [us, hn.idxOf_getElem]
    rw [e]
    have := Nat.mod_le (n - 1) key.length
    omega
  · have e : us key [key[(n - 1) % key.length]] = (n - 1) % key.length + 1 := by
      simp [us, hn.idxOf_getElem]
    rw [e]
    have h2 := Nat.div_add_mod (n - 1) key.length
    have h3 : (n : Int) - (((n - 1) % key.length + 1 : Nat) : Int) = (key.length : Int) * (((n - 1) / key.length : Nat) : Int) := by
      rw [← Int.natCast_mul]
      omega
    rw [h3, Int.mul_emod_right]
theorem min_word {kp : List Tx} (hp : KpOk kp) (rs : List Run) : (∀ r ∈ rs, 0 ≤ r.1 ∧ r.1 < kp.length ∧ 1 ≤ r.2) → ∃ w ∈ allW kp rs, w.length = rs.length := by
  induction rs using snoc_ind with
  | h0 => exact fun _ => ⟨[], List.mem_cons_self, rfl⟩
  | hs rs r ih =>
    intro h
    obtain ⟨w, hw, e⟩ := ih fun q hq => h q (List.mem_append.mpr (.inl hq))
    obtain ⟨h0, h1, h2⟩ := h r (by simp)
    obtain ⟨c, hc⟩ := one_word (key_nodup hp h0 h1) (len_key hp h0 h1).1 (n := r.2.toNat) (by omega)
    exact ⟨w ++ [c], by rw [allW_snoc, nxtW_in]; exact ⟨w, hw, [c], hc, rfl⟩, by simp [e]⟩
theorem word_ge {kp : List Tx} (rs : List Run) : ∀ w ∈ allW kp rs, rs.length ≤ w.length := by
  induction rs using snoc_ind with
  | h0 => exact fun w _ => Nat.zero_le _
  | hs rs r ih =>
    intro w hw
    rw [allW_snoc, nxtW_in] at hw
    obtain ⟨v, hv, u, hu, rfl⟩ := hw
    have h1 := ih v hv
    have h2 := (wordsTo_in _ u hu).1
    simp
    omega
theorem runs_pos (l : List Int) : ∀ r ∈ runs l, 1 ≤ r.2 := by
  induction l using len_ind with
  | h l ih =>
    rcases runs_dec l with rfl | ⟨l1, k, n, hn, e, hr⟩
    · intro r h
      cases h
    · intro r h
      rw [hr] at h
      rcases List.mem_append.mp h with h | h
      · exact ih l1 (by rw [e, List.length_append, List.length_replicate]; omega) r h
      · simp at h
        subst h
        simp only
        omega
/-! one reading or more -/
theorem two_le {α : Type} {l : List α} {a b : α} (ha : a ∈ l) (hb : b ∈ l) (h : a ≠ b) : 2 ≤ l.length := by
  match l, ha, hb with
  | [], ha, _ => cases ha
  | [x], ha, hb =>
    simp at ha hb
    exact absurd (ha.trans hb.symm) h
  | _ :: _ :: _, _, _ => simp
theorem cR_two {m n : Nat} (hm : 1 ≤ m) (hn : 2 ≤ n) : 2 ≤ cR m n := by
  have nd : (List.range m).Nodup := List.nodup_range
  have hl : (List.range m).length = m := List.length_range
  rw [← runWords_cR hl n]
  have h1 := rep_words nd (by omega) (n := n) (by omega)
  have h2 : ∃ u ∈ runWords (List.range m) n, u.length < n := by
    by_cases h : m = 1
    · subst h
      refine ⟨[0], (mem_runWords nd n _).mpr ⟨by simp, by simp, ?_, ?_⟩, by simp; omega⟩
      · show 1 ≤ n
        omega
      · rw [hl]
        show _ % (1 : Int) = 0
        omega
    · have e0 : (List.range m).headD 0 = 0 := by
        cases m with
        | zero => omega
        | succ m => rw [List.range_succ_eq_map]; rfl
      have e1 : (List.range m).idxOf 1 = 1 := by
        have := nd.idxOf_getElem 1 (by rw [hl]; omega)
        rwa [List.getElem_range] at this
      have e2 := us_rep (key := List.range m) (by omega) (n - 2)
      have e3 : us (List.range m) (List.replicate (n - 2) ((List.range m).headD 0) ++ [1]) = n := by
        rw [us_snoc, e1, e2]
        omega
      refine ⟨List.replicate (n - 2) ((List.range m).headD 0) ++ [1], (mem_runWords nd n _).mpr ⟨by simp, fun c hc => ?_, by rw [e3]; exact Nat.le_refl _, by rw [e3, Int.sub_self]; rfl⟩, by simp; omega⟩
      rw [List.mem_range]
      rcases List.mem_append.mp hc with hc | hc
      · rw [List.eq_of_mem_replicate hc, e0]
        omega
      · simp at hc
        omega
  obtain ⟨u, hu, hul⟩ := h2
  have := two_le h1 hu (by
    intro z
    rw [← z, List.length_replicate] at hul
    omega)
  omega
theorem cR_one {m : Nat} (hm : 1 ≤ m) : cR m 1 = 1 := by
  rw [cR_sol]
  obtain ⟨k, rfl⟩ : ∃ k, m = k + 1 := ⟨m - 1, by omega⟩
  simp [solL, em]
theorem prod_pos : ∀ {l : List Int}, (∀ x ∈ l, 1 ≤ x) → 1 ≤ l.foldr (· * ·) 1
  | [], _ => Int.le_refl _
  | x :: l, h => by
    have h1 := h x List.mem_cons_self
    have h2 := prod_pos fun y hy => h y (List.mem_cons_of_mem x hy)
    rw [List.foldr_cons]
    have := Int.mul_le_mul h1 h2 (by omega) (by omega)
    simpa using this
theorem prod_big {x : Int} (hx : 2 ≤ x) : ∀ {l : List Int}, (∀ x ∈ l, 1 ≤ x) → x ∈ l → 2 ≤ l.foldr (· * ·) 1
  | y :: l, h, hm => by
    have h1 := h y List.mem_cons_self
    have hl : ∀ z ∈ l, 1 ≤ z := fun z hz => h z (List.mem_cons_of_mem y hz)
    rw [List.foldr_cons]
    rcases List.mem_cons.mp hm with rfl | hm
    · have := Int.mul_le_mul hx (prod_pos hl) (by omega) (by omega)
      simpa using this
    · have := Int.mul_le_mul h1 (prod_big hx hl hm) (by omega) (by omega)
      simpa using this
theorem cnt_one {kp : List Tx} (hp : KpOk kp) {l : List Int} (hl : KeyL kp l) : 1 ≤ cnt kp (runs l) ∧ (cnt kp (runs l) > 1 ↔ (runs l).length ≠ l.length) := by
  have hr : ∀ r ∈ runs l, 0 ≤ r.1 ∧ r.1 < kp.length ∧ 1 ≤ r.2 := fun r h => by
    obtain ⟨h1, h2, _⟩ := runs_in l [] 0 (fun _ z => nomatch z) r h
    rcases h1 with h1 | ⟨q, hq, _⟩
    · have := hl _ h1
      exact ⟨this.1, this.2, h2⟩
    · cases hq
  have hge : ∀ x ∈ (runs l).map (fun r => cR (keyAt kp r.1).length r.2.toNat), 1 ≤ x := fun x hx => by
    obtain ⟨r, h1, rfl⟩ := List.mem_map.mp hx
    obtain ⟨h0, h2, h3⟩ := hr r h1
    have hk := len_key hp h0 h2
    by_cases h4 : r.2 = 1
    · rw [h4]
      show 1 ≤ cR _ 1
      rw [cR_one hk.1]
      exact Int.le_refl _
    · have := cR_two hk.1 (n := r.2.toNat) (by omega)
      omega
  rw [cnt_prod]
  refine ⟨prod_pos hge, ?_⟩
  have hsum := sumR_runs l
  have key : ∀ rs : List Run, (∀ r ∈ rs, 1 ≤ r.2) → (rs.length : Int) ≤ sumR rs ∧ ((∃ r ∈ rs, 2 ≤ r.2) ↔ (rs.length : Int) ≠ sumR rs) := by
    intro rs
    induction rs with
    | nil => intro _; simp [sumR]
    | cons r rs ih =>
      intro h
      obtain ⟨i1, i2⟩ := ih fun q hq => h q (List.mem_cons_of_mem _ hq)
      have h1 := h r List.mem_cons_self
      have e : sumR (r :: rs) = r.2 + sumR rs := by simp [sumR]
      rw [e, List.length_cons]
      refine ⟨by omega, ?_⟩
      constructor
      · rintro ⟨q, hq, h2⟩
        rcases List.mem_cons.mp hq with rfl | hq
        · omega
        · have := i2.mp ⟨q, hq, h2⟩
          omega
      · intro h3
        by_cases h4 : 2 ≤ r.2
        · exact ⟨r, List.mem_cons_self, h4⟩
        · obtain ⟨q, hq, h5⟩ := i2.mpr (by omega)
          exact ⟨q, List.mem_cons_of_mem _ hq, h5⟩
  have k2 := (key (runs l) fun r h => (hr r h).2.2).2
  rw [hsum] at k2
  constructor
  · intro h hn
    have hall : ∀ r ∈ runs l, r.2 = 1 := fun r hrm => by
      have h3 := (hr r hrm).2.2
      by_cases h4 : 2 ≤ r.2
      · exact absurd (by omega) (k2.mp ⟨r, hrm, h4⟩)
      · omega
    have hone : ∀ x ∈ (runs l).map (fun r => cR (keyAt kp r.1).length r.2.toNat), x = 1 := fun x hx => by
      obtain ⟨r, h1, rfl⟩ := List.mem_map.mp hx
      obtain ⟨h0, h2, h3⟩ := hr r h1
      rw [hall r h1]
      exact cR_one (len_key hp h0 h2).1
    have : ∀ xs : List Int, (∀ x ∈ xs, x = 1) → xs.foldr (· * ·) 1 = 1 := fun xs => by
      induction xs with
      | nil => intro _; rfl
      | cons x xs ih =>
        intro h
        rw [List.foldr_cons, ih fun y hy => h y (List.mem_cons_of_mem _ hy), h x List.mem_cons_self]
        rfl
    rw [this _ hone] at h
    omega
  · intro h
    obtain ⟨r, hrm, h2⟩ := k2.mpr (by omega)
    obtain ⟨h0, h1, _⟩ := hr r hrm
    have := prod_big (x := cR (keyAt kp r.1).length r.2.toNat) (cR_two (len_key hp h0 h1).1 (by omega)) hge (List.mem_map.mpr ⟨r, hrm, rfl⟩)
    omega
end LW

namespace LW
open PySem PySem.Spec PyProof.Rows L2 DL
theorem up {p : DP} {ds : List D} {Q : D → Prop} {W : Str → Prop} (m : MoP p) (h : p ds Q noW) : p ds Q W := m ds Q Q noW W (fun _ h => h) (fun _ h => h.elim) h
theorem LogOk.keys {kp : List Tx} {l : List Int} (h : LogOk kp.length l) : KeyL kp l := fun k hk => h.key k hk
/-- slots behind a turn of the law's loop: the script and any others -/
def LawSl (ns : List Int) (m : Nat) (ρ : List Sl) : Prop := ∃ r : List Sl, ρ = .scr ns :: r ∧ r.length = m
theorem len_succ {α : Type} {l : List α} {n : Nat} (h : l.length = n + 1) : ∃ x r, l = x :: r ∧ r.length = n := by
  cases l with
  | nil => simp at h
  | cons x r => exact ⟨x, r, rfl, by simpa using h⟩
theorem len_rep {n : Nat} : (List.replicate n Sl.no).length = n := List.length_replicate
/-- the loop of a law over its cells -/
theorem law_loop {a b : Int} {ns : List Int} {t tail : DS} {m : Nat} {vs : List Str} (hvs : vs.length = m + 3) (hn : ns.length ≤ 63) (ha : 0 ≤ a ∧ a ≤ 63) (hb : 0 ≤ b ∧ b ≤ 63)
    (hbody : ∀ (q : Addr) (i : Nat) (r : List Sl) (N BK : List Sl → Prop), r.length = m → (∀ ρ', LawSl ns (m + 2) ρ' → N ρ') → t { nx := N, rt := endsL.rt, bk := BK, ct := N, ro := endsL.ro } (.scr ns :: .va (.int (0 + (i : Int))) :: .src q :: r))
    (htail : ∀ ρ', LawSl ns (m + 2) ρ' → tail endsL ρ') :
    dSeq (dFor (dRng1 (dCons (dCall (gI2L fun i j => if j > i then j else i) (dCons (dC (.int a)) (dCons (dCall (gI2L fun i j => if j < i then j else i) (dCons (dC (.int b)) (dCons (dScrLen 0) dNil))) dNil))) dNil)) (dgName 1) (dSeq (dNewSrc p__law_source 2 0 (dVar 1)) t)) tail endsL (startL vs ns) := by
  unfold startL
  rw [hvs]
  show dSeq _ _ _ (.scr ns :: .no :: .no :: List.replicate m .no)
  refine seq_gen fun K hK => ?_
  simp only [dFor, dRng1, dCall, dCons, dNil, dC, dScrLen, sg, List.getD_cons_zero, gI2L_i, asI_i]
  generalize hN0 : (if (if (ns.length : Int) < b then (ns.length : Int) else b) > a then (if (ns.length : Int) < b then (ns.length : Int) else b) else a) = N0
  have hN63 : 0 ≤ N0 ∧ N0 ≤ 63 := by
    rw [← hN0]
    split <;> split <;> omega
  clear hN0
  refine ⟨⟨by omega, by omega⟩, ?_⟩
  unfold rng1
  refine for_rng (fun i ρ => LawSl ns (m + 2) ρ) ⟨.no :: .no :: List.replicate m .no, rfl, by simp⟩ (fun i hi ρ ⟨r, hρ, hr⟩ N hN => ?_) (fun ρ h => hK _ (htail ρ h))
  subst hρ
  obtain ⟨x, r1, rfl, hr1⟩ := len_succ hr
  obtain ⟨y, r2, rfl, hr2⟩ := len_succ hr1
  simp only [dgName, List.set_cons_zero, List.set_cons_succ]
  refine seq_gen fun K' hK' => ?_
  simp only [dNewSrc, dVar, sg, List.getD_cons_zero, List.getD_cons_succ, asI_i]
  refine ⟨⟨by omega, by omega⟩, fun q => hK' _ ?_⟩
  simp only [List.set_cons_zero, List.set_cons_succ]
  exact hbody q i r2 N _ hr2 hN
theorem cut_take (ds : List D) (n : Nat) : DL.cutD ds none (some (n : Int)) = ds.take n := by
  unfold DL.cutD
  rw [show HT.sIx ds.length 0 none = 0 from rfl, show HT.sIx ds.length ds.length (some ((n : Nat) : Int)) = min n ds.length from HT.sIx_nat _ _ _, List.drop_zero, Nat.sub_zero]
  by_cases h : n ≤ ds.length
  · rw [Nat.min_eq_left h]
  · rw [Nat.min_eq_right (by omega), List.take_of_length_le (Nat.le_refl _), List.take_of_length_le (by omega)]
theorem cut_drop (ds : List D) (n : Nat) : DL.cutD ds (some (n : Int)) none = ds.drop n := by
  unfold DL.cutD
  rw [show HT.sIx ds.length 0 (some ((n : Nat) : Int)) = min n ds.length from HT.sIx_nat _ _ _, show HT.sIx ds.length ds.length none = ds.length from rfl]
  by_cases h : n ≤ ds.length
  · rw [Nat.min_eq_left h, List.take_of_length_le (by rw [List.length_drop]; omega)]
  · rw [Nat.min_eq_right (by omega), Nat.sub_self, List.take_zero, List.drop_eq_nil_of_le (by omega)]
theorem LogOk.take {n : Nat} {l : List Int} (h : ∀ k ∈ l, 0 ≤ k ∧ k < n) : LogOk n (l.take 40) := ⟨by rw [List.length_take]; omega, fun k hk => h k (List.mem_of_mem_take hk)⟩
theorem kpOk_of {kp : List Tx} (h : (decide (1 ≤ kp.length) && decide (kp.length ≤ 10) && kp.all (fun k => decide (1 ≤ k.length) && decide (k.length ≤ 6) && k.all fun c => decide (97 ≤ c) && decide (c ≤ 122)) && decide kp.flatten.Nodup) = true) : KpOk kp := by
  simp only [Bool.and_eq_true, decide_eq_true_eq, List.all_eq_true] at h
  exact ⟨h.1.1.1, h.1.1.2, fun k hk => (h.1.2 k hk).1.1, fun k hk => (h.1.2 k hk).1.2, fun k hk c hc => (h.1.2 k hk).2 c hc, h.2⟩
theorem logOk_of {n : Nat} {l : List Int} (h : (decide (l.length ≤ 40) && l.all fun k => decide (0 ≤ k) && decide (k < n)) = true) : LogOk n l := by
  simp only [Bool.and_eq_true, decide_eq_true_eq, List.all_eq_true] at h
  exact ⟨h.1, h.2⟩
theorem eqOk_of {n m : Nat} {x y : D} (h1 : Shp n x) (h2 : Shp m y) (hn : n ≤ 64 := by decide) (hm : m ≤ 64 := by decide) : eqOk x y = true := by
  unfold eqOk
  rw [h1.ok hn, h2.ok hm]
  simp
/-- slices of texts -/
theorem cutS_tx (l : Tx) (lo hi : Option Int) : cutS (tx l) lo hi = tx ((l.drop (HT.sIx l.length 0 lo)).take (HT.sIx l.length l.length hi - HT.sIx l.length 0 lo)) := by
  unfold cutS
  rw [tx_list, tx_length]
  rfl
theorem cutS_take (l : Tx) (n : Nat) : cutS (tx l) none (some (n : Int)) = tx (l.take n) := by
  rw [cutS_tx, show HT.sIx l.length 0 none = 0 from rfl, show HT.sIx l.length l.length (some ((n : Nat) : Int)) = min n l.length from HT.sIx_nat _ _ _, List.drop_zero, Nat.sub_zero]
  by_cases h : n ≤ l.length
  · rw [Nat.min_eq_left h]
  · rw [Nat.min_eq_right (by omega), List.take_of_length_le (Nat.le_refl _), List.take_of_length_le (by omega)]
theorem cutS_drop (l : Tx) (n : Nat) : cutS (tx l) (some (n : Int)) none = tx (l.drop n) := by
  rw [cutS_tx, show HT.sIx l.length 0 (some ((n : Nat) : Int)) = min n l.length from HT.sIx_nat _ _ _, show HT.sIx l.length l.length none = l.length from rfl]
  by_cases h : n ≤ l.length
  · rw [Nat.min_eq_left h, List.take_of_length_le (by rw [List.length_drop]; omega)]
  · rw [Nat.min_eq_right (by omega), Nat.sub_self, List.take_zero, List.drop_eq_nil_of_le (by omega)]
theorem if_tf {a b : Prop} (h : b) : if true = false then a else b := by
  rw [if_neg (fun z => Bool.noConfusion z)]
  exact h
theorem if_ft {a b : Prop} (h : b) : if false = true then a else b := by
  rw [if_neg (fun z => Bool.noConfusion z)]
  exact h
theorem if_tt {a b : Prop} (h : a) : if true = true then a else b := by
  rw [if_pos rfl]
  exact h
theorem if_ff {a b : Prop} (h : a) : if false = false then a else b := by
  rw [if_pos rfl]
  exact h
end LW

namespace LW
open PySem PySem.Spec PyProof.Rows L2 DL
/-! _law_error_name -/
abbrev n__law_error_name : List Str := ["e", "some", "words", "names", "word", "good"]
def t__law_error_name (nm : Str) (a : Addr) : DS := (dSeq (dAsg (dLst (dCons (dIsE 0 a (isNm nm "InvalidKeypad")) (dCons (dIsE 0 a (isNm nm "InvalidText")) (dCons (dIsE 0 a (isNm nm "InvalidLog")) dNil)))) (dgName 1))
      (dSeq (dAsg (dOp gAdd (dVar 1) (dLst (dCons (dIsE 0 a (isNm nm "InvalidNumber")) (dCons (dIsE 0 a (isNm nm "InvalidThreshold")) (dCons (dIsE 0 a (isNm nm "InvalidPress")) dNil))))) (dgName 1))
      (dSeq (dAsg (dOp gAdd (dVar 1) (dLst (dCons (dIsE 0 a (isNm nm "TooMany")) (dCons (dIsE 0 a (isNm nm "TooOften")) (dCons (dIsE 0 a (isNm nm "NothingToUndo")) dNil))))) (dgName 1))
      (dSeq (dAsg (dOp gAdd (dVar 1) (dLst (dCons (dIsE 0 a (isNm nm "PressError")) (dCons (dIsE 0 a true) dNil)))) (dgName 1))
      (dSeq (dAsg (dC (.str "pad word log number limit press many often undo base value")) (dgName 2))
      (dSeq (dAsg (dLc (dZipH (dCons (dM1 gSplit (dVar 2) (dC (.str " "))) (dCons (dVar 1) dNil))) (dgTup (dgCons (dgName 4) (dgCons (dgName 5) dgNil))) (dTest (dVar 5)) (dVar 4) [4, 5]) (dgName 3))
      (dRet (dIf (dTest (dOp gEq (dSl (dVar 3) (dPSo (dC (.int 1))) dPNo) (dLst (dCons (dC (.str "base")) (dCons (dC (.str "value")) dNil))))) (dOp gIdx (dVar 3) (dC (.int 0))) (dC (.str "other"))))))))))
def errL : List Str := ["InvalidKeypad", "InvalidText", "InvalidLog", "InvalidNumber", "InvalidThreshold", "InvalidPress", "TooMany", "TooOften", "NothingToUndo"]
def errW : List Str := ["pad", "word", "log", "number", "limit", "press", "many", "often", "undo", "base", "value"]
def errB (nm : Str) : List Bool := [isNm nm "InvalidKeypad", isNm nm "InvalidText", isNm nm "InvalidLog", isNm nm "InvalidNumber", isNm nm "InvalidThreshold", isNm nm "InvalidPress", isNm nm "TooMany", isNm nm "TooOften", isNm nm "NothingToUndo", isNm nm "PressError", true]
theorem split_words : Txt.split "pad word log number limit press many often undo base value" " " = errW := by decide +kernel
theorem names_err : ∀ nm ∈ errL, ((errW.zip (errB nm)).filter (·.2)).map (·.1) = [errN nm, "base", "value"] := by decide +kernel
theorem D__law_error_name (nm : Str) (a : Addr) (h : nm ∈ errL) : t__law_error_name nm a (endsE nm) (startE n__law_error_name a) := by
  show t__law_error_name nm a (endsE nm) [.raw (.ref a), .no, .no, .no, .no, .no]
  unfold t__law_error_name
  refine seq_gen fun K hK => ?_
  simp only [dRet, dRetN, dAnd, dOr, dNot, dTest, dTAnd, dTOr, dTNot, dIf, dChain, dUn, dOp, dCall, dC, dVar, dCons, dNil, dTup, dLst, dSeq, dIfS, dAsg, dgName, dgNil, dPar, dParEO, dParOE, dParOO, dFor, dIter, dNext, dBreak, dCont, dDrop, dRaise, dFn, dFnS, dFnO, dM1, dLc, dSl, dSlV, dRevV, dLenV, dIdxV, dApp, dSetI, dPopAt, dCmpV, dOwn, dOwnV, dRetO, dRng1, dRng2, dRng3, dPNo, dPSo, dYes, dLenSet, dScrLen, dScrIdx, dSrcIdx, dSrcSet, dNewSrc, oLst, oRep, oListStr, gEq, gNe, gIsN, gNotN, gIsB, gNotB, gIsi, sg, List.getD_cons_zero, List.getD_cons_succ, List.set_cons_zero, List.set_cons_succ, if_true, if_false, reduceIte, endsD, endsS, endsO, endsN, endsL, asB_b, asI_i, asL_l, itemsP_l, itemsP_t, itemsP_s, itemsP_d, gAdd_i, gAdd_s, gAdd_t, gAdd_l, gI2_i, gMul_i, gMul_t, gMul_l, gMul_s, gNeg_i, gLen_s, gLen_l, gLen_t, gL1_1, gAll_l, gSum_l, gI2L_i, gMaxL_l, gMinL_l, gJoin_l, gJoin_t, gSl_l, gSl_t, gSl_s, gRev_l, wipeS, unwipe, keepV, gIdx_l, gIdx_t, gIdx_s, gIdx_d, dVarD, dDNew, dDNewT, dDPut, dDGetV, dDInV, dDEmpty, dDOne, dOwnD, dParED, dPar3, dEnum, dZip, dgTup_t, dgCons_c, dIsE, gSplit, dZipH, dM1]
  refine ⟨trivial, trivial, trivial, le3, hK _ ?_⟩
  clear hK
  refine seq_gen fun K hK => ?_
  simp only [dRet, dRetN, dAnd, dOr, dNot, dTest, dTAnd, dTOr, dTNot, dIf, dChain, dUn, dOp, dCall, dC, dVar, dCons, dNil, dTup, dLst, dSeq, dIfS, dAsg, dgName, dgNil, dPar, dParEO, dParOE, dParOO, dFor, dIter, dNext, dBreak, dCont, dDrop, dRaise, dFn, dFnS, dFnO, dM1, dLc, dSl, dSlV, dRevV, dLenV, dIdxV, dApp, dSetI, dPopAt, dCmpV, dOwn, dOwnV, dRetO, dRng1, dRng2, dRng3, dPNo, dPSo, dYes, dLenSet, dScrLen, dScrIdx, dSrcIdx, dSrcSet, dNewSrc, oLst, oRep, oListStr, gEq, gNe, gIsN, gNotN, gIsB, gNotB, gIsi, sg, List.getD_cons_zero, List.getD_cons_succ, List.set_cons_zero, List.set_cons_succ, if_true, if_false, reduceIte, endsD, endsS, endsO, endsN, endsL, asB_b, asI_i, asL_l, itemsP_l, itemsP_t, itemsP_s, itemsP_d, gAdd_i, gAdd_s, gAdd_t, gAdd_l, gI2_i, gMul_i, gMul_t, gMul_l, gMul_s, gNeg_i, gLen_s, gLen_l, gLen_t, gL1_1, gAll_l, gSum_l, gI2L_i, gMaxL_l, gMinL_l, gJoin_l, gJoin_t, gSl_l, gSl_t, gSl_s, gRev_l, wipeS, unwipe, keepV, gIdx_l, gIdx_t, gIdx_s, gIdx_d, dVarD, dDNew, dDNewT, dDPut, dDGetV, dDInV, dDEmpty, dDOne, dOwnD, dParED, dPar3, dEnum, dZip, dgTup_t, dgCons_c, dIsE, gSplit, dZipH, dM1]
  refine ⟨trivial, trivial, trivial, le3, small_le (by show 3 + 3 ≤ 1000; decide), hK _ ?_⟩
  clear hK
  refine seq_gen fun K hK => ?_
  simp only [dRet, dRetN, dAnd, dOr, dNot, dTest, dTAnd, dTOr, dTNot, dIf, dChain, dUn, dOp, dCall, dC, dVar, dCons, dNil, dTup, dLst, dSeq, dIfS, dAsg, dgName, dgNil, dPar, dParEO, dParOE, dParOO, dFor, dIter, dNext, dBreak, dCont, dDrop, dRaise, dFn, dFnS, dFnO, dM1, dLc, dSl, dSlV, dRevV, dLenV, dIdxV, dApp, dSetI, dPopAt, dCmpV, dOwn, dOwnV, dRetO, dRng1, dRng2, dRng3, dPNo, dPSo, dYes, dLenSet, dScrLen, dScrIdx, dSrcIdx, dSrcSet, dNewSrc, oLst, oRep, oListStr, gEq, gNe, gIsN, gNotN, gIsB, gNotB, gIsi, sg, List.getD_cons_zero, List.getD_cons_succ, List.set_cons_zero, List.set_cons_succ, if_true, if_false, reduceIte, endsD, endsS, endsO, endsN, endsL, asB_b, asI_i, asL_l, itemsP_l, itemsP_t, itemsP_s, itemsP_d, gAdd_i, gAdd_s, gAdd_t, gAdd_l, gI2_i, gMul_i, gMul_t, gMul_l, gMul_s, gNeg_i, gLen_s, gLen_l, gLen_t, gL1_1, gAll_l, gSum_l, gI2L_i, gMaxL_l, gMinL_l, gJoin_l, gJoin_t, gSl_l, gSl_t, gSl_s, gRev_l, wipeS, unwipe, keepV, gIdx_l, gIdx_t, gIdx_s, gIdx_d, dVarD, dDNew, dDNewT, dDPut, dDGetV, dDInV, dDEmpty, dDOne, dOwnD, dParED, dPar3, dEnum, dZip, dgTup_t, dgCons_c, dIsE, gSplit, dZipH, dM1]
  refine ⟨trivial, trivial, trivial, le3, small_le (by show 6 + 3 ≤ 1000; decide), hK _ ?_⟩
  clear hK
  refine seq_gen fun K hK => ?_
  simp only [dRet, dRetN, dAnd, dOr, dNot, dTest, dTAnd, dTOr, dTNot, dIf, dChain, dUn, dOp, dCall, dC, dVar, dCons, dNil, dTup, dLst, dSeq, dIfS, dAsg, dgName, dgNil, dPar, dParEO, dParOE, dParOO, dFor, dIter, dNext, dBreak, dCont, dDrop, dRaise, dFn, dFnS, dFnO, dM1, dLc, dSl, dSlV, dRevV, dLenV, dIdxV, dApp, dSetI, dPopAt, dCmpV, dOwn, dOwnV, dRetO, dRng1, dRng2, dRng3, dPNo, dPSo, dYes, dLenSet, dScrLen, dScrIdx, dSrcIdx, dSrcSet, dNewSrc, oLst, oRep, oListStr, gEq, gNe, gIsN, gNotN, gIsB, gNotB, gIsi, sg, List.getD_cons_zero, List.getD_cons_succ, List.set_cons_zero, List.set_cons_succ, if_true, if_false, reduceIte, endsD, endsS, endsO, endsN, endsL, asB_b, asI_i, asL_l, itemsP_l, itemsP_t, itemsP_s, itemsP_d, gAdd_i, gAdd_s, gAdd_t, gAdd_l, gI2_i, gMul_i, gMul_t, gMul_l, gMul_s, gNeg_i, gLen_s, gLen_l, gLen_t, gL1_1, gAll_l, gSum_l, gI2L_i, gMaxL_l, gMinL_l, gJoin_l, gJoin_t, gSl_l, gSl_t, gSl_s, gRev_l, wipeS, unwipe, keepV, gIdx_l, gIdx_t, gIdx_s, gIdx_d, dVarD, dDNew, dDNewT, dDPut, dDGetV, dDInV, dDEmpty, dDOne, dOwnD, dParED, dPar3, dEnum, dZip, dgTup_t, dgCons_c, dIsE, gSplit, dZipH, dM1]
  refine ⟨trivial, trivial, le2, small_le (by show 9 + 2 ≤ 1000; decide), hK _ ?_⟩
  clear hK
  refine seq_gen fun K hK => ?_
  simp only [dRet, dRetN, dAnd, dOr, dNot, dTest, dTAnd, dTOr, dTNot, dIf, dChain, dUn, dOp, dCall, dC, dVar, dCons, dNil, dTup, dLst, dSeq, dIfS, dAsg, dgName, dgNil, dPar, dParEO, dParOE, dParOO, dFor, dIter, dNext, dBreak, dCont, dDrop, dRaise, dFn, dFnS, dFnO, dM1, dLc, dSl, dSlV, dRevV, dLenV, dIdxV, dApp, dSetI, dPopAt, dCmpV, dOwn, dOwnV, dRetO, dRng1, dRng2, dRng3, dPNo, dPSo, dYes, dLenSet, dScrLen, dScrIdx, dSrcIdx, dSrcSet, dNewSrc, oLst, oRep, oListStr, gEq, gNe, gIsN, gNotN, gIsB, gNotB, gIsi, sg, List.getD_cons_zero, List.getD_cons_succ, List.set_cons_zero, List.set_cons_succ, if_true, if_false, reduceIte, endsD, endsS, endsO, endsN, endsL, asB_b, asI_i, asL_l, itemsP_l, itemsP_t, itemsP_s, itemsP_d, gAdd_i, gAdd_s, gAdd_t, gAdd_l, gI2_i, gMul_i, gMul_t, gMul_l, gMul_s, gNeg_i, gLen_s, gLen_l, gLen_t, gL1_1, gAll_l, gSum_l, gI2L_i, gMaxL_l, gMinL_l, gJoin_l, gJoin_t, gSl_l, gSl_t, gSl_s, gRev_l, wipeS, unwipe, keepV, gIdx_l, gIdx_t, gIdx_s, gIdx_d, dVarD, dDNew, dDNewT, dDPut, dDGetV, dDInV, dDEmpty, dDOne, dOwnD, dParED, dPar3, dEnum, dZip, dgTup_t, dgCons_c, dIsE, gSplit, dZipH, dM1]
  refine hK _ ?_
  clear hK
  have eb : [PyData.bool (isNm nm "InvalidKeypad"), PyData.bool (isNm nm "InvalidText"), PyData.bool (isNm nm "InvalidLog")] ++ [PyData.bool (isNm nm "InvalidNumber"), PyData.bool (isNm nm "InvalidThreshold"), PyData.bool (isNm nm "InvalidPress")] ++ [PyData.bool (isNm nm "TooMany"), PyData.bool (isNm nm "TooOften"), PyData.bool (isNm nm "NothingToUndo")] ++ [PyData.bool (isNm nm "PressError"), PyData.bool true] = (errB nm).map PyData.bool := rfl
  rw [eb]
  have l1 : ((" " : Str).length == 0) = false := by decide +kernel
  have l2 : ("pad word log number limit press many often undo base value" : Str).length + 2 ≤ sizeLine := by decide +kernel
  have l3 := split_words
  clear eb
  generalize hB : errB nm = eB
  refine seq_gen fun K hK => ?_
  refine And.intro rfl (And.intro l1 (And.intro l2 ?_))
  rw [l3]
  show dLcL _ _ _ _ _ (zipD (errW.map PyData.str) (eB.map PyData.bool)) _ _
  rw [zipD_map]
  refine lc_filter (fun p : Str × Bool => PyData.tuple [.str p.1, .bool p.2]) (fun p => p.2) (fun p => PyData.str p.1) (errW.zip eB) [] (fun p hp R N hR hN => ?_) (small_le (by rw [← hB]; show 0 + 11 ≤ 1000; decide)) ?_
  · obtain ⟨x, b⟩ := p
    simp only [dRet, dRetN, dAnd, dOr, dNot, dTest, dTAnd, dTOr, dTNot, dIf, dChain, dUn, dOp, dCall, dC, dVar, dCons, dNil, dTup, dLst, dSeq, dIfS, dAsg, dgName, dgNil, dPar, dParEO, dParOE, dParOO, dFor, dIter, dNext, dBreak, dCont, dDrop, dRaise, dFn, dFnS, dFnO, dM1, dLc, dSl, dSlV, dRevV, dLenV, dIdxV, dApp, dSetI, dPopAt, dCmpV, dOwn, dOwnV, dRetO, dRng1, dRng2, dRng3, dPNo, dPSo, dYes, dLenSet, dScrLen, dScrIdx, dSrcIdx, dSrcSet, dNewSrc, oLst, oRep, oListStr, gEq, gNe, gIsN, gNotN, gIsB, gNotB, gIsi, sg, List.getD_cons_zero, List.getD_cons_succ, List.set_cons_zero, List.set_cons_succ, if_true, if_false, reduceIte, endsD, endsS, endsO, endsN, endsL, asB_b, asI_i, asL_l, itemsP_l, itemsP_t, itemsP_s, itemsP_d, gAdd_i, gAdd_s, gAdd_t, gAdd_l, gI2_i, gMul_i, gMul_t, gMul_l, gMul_s, gNeg_i, gLen_s, gLen_l, gLen_t, gL1_1, gAll_l, gSum_l, gI2L_i, gMaxL_l, gMinL_l, gJoin_l, gJoin_t, gSl_l, gSl_t, gSl_s, gRev_l, wipeS, unwipe, keepV, gIdx_l, gIdx_t, gIdx_s, gIdx_d, dVarD, dDNew, dDNewT, dDPut, dDGetV, dDInV, dDEmpty, dDOne, dOwnD, dParED, dPar3, dEnum, dZip, dgTup_t, dgCons_c, dIsE, gSplit, dZipH, dM1]
    refine ⟨trivial, ?_⟩
    cases b with
    | true => exact hR rfl _ rfl
    | false => exact hN rfl _ rfl
  · have e1 : ((errW.zip eB).filter (fun p => p.2)).map (fun p => PyData.str p.1) = [.str (errN nm), .str "base", .str "value"] := by
      have := congrArg (List.map PyData.str) (names_err nm h)
      rw [List.map_map, hB] at this
      exact this
    rw [e1]
    simp only [List.nil_append, dRet, dRetN, dAnd, dOr, dNot, dTest, dTAnd, dTOr, dTNot, dIf, dChain, dUn, dOp, dCall, dC, dVar, dCons, dNil, dTup, dLst, dSeq, dIfS, dAsg, dgName, dgNil, dPar, dParEO, dParOE, dParOO, dFor, dIter, dNext, dBreak, dCont, dDrop, dRaise, dFn, dFnS, dFnO, dM1, dLc, dSl, dSlV, dRevV, dLenV, dIdxV, dApp, dSetI, dPopAt, dCmpV, dOwn, dOwnV, dRetO, dRng1, dRng2, dRng3, dPNo, dPSo, dYes, dLenSet, dScrLen, dScrIdx, dSrcIdx, dSrcSet, dNewSrc, oLst, oRep, oListStr, gEq, gNe, gIsN, gNotN, gIsB, gNotB, gIsi, sg, List.getD_cons_zero, List.getD_cons_succ, List.set_cons_zero, List.set_cons_succ, if_true, if_false, reduceIte, endsD, endsS, endsO, endsN, endsL, asB_b, asI_i, asL_l, itemsP_l, itemsP_t, itemsP_s, itemsP_d, gAdd_i, gAdd_s, gAdd_t, gAdd_l, gI2_i, gMul_i, gMul_t, gMul_l, gMul_s, gNeg_i, gLen_s, gLen_l, gLen_t, gL1_1, gAll_l, gSum_l, gI2L_i, gMaxL_l, gMinL_l, gJoin_l, gJoin_t, gSl_l, gSl_t, gSl_s, gRev_l, wipeS, unwipe, keepV, gIdx_l, gIdx_t, gIdx_s, gIdx_d, dVarD, dDNew, dDNewT, dDPut, dDGetV, dDInV, dDEmpty, dDOne, dOwnD, dParED, dPar3, dEnum, dZip, dgTup_t, dgCons_c, dIsE, gSplit, dZipH, dM1]
    refine hK _ ?_
    clear hK
    simp only [dRet, dRetN, dAnd, dOr, dNot, dTest, dTAnd, dTOr, dTNot, dIf, dChain, dUn, dOp, dCall, dC, dVar, dCons, dNil, dTup, dLst, dSeq, dIfS, dAsg, dgName, dgNil, dPar, dParEO, dParOE, dParOO, dFor, dIter, dNext, dBreak, dCont, dDrop, dRaise, dFn, dFnS, dFnO, dM1, dLc, dSl, dSlV, dRevV, dLenV, dIdxV, dApp, dSetI, dPopAt, dCmpV, dOwn, dOwnV, dRetO, dRng1, dRng2, dRng3, dPNo, dPSo, dYes, dLenSet, dScrLen, dScrIdx, dSrcIdx, dSrcSet, dNewSrc, oLst, oRep, oListStr, gEq, gNe, gIsN, gNotN, gIsB, gNotB, gIsi, sg, List.getD_cons_zero, List.getD_cons_succ, List.set_cons_zero, List.set_cons_succ, if_true, if_false, reduceIte, endsD, endsS, endsO, endsN, endsL, asB_b, asI_i, asL_l, itemsP_l, itemsP_t, itemsP_s, itemsP_d, gAdd_i, gAdd_s, gAdd_t, gAdd_l, gI2_i, gMul_i, gMul_t, gMul_l, gMul_s, gNeg_i, gLen_s, gLen_l, gLen_t, gL1_1, gAll_l, gSum_l, gI2L_i, gMaxL_l, gMinL_l, gJoin_l, gJoin_t, gSl_l, gSl_t, gSl_s, gRev_l, wipeS, unwipe, keepV, gIdx_l, gIdx_t, gIdx_s, gIdx_d, dVarD, dDNew, dDNewT, dDPut, dDGetV, dDInV, dDEmpty, dDOne, dOwnD, dParED, dPar3, dEnum, dZip, dgTup_t, dgCons_c, dIsE, gSplit, dZipH, dM1]
    rw [show (1 : Int) = ((1 : Nat) : Int) from rfl, cut_drop, List.drop_succ_cons, List.drop_zero]
    have e2 : PyData.eqv (.list [PyData.str "base", .str "value"]) (.list [.str "base", .str "value"]) = true := by decide +kernel
    have e3 : eqOk (.list [PyData.str "base", .str "value"]) (.list [.str "base", .str "value"]) = true := by decide +kernel
    refine ⟨le2, e3, ?_⟩
    rw [e2, if_pos rfl]
    exact ⟨_, atI_nat (j := 0) rfl, rfl⟩
end LW

namespace LW
open PySem PySem.Spec PyProof.Rows L2 DL
theorem upW {p : DP} {ds : List D} {Q : D → Prop} {W W' : Str → Prop} (m : MoP p) (h : p ds Q W) (hw : ∀ n, W n → W' n) : p ds Q W' := m ds Q Q W W' (fun _ h => h) hw h
/-! require_number -/
abbrev n_require_number : List Str := ["value", "low", "high"]
def p_require_number : DP := fun ds Q W => ∃ v lo hi, ds = [v, .int lo, .int hi] ∧ noDict v = true ∧ (isIn v lo hi = true → Q .none) ∧ (isIn v lo hi = false → W "InvalidNumber")
def t_require_number (W : Str → Prop) : DS := (dIfS (dTNot (dTest (dFn p_is_integer W (dCons (dVar 0) (dCons (dVar 1) (dCons (dVar 2) dNil)))))) (dRaise W "InvalidNumber") dNext)
theorem m_require_number : MoP p_require_number := fun ds Q Q' W W' hq hw ⟨v, lo, hi, e, h, q, r⟩ => ⟨v, lo, hi, e, h, fun z => hq _ (q z), fun z => hw _ (r z)⟩
theorem l_require_number : ∀ ds Q W, p_require_number ds Q W → ds.length = 3 := fun ds Q W ⟨v, lo, hi, e, _⟩ => by rw [e]; rfl
theorem D_require_number (W : Str → Prop) (ds : List D) (Q : D → Prop) (h : p_require_number ds Q W) : t_require_number W (endsD Q) (startS n_require_number ds) := by
  obtain ⟨v, lo, hi, rfl, hv, q, r⟩ := h
  show t_require_number W (endsD Q) [.va v, .va (.int lo), .va (.int hi)]
  simp only [t_require_number, dRet, dRetN, dAnd, dOr, dNot, dTest, dTAnd, dTOr, dTNot, dIf, dChain, dUn, dOp, dCall, dC, dVar, dCons, dNil, dTup, dLst, dSeq, dIfS, dAsg, dgName, dgNil, dPar, dParEO, dParOE, dParOO, dFor, dIter, dNext, dBreak, dCont, dDrop, dRaise, dFn, dFnS, dFnO, dM1, dLc, dSl, dSlV, dRevV, dLenV, dIdxV, dApp, dSetI, dPopAt, dCmpV, dOwn, dOwnV, dRetO, dRng1, dRng2, dRng3, dPNo, dPSo, dYes, dLenSet, dScrLen, dScrIdx, dSrcIdx, dSrcSet, dNewSrc, oLst, oRep, oListStr, gEq, gNe, gIsN, gNotN, gIsB, gNotB, gIsi, sg, List.getD_cons_zero, List.getD_cons_succ, List.set_cons_zero, List.set_cons_succ, if_true, if_false, reduceIte, endsD, endsS, endsO, endsN, endsL, asB_b, asI_i, asL_l, itemsP_l, itemsP_t, itemsP_s, itemsP_d, gAdd_i, gAdd_s, gAdd_t, gAdd_l, gI2_i, gMul_i, gMul_t, gMul_l, gMul_s, gNeg_i, gLen_s, gLen_l, gLen_t, gL1_1, gAll_l, gSum_l, gI2L_i, gMaxL_l, gMinL_l, gJoin_l, gJoin_t, gSl_l, gSl_t, gSl_s, gRev_l, wipeS, unwipe, keepV, gIdx_l, gIdx_t, gIdx_s, gIdx_d, dVarD, dDNew, dDNewT, dDPut, dDGetV, dDInV, dDEmpty, dDOne, dOwnD, dParED, dPar3, dEnum, dZip, dgTup_t, dgCons_c, dIsE, gSplit, dZipH, dM1]
  refine ⟨v, lo, hi, rfl, hv, ?_⟩
  cases e : isIn v lo hi with
  | true => exact q e
  | false => exact r e
theorem isIn_int {v : D} {lo hi : Int} (h : isIn v lo hi = true) : ∃ n : Int, v = .int n ∧ lo ≤ n ∧ n ≤ hi := by
  cases v with
  | int n =>
    simp only [isIn, Bool.and_eq_true, decide_eq_true_eq] at h
    exact ⟨n, rfl, h⟩
  | _ => cases h
theorem isIn_of {n lo hi : Int} (h1 : lo ≤ n) (h2 : n ≤ hi) : isIn (.int n) lo hi = true := by
  simp only [isIn, Bool.and_eq_true, decide_eq_true_eq]
  exact ⟨h1, h2⟩
/-! cost_of, cost -/
def costN (kp : List Tx) (w : Tx) (p : Int) : Int := ((pressedL kp w).length : Nat) + p * ((w.length : Nat) - ((sums kp w).length : Nat))
abbrev n_cost_of : List Str := ["keypad", "text", "pause"]
def p_cost_of : DP := fun ds Q _ => ∃ kp w p, ds = [Kd kp, S w, .int p] ∧ KpOk kp ∧ TextOk kp w ∧ 0 ≤ p ∧ p ≤ 1000 ∧ Q (.int (costN kp w p))
def t_cost_of (W : Str → Prop) : DS := (dRet (dOp gAdd (dCall (gL1 gLen) (dCons (dFn p_pressed W (dCons (dVar 0) (dCons (dVar 1) dNil))) dNil)) (dOp gMul (dVar 2) (dOp gSub (dCall (gL1 gLen) (dCons (dVar 1) dNil)) (dCall (gL1 gLen) (dCons (dFn p_sums_of W (dCons (dVar 0) (dCons (dVar 1) dNil))) dNil))))))
theorem m_cost_of : MoP p_cost_of := fun ds Q Q' W W' hq _ ⟨kp, w, p, e, h1, h2, h3, h4, q⟩ => ⟨kp, w, p, e, h1, h2, h3, h4, hq _ q⟩
theorem l_cost_of : ∀ ds Q W, p_cost_of ds Q W → ds.length = 3 := fun ds Q W ⟨v, lo, hi, e, _⟩ => by rw [e]; rfl
theorem D_cost_of (W : Str → Prop) (ds : List D) (Q : D → Prop) (h : p_cost_of ds Q W) : t_cost_of W (endsD Q) (startS n_cost_of ds) := by
  obtain ⟨kp, w, p, rfl, hk, hw, h1, h2, q⟩ := h
  show t_cost_of W (endsD Q) [.va (Kd kp), .va (S w), .va (.int p)]
  have hwl := hw.len
  simp only [t_cost_of, dRet, dRetN, dAnd, dOr, dNot, dTest, dTAnd, dTOr, dTNot, dIf, dChain, dUn, dOp, dCall, dC, dVar, dCons, dNil, dTup, dLst, dSeq, dIfS, dAsg, dgName, dgNil, dPar, dParEO, dParOE, dParOO, dFor, dIter, dNext, dBreak, dCont, dDrop, dRaise, dFn, dFnS, dFnO, dM1, dLc, dSl, dSlV, dRevV, dLenV, dIdxV, dApp, dSetI, dPopAt, dCmpV, dOwn, dOwnV, dRetO, dRng1, dRng2, dRng3, dPNo, dPSo, dYes, dLenSet, dScrLen, dScrIdx, dSrcIdx, dSrcSet, dNewSrc, oLst, oRep, oListStr, gEq, gNe, gIsN, gNotN, gIsB, gNotB, gIsi, sg, List.getD_cons_zero, List.getD_cons_succ, List.set_cons_zero, List.set_cons_succ, if_true, if_false, reduceIte, endsD, endsS, endsO, endsN, endsL, asB_b, asI_i, asL_l, itemsP_l, itemsP_t, itemsP_s, itemsP_d, gAdd_i, gAdd_s, gAdd_t, gAdd_l, gI2_i, gMul_i, gMul_t, gMul_l, gMul_s, gNeg_i, gLen_s, gLen_l, gLen_t, gL1_1, gAll_l, gSum_l, gI2L_i, gMaxL_l, gMinL_l, gJoin_l, gJoin_t, gSl_l, gSl_t, gSl_s, gRev_l, wipeS, unwipe, keepV, gIdx_l, gIdx_t, gIdx_s, gIdx_d, dVarD, dDNew, dDNewT, dDPut, dDGetV, dDInV, dDEmpty, dDOne, dOwnD, dParED, dPar3, dEnum, dZip, dgTup_t, dgCons_c, dIsE, gSplit, dZipH, dM1]
  refine ⟨kp, w, rfl, hk.pad, hw.mem, by omega, ?_⟩
  simp only [dRet, dRetN, dAnd, dOr, dNot, dTest, dTAnd, dTOr, dTNot, dIf, dChain, dUn, dOp, dCall, dC, dVar, dCons, dNil, dTup, dLst, dSeq, dIfS, dAsg, dgName, dgNil, dPar, dParEO, dParOE, dParOO, dFor, dIter, dNext, dBreak, dCont, dDrop, dRaise, dFn, dFnS, dFnO, dM1, dLc, dSl, dSlV, dRevV, dLenV, dIdxV, dApp, dSetI, dPopAt, dCmpV, dOwn, dOwnV, dRetO, dRng1, dRng2, dRng3, dPNo, dPSo, dYes, dLenSet, dScrLen, dScrIdx, dSrcIdx, dSrcSet, dNewSrc, oLst, oRep, oListStr, gEq, gNe, gIsN, gNotN, gIsB, gNotB, gIsi, sg, List.getD_cons_zero, List.getD_cons_succ, List.set_cons_zero, List.set_cons_succ, if_true, if_false, reduceIte, endsD, endsS, endsO, endsN, endsL, asB_b, asI_i, asL_l, itemsP_l, itemsP_t, itemsP_s, itemsP_d, gAdd_i, gAdd_s, gAdd_t, gAdd_l, gI2_i, gMul_i, gMul_t, gMul_l, gMul_s, gNeg_i, gLen_s, gLen_l, gLen_t, gL1_1, gAll_l, gSum_l, gI2L_i, gMaxL_l, gMinL_l, gJoin_l, gJoin_t, gSl_l, gSl_t, gSl_s, gRev_l, wipeS, unwipe, keepV, gIdx_l, gIdx_t, gIdx_s, gIdx_d, dVarD, dDNew, dDNewT, dDPut, dDGetV, dDInV, dDEmpty, dDOne, dOwnD, dParED, dPar3, dEnum, dZip, dgTup_t, dgCons_c, dIsE, gSplit, dZipH, dM1, List.length_map, tx_length]
  refine ⟨small_le (by omega), kp, w, rfl, hk.pad, hw.mem, by omega, ?_⟩
  simp only [runsD, dRet, dRetN, dAnd, dOr, dNot, dTest, dTAnd, dTOr, dTNot, dIf, dChain, dUn, dOp, dCall, dC, dVar, dCons, dNil, dTup, dLst, dSeq, dIfS, dAsg, dgName, dgNil, dPar, dParEO, dParOE, dParOO, dFor, dIter, dNext, dBreak, dCont, dDrop, dRaise, dFn, dFnS, dFnO, dM1, dLc, dSl, dSlV, dRevV, dLenV, dIdxV, dApp, dSetI, dPopAt, dCmpV, dOwn, dOwnV, dRetO, dRng1, dRng2, dRng3, dPNo, dPSo, dYes, dLenSet, dScrLen, dScrIdx, dSrcIdx, dSrcSet, dNewSrc, oLst, oRep, oListStr, gEq, gNe, gIsN, gNotN, gIsB, gNotB, gIsi, sg, List.getD_cons_zero, List.getD_cons_succ, List.set_cons_zero, List.set_cons_succ, if_true, if_false, reduceIte, endsD, endsS, endsO, endsN, endsL, asB_b, asI_i, asL_l, itemsP_l, itemsP_t, itemsP_s, itemsP_d, gAdd_i, gAdd_s, gAdd_t, gAdd_l, gI2_i, gMul_i, gMul_t, gMul_l, gMul_s, gNeg_i, gLen_s, gLen_l, gLen_t, gL1_1, gAll_l, gSum_l, gI2L_i, gMaxL_l, gMinL_l, gJoin_l, gJoin_t, gSl_l, gSl_t, gSl_s, gRev_l, wipeS, unwipe, keepV, gIdx_l, gIdx_t, gIdx_s, gIdx_d, dVarD, dDNew, dDNewT, dDPut, dDGetV, dDInV, dDEmpty, dDOne, dOwnD, dParED, dPar3, dEnum, dZip, dgTup_t, dgCons_c, dIsE, gSplit, dZipH, dM1, List.length_map]
  exact ⟨trivial, .inl ⟨by omega, by omega⟩, q⟩
abbrev n_cost : List Str := ["keypad", "text", "pause"]
def p_cost : DP := fun ds Q W => ∃ v t p, ds = [v, t, p] ∧ okT v ∧ okV t ∧ noDict p = true ∧ (isKp v = false → W "InvalidKeypad") ∧ ∀ kp, v = Kd kp → KpOk kp → (isStrOf t kp.flatten 0 30 = false → W "InvalidText") ∧ ∀ x, t = S x → TextOk kp x → (isIn p 0 1000 = false → W "InvalidNumber") ∧ ∀ n, p = .int n → 0 ≤ n → n ≤ 1000 → Q (.int (costN kp x n))
def t_cost (W : Str → Prop) : DS := (dSeq (dDrop (dFn p_require_keypad W (dCons (dVar 0) dNil)))
      (dSeq (dDrop (dFn p_require_text W (dCons (dVar 0) (dCons (dVar 1) dNil))))
      (dSeq (dDrop (dFn p_require_number W (dCons (dVar 2) (dCons (dC (.int 0)) (dCons (dC (.int 1000)) dNil)))))
      (dRet (dFn p_cost_of W (dCons (dVar 0) (dCons (dVar 1) (dCons (dVar 2) dNil))))))))
theorem m_cost : MoP p_cost := fun ds Q Q' W W' hq hw ⟨v, t, p, e, h1, h2, h3, h4, h5⟩ => ⟨v, t, p, e, h1, h2, h3, fun z => hw _ (h4 z), fun kp e hk => ⟨fun z => hw _ ((h5 kp e hk).1 z), fun x e2 h6 => ⟨fun z => hw _ (((h5 kp e hk).2 x e2 h6).1 z), fun n e3 h7 h8 => hq _ (((h5 kp e hk).2 x e2 h6).2 n e3 h7 h8)⟩⟩⟩
theorem l_cost : ∀ ds Q W, p_cost ds Q W → ds.length = 3 := fun ds Q W ⟨v, lo, hi, e, _⟩ => by rw [e]; rfl
theorem D_cost (W : Str → Prop) (ds : List D) (Q : D → Prop) (h : p_cost ds Q W) : t_cost W (endsD Q) (startS n_cost ds) := by
  obtain ⟨v, t, p, rfl, hv, ht, hp, h3, h4⟩ := h
  show t_cost W (endsD Q) [.va v, .va t, .va p]
  simp only [t_cost, dRet, dRetN, dAnd, dOr, dNot, dTest, dTAnd, dTOr, dTNot, dIf, dChain, dUn, dOp, dCall, dC, dVar, dCons, dNil, dTup, dLst, dSeq, dIfS, dAsg, dgName, dgNil, dPar, dParEO, dParOE, dParOO, dFor, dIter, dNext, dBreak, dCont, dDrop, dRaise, dFn, dFnS, dFnO, dM1, dLc, dSl, dSlV, dRevV, dLenV, dIdxV, dApp, dSetI, dPopAt, dCmpV, dOwn, dOwnV, dRetO, dRng1, dRng2, dRng3, dPNo, dPSo, dYes, dLenSet, dScrLen, dScrIdx, dSrcIdx, dSrcSet, dNewSrc, oLst, oRep, oListStr, gEq, gNe, gIsN, gNotN, gIsB, gNotB, gIsi, sg, List.getD_cons_zero, List.getD_cons_succ, List.set_cons_zero, List.set_cons_succ, if_true, if_false, reduceIte, endsD, endsS, endsO, endsN, endsL, asB_b, asI_i, asL_l, itemsP_l, itemsP_t, itemsP_s, itemsP_d, gAdd_i, gAdd_s, gAdd_t, gAdd_l, gI2_i, gMul_i, gMul_t, gMul_l, gMul_s, gNeg_i, gLen_s, gLen_l, gLen_t, gL1_1, gAll_l, gSum_l, gI2L_i, gMaxL_l, gMinL_l, gJoin_l, gJoin_t, gSl_l, gSl_t, gSl_s, gRev_l, wipeS, unwipe, keepV, gIdx_l, gIdx_t, gIdx_s, gIdx_d, dVarD, dDNew, dDNewT, dDPut, dDGetV, dDInV, dDEmpty, dDOne, dOwnD, dParED, dPar3, dEnum, dZip, dgTup_t, dgCons_c, dIsE, gSplit, dZipH, dM1]
  refine ⟨v, rfl, hv, fun e => ?_, h3⟩
  obtain ⟨kp, rfl, hk⟩ := isKp_true e
  obtain ⟨h5, h6⟩ := h4 kp rfl hk
  refine ⟨kp, t, rfl, hk.pad, ht, fun e2 => ?_, h5⟩
  obtain ⟨x, rfl, hx⟩ := isText e2
  obtain ⟨h7, h8⟩ := h6 x rfl hx
  refine ⟨p, 0, 1000, rfl, hp, fun e3 => ?_, h7⟩
  obtain ⟨n, rfl, n0, n1⟩ := isIn_int e3
  exact ⟨kp, x, n, rfl, hk, hx, n0, n1, h8 n rfl n0 n1⟩
theorem call_cost {kp : List Tx} {x : Tx} {n : Int} {Q : D → Prop} (hk : KpOk kp) (hx : TextOk kp x) (n0 : 0 ≤ n) (n1 : n ≤ 1000) (q : Q (.int (costN kp x n))) : p_cost [Kd kp, S x, .int n] Q noW := by
  have := hx.len
  refine ⟨_, _, _, rfl, hk.okT, okV_S (by omega), rfl, (fun e => by rw [hk.isKp] at e; cases e), fun kp' e hk' => ?_⟩
  cases Kd_inj e
  refine ⟨(fun e => by rw [hx.is] at e; cases e), fun x' e' hx' => ?_⟩
  cases S_inj e'
  refine ⟨(fun e => by rw [isIn_of n0 n1] at e; cases e), fun m em _ _ => ?_⟩
  cases em
  exact q
/-! enumerate over a text -/
theorem enum_tx (w : Tx) : enumD 0 (chars (tx w)) = (List.range w.length).map fun i => PyData.tuple [.int (i : Nat), S [w.getD i 0]] := by
  rw [chars_tx, enumD_map]
  apply List.ext_getElem?
  intro i
  rw [List.getElem?_map, List.getElem?_map, List.getElem?_zipIdx]
  by_cases h : i < w.length
  · rw [List.getElem?_range h, List.getElem?_eq_getElem h]
    simp [List.getD_eq_getElem?_getD, List.getElem?_eq_getElem h]
  · rw [List.getElem?_eq_none (by omega), List.getElem?_eq_none (by rw [List.length_range]; omega)]
    rfl
end LW

namespace LW
open PySem PySem.Spec PyProof.Rows L2 DL
/-! pairs of neighbouring letters on one key -/
theorem sums_last {kp : List Tx} (w : Tx) (c : Nat) : ∃ i s, sums kp (w ++ [c]) = i ++ [(keyOf kp c, s)] := by
  rw [sums_snoc]
  rcases last_cases (sums kp w) with h | ⟨i, r, h⟩
  · rw [h, addN_nil]
    exact ⟨[], _, rfl⟩
  · rw [h, addN_app]
    by_cases hk : r.1 = keyOf kp c
    · rw [if_pos hk]
      exact ⟨i, _, rfl⟩
    · rw [if_neg hk]
      exact ⟨i ++ [r], _, rfl⟩
theorem pressed_snoc (kp : List Tx) (w : Tx) (c : Nat) : pressedL kp (w ++ [c]) = pressedL kp w ++ List.replicate (numOf kp c).toNat (keyOf kp c) := by
  simp [pressedL]
/-- the cost, letter by letter -/
theorem cost_snoc {kp : List Tx} (w : Tx) (c : Nat) (p : Int) (hn : 0 ≤ numOf kp c) : costN kp (w ++ [c]) p = costN kp w p + numOf kp c + (if (∃ b, w.getLast? = some b ∧ keyOf kp b = keyOf kp c) then p else 0) := by
  unfold costN
  rw [pressed_snoc, List.length_append, List.length_replicate]
  have hl : (w ++ [c]).length = w.length + 1 := by simp
  rw [hl]
  have hcases : w = [] ∨ ∃ v b, w = v ++ [b] := by
    rcases List.eq_nil_or_concat w with h | ⟨v, b, h⟩
    · exact .inl h
    · exact .inr ⟨v, b, by rw [h, List.concat_eq_append]⟩
  rcases hcases with rfl | ⟨v, b, rfl⟩
  · rw [if_neg (by simp)]
    have e : sums kp ([] ++ [c]) = [(keyOf kp c, numOf kp c)] := rfl
    rw [e]
    show _ + p * (((0 + 1 : Nat) : Int) - ((1 : Nat) : Int)) = (0 : Int) + p * (0 - 0) + _ + 0
    simp [pressedL]
    omega
  · obtain ⟨i, s, e⟩ := sums_last (kp := kp) v b
    rw [sums_snoc (w := v ++ [b]), e, addN_app]
    have e0 : (((pressedL kp (v ++ [b])).length + (numOf kp c).toNat : Nat) : Int) = ((pressedL kp (v ++ [b])).length : Nat) + numOf kp c := by omega
    rw [e0]
    by_cases hk : keyOf kp b = keyOf kp c
    · rw [if_pos hk, if_pos ⟨b, by simp, hk⟩]
      simp only [List.length_append, List.length_singleton]
      have : ∀ a b : Int, p * (a + 1 - b) = p * (a - b) + p := fun a b => by rw [show a + 1 - b = (a - b) + 1 by omega, Int.mul_add, Int.mul_one]
      rw [Int.natCast_add (v.length + 1) 1]
      show _ + p * (((v.length + 1 : Nat) : Int) + 1 - _) = _
      rw [this]
      omega
    · rw [if_neg hk, if_neg]
      · simp only [List.length_append, List.length_singleton]
        have : ∀ a b : Int, p * (a + 1 - (b + 1)) = p * (a - b) := fun a b => by rw [show a + 1 - (b + 1) = a - b by omega]
        rw [Int.natCast_add (v.length + 1) 1, Int.natCast_add (i.length + 1) 1]
        show _ + p * (((v.length + 1 : Nat) : Int) + 1 - (((i.length + 1 : Nat) : Int) + 1)) = _
        rw [this]
        omega
      · rintro ⟨b', h1, h2⟩
        simp at h1
        subst h1
        exact hk h2
theorem cost_nil (kp : List Tx) (p : Int) : costN kp [] p = 0 := by
  show (0 : Int) + p * (0 - 0) = 0
  simp
theorem cost_zero (kp : List Tx) (w : Tx) : costN kp w 0 = ((pressedL kp w).length : Nat) := by
  unfold costN
  rw [Int.zero_mul, Int.add_zero]
/-! _law_outcome -/
abbrev n__law_outcome : List Str := ["pad", "word", "pause", "e"]
abbrev L__law_outcome : List Str := ["InvalidKeypad", "InvalidNumber", "InvalidText"]
def p__law_outcome : DP := fun ds Q _ => ∃ kp t p, ds = [Kd kp, t, p] ∧ KpOk kp ∧ okV t ∧ noDict p = true ∧ (isStrOf t kp.flatten 0 30 = false → Q (.str "word")) ∧ ∀ x, t = S x → TextOk kp x → (isIn p 0 1000 = false → Q (.str "number")) ∧ (isIn p 0 1000 = true → Q (.str "fine"))
def t__law_outcome (W : Str → Prop) : DS := (dSeq (dDrop (dFn p_cost W (dCons (dVar 0) (dCons (dVar 1) (dCons (dVar 2) dNil)))))
      (dRet (dC (.str "fine"))))
theorem m__law_outcome : MoP p__law_outcome := fun ds Q Q' W W' hq hw ⟨v, t, p, e, h1, h2, h3, h4, h5⟩ => ⟨v, t, p, e, h1, h2, h3, fun z => hq _ (h4 z), fun x e2 h6 => ⟨fun z => hq _ ((h5 x e2 h6).1 z), fun z => hq _ ((h5 x e2 h6).2 z)⟩⟩
theorem l__law_outcome : ∀ ds Q W, p__law_outcome ds Q W → ds.length = 3 := fun ds Q W ⟨v, lo, hi, e, _⟩ => by rw [e]; rfl
theorem dn__law_outcome : ∀ ds Q W, p__law_outcome ds Q W → p__law_outcome ds Q noW := fun ds Q W h => h
theorem D__law_outcome (W : Str → Prop) (ds : List D) (Q : D → Prop) (h : p__law_outcome ds Q noW) (hW : ∀ nm ∈ L__law_outcome, Q (.str (errN nm)) → W nm) : t__law_outcome W (endsD Q) (startS n__law_outcome ds) := by
  obtain ⟨kp, t, p, rfl, hk, ht, hp, h3, h4⟩ := h
  show t__law_outcome W (endsD Q) [.va (Kd kp), .va t, .va p, .no]
  simp only [t__law_outcome, dRet, dRetN, dAnd, dOr, dNot, dTest, dTAnd, dTOr, dTNot, dIf, dChain, dUn, dOp, dCall, dC, dVar, dCons, dNil, dTup, dLst, dSeq, dIfS, dAsg, dgName, dgNil, dPar, dParEO, dParOE, dParOO, dFor, dIter, dNext, dBreak, dCont, dDrop, dRaise, dFn, dFnS, dFnO, dM1, dLc, dSl, dSlV, dRevV, dLenV, dIdxV, dApp, dSetI, dPopAt, dCmpV, dOwn, dOwnV, dRetO, dRng1, dRng2, dRng3, dPNo, dPSo, dYes, dLenSet, dScrLen, dScrIdx, dSrcIdx, dSrcSet, dNewSrc, oLst, oRep, oListStr, gEq, gNe, gIsN, gNotN, gIsB, gNotB, gIsi, sg, List.getD_cons_zero, List.getD_cons_succ, List.set_cons_zero, List.set_cons_succ, if_true, if_false, reduceIte, endsD, endsS, endsO, endsN, endsL, asB_b, asI_i, asL_l, itemsP_l, itemsP_t, itemsP_s, itemsP_d, gAdd_i, gAdd_s, gAdd_t, gAdd_l, gI2_i, gMul_i, gMul_t, gMul_l, gMul_s, gNeg_i, gLen_s, gLen_l, gLen_t, gL1_1, gAll_l, gSum_l, gI2L_i, gMaxL_l, gMinL_l, gJoin_l, gJoin_t, gSl_l, gSl_t, gSl_s, gRev_l, wipeS, unwipe, keepV, gIdx_l, gIdx_t, gIdx_s, gIdx_d, dVarD, dDNew, dDNewT, dDPut, dDGetV, dDInV, dDEmpty, dDOne, dOwnD, dParED, dPar3, dEnum, dZip, dgTup_t, dgCons_c, dIsE, gSplit, dZipH, dM1]
  refine ⟨Kd kp, t, p, rfl, hk.okT, ht, hp, (fun e => by rw [hk.isKp] at e; cases e), fun kp' e hk' => ?_⟩
  cases Kd_inj e
  refine ⟨fun z => hW _ (by simp) (h3 z), fun x ex hx => ?_⟩
  obtain ⟨h5, h6⟩ := h4 x ex hx
  exact ⟨fun z => hW _ (by simp) (h5 z), fun n en n0 n1 => h6 (by rw [en]; exact isIn_of n0 n1)⟩
theorem out_word {kp : List Tx} {d p : D} {Q : D → Prop} (hk : KpOk kp) (ho : okV d) (hp : noDict p = true) (h : isStrOf d kp.flatten 0 30 = false) (q : Q (.str "word")) : p__law_outcome [Kd kp, d, p] Q noW :=
  ⟨kp, d, p, rfl, hk, ho, hp, fun _ => q, fun x e hx => by
    rw [e, hx.is] at h
    cases h⟩
theorem out_number {kp : List Tx} {w : Tx} {p : D} {Q : D → Prop} (hk : KpOk kp) (hw : TextOk kp w) (hp : noDict p = true) (h : isIn p 0 1000 = false) (q : Q (.str "number")) : p__law_outcome [Kd kp, S w, p] Q noW := by
  have := hw.len
  exact ⟨kp, S w, p, rfl, hk, okV_S (by omega), hp, (fun z => by rw [hw.is] at z; cases z), fun x e hx => ⟨fun _ => q, fun z => by rw [h] at z; cases z⟩⟩
theorem notText_long {l al : Tx} (h : 30 < l.length) : isStrOf (S l) al 0 30 = false := by
  simp only [isStrOf, tx_list]
  rw [decide_eq_false (by omega : ¬ (l.length : Int) ≤ 30)]
  simp
theorem notText_sign {kp : List Tx} (hk : KpOk kp) {c : Nat} (h : ¬ (97 ≤ c ∧ c ≤ 122)) : isStrOf (S [c]) kp.flatten 0 30 = false := by
  simp only [isStrOf, tx_list, List.all_cons, List.all_nil, Bool.and_true]
  have hn : decide (c ∈ kp.flatten) = false := decide_eq_false fun z => by
    obtain ⟨k, h1, h2⟩ := List.mem_flatten.mp z
    exact h (hk.le k h1 c h2)
  rw [hn, Bool.and_false]
theorem map_id' {α : Type} (l : List α) : l = l.map id := by simp
/-! law -/
abbrev n_law : List Str := ["script", "k", "source", "pad", "word", "pause", "spots", "due", "at", "letter", "odd"]
def t_law (W : Str → Prop) : DS := (dSeq (dFor (dRng1 (dCons (dCall (gI2L fun i j => if j > i then j else i) (dCons (dC (.int 6)) (dCons (dCall (gI2L fun i j => if j < i then j else i) (dCons (dC (.int 30)) (dCons (dScrLen 0) dNil))) dNil))) dNil)) (dgName 1) (dSeq (dNewSrc p__law_source 2 0 (dVar 1))
      (dSeq (dAsg (dFnS p__law_pad 2 (dCons (dC (.int 8)) (dCons (dC (.int 6)) dNil))) (dgName 3))
      (dSeq (dPar 4 5 (dCons (dFnS p__law_word 2 (dCons (dVar 3) (dCons (dC (.int 30)) dNil))) (dCons (dOp gIdx (dLst (dCons (dC (.int 0)) (dCons (dC (.int 1)) (dCons (dFnS p__law_pick 2 (dCons (dC (.int 1001)) dNil)) dNil)))) (dFnS p__law_pick 2 (dCons (dC (.int 3)) dNil))) dNil)))
      (dSeq (dPar 6 7 (dCons (dFn p__law_spots noW (dCons (dVar 3) dNil)) (dCons (dC (.int 0)) dNil)))
      (dSeq (dFor (dEnum (dVar 4)) (dgTup (dgCons (dgName 8) (dgCons (dgName 9) dgNil))) (dSeq (dAsg (dOp gAdd (dVar 7) (dOp gIdx (dOp gIdx (dVar 6) (dVar 9)) (dC (.int 1)))) (dgName 7))
      (dIfS (dTAnd (dTest (dOp gGt (dVar 8) (dC (.int 0)))) (dTest (dOp gEq (dOp gIdx (dOp gIdx (dVar 6) (dOp gIdx (dVar 4) (dOp gSub (dVar 8) (dC (.int 1))))) (dC (.int 0))) (dOp gIdx (dOp gIdx (dVar 6) (dVar 9)) (dC (.int 0)))))) (dAsg (dOp gAdd (dVar 7) (dVar 5)) (dgName 7)) dNext)))
      (dSeq (dIfS (dTOr (dTest (dOp gNe (dFn p_cost noW (dCons (dVar 3) (dCons (dVar 4) (dCons (dVar 5) dNil)))) (dVar 7))) (dTest (dOp gNe (dFn p_cost noW (dCons (dVar 3) (dCons (dVar 4) (dCons (dC (.int 0)) dNil)))) (dCall (gL1 gLen) (dCons (dFn p__law_typed noW (dCons (dVar 3) (dCons (dVar 4) dNil))) dNil))))) (dRet (dC (.bool false))) dNext)
      (dSeq (dFor (dIter (dLst (dCons (dC .none) (dCons (dUn gNeg (dC (.int 1))) (dCons (dC (.int 1001)) (dCons (dC (.bool true)) (dCons (dC (.str "0")) dNil))))))) (dgName 10) (dIfS (dTest (dOp gNe (dFn p__law_outcome noW (dCons (dVar 3) (dCons (dVar 4) (dCons (dVar 10) dNil)))) (dC (.str "number")))) (dRet (dC (.bool false))) dNext))
      (dIfS (dTest (dOp gNe (dLc (dIter (dLst (dCons (dC .none) (dCons (dC (.str "A")) (dCons (dC (.int 5)) (dCons (dOp gMul (dOp gIdx (dOp gIdx (dVar 3) (dC (.int 0))) (dC (.int 0))) (dC (.int 31))) dNil)))))) (dgName 10) dYes (dFn p__law_outcome noW (dCons (dVar 3) (dCons (dVar 10) (dCons (dC .none) dNil)))) [10]) (dOp gMul (dLst (dCons (dC (.str "word")) dNil)) (dC (.int 4))))) (dRet (dC (.bool false))) dNext)))))))))
      (dRet (dOp gEq (dFn p_cost noW (dCons (dTup (dCons (dC (.str "abc")) (dCons (dC (.str "d")) dNil))) (dCons (dC (.str "abba")) (dCons (dC (.int 5)) dNil)))) (dC (.int 21)))))
theorem nil_text {kp : List Tx} : TextOk kp [] := ⟨(fun _ h => nomatch h), Nat.zero_le _⟩
theorem D_law (ns : List Int) (hn : ns.length ≤ 63) : t_law noW endsL (startL n_law ns) := by
  unfold t_law
  refine law_loop (m := 8) rfl hn (by decide) (by decide) (fun q i r N BK hr hN => ?_) (fun ρ' hρ => ?_)
  · match r, hr with
    | [x3, x4, x5, x6, x7, x8, x9, x10], _ =>
    refine seq_gen fun K hK => ?_
    simp only [dRet, dRetN, dAnd, dOr, dNot, dTest, dTAnd, dTOr, dTNot, dIf, dChain, dUn, dOp, dCall, dC, dVar, dCons, dNil, dTup, dLst, dSeq, dIfS, dAsg, dgName, dgNil, dPar, dParEO, dParOE, dParOO, dFor, dIter, dNext, dBreak, dCont, dDrop, dRaise, dFn, dFnS, dFnO, dM1, dLc, dSl, dSlV, dRevV, dLenV, dIdxV, dApp, dSetI, dPopAt, dCmpV, dOwn, dOwnV, dRetO, dRng1, dRng2, dRng3, dPNo, dPSo, dYes, dLenSet, dScrLen, dScrIdx, dSrcIdx, dSrcSet, dNewSrc, oLst, oRep, oListStr, gEq, gNe, gIsN, gNotN, gIsB, gNotB, gIsi, sg, List.getD_cons_zero, List.getD_cons_succ, List.set_cons_zero, List.set_cons_succ, if_true, if_false, reduceIte, endsD, endsS, endsO, endsN, endsL, asB_b, asI_i, asL_l, itemsP_l, itemsP_t, itemsP_s, itemsP_d, gAdd_i, gAdd_s, gAdd_t, gAdd_l, gI2_i, gMul_i, gMul_t, gMul_l, gMul_s, gNeg_i, gLen_s, gLen_l, gLen_t, gL1_1, gAll_l, gSum_l, gI2L_i, gMaxL_l, gMinL_l, gJoin_l, gJoin_t, gSl_l, gSl_t, gSl_s, gRev_l, wipeS, unwipe, keepV, gIdx_l, gIdx_t, gIdx_s, gIdx_d, dVarD, dDNew, dDNewT, dDPut, dDGetV, dDInV, dDEmpty, dDOne, dOwnD, dParED, dPar3, dEnum, dZip, dgTup_t, dgCons_c, dIsE, gSplit, dZipH, dM1]
    refine ⟨trivial, 8, 6, rfl, by decide, by decide, by decide, by decide, fun kp hk _ _ => hK _ ?_⟩
    clear hK
    have hk1 := hk.l1
    have hkl := len_key hk (Int.le_refl 0) (by omega)
    have hat : atI (kp.map S) 0 = some (S (keyAt kp 0)) := atI_key (Int.le_refl 0) (by omega)
    refine seq_gen fun K hK => ?_
    simp only [dRet, dRetN, dAnd, dOr, dNot, dTest, dTAnd, dTOr, dTNot, dIf, dChain, dUn, dOp, dCall, dC, dVar, dCons, dNil, dTup, dLst, dSeq, dIfS, dAsg, dgName, dgNil, dPar, dParEO, dParOE, dParOO, dFor, dIter, dNext, dBreak, dCont, dDrop, dRaise, dFn, dFnS, dFnO, dM1, dLc, dSl, dSlV, dRevV, dLenV, dIdxV, dApp, dSetI, dPopAt, dCmpV, dOwn, dOwnV, dRetO, dRng1, dRng2, dRng3, dPNo, dPSo, dYes, dLenSet, dScrLen, dScrIdx, dSrcIdx, dSrcSet, dNewSrc, oLst, oRep, oListStr, gEq, gNe, gIsN, gNotN, gIsB, gNotB, gIsi, sg, List.getD_cons_zero, List.getD_cons_succ, List.set_cons_zero, List.set_cons_succ, if_true, if_false, reduceIte, endsD, endsS, endsO, endsN, endsL, asB_b, asI_i, asL_l, itemsP_l, itemsP_t, itemsP_s, itemsP_d, gAdd_i, gAdd_s, gAdd_t, gAdd_l, gI2_i, gMul_i, gMul_t, gMul_l, gMul_s, gNeg_i, gLen_s, gLen_l, gLen_t, gL1_1, gAll_l, gSum_l, gI2L_i, gMaxL_l, gMinL_l, gJoin_l, gJoin_t, gSl_l, gSl_t, gSl_s, gRev_l, wipeS, unwipe, keepV, gIdx_l, gIdx_t, gIdx_s, gIdx_d, dVarD, dDNew, dDNewT, dDPut, dDGetV, dDInV, dDEmpty, dDOne, dOwnD, dParED, dPar3, dEnum, dZip, dgTup_t, dgCons_c, dIsE, gSplit, dZipH, dM1]
    refine ⟨trivial, kp, 30, rfl, hk, by decide, by decide, fun w hw hwl => ?_⟩
    have tw : TextOk kp w := ⟨hw, by omega⟩
    refine ⟨trivial, 1001, rfl, by decide, by decide, fun r r0 r1 => ⟨le3, trivial, 3, rfl, by decide, by decide, fun u u0 u1 => ?_⟩⟩
    have hp : ∃ p : Int, 0 ≤ p ∧ p ≤ 1000 ∧ atI [PyData.int 0, .int 1, .int r] u = some (.int p) := by
      have : u = 0 ∨ u = 1 ∨ u = 2 := by omega
      rcases this with rfl | rfl | rfl
      · exact ⟨0, by decide, by decide, rfl⟩
      · exact ⟨1, by decide, by decide, rfl⟩
      · exact ⟨r, r0, by omega, rfl⟩
    obtain ⟨p, p0, p1, hat2⟩ := hp
    refine ⟨_, hat2, hK _ ?_⟩
    clear hK
    refine seq_gen fun K hK => ?_
    simp only [dRet, dRetN, dAnd, dOr, dNot, dTest, dTAnd, dTOr, dTNot, dIf, dChain, dUn, dOp, dCall, dC, dVar, dCons, dNil, dTup, dLst, dSeq, dIfS, dAsg, dgName, dgNil, dPar, dParEO, dParOE, dParOO, dFor, dIter, dNext, dBreak, dCont, dDrop, dRaise, dFn, dFnS, dFnO, dM1, dLc, dSl, dSlV, dRevV, dLenV, dIdxV, dApp, dSetI, dPopAt, dCmpV, dOwn, dOwnV, dRetO, dRng1, dRng2, dRng3, dPNo, dPSo, dYes, dLenSet, dScrLen, dScrIdx, dSrcIdx, dSrcSet, dNewSrc, oLst, oRep, oListStr, gEq, gNe, gIsN, gNotN, gIsB, gNotB, gIsi, sg, List.getD_cons_zero, List.getD_cons_succ, List.set_cons_zero, List.set_cons_succ, if_true, if_false, reduceIte, endsD, endsS, endsO, endsN, endsL, asB_b, asI_i, asL_l, itemsP_l, itemsP_t, itemsP_s, itemsP_d, gAdd_i, gAdd_s, gAdd_t, gAdd_l, gI2_i, gMul_i, gMul_t, gMul_l, gMul_s, gNeg_i, gLen_s, gLen_l, gLen_t, gL1_1, gAll_l, gSum_l, gI2L_i, gMaxL_l, gMinL_l, gJoin_l, gJoin_t, gSl_l, gSl_t, gSl_s, gRev_l, wipeS, unwipe, keepV, gIdx_l, gIdx_t, gIdx_s, gIdx_d, dVarD, dDNew, dDNewT, dDPut, dDGetV, dDInV, dDEmpty, dDOne, dOwnD, dParED, dPar3, dEnum, dZip, dgTup_t, dgCons_c, dIsE, gSplit, dZipH, dM1]
    have hpd := hk.pad
    refine ⟨kp, rfl, hpd.nd, hpd.fl, hpd.len, hK _ ?_⟩
    clear hK
    refine seq_gen fun K hK => ?_
    simp only [dFor, dEnum, dVar, sg, List.getD_cons_zero, List.getD_cons_succ, itemsP_s]
    refine ⟨(fun _ z => nomatch z), ?_⟩
    rw [enum_tx]
    refine for_rng (fun j ρ => ∃ x8 x9, ρ = [.scr ns, .va (.int (0 + (i : Int))), .src q, .va (Kd kp), .va (S w), .va (.int p), .va (.dict (spots kp.zipIdx)), .va (.int (costN kp (w.take j) p)), x8, x9, x10]) ⟨x8, x9, by rw [List.take_zero, cost_nil]⟩ (fun j hj ρ ⟨x8, x9, hρ⟩ M hM => ?_) (fun ρ ⟨x8, x9, hρ⟩ => hK _ ?_)
    · subst hρ
      have ec : w.take (j + 1) = w.take j ++ [w.getD j 0] := by
        rw [List.take_succ, List.getElem?_eq_getElem hj, List.getD_eq_getElem?_getD, List.getElem?_eq_getElem hj]
        rfl
      have hc : w.getD j 0 ∈ kp.flatten := by
        rw [List.getD_eq_getElem?_getD, List.getElem?_eq_getElem hj]
        exact hw _ (List.getElem_mem hj)
      rw [ec] at hM
      generalize hcc : w.getD j 0 = c at hM hc ⊢
      obtain ⟨k0, k1, n1, n6⟩ := hk.num hc
      rw [cost_snoc _ c p (by omega)] at hM
      have hM' := fun v h => hM [.scr ns, .va (.int (0 + (i : Int))), .src q, .va (Kd kp), .va (S w), .va (.int p), .va (.dict (spots kp.zipIdx)), .va (.int v), .va (.int (j : Nat)), .va (S [c]), x10] ⟨.va (.int (j : Nat)), .va (S [c]), h⟩
      simp only [dgTup_t, dgCons_c, dgNil, dgName, List.set_cons_zero, List.set_cons_succ]
      refine ⟨trivial, ?_⟩
      refine seq_gen fun K hK => ?_
      simp only [dRet, dRetN, dAnd, dOr, dNot, dTest, dTAnd, dTOr, dTNot, dIf, dChain, dUn, dOp, dCall, dC, dVar, dCons, dNil, dTup, dLst, dSeq, dIfS, dAsg, dgName, dgNil, dPar, dParEO, dParOE, dParOO, dFor, dIter, dNext, dBreak, dCont, dDrop, dRaise, dFn, dFnS, dFnO, dM1, dLc, dSl, dSlV, dRevV, dLenV, dIdxV, dApp, dSetI, dPopAt, dCmpV, dOwn, dOwnV, dRetO, dRng1, dRng2, dRng3, dPNo, dPSo, dYes, dLenSet, dScrLen, dScrIdx, dSrcIdx, dSrcSet, dNewSrc, oLst, oRep, oListStr, gEq, gNe, gIsN, gNotN, gIsB, gNotB, gIsi, sg, List.getD_cons_zero, List.getD_cons_succ, List.set_cons_zero, List.set_cons_succ, if_true, if_false, reduceIte, endsD, endsS, endsO, endsN, endsL, asB_b, asI_i, asL_l, itemsP_l, itemsP_t, itemsP_s, itemsP_d, gAdd_i, gAdd_s, gAdd_t, gAdd_l, gI2_i, gMul_i, gMul_t, gMul_l, gMul_s, gNeg_i, gLen_s, gLen_l, gLen_t, gL1_1, gAll_l, gSum_l, gI2L_i, gMaxL_l, gMinL_l, gJoin_l, gJoin_t, gSl_l, gSl_t, gSl_s, gRev_l, wipeS, unwipe, keepV, gIdx_l, gIdx_t, gIdx_s, gIdx_d, dVarD, dDNew, dDNewT, dDPut, dDGetV, dDInV, dDEmpty, dDOne, dOwnD, dParED, dPar3, dEnum, dZip, dgTup_t, dgCons_c, dIsE, gSplit, dZipH, dM1]
      refine ⟨_, look_pad hc, ?_⟩
      simp only [dRet, dRetN, dAnd, dOr, dNot, dTest, dTAnd, dTOr, dTNot, dIf, dChain, dUn, dOp, dCall, dC, dVar, dCons, dNil, dTup, dLst, dSeq, dIfS, dAsg, dgName, dgNil, dPar, dParEO, dParOE, dParOO, dFor, dIter, dNext, dBreak, dCont, dDrop, dRaise, dFn, dFnS, dFnO, dM1, dLc, dSl, dSlV, dRevV, dLenV, dIdxV, dApp, dSetI, dPopAt, dCmpV, dOwn, dOwnV, dRetO, dRng1, dRng2, dRng3, dPNo, dPSo, dYes, dLenSet, dScrLen, dScrIdx, dSrcIdx, dSrcSet, dNewSrc, oLst, oRep, oListStr, gEq, gNe, gIsN, gNotN, gIsB, gNotB, gIsi, sg, List.getD_cons_zero, List.getD_cons_succ, List.set_cons_zero, List.set_cons_succ, if_true, if_false, reduceIte, endsD, endsS, endsO, endsN, endsL, asB_b, asI_i, asL_l, itemsP_l, itemsP_t, itemsP_s, itemsP_d, gAdd_i, gAdd_s, gAdd_t, gAdd_l, gI2_i, gMul_i, gMul_t, gMul_l, gMul_s, gNeg_i, gLen_s, gLen_l, gLen_t, gL1_1, gAll_l, gSum_l, gI2L_i, gMaxL_l, gMinL_l, gJoin_l, gJoin_t, gSl_l, gSl_t, gSl_s, gRev_l, wipeS, unwipe, keepV, gIdx_l, gIdx_t, gIdx_s, gIdx_d, dVarD, dDNew, dDNewT, dDPut, dDGetV, dDInV, dDEmpty, dDOne, dOwnD, dParED, dPar3, dEnum, dZip, dgTup_t, dgCons_c, dIsE, gSplit, dZipH, dM1]
      refine ⟨_, rfl, ?_⟩
      simp only [dRet, dRetN, dAnd, dOr, dNot, dTest, dTAnd, dTOr, dTNot, dIf, dChain, dUn, dOp, dCall, dC, dVar, dCons, dNil, dTup, dLst, dSeq, dIfS, dAsg, dgName, dgNil, dPar, dParEO, dParOE, dParOO, dFor, dIter, dNext, dBreak, dCont, dDrop, dRaise, dFn, dFnS, dFnO, dM1, dLc, dSl, dSlV, dRevV, dLenV, dIdxV, dApp, dSetI, dPopAt, dCmpV, dOwn, dOwnV, dRetO, dRng1, dRng2, dRng3, dPNo, dPSo, dYes, dLenSet, dScrLen, dScrIdx, dSrcIdx, dSrcSet, dNewSrc, oLst, oRep, oListStr, gEq, gNe, gIsN, gNotN, gIsB, gNotB, gIsi, sg, List.getD_cons_zero, List.getD_cons_succ, List.set_cons_zero, List.set_cons_succ, if_true, if_false, reduceIte, endsD, endsS, endsO, endsN, endsL, asB_b, asI_i, asL_l, itemsP_l, itemsP_t, itemsP_s, itemsP_d, gAdd_i, gAdd_s, gAdd_t, gAdd_l, gI2_i, gMul_i, gMul_t, gMul_l, gMul_s, gNeg_i, gLen_s, gLen_l, gLen_t, gL1_1, gAll_l, gSum_l, gI2L_i, gMaxL_l, gMinL_l, gJoin_l, gJoin_t, gSl_l, gSl_t, gSl_s, gRev_l, wipeS, unwipe, keepV, gIdx_l, gIdx_t, gIdx_s, gIdx_d, dVarD, dDNew, dDNewT, dDPut, dDGetV, dDInV, dDEmpty, dDOne, dOwnD, dParED, dPar3, dEnum, dZip, dgTup_t, dgCons_c, dIsE, gSplit, dZipH, dM1]
      refine hK _ ?_
      clear hK
      simp only [dRet, dRetN, dAnd, dOr, dNot, dTest, dTAnd, dTOr, dTNot, dIf, dChain, dUn, dOp, dCall, dC, dVar, dCons, dNil, dTup, dLst, dSeq, dIfS, dAsg, dgName, dgNil, dPar, dParEO, dParOE, dParOO, dFor, dIter, dNext, dBreak, dCont, dDrop, dRaise, dFn, dFnS, dFnO, dM1, dLc, dSl, dSlV, dRevV, dLenV, dIdxV, dApp, dSetI, dPopAt, dCmpV, dOwn, dOwnV, dRetO, dRng1, dRng2, dRng3, dPNo, dPSo, dYes, dLenSet, dScrLen, dScrIdx, dSrcIdx, dSrcSet, dNewSrc, oLst, oRep, oListStr, gEq, gNe, gIsN, gNotN, gIsB, gNotB, gIsi, sg, List.getD_cons_zero, List.getD_cons_succ, List.set_cons_zero, List.set_cons_succ, if_true, if_false, reduceIte, endsD, endsS, endsO, endsN, endsL, asB_b, asI_i, asL_l, itemsP_l, itemsP_t, itemsP_s, itemsP_d, gAdd_i, gAdd_s, gAdd_t, gAdd_l, gI2_i, gMul_i, gMul_t, gMul_l, gMul_s, gNeg_i, gLen_s, gLen_l, gLen_t, gL1_1, gAll_l, gSum_l, gI2L_i, gMaxL_l, gMinL_l, gJoin_l, gJoin_t, gSl_l, gSl_t, gSl_s, gRev_l, wipeS, unwipe, keepV, gIdx_l, gIdx_t, gIdx_s, gIdx_d, dVarD, dDNew, dDNewT, dDPut, dDGetV, dDInV, dDEmpty, dDOne, dOwnD, dParED, dPar3, dEnum, dZip, dgTup_t, dgCons_c, dIsE, gSplit, dZipH, dM1, Bool.not_eq_true', Bool.not_eq_false', decide_eq_true_eq, decide_eq_false_iff_not, Bool.and_eq_true, Bool.or_eq_true, Bool.not_true, Bool.not_false, Bool.false_eq_true, reduceCtorEq, decide_true, decide_false]
      refine ⟨trivial, ?_⟩
      by_cases hj0 : j = 0
      · subst hj0
        rw [if_neg (by decide)]
        refine hM' _ ?_
        rw [if_neg (by simp), Int.add_zero]
      · rw [if_pos (by omega)]
        have hlt : j - 1 < w.length := by omega
        have hb : w[j - 1] ∈ kp.flatten := hw _ (List.getElem_mem hlt)
        have hlast : (w.take j).getLast? = some (w[j - 1]) := by
          rw [List.getLast?_eq_getElem?, List.length_take, Nat.min_eq_left (by omega), List.getElem?_take_of_lt (by omega), List.getElem?_eq_getElem hlt]
        simp only [dRet, dRetN, dAnd, dOr, dNot, dTest, dTAnd, dTOr, dTNot, dIf, dChain, dUn, dOp, dCall, dC, dVar, dCons, dNil, dTup, dLst, dSeq, dIfS, dAsg, dgName, dgNil, dPar, dParEO, dParOE, dParOO, dFor, dIter, dNext, dBreak, dCont, dDrop, dRaise, dFn, dFnS, dFnO, dM1, dLc, dSl, dSlV, dRevV, dLenV, dIdxV, dApp, dSetI, dPopAt, dCmpV, dOwn, dOwnV, dRetO, dRng1, dRng2, dRng3, dPNo, dPSo, dYes, dLenSet, dScrLen, dScrIdx, dSrcIdx, dSrcSet, dNewSrc, oLst, oRep, oListStr, gEq, gNe, gIsN, gNotN, gIsB, gNotB, gIsi, sg, List.getD_cons_zero, List.getD_cons_succ, List.set_cons_zero, List.set_cons_succ, if_true, if_false, reduceIte, endsD, endsS, endsO, endsN, endsL, asB_b, asI_i, asL_l, itemsP_l, itemsP_t, itemsP_s, itemsP_d, gAdd_i, gAdd_s, gAdd_t, gAdd_l, gI2_i, gMul_i, gMul_t, gMul_l, gMul_s, gNeg_i, gLen_s, gLen_l, gLen_t, gL1_1, gAll_l, gSum_l, gI2L_i, gMaxL_l, gMinL_l, gJoin_l, gJoin_t, gSl_l, gSl_t, gSl_s, gRev_l, wipeS, unwipe, keepV, gIdx_l, gIdx_t, gIdx_s, gIdx_d, dVarD, dDNew, dDNewT, dDPut, dDGetV, dDInV, dDEmpty, dDOne, dOwnD, dParED, dPar3, dEnum, dZip, dgTup_t, dgCons_c, dIsE, gSplit, dZipH, dM1, tx_length, tx_list]
        refine ⟨trivial, small_le (by omega), w[j - 1], ?_, ?_⟩
        · rw [show (j : Int) - 1 = ((j - 1 : Nat) : Int) by omega]
          exact atI_nat (List.getElem?_eq_getElem hlt)
        refine ⟨_, look_pad hb, .int (keyOf kp w[j - 1]), rfl, _, look_pad hc, .int (keyOf kp c), rfl, rfl, ?_⟩
        rw [eqv_int]
        by_cases hkk : keyOf kp w[j - 1] = keyOf kp c
        · rw [decide_eq_true hkk, if_pos rfl]
          refine hM' _ ?_
          rw [if_pos ⟨_, hlast, hkk⟩]
        · rw [decide_eq_false hkk, if_neg (fun z => Bool.noConfusion z)]
          refine hM' _ ?_
          rw [if_neg, Int.add_zero]
          rintro ⟨b, hb1, hb2⟩
          rw [hlast] at hb1
          cases hb1
          exact hkk hb2
    · subst hρ
      clear hK
      rw [List.take_length]
      have hpl := pressed_ok hk hw
      refine seq_gen fun K hK => ?_
      simp only [dRet, dRetN, dAnd, dOr, dNot, dTest, dTAnd, dTOr, dTNot, dIf, dChain, dUn, dOp, dCall, dC, dVar, dCons, dNil, dTup, dLst, dSeq, dIfS, dAsg, dgName, dgNil, dPar, dParEO, dParOE, dParOO, dFor, dIter, dNext, dBreak, dCont, dDrop, dRaise, dFn, dFnS, dFnO, dM1, dLc, dSl, dSlV, dRevV, dLenV, dIdxV, dApp, dSetI, dPopAt, dCmpV, dOwn, dOwnV, dRetO, dRng1, dRng2, dRng3, dPNo, dPSo, dYes, dLenSet, dScrLen, dScrIdx, dSrcIdx, dSrcSet, dNewSrc, oLst, oRep, oListStr, gEq, gNe, gIsN, gNotN, gIsB, gNotB, gIsi, sg, List.getD_cons_zero, List.getD_cons_succ, List.set_cons_zero, List.set_cons_succ, if_true, if_false, reduceIte, endsD, endsS, endsO, endsN, endsL, asB_b, asI_i, asL_l, itemsP_l, itemsP_t, itemsP_s, itemsP_d, gAdd_i, gAdd_s, gAdd_t, gAdd_l, gI2_i, gMul_i, gMul_t, gMul_l, gMul_s, gNeg_i, gLen_s, gLen_l, gLen_t, gL1_1, gAll_l, gSum_l, gI2L_i, gMaxL_l, gMinL_l, gJoin_l, gJoin_t, gSl_l, gSl_t, gSl_s, gRev_l, wipeS, unwipe, keepV, gIdx_l, gIdx_t, gIdx_s, gIdx_d, dVarD, dDNew, dDNewT, dDPut, dDGetV, dDInV, dDEmpty, dDOne, dOwnD, dParED, dPar3, dEnum, dZip, dgTup_t, dgCons_c, dIsE, gSplit, dZipH, dM1, Bool.not_eq_true', Bool.not_eq_false', decide_eq_true_eq, decide_eq_false_iff_not, Bool.and_eq_true, Bool.or_eq_true, Bool.not_true, Bool.not_false, Bool.false_eq_true, reduceCtorEq, decide_true, decide_false]
      refine call_cost hk tw p0 p1 ⟨rfl, ?_⟩
      rw [eqv_int, decide_eq_true rfl, if_neg (fun z => Bool.noConfusion z)]
      refine call_cost hk tw (by decide) (by decide) ?_
      refine ⟨kp, w, rfl, hk.pad, hw, by omega, ?_⟩
      rw [cost_zero]
      simp only [dRet, dRetN, dAnd, dOr, dNot, dTest, dTAnd, dTOr, dTNot, dIf, dChain, dUn, dOp, dCall, dC, dVar, dCons, dNil, dTup, dLst, dSeq, dIfS, dAsg, dgName, dgNil, dPar, dParEO, dParOE, dParOO, dFor, dIter, dNext, dBreak, dCont, dDrop, dRaise, dFn, dFnS, dFnO, dM1, dLc, dSl, dSlV, dRevV, dLenV, dIdxV, dApp, dSetI, dPopAt, dCmpV, dOwn, dOwnV, dRetO, dRng1, dRng2, dRng3, dPNo, dPSo, dYes, dLenSet, dScrLen, dScrIdx, dSrcIdx, dSrcSet, dNewSrc, oLst, oRep, oListStr, gEq, gNe, gIsN, gNotN, gIsB, gNotB, gIsi, sg, List.getD_cons_zero, List.getD_cons_succ, List.set_cons_zero, List.set_cons_succ, if_true, if_false, reduceIte, endsD, endsS, endsO, endsN, endsL, asB_b, asI_i, asL_l, itemsP_l, itemsP_t, itemsP_s, itemsP_d, gAdd_i, gAdd_s, gAdd_t, gAdd_l, gI2_i, gMul_i, gMul_t, gMul_l, gMul_s, gNeg_i, gLen_s, gLen_l, gLen_t, gL1_1, gAll_l, gSum_l, gI2L_i, gMaxL_l, gMinL_l, gJoin_l, gJoin_t, gSl_l, gSl_t, gSl_s, gRev_l, wipeS, unwipe, keepV, gIdx_l, gIdx_t, gIdx_s, gIdx_d, dVarD, dDNew, dDNewT, dDPut, dDGetV, dDInV, dDEmpty, dDOne, dOwnD, dParED, dPar3, dEnum, dZip, dgTup_t, dgCons_c, dIsE, gSplit, dZipH, dM1, Bool.not_eq_true', Bool.not_eq_false', decide_eq_true_eq, decide_eq_false_iff_not, Bool.and_eq_true, Bool.or_eq_true, Bool.not_true, Bool.not_false, Bool.false_eq_true, reduceCtorEq, decide_true, decide_false, List.length_map]
      refine ⟨rfl, ?_⟩
      rw [eqv_int, decide_eq_true rfl, if_neg (fun z => Bool.noConfusion z)]
      refine hK _ ?_
      clear hK
      refine seq_gen fun K hK => ?_
      simp only [dFor, dIter, dLst, dCons, dNil, dC, dUn, gNeg_i, itemsP_l]
      refine ⟨small_le (by show 5 ≤ 1000; decide), ?_⟩
      have hbad : ∀ d ∈ [PyData.none, .int (-1), .int 1001, .bool true, .str "0"], noDict d = true ∧ isIn d 0 1000 = false := by decide +kernel
      generalize [PyData.none, .int (-1), .int 1001, .bool true, .str "0"] = ds at hbad ⊢
      rw [map_id' ds]
      refine for_ind id (fun _ ρ => ∃ x10, ρ = [.scr ns, .va (.int (0 + (i : Int))), .src q, .va (Kd kp), .va (S w), .va (.int p), .va (.dict (spots kp.zipIdx)), .va (.int (costN kp w p)), x8, x9, x10]) ⟨_, rfl⟩ (fun done d rest ρ hd ⟨x10, hρ⟩ M hM => ?_) (fun ρ ⟨x10, hρ⟩ => hK _ ?_)
      · subst hρ
        obtain ⟨b1, b2⟩ := hbad d (by rw [hd]; exact List.mem_append.mpr (.inr List.mem_cons_self))
        simp only [dRet, dRetN, dAnd, dOr, dNot, dTest, dTAnd, dTOr, dTNot, dIf, dChain, dUn, dOp, dCall, dC, dVar, dCons, dNil, dTup, dLst, dSeq, dIfS, dAsg, dgName, dgNil, dPar, dParEO, dParOE, dParOO, dFor, dIter, dNext, dBreak, dCont, dDrop, dRaise, dFn, dFnS, dFnO, dM1, dLc, dSl, dSlV, dRevV, dLenV, dIdxV, dApp, dSetI, dPopAt, dCmpV, dOwn, dOwnV, dRetO, dRng1, dRng2, dRng3, dPNo, dPSo, dYes, dLenSet, dScrLen, dScrIdx, dSrcIdx, dSrcSet, dNewSrc, oLst, oRep, oListStr, gEq, gNe, gIsN, gNotN, gIsB, gNotB, gIsi, sg, List.getD_cons_zero, List.getD_cons_succ, List.set_cons_zero, List.set_cons_succ, if_true, if_false, reduceIte, endsD, endsS, endsO, endsN, endsL, asB_b, asI_i, asL_l, itemsP_l, itemsP_t, itemsP_s, itemsP_d, gAdd_i, gAdd_s, gAdd_t, gAdd_l, gI2_i, gMul_i, gMul_t, gMul_l, gMul_s, gNeg_i, gLen_s, gLen_l, gLen_t, gL1_1, gAll_l, gSum_l, gI2L_i, gMaxL_l, gMinL_l, gJoin_l, gJoin_t, gSl_l, gSl_t, gSl_s, gRev_l, wipeS, unwipe, keepV, gIdx_l, gIdx_t, gIdx_s, gIdx_d, dVarD, dDNew, dDNewT, dDPut, dDGetV, dDInV, dDEmpty, dDOne, dOwnD, dParED, dPar3, dEnum, dZip, dgTup_t, dgCons_c, dIsE, gSplit, dZipH, dM1, Bool.not_eq_true', Bool.not_eq_false', decide_eq_true_eq, decide_eq_false_iff_not, Bool.and_eq_true, Bool.or_eq_true, Bool.not_true, Bool.not_false, Bool.false_eq_true, reduceCtorEq, decide_true, decide_false]
        refine out_number hk tw b1 b2 ⟨rfl, ?_⟩
        rw [eqv_str, decide_eq_true rfl, if_neg (fun z => Bool.noConfusion z)]
        exact hM _ ⟨_, rfl⟩
      · subst hρ
        clear hK
        obtain ⟨c, hc⟩ : ∃ c, (keyAt kp 0)[0]? = some c := ⟨_, List.getElem?_eq_getElem (by omega)⟩
        have eA : Str.ofString "A" = tx [65] := by decide +kernel
        simp only [dRet, dRetN, dAnd, dOr, dNot, dTest, dTAnd, dTOr, dTNot, dIf, dChain, dUn, dOp, dCall, dC, dVar, dCons, dNil, dTup, dLst, dSeq, dIfS, dAsg, dgName, dgNil, dPar, dParEO, dParOE, dParOO, dFor, dIter, dNext, dBreak, dCont, dDrop, dRaise, dFn, dFnS, dFnO, dM1, dLc, dSl, dSlV, dRevV, dLenV, dIdxV, dApp, dSetI, dPopAt, dCmpV, dOwn, dOwnV, dRetO, dRng1, dRng2, dRng3, dPNo, dPSo, dYes, dLenSet, dScrLen, dScrIdx, dSrcIdx, dSrcSet, dNewSrc, oLst, oRep, oListStr, gEq, gNe, gIsN, gNotN, gIsB, gNotB, gIsi, sg, List.getD_cons_zero, List.getD_cons_succ, List.set_cons_zero, List.set_cons_succ, if_true, if_false, reduceIte, endsD, endsS, endsO, endsN, endsL, asB_b, asI_i, asL_l, itemsP_l, itemsP_t, itemsP_s, itemsP_d, gAdd_i, gAdd_s, gAdd_t, gAdd_l, gI2_i, gMul_i, gMul_t, gMul_l, gMul_s, gNeg_i, gLen_s, gLen_l, gLen_t, gL1_1, gAll_l, gSum_l, gI2L_i, gMaxL_l, gMinL_l, gJoin_l, gJoin_t, gSl_l, gSl_t, gSl_s, gRev_l, wipeS, unwipe, keepV, gIdx_l, gIdx_t, gIdx_s, gIdx_d, dVarD, dDNew, dDNewT, dDPut, dDGetV, dDInV, dDEmpty, dDOne, dOwnD, dParED, dPar3, dEnum, dZip, dgTup_t, dgCons_c, dIsE, gSplit, dZipH, dM1, Bool.not_eq_true', Bool.not_eq_false', decide_eq_true_eq, decide_eq_false_iff_not, Bool.and_eq_true, Bool.or_eq_true, Bool.not_true, Bool.not_false, Bool.false_eq_true, reduceCtorEq, decide_true, decide_false, eA]
        refine ⟨_, hat, ?_⟩
        simp only [dRet, dRetN, dAnd, dOr, dNot, dTest, dTAnd, dTOr, dTNot, dIf, dChain, dUn, dOp, dCall, dC, dVar, dCons, dNil, dTup, dLst, dSeq, dIfS, dAsg, dgName, dgNil, dPar, dParEO, dParOE, dParOO, dFor, dIter, dNext, dBreak, dCont, dDrop, dRaise, dFn, dFnS, dFnO, dM1, dLc, dSl, dSlV, dRevV, dLenV, dIdxV, dApp, dSetI, dPopAt, dCmpV, dOwn, dOwnV, dRetO, dRng1, dRng2, dRng3, dPNo, dPSo, dYes, dLenSet, dScrLen, dScrIdx, dSrcIdx, dSrcSet, dNewSrc, oLst, oRep, oListStr, gEq, gNe, gIsN, gNotN, gIsB, gNotB, gIsi, sg, List.getD_cons_zero, List.getD_cons_succ, List.set_cons_zero, List.set_cons_succ, if_true, if_false, reduceIte, endsD, endsS, endsO, endsN, endsL, asB_b, asI_i, asL_l, itemsP_l, itemsP_t, itemsP_s, itemsP_d, gAdd_i, gAdd_s, gAdd_t, gAdd_l, gI2_i, gMul_i, gMul_t, gMul_l, gMul_s, gNeg_i, gLen_s, gLen_l, gLen_t, gL1_1, gAll_l, gSum_l, gI2L_i, gMaxL_l, gMinL_l, gJoin_l, gJoin_t, gSl_l, gSl_t, gSl_s, gRev_l, wipeS, unwipe, keepV, gIdx_l, gIdx_t, gIdx_s, gIdx_d, dVarD, dDNew, dDNewT, dDPut, dDGetV, dDInV, dDEmpty, dDOne, dOwnD, dParED, dPar3, dEnum, dZip, dgTup_t, dgCons_c, dIsE, gSplit, dZipH, dM1, Bool.not_eq_true', Bool.not_eq_false', decide_eq_true_eq, decide_eq_false_iff_not, Bool.and_eq_true, Bool.or_eq_true, Bool.not_true, Bool.not_false, Bool.false_eq_true, reduceCtorEq, decide_true, decide_false, tx_length, tx_list]
        refine ⟨small_le (by omega), c, atI_nat (j := 0) hc, ⟨by decide, by decide, by show 1 ≤ 1000; decide⟩, small_le (by show 4 ≤ 1000; decide), ?_⟩
        have em : Txt.mul ⟨#[c]⟩ 31 = tx (List.replicate 31 [c]).flatten := mul_tx [c] 31
        rw [em]
        have hl31 : (List.replicate 31 [c]).flatten.length = 31 := by simp
        generalize hL : (List.replicate 31 [c]).flatten = L at hl31
        have hb2 : ∀ d ∈ [PyData.none, S [65], .int 5, S L], okV d ∧ isStrOf d kp.flatten 0 30 = false := fun d hd => by
          simp only [List.mem_cons, List.not_mem_nil, or_false] at hd
          rcases hd with rfl | rfl | rfl | rfl
          · exact ⟨trivial, rfl⟩
          · exact ⟨okV_S (by decide), notText_sign hk (by decide)⟩
          · exact ⟨trivial, rfl⟩
          · exact ⟨okV_S (by omega), notText_long (by omega)⟩
        have hl4 : [PyData.none, S [65], .int 5, S L].length = 4 := rfl
        generalize [PyData.none, S [65], .int 5, S L] = ds at hb2 hl4 ⊢
        rw [map_id' ds]
        refine lc_map id (fun _ => .str "word") ds [] (fun d hd R M hR => ?_) (small_le (by simp; omega)) ?_
        · obtain ⟨b1, b2⟩ := hb2 d hd
          simp only [dRet, dRetN, dAnd, dOr, dNot, dTest, dTAnd, dTOr, dTNot, dIf, dChain, dUn, dOp, dCall, dC, dVar, dCons, dNil, dTup, dLst, dSeq, dIfS, dAsg, dgName, dgNil, dPar, dParEO, dParOE, dParOO, dFor, dIter, dNext, dBreak, dCont, dDrop, dRaise, dFn, dFnS, dFnO, dM1, dLc, dSl, dSlV, dRevV, dLenV, dIdxV, dApp, dSetI, dPopAt, dCmpV, dOwn, dOwnV, dRetO, dRng1, dRng2, dRng3, dPNo, dPSo, dYes, dLenSet, dScrLen, dScrIdx, dSrcIdx, dSrcSet, dNewSrc, oLst, oRep, oListStr, gEq, gNe, gIsN, gNotN, gIsB, gNotB, gIsi, sg, List.getD_cons_zero, List.getD_cons_succ, List.set_cons_zero, List.set_cons_succ, if_true, if_false, reduceIte, endsD, endsS, endsO, endsN, endsL, asB_b, asI_i, asL_l, itemsP_l, itemsP_t, itemsP_s, itemsP_d, gAdd_i, gAdd_s, gAdd_t, gAdd_l, gI2_i, gMul_i, gMul_t, gMul_l, gMul_s, gNeg_i, gLen_s, gLen_l, gLen_t, gL1_1, gAll_l, gSum_l, gI2L_i, gMaxL_l, gMinL_l, gJoin_l, gJoin_t, gSl_l, gSl_t, gSl_s, gRev_l, wipeS, unwipe, keepV, gIdx_l, gIdx_t, gIdx_s, gIdx_d, dVarD, dDNew, dDNewT, dDPut, dDGetV, dDInV, dDEmpty, dDOne, dOwnD, dParED, dPar3, dEnum, dZip, dgTup_t, dgCons_c, dIsE, gSplit, dZipH, dM1, Bool.not_eq_true', Bool.not_eq_false', decide_eq_true_eq, decide_eq_false_iff_not, Bool.and_eq_true, Bool.or_eq_true, Bool.not_true, Bool.not_false, Bool.false_eq_true, reduceCtorEq, decide_true, decide_false]
          exact out_word hk b1 rfl b2 (hR _ rfl)
        · have e4 : [] ++ ds.map (fun _ => PyData.str "word") = [.str "word", .str "word", .str "word", .str "word"] := by
            rw [List.map_const', hl4]
            rfl
          rw [e4]
          simp only [dRet, dRetN, dAnd, dOr, dNot, dTest, dTAnd, dTOr, dTNot, dIf, dChain, dUn, dOp, dCall, dC, dVar, dCons, dNil, dTup, dLst, dSeq, dIfS, dAsg, dgName, dgNil, dPar, dParEO, dParOE, dParOO, dFor, dIter, dNext, dBreak, dCont, dDrop, dRaise, dFn, dFnS, dFnO, dM1, dLc, dSl, dSlV, dRevV, dLenV, dIdxV, dApp, dSetI, dPopAt, dCmpV, dOwn, dOwnV, dRetO, dRng1, dRng2, dRng3, dPNo, dPSo, dYes, dLenSet, dScrLen, dScrIdx, dSrcIdx, dSrcSet, dNewSrc, oLst, oRep, oListStr, gEq, gNe, gIsN, gNotN, gIsB, gNotB, gIsi, sg, List.getD_cons_zero, List.getD_cons_succ, List.set_cons_zero, List.set_cons_succ, if_true, if_false, reduceIte, endsD, endsS, endsO, endsN, endsL, asB_b, asI_i, asL_l, itemsP_l, itemsP_t, itemsP_s, itemsP_d, gAdd_i, gAdd_s, gAdd_t, gAdd_l, gI2_i, gMul_i, gMul_t, gMul_l, gMul_s, gNeg_i, gLen_s, gLen_l, gLen_t, gL1_1, gAll_l, gSum_l, gI2L_i, gMaxL_l, gMinL_l, gJoin_l, gJoin_t, gSl_l, gSl_t, gSl_s, gRev_l, wipeS, unwipe, keepV, gIdx_l, gIdx_t, gIdx_s, gIdx_d, dVarD, dDNew, dDNewT, dDPut, dDGetV, dDInV, dDEmpty, dDOne, dOwnD, dParED, dPar3, dEnum, dZip, dgTup_t, dgCons_c, dIsE, gSplit, dZipH, dM1, Bool.not_eq_true', Bool.not_eq_false', decide_eq_true_eq, decide_eq_false_iff_not, Bool.and_eq_true, Bool.or_eq_true, Bool.not_true, Bool.not_false, Bool.false_eq_true, reduceCtorEq, decide_true, decide_false]
          refine ⟨le1, ⟨by decide, by decide, by show 1 * 4 ≤ sizeLine; decide⟩, ?_⟩
          have e5 : eqOk (.list [PyData.str "word", .str "word", .str "word", .str "word"]) (.list (List.replicate (4 : Int).toNat [PyData.str "word"]).flatten) = true := by decide +kernel
          have e6 : PyData.eqv (.list [PyData.str "word", .str "word", .str "word", .str "word"]) (.list (List.replicate (4 : Int).toNat [PyData.str "word"]).flatten) = true := by decide +kernel
          refine ⟨e5, ?_⟩
          rw [e6, if_neg (fun z => Bool.noConfusion z)]
          exact hN _ ⟨_, rfl, rfl⟩
  · have h1 : Str.ofString "abc" = tx [97, 98, 99] := by decide +kernel
    have h2 : Str.ofString "d" = tx [100] := by decide +kernel
    have h3 : Str.ofString "abba" = tx [97, 98, 98, 97] := by decide +kernel
    simp only [dRet, dRetN, dAnd, dOr, dNot, dTest, dTAnd, dTOr, dTNot, dIf, dChain, dUn, dOp, dCall, dC, dVar, dCons, dNil, dTup, dLst, dSeq, dIfS, dAsg, dgName, dgNil, dPar, dParEO, dParOE, dParOO, dFor, dIter, dNext, dBreak, dCont, dDrop, dRaise, dFn, dFnS, dFnO, dM1, dLc, dSl, dSlV, dRevV, dLenV, dIdxV, dApp, dSetI, dPopAt, dCmpV, dOwn, dOwnV, dRetO, dRng1, dRng2, dRng3, dPNo, dPSo, dYes, dLenSet, dScrLen, dScrIdx, dSrcIdx, dSrcSet, dNewSrc, oLst, oRep, oListStr, gEq, gNe, gIsN, gNotN, gIsB, gNotB, gIsi, sg, List.getD_cons_zero, List.getD_cons_succ, List.set_cons_zero, List.set_cons_succ, if_true, if_false, reduceIte, endsD, endsS, endsO, endsN, endsL, asB_b, asI_i, asL_l, itemsP_l, itemsP_t, itemsP_s, itemsP_d, gAdd_i, gAdd_s, gAdd_t, gAdd_l, gI2_i, gMul_i, gMul_t, gMul_l, gMul_s, gNeg_i, gLen_s, gLen_l, gLen_t, gL1_1, gAll_l, gSum_l, gI2L_i, gMaxL_l, gMinL_l, gJoin_l, gJoin_t, gSl_l, gSl_t, gSl_s, gRev_l, wipeS, unwipe, keepV, gIdx_l, gIdx_t, gIdx_s, gIdx_d, dVarD, dDNew, dDNewT, dDPut, dDGetV, dDInV, dDEmpty, dDOne, dOwnD, dParED, dPar3, dEnum, dZip, dgTup_t, dgCons_c, dIsE, gSplit, dZipH, dM1, Bool.not_eq_true', Bool.not_eq_false', decide_eq_true_eq, decide_eq_false_iff_not, Bool.and_eq_true, Bool.or_eq_true, Bool.not_true, Bool.not_false, Bool.false_eq_true, reduceCtorEq, decide_true, decide_false, h1, h2, h3]
    refine ⟨le2, call_cost (kp := [[97, 98, 99], [100]]) (x := [97, 98, 98, 97]) (kpOk_of (by decide)) ⟨by decide, by decide⟩ (by decide) (by decide) ⟨rfl, ?_⟩⟩
    have e : costN [[97, 98, 99], [100]] [97, 98, 98, 97] 5 = 21 := by decide +kernel
    rw [e]
    rfl
end LW

namespace LW
open PySem PySem.Spec PyProof.Rows L2 L2H DL
def topS (i : Nat) : Stmt := PySem.Challenge.pw_pressletters_k31_costs_of_texts.main.body.getD i (.Pass ⟨0, 0, 0, 0⟩)
abbrev s_is_integer : Stmt := topS 16
theorem sc_is_integer : FnScope n_is_integer ["value", "low", "high"] (defScope s_is_integer) := ⟨rfl, rfl, rfl, by decide +kernel, rfl, by decide +kernel, by decide +kernel⟩
abbrev s_is_string_of : Stmt := topS 17
theorem sc_is_string_of : FnScope n_is_string_of ["value", "letters", "least", "most"] (defScope s_is_string_of) := ⟨rfl, rfl, rfl, by decide +kernel, rfl, by decide +kernel, by decide +kernel⟩
abbrev s_is_keypad : Stmt := topS 18
theorem sc_is_keypad : FnScope n_is_keypad ["value"] (defScope s_is_keypad) := ⟨rfl, rfl, rfl, by decide +kernel, rfl, by decide +kernel, by decide +kernel⟩
abbrev s_require_keypad : Stmt := topS 19
theorem sc_require_keypad : FnScope n_require_keypad ["value"] (defScope s_require_keypad) := ⟨rfl, rfl, rfl, by decide +kernel, rfl, by decide +kernel, by decide +kernel⟩
abbrev s_require_text : Stmt := topS 20
theorem sc_require_text : FnScope n_require_text ["keypad", "value"] (defScope s_require_text) := ⟨rfl, rfl, rfl, by decide +kernel, rfl, by decide +kernel, by decide +kernel⟩
abbrev s_require_number : Stmt := topS 21
theorem sc_require_number : FnScope n_require_number ["value", "low", "high"] (defScope s_require_number) := ⟨rfl, rfl, rfl, by decide +kernel, rfl, by decide +kernel, by decide +kernel⟩
abbrev s_places : Stmt := topS 22
theorem sc_places : FnScope n_places ["keypad"] (defScope s_places) := ⟨rfl, rfl, rfl, by decide +kernel, rfl, by decide +kernel, by decide +kernel⟩
abbrev s_pressed : Stmt := topS 23
theorem sc_pressed : FnScope n_pressed ["keypad", "text"] (defScope s_pressed) := ⟨rfl, rfl, rfl, by decide +kernel, rfl, by decide +kernel, by decide +kernel⟩
abbrev s_sums_of : Stmt := topS 25
theorem sc_sums_of : FnScope n_sums_of ["keypad", "text"] (defScope s_sums_of) := ⟨rfl, rfl, rfl, by decide +kernel, rfl, by decide +kernel, by decide +kernel⟩
abbrev s_cost_of : Stmt := topS 28
theorem sc_cost_of : FnScope n_cost_of ["keypad", "text", "pause"] (defScope s_cost_of) := ⟨rfl, rfl, rfl, by decide +kernel, rfl, by decide +kernel, by decide +kernel⟩
abbrev s_cost : Stmt := topS 29
theorem sc_cost : FnScope n_cost ["keypad", "text", "pause"] (defScope s_cost) := ⟨rfl, rfl, rfl, by decide +kernel, rfl, by decide +kernel, by decide +kernel⟩
abbrev s__law_source : Stmt := topS 31
theorem sc__law_source : FnScope n__law_source ["script", "k"] (defScope s__law_source) := ⟨rfl, rfl, rfl, by decide +kernel, rfl, by decide +kernel, by decide +kernel⟩
abbrev s__law_pick : Stmt := topS 32
theorem sc__law_pick : FnScope n__law_pick ["source", "size"] (defScope s__law_pick) := ⟨rfl, rfl, rfl, by decide +kernel, rfl, by decide +kernel, by decide +kernel⟩
abbrev s__law_error_name : Stmt := topS 33
theorem sc__law_error_name : FnScope n__law_error_name ["e"] (defScope s__law_error_name) := ⟨rfl, rfl, rfl, by decide +kernel, rfl, by decide +kernel, by decide +kernel⟩
abbrev s__law_pad : Stmt := topS 34
theorem sc__law_pad : FnScope n__law_pad ["source", "most", "wide"] (defScope s__law_pad) := ⟨rfl, rfl, rfl, by decide +kernel, rfl, by decide +kernel, by decide +kernel⟩
abbrev s__law_spots : Stmt := topS 35
theorem sc__law_spots : FnScope n__law_spots ["pad"] (defScope s__law_spots) := ⟨rfl, rfl, rfl, by decide +kernel, rfl, by decide +kernel, by decide +kernel⟩
abbrev s__law_word : Stmt := topS 36
theorem sc__law_word : FnScope n__law_word ["source", "pad", "most"] (defScope s__law_word) := ⟨rfl, rfl, rfl, by decide +kernel, rfl, by decide +kernel, by decide +kernel⟩
abbrev s__law_typed : Stmt := topS 37
theorem sc__law_typed : FnScope n__law_typed ["pad", "word"] (defScope s__law_typed) := ⟨rfl, rfl, rfl, by decide +kernel, rfl, by decide +kernel, by decide +kernel⟩
abbrev s__law_outcome : Stmt := topS 38
theorem sc__law_outcome : FnScope n__law_outcome ["pad", "word", "pause"] (defScope s__law_outcome) := ⟨rfl, rfl, rfl, by decide +kernel, rfl, by decide +kernel, by decide +kernel⟩
abbrev s_law : Stmt := topS 39
theorem sc_law : FnScope n_law ["script"] (defScope s_law) := ⟨rfl, rfl, rfl, by decide +kernel, rfl, by decide +kernel, by decide +kernel⟩
structure Tops (K : PySem.W.Frag) (mg : Str → Option Value) where
  a_is_integer : Addr
  d_is_integer : FuncData
  F_is_integer : Fun K "is_integer" "is_integer" s_is_integer a_is_integer d_is_integer
  b_is_integer : Binds K d_is_integer ["value", "low", "high"] []
  g_is_integer : mg "is_integer" = some (.ref a_is_integer)
  a_is_string_of : Addr
  d_is_string_of : FuncData
  F_is_string_of : Fun K "is_string_of" "is_string_of" s_is_string_of a_is_string_of d_is_string_of
  b_is_string_of : Binds K d_is_string_of ["value", "letters", "least", "most"] []
  g_is_string_of : mg "is_string_of" = some (.ref a_is_string_of)
  a_is_keypad : Addr
  d_is_keypad : FuncData
  F_is_keypad : Fun K "is_keypad" "is_keypad" s_is_keypad a_is_keypad d_is_keypad
  b_is_keypad : Binds K d_is_keypad ["value"] []
  g_is_keypad : mg "is_keypad" = some (.ref a_is_keypad)
  a_require_keypad : Addr
  d_require_keypad : FuncData
  F_require_keypad : Fun K "require_keypad" "require_keypad" s_require_keypad a_require_keypad d_require_keypad
  b_require_keypad : Binds K d_require_keypad ["value"] []
  g_require_keypad : mg "require_keypad" = some (.ref a_require_keypad)
  a_require_text : Addr
  d_require_text : FuncData
  F_require_text : Fun K "require_text" "require_text" s_require_text a_require_text d_require_text
  b_require_text : Binds K d_require_text ["keypad", "value"] []
  g_require_text : mg "require_text" = some (.ref a_require_text)
  a_require_number : Addr
  d_require_number : FuncData
  F_require_number : Fun K "require_number" "require_number" s_require_number a_require_number d_require_number
  b_require_number : Binds K d_require_number ["value", "low", "high"] []
  g_require_number : mg "require_number" = some (.ref a_require_number)
  a_places : Addr
  d_places : FuncData
  F_places : Fun K "places" "places" s_places a_places d_places
  b_places : Binds K d_places ["keypad"] []
  g_places : mg "places" = some (.ref a_places)
  a_pressed : Addr
  d_pressed : FuncData
  F_pressed : Fun K "pressed" "pressed" s_pressed a_pressed d_pressed
  b_pressed : Binds K d_pressed ["keypad", "text"] []
  g_pressed : mg "pressed" = some (.ref a_pressed)
  a_sums_of : Addr
  d_sums_of : FuncData
  F_sums_of : Fun K "sums_of" "sums_of" s_sums_of a_sums_of d_sums_of
  b_sums_of : Binds K d_sums_of ["keypad", "text"] []
  g_sums_of : mg "sums_of" = some (.ref a_sums_of)
  a_cost_of : Addr
  d_cost_of : FuncData
  F_cost_of : Fun K "cost_of" "cost_of" s_cost_of a_cost_of d_cost_of
  b_cost_of : Binds K d_cost_of ["keypad", "text", "pause"] []
  g_cost_of : mg "cost_of" = some (.ref a_cost_of)
  a_cost : Addr
  d_cost : FuncData
  F_cost : Fun K "cost" "cost" s_cost a_cost d_cost
  b_cost : Binds K d_cost ["keypad", "text", "pause"] []
  g_cost : mg "cost" = some (.ref a_cost)
  a__law_source : Addr
  d__law_source : FuncData
  F__law_source : Fun K "_law_source" "_law_source" s__law_source a__law_source d__law_source
  b__law_source : Binds K d__law_source ["script", "k"] []
  g__law_source : mg "_law_source" = some (.ref a__law_source)
  a__law_pick : Addr
  d__law_pick : FuncData
  F__law_pick : Fun K "_law_pick" "_law_pick" s__law_pick a__law_pick d__law_pick
  b__law_pick : Binds K d__law_pick ["source", "size"] []
  g__law_pick : mg "_law_pick" = some (.ref a__law_pick)
  a__law_error_name : Addr
  d__law_error_name : FuncData
  F__law_error_name : Fun K "_law_error_name" "_law_error_name" s__law_error_name a__law_error_name d__law_error_name
  b__law_error_name : Binds K d__law_error_name ["e"] []
  g__law_error_name : mg "_law_error_name" = some (.ref a__law_error_name)
  a__law_pad : Addr
  d__law_pad : FuncData
  F__law_pad : Fun K "_law_pad" "_law_pad" s__law_pad a__law_pad d__law_pad
  b__law_pad : Binds K d__law_pad ["source", "most", "wide"] []
  g__law_pad : mg "_law_pad" = some (.ref a__law_pad)
  a__law_spots : Addr
  d__law_spots : FuncData
  F__law_spots : Fun K "_law_spots" "_law_spots" s__law_spots a__law_spots d__law_spots
  b__law_spots : Binds K d__law_spots ["pad"] []
  g__law_spots : mg "_law_spots" = some (.ref a__law_spots)
  a__law_word : Addr
  d__law_word : FuncData
  F__law_word : Fun K "_law_word" "_law_word" s__law_word a__law_word d__law_word
  b__law_word : Binds K d__law_word ["source", "pad", "most"] []
  g__law_word : mg "_law_word" = some (.ref a__law_word)
  a__law_typed : Addr
  d__law_typed : FuncData
  F__law_typed : Fun K "_law_typed" "_law_typed" s__law_typed a__law_typed d__law_typed
  b__law_typed : Binds K d__law_typed ["pad", "word"] []
  g__law_typed : mg "_law_typed" = some (.ref a__law_typed)
  a__law_outcome : Addr
  d__law_outcome : FuncData
  F__law_outcome : Fun K "_law_outcome" "_law_outcome" s__law_outcome a__law_outcome d__law_outcome
  b__law_outcome : Binds K d__law_outcome ["pad", "word", "pause"] []
  g__law_outcome : mg "_law_outcome" = some (.ref a__law_outcome)
  a_law : Addr
  d_law : FuncData
  F_law : Fun K "law" "law" s_law a_law d_law
  b_law : Binds K d_law ["script"] []
  g_law : mg "law" = some (.ref a_law)
  z_ValueError : mg "ValueError" = none
  z_all : mg "all" = none
  z_bool : mg "bool" = none
  z_enumerate : mg "enumerate" = none
  z_int : mg "int" = none
  z_isinstance : mg "isinstance" = none
  z_len : mg "len" = none
  z_list : mg "list" = none
  z_max : mg "max" = none
  z_min : mg "min" = none
  z_range : mg "range" = none
  z_set : mg "set" = none
  z_str : mg "str" = none
  z_tuple : mg "tuple" = none
  z_zip : mg "zip" = none
  k_LETTERS : Tok
  c_LETTERS : mg "LETTERS" = some (.str "abcdefghijklmnopqrstuvwxyz" k_LETTERS)
  k_MAX_KEYS : Tok
  c_MAX_KEYS : mg "MAX_KEYS" = some (.int 10 k_MAX_KEYS)
  k_MAX_LETTERS : Tok
  c_MAX_LETTERS : mg "MAX_LETTERS" = some (.int 6 k_MAX_LETTERS)
  k_MAX_PAUSE : Tok
  c_MAX_PAUSE : mg "MAX_PAUSE" = some (.int 1000 k_MAX_PAUSE)
  k_MAX_TEXT : Tok
  c_MAX_TEXT : mg "MAX_TEXT" = some (.int 30 k_MAX_TEXT)
  C_InvalidKeypad : Addr
  C_InvalidText : Addr
  C_InvalidLog : Addr
  C_InvalidNumber : Addr
  C_InvalidThreshold : Addr
  C_InvalidPress : Addr
  C_TooMany : Addr
  C_TooOften : Addr
  C_NothingToUndo : Addr
  C_PressError : Addr
  x_InvalidKeypad : ExcK K mg "InvalidKeypad" C_InvalidKeypad
  x_InvalidNumber : ExcK K mg "InvalidNumber" C_InvalidNumber
  x_InvalidText : ExcK K mg "InvalidText" C_InvalidText
  n_InvalidKeypad : mg "InvalidKeypad" = some (.ref C_InvalidKeypad)
  hd_InvalidKeypad : PySem.W.hasDictIn K C_InvalidKeypad = true
  ty_InvalidKeypad : PySem.W.typeIn K (.ref C_InvalidKeypad) = some (.type "type")
  n_InvalidText : mg "InvalidText" = some (.ref C_InvalidText)
  hd_InvalidText : PySem.W.hasDictIn K C_InvalidText = true
  ty_InvalidText : PySem.W.typeIn K (.ref C_InvalidText) = some (.type "type")
  n_InvalidLog : mg "InvalidLog" = some (.ref C_InvalidLog)
  hd_InvalidLog : PySem.W.hasDictIn K C_InvalidLog = true
  ty_InvalidLog : PySem.W.typeIn K (.ref C_InvalidLog) = some (.type "type")
  n_InvalidNumber : mg "InvalidNumber" = some (.ref C_InvalidNumber)
  hd_InvalidNumber : PySem.W.hasDictIn K C_InvalidNumber = true
  ty_InvalidNumber : PySem.W.typeIn K (.ref C_InvalidNumber) = some (.type "type")
  n_InvalidThreshold : mg "InvalidThreshold" = some (.ref C_InvalidThreshold)
  hd_InvalidThreshold : PySem.W.hasDictIn K C_InvalidThreshold = true
  ty_InvalidThreshold : PySem.W.typeIn K (.ref C_InvalidThreshold) = some (.type "type")
  n_InvalidPress : mg "InvalidPress" = some (.ref C_InvalidPress)
  hd_InvalidPress : PySem.W.hasDictIn K C_InvalidPress = true
  ty_InvalidPress : PySem.W.typeIn K (.ref C_InvalidPress) = some (.type "type")
  n_TooMany : mg "TooMany" = some (.ref C_TooMany)
  hd_TooMany : PySem.W.hasDictIn K C_TooMany = true
  ty_TooMany : PySem.W.typeIn K (.ref C_TooMany) = some (.type "type")
  n_TooOften : mg "TooOften" = some (.ref C_TooOften)
  hd_TooOften : PySem.W.hasDictIn K C_TooOften = true
  ty_TooOften : PySem.W.typeIn K (.ref C_TooOften) = some (.type "type")
  n_NothingToUndo : mg "NothingToUndo" = some (.ref C_NothingToUndo)
  hd_NothingToUndo : PySem.W.hasDictIn K C_NothingToUndo = true
  ty_NothingToUndo : PySem.W.typeIn K (.ref C_NothingToUndo) = some (.type "type")
  n_PressError : mg "PressError" = some (.ref C_PressError)
  hd_PressError : PySem.W.hasDictIn K C_PressError = true
  ty_PressError : PySem.W.typeIn K (.ref C_PressError) = some (.type "type")
  bp : PySem.W.subIn K (.ref C_PressError) (.type "BaseException") = some true
  er_InvalidKeypad : ErrC K mg [("InvalidKeypad", C_InvalidKeypad), ("InvalidText", C_InvalidText), ("InvalidLog", C_InvalidLog), ("InvalidNumber", C_InvalidNumber), ("InvalidThreshold", C_InvalidThreshold), ("InvalidPress", C_InvalidPress), ("TooMany", C_TooMany), ("TooOften", C_TooOften), ("NothingToUndo", C_NothingToUndo), ("PressError", C_PressError)] "InvalidKeypad" C_InvalidKeypad
  er_InvalidNumber : ErrC K mg [("InvalidKeypad", C_InvalidKeypad), ("InvalidText", C_InvalidText), ("InvalidLog", C_InvalidLog), ("InvalidNumber", C_InvalidNumber), ("InvalidThreshold", C_InvalidThreshold), ("InvalidPress", C_InvalidPress), ("TooMany", C_TooMany), ("TooOften", C_TooOften), ("NothingToUndo", C_NothingToUndo), ("PressError", C_PressError)] "InvalidNumber" C_InvalidNumber
  er_InvalidText : ErrC K mg [("InvalidKeypad", C_InvalidKeypad), ("InvalidText", C_InvalidText), ("InvalidLog", C_InvalidLog), ("InvalidNumber", C_InvalidNumber), ("InvalidThreshold", C_InvalidThreshold), ("InvalidPress", C_InvalidPress), ("TooMany", C_TooMany), ("TooOften", C_TooOften), ("NothingToUndo", C_NothingToUndo), ("PressError", C_PressError)] "InvalidText" C_InvalidText
section
variable {K : PySem.W.Frag} {mg : Str → Option Value}
def ten (T : Tops K mg) : List (Str × Addr) := [("InvalidKeypad", T.C_InvalidKeypad), ("InvalidText", T.C_InvalidText), ("InvalidLog", T.C_InvalidLog), ("InvalidNumber", T.C_InvalidNumber), ("InvalidThreshold", T.C_InvalidThreshold), ("InvalidPress", T.C_InvalidPress), ("TooMany", T.C_TooMany), ("TooOften", T.C_TooOften), ("NothingToUndo", T.C_NothingToUndo), ("PressError", T.C_PressError)]
theorem ten_InvalidKeypad (T : Tops K mg) : (("InvalidKeypad" : Str), T.C_InvalidKeypad) ∈ ten T := List.mem_of_getElem? (i := 0) rfl
theorem ten_InvalidText (T : Tops K mg) : (("InvalidText" : Str), T.C_InvalidText) ∈ ten T := List.mem_of_getElem? (i := 1) rfl
theorem ten_InvalidLog (T : Tops K mg) : (("InvalidLog" : Str), T.C_InvalidLog) ∈ ten T := List.mem_of_getElem? (i := 2) rfl
theorem ten_InvalidNumber (T : Tops K mg) : (("InvalidNumber" : Str), T.C_InvalidNumber) ∈ ten T := List.mem_of_getElem? (i := 3) rfl
theorem ten_InvalidThreshold (T : Tops K mg) : (("InvalidThreshold" : Str), T.C_InvalidThreshold) ∈ ten T := List.mem_of_getElem? (i := 4) rfl
theorem ten_InvalidPress (T : Tops K mg) : (("InvalidPress" : Str), T.C_InvalidPress) ∈ ten T := List.mem_of_getElem? (i := 5) rfl
theorem ten_TooMany (T : Tops K mg) : (("TooMany" : Str), T.C_TooMany) ∈ ten T := List.mem_of_getElem? (i := 6) rfl
theorem ten_TooOften (T : Tops K mg) : (("TooOften" : Str), T.C_TooOften) ∈ ten T := List.mem_of_getElem? (i := 7) rfl
theorem ten_NothingToUndo (T : Tops K mg) : (("NothingToUndo" : Str), T.C_NothingToUndo) ∈ ten T := List.mem_of_getElem? (i := 8) rfl
theorem ten_PressError (T : Tops K mg) : (("PressError" : Str), T.C_PressError) ∈ ten T := List.mem_of_getElem? (i := 9) rfl
theorem all_ten (T : Tops K mg) {P : Str × Addr → Prop} (h0 : P ("InvalidKeypad", T.C_InvalidKeypad)) (h1 : P ("InvalidText", T.C_InvalidText)) (h2 : P ("InvalidLog", T.C_InvalidLog)) (h3 : P ("InvalidNumber", T.C_InvalidNumber)) (h4 : P ("InvalidThreshold", T.C_InvalidThreshold)) (h5 : P ("InvalidPress", T.C_InvalidPress)) (h6 : P ("TooMany", T.C_TooMany)) (h7 : P ("TooOften", T.C_TooOften)) (h8 : P ("NothingToUndo", T.C_NothingToUndo)) (h9 : P ("PressError", T.C_PressError)) : ∀ p ∈ ten T, P p := fun p hp => by
  simp only [ten, List.mem_cons, List.not_mem_nil, or_false] at hp
  rcases hp with rfl | rfl | rfl | rfl | rfl | rfl | rfl | rfl | rfl | rfl
  · exact h0
  · exact h1
  · exact h2
  · exact h3
  · exact h4
  · exact h5
  · exact h6
  · exact h7
  · exact h8
  · exact h9
theorem tenOk (T : Tops K mg) : Ten K mg (ten T) := ⟨all_ten T T.n_InvalidKeypad T.n_InvalidText T.n_InvalidLog T.n_InvalidNumber T.n_InvalidThreshold T.n_InvalidPress T.n_TooMany T.n_TooOften T.n_NothingToUndo T.n_PressError, all_ten T T.hd_InvalidKeypad T.hd_InvalidText T.hd_InvalidLog T.hd_InvalidNumber T.hd_InvalidThreshold T.hd_InvalidPress T.hd_TooMany T.hd_TooOften T.hd_NothingToUndo T.hd_PressError, all_ten T T.ty_InvalidKeypad T.ty_InvalidText T.ty_InvalidLog T.ty_InvalidNumber T.ty_InvalidThreshold T.ty_InvalidPress T.ty_TooMany T.ty_TooOften T.ty_NothingToUndo T.ty_PressError⟩
def excs (T : Tops K mg) : List (Str × Addr) := [("InvalidKeypad", T.C_InvalidKeypad), ("InvalidNumber", T.C_InvalidNumber), ("InvalidText", T.C_InvalidText)]
theorem errOf (T : Tops K mg) {nm : Str} {C : Addr} (h : (nm, C) ∈ excs T) : ErrC K mg (ten T) nm C := by
  simp only [excs, List.mem_cons, List.not_mem_nil, or_false, Prod.mk.injEq] at h
  rcases h with ⟨rfl, rfl⟩ | ⟨rfl, rfl⟩ | ⟨rfl, rfl⟩
  · exact T.er_InvalidKeypad
  · exact T.er_InvalidNumber
  · exact T.er_InvalidText
theorem catch_ (T : Tops K mg) : Catch K mg T.C_PressError (excs T) where
  g nm C C2 h hc := by
    have := (errOf T h).g.symm.trans hc
    exact (Value.ref.inj (Option.some.inj this)).symm
  m nm C h := PySem.W.exm_ref T.bp T.hd_PressError T.ty_PressError (by
    have := (errOf T h).kit _ (ten_PressError T)
    rw [this]
    unfold isNm
    simp)
end

section
variable {P : Program} {w : World} {K : PySem.W.Frag} {mg : Str → Option Value} {base : Heap}
theorem ok_is_integer (T : Tops K mg) : FnD P w K mg base 1 T.a_is_integer T.d_is_integer ["value", "low", "high"] p_is_integer := fnD (k := 0) T.F_is_integer sc_is_integer l_is_integer (fun cdv A outer s H E W hr HW => ⟨t_is_integer W, (b_one (s_ret (x_and (x_isi is_int rfl T.z_isinstance rfl T.z_int boot_int (x_var (pv 0))) (x_and (x_not (x_isi is_bool rfl T.z_isinstance rfl T.z_bool boot_bool (x_var (pv 0)))) (x_one (x_chain o_le o_le (x_var (pv 1)) (x_var (pv 0)) (x_var (pv 2)))))))), fun ds Q h => D_is_integer W ds Q h⟩)

theorem ok_is_string_of (T : Tops K mg) : FnD P w K mg base 1 T.a_is_string_of T.d_is_string_of ["value", "letters", "least", "most"] p_is_string_of := fnD (k := 0) T.F_is_string_of sc_is_string_of l_is_string_of (fun cdv A outer s H E W hr HW => ⟨t_is_string_of W, (b_one (s_ret (x_and (x_isi is_str rfl T.z_isinstance rfl T.z_str boot_str (x_var (pv 0))) (x_and (x_chain o_le o_le (x_var (pv 2)) (x_blt c_len rfl T.z_len PySem.boot_len (x_cons (x_var (pv 0)) x_nil)) (x_var (pv 3))) (x_one (x_blt (c_all rfl) rfl T.z_all boot_all (x_cons (x_lc (own := [("sign", 4)]) rfl sc_is_string_of.nd (i_any (x_var (pv 0))) (blkOk_by (N := n_is_string_of) (sc := defScope s_is_string_of) (by decide +kernel)) (fun _ _ _ _ _ => (g_name (i := 4) (vs := [4]) (by decide) sc_is_string_of.nd rfl (Or.inl rfl))) (fun _ _ _ _ _ => ts_nil) (fun _ _ _ _ _ => (x_cmp (o_in (hu_of hr)) (x_var (pv 4)) (x_var (pv 1)) rfl))) x_nil))))))), fun ds Q h => D_is_string_of W ds Q h⟩)

theorem ok_is_keypad (T : Tops K mg) : FnD P w K mg base 2 T.a_is_keypad T.d_is_keypad ["value"] p_is_keypad := fnD (k := 1) T.F_is_keypad sc_is_keypad l_is_keypad (fun cdv A outer s H E W hr HW => ⟨t_is_keypad W, (b_cons (s_if (DXw.pt (t_or (t_not (t_val (x_isi is_tup rfl T.z_isinstance rfl T.z_tuple boot_tuple (x_var (pv 0))))) (t_or1 (t_not (t_chain o_le o_le x_int (x_blt c_len rfl T.z_len PySem.boot_len (x_cons (x_var (pv 0)) x_nil)) (x_gInt rfl T.c_MAX_KEYS)))))) (b_one (s_ret x_bl)) b_nil)
      (b_cons (s_if (t_not (t_val (x_blt (c_all rfl) rfl T.z_all boot_all (x_cons (x_lc (own := [("key", 2)]) rfl sc_is_keypad.nd (i_any (x_var (pv 0))) (blkOk_by (N := n_is_keypad) (sc := defScope s_is_keypad) (by decide +kernel)) (fun _ _ _ _ _ => (g_name (i := 2) (vs := [2]) (by decide) sc_is_keypad.nd rfl (Or.inl rfl))) (fun _ _ _ _ _ => ts_nil) (fun _ _ _ _ _ => (x_call (ok_is_string_of T) m_is_string_of (hr.mono (by decide)) rfl T.g_is_string_of T.F_is_string_of.kp T.b_is_string_of xw_none (x_cons (x_var (pv 2)) (x_cons (x_gStr rfl T.c_LETTERS) (x_cons x_int (x_cons (x_gInt rfl T.c_MAX_LETTERS) x_nil))))))) x_nil)))) (b_one (s_ret x_bl)) b_nil)
      (b_cons (s_set (i := 1) sc_is_keypad.nd rfl (Or.inl rfl) (x_join x_str (x_var (pv 0))))
      (b_one (s_ret (x_cmp (o_eq (hu64 hr)) (x_lenSet rfl rfl T.z_len rfl T.z_set (x_var (pv 1))) (x_blt c_len rfl T.z_len PySem.boot_len (x_cons (x_var (pv 1)) x_nil)) (nomark _))))))), fun ds Q h => D_is_keypad W ds Q h⟩)

theorem ok_require_keypad (T : Tops K mg) : FnD P w K mg base 3 T.a_require_keypad T.d_require_keypad ["value"] p_require_keypad := fnD (k := 2) T.F_require_keypad sc_require_keypad l_require_keypad (fun cdv A outer s H E W hr HW => ⟨t_require_keypad W, (b_one (s_if (t_not (t_val (x_call (ok_is_keypad T) m_is_keypad (hr.mono (by decide)) rfl T.g_is_keypad T.F_is_keypad.kp T.b_is_keypad HW (x_cons (x_var (pv 0)) x_nil)))) (b_one (s_raise rfl T.x_InvalidKeypad HW rfl)) b_nil)), fun ds Q h => D_require_keypad W ds Q h⟩)

theorem ok_require_text (T : Tops K mg) : FnD P w K mg base 2 T.a_require_text T.d_require_text ["keypad", "value"] p_require_text := fnD (k := 1) T.F_require_text sc_require_text l_require_text (fun cdv A outer s H E W hr HW => ⟨t_require_text W, (b_one (s_if (t_not (t_val (x_call (ok_is_string_of T) m_is_string_of (hr.mono (by decide)) rfl T.g_is_string_of T.F_is_string_of.kp T.b_is_string_of HW (x_cons (x_var (pv 1)) (x_cons (x_join x_str (x_var (pv 0))) (x_cons x_int (x_cons (x_gInt rfl T.c_MAX_TEXT) x_nil))))))) (b_one (s_raise rfl T.x_InvalidText HW rfl)) b_nil)), fun ds Q h => D_require_text W ds Q h⟩)

theorem ok_require_number (T : Tops K mg) : FnD P w K mg base 2 T.a_require_number T.d_require_number ["value", "low", "high"] p_require_number := fnD (k := 1) T.F_require_number sc_require_number l_require_number (fun cdv A outer s H E W hr HW => ⟨t_require_number W, (b_one (s_if (t_not (t_val (x_call (ok_is_integer T) m_is_integer (hr.mono (by decide)) rfl T.g_is_integer T.F_is_integer.kp T.b_is_integer HW (x_cons (x_var (pv 0)) (x_cons (x_var (pv 1)) (x_cons (x_var (pv 2)) x_nil)))))) (b_one (s_raise rfl T.x_InvalidNumber HW rfl)) b_nil)), fun ds Q h => D_require_number W ds Q h⟩)

theorem ok_places (T : Tops K mg) : FnD P w K mg base 1 T.a_places T.d_places ["keypad"] p_places := fnD (k := 0) T.F_places sc_places l_places (fun cdv A outer s H E W hr HW => ⟨t_places W, (b_cons (s_dnew (i := 1) sc_places.nd rfl (Or.inl rfl))
      (b_cons (s_for (passes_of rfl) rfl (i_enum rfl T.z_enumerate (x_var (pv 0))) (g_tup rfl (g_cons (g_name (i := 2) (vs := [2, 3]) (by decide) sc_places.nd rfl (Or.inl rfl)) (g_cons (g_name (i := 3) (vs := [2, 3]) (by decide) sc_places.nd rfl (Or.inl rfl)) g_nil)) rfl rfl (len_cons (len_cons (fun _ _ _ h => len_nil h)))) (b_one (s_for (passes_of rfl) rfl (i_enum rfl T.z_enumerate (x_var (pv 3))) (g_tup rfl (g_cons (g_name (i := 4) (vs := [4, 5]) (by decide) sc_places.nd rfl (Or.inl rfl)) (g_cons (g_name (i := 5) (vs := [4, 5]) (by decide) sc_places.nd rfl (Or.inl rfl)) g_nil)) rfl rfl (len_cons (len_cons (fun _ _ _ h => len_nil h)))) (b_one (s_dput (hu_of hr) (pv 1) (x_var (pv 5)) (x_tup (x_cons (x_var (pv 2)) (x_cons (x_op o_add (x_var (pv 4)) x_int) x_nil))))))))
      (b_one (s_ret (x_varD (pv 1)))))), fun ds Q h => D_places W ds Q h⟩)

theorem ok_pressed (T : Tops K mg) : FnD P w K mg base 2 T.a_pressed T.d_pressed ["keypad", "text"] p_pressed := fnD (k := 1) T.F_pressed sc_pressed l_pressed (fun cdv A outer s H E W hr HW => ⟨t_pressed W, (b_cons (s_par (i := 2) (j := 3) rfl sc_pressed.nd rfl rfl (by decide) rfl rfl (x_cons (x_call (ok_places T) m_places (hr.mono (by decide)) rfl T.g_places T.F_places.kp T.b_places HW (x_cons (x_var (pv 0)) x_nil)) (x_cons (x_tup x_nil) x_nil)))
      (b_cons (s_for (passes_of rfl) rfl (i_any (x_var (pv 1))) (g_name (i := 4) (vs := [4]) (by decide) sc_pressed.nd rfl (Or.inl rfl)) (b_cons (s_asg (x_ix (o_idx (hu_of hr)) (x_var (pv 2)) (x_var (pv 4)) (fun _ _ => rfl)) (g_tup rfl (g_cons (g_name (i := 5) (vs := [5, 6]) (by decide) sc_pressed.nd rfl (Or.inl rfl)) (g_cons (g_name (i := 6) (vs := [5, 6]) (by decide) sc_pressed.nd rfl (Or.inl rfl)) g_nil)) rfl rfl (len_cons (len_cons (fun _ _ _ h => len_nil h)))))
      (b_one (s_set (i := 3) sc_pressed.nd rfl (Or.inl rfl) (x_op o_add (x_var (pv 3)) (x_op o_mul (x_tup (x_cons (x_var (pv 5)) x_nil)) (x_var (pv 6))))))))
      (b_one (s_ret (x_var (pv 3)))))), fun ds Q h => D_pressed W ds Q h⟩)

theorem ok_sums_of (T : Tops K mg) : FnD P w K mg base 2 T.a_sums_of T.d_sums_of ["keypad", "text"] p_sums_of := fnD (k := 1) T.F_sums_of sc_sums_of l_sums_of (fun cdv A outer s H E W hr HW => ⟨t_sums_of W, (b_cons (s_parEO (i := 2) (j := 3) rfl sc_sums_of.nd rfl rfl (by decide) rfl rfl (x_call (ok_places T) m_places (hr.mono (by decide)) rfl T.g_places T.F_places.kp T.b_places HW (x_cons (x_var (pv 0)) x_nil)) (o_lst x_nil) rfl rfl)
      (b_cons (s_for (passes_of rfl) rfl (i_any (x_var (pv 1))) (g_name (i := 4) (vs := [4]) (by decide) sc_sums_of.nd rfl (Or.inl rfl)) (b_cons (s_asg (x_ix (o_idx (hu_of hr)) (x_var (pv 2)) (x_var (pv 4)) (fun _ _ => rfl)) (g_tup rfl (g_cons (g_name (i := 5) (vs := [5, 6]) (by decide) sc_sums_of.nd rfl (Or.inl rfl)) (g_cons (g_name (i := 6) (vs := [5, 6]) (by decide) sc_sums_of.nd rfl (Or.inl rfl)) g_nil)) rfl rfl (len_cons (len_cons (fun _ _ _ h => len_nil h)))))
      (b_one (s_if (DXw.pt (t_and (t_neV (hu64 hr) (pv 3) (x_lst x_nil) (nomark _)) (t_and1 (t_cmp (o_eq (hu64 hr)) (x_ix (o_idx (hu_of hr)) (x_idxV (pv 3) (x_un o_neg x_int) (fun _ _ => rfl)) x_int (fun _ _ => rfl)) (x_var (pv 5)) (nomark _))))) (b_one (s_setI (pv 3) (x_un o_neg x_int) (x_tup (x_cons (x_var (pv 5)) (x_cons (x_op o_add (x_ix (o_idx (hu_of hr)) (x_idxV (pv 3) (x_un o_neg x_int) (fun _ _ => rfl)) x_int (fun _ _ => rfl)) (x_var (pv 6))) x_nil))))) (b_one (s_app (pv 3) (x_tup (x_cons (x_var (pv 5)) (x_cons (x_var (pv 6)) x_nil)))))))))
      (b_one (s_ret (x_var (pv 3)))))), fun ds Q h => D_sums_of W ds Q h⟩)

theorem ok_cost_of (T : Tops K mg) : FnD P w K mg base 3 T.a_cost_of T.d_cost_of ["keypad", "text", "pause"] p_cost_of := fnD (k := 2) T.F_cost_of sc_cost_of l_cost_of (fun cdv A outer s H E W hr HW => ⟨t_cost_of W, (b_one (s_ret (x_op o_add (x_blt c_len rfl T.z_len PySem.boot_len (x_cons (x_call (ok_pressed T) m_pressed (hr.mono (by decide)) rfl T.g_pressed T.F_pressed.kp T.b_pressed HW (x_cons (x_var (pv 0)) (x_cons (x_var (pv 1)) x_nil))) x_nil)) (x_op o_mul (x_var (pv 2)) (x_op o_sub (x_blt c_len rfl T.z_len PySem.boot_len (x_cons (x_var (pv 1)) x_nil)) (x_blt c_len rfl T.z_len PySem.boot_len (x_cons (x_call (ok_sums_of T) m_sums_of (hr.mono (by decide)) rfl T.g_sums_of T.F_sums_of.kp T.b_sums_of HW (x_cons (x_var (pv 0)) (x_cons (x_var (pv 1)) x_nil))) x_nil))))))), fun ds Q h => D_cost_of W ds Q h⟩)

theorem ok_cost (T : Tops K mg) : FnD P w K mg base 4 T.a_cost T.d_cost ["keypad", "text", "pause"] p_cost := fnD (k := 3) T.F_cost sc_cost l_cost (fun cdv A outer s H E W hr HW => ⟨t_cost W, (b_cons (s_expr (x_call (ok_require_keypad T) m_require_keypad (hr.mono (by decide)) rfl T.g_require_keypad T.F_require_keypad.kp T.b_require_keypad HW (x_cons (x_var (pv 0)) x_nil)))
      (b_cons (s_expr (x_call (ok_require_text T) m_require_text (hr.mono (by decide)) rfl T.g_require_text T.F_require_text.kp T.b_require_text HW (x_cons (x_var (pv 0)) (x_cons (x_var (pv 1)) x_nil))))
      (b_cons (s_expr (x_call (ok_require_number T) m_require_number (hr.mono (by decide)) rfl T.g_require_number T.F_require_number.kp T.b_require_number HW (x_cons (x_var (pv 2)) (x_cons x_int (x_cons (x_gInt rfl T.c_MAX_PAUSE) x_nil)))))
      (b_one (s_ret (x_call (ok_cost_of T) m_cost_of (hr.mono (by decide)) rfl T.g_cost_of T.F_cost_of.kp T.b_cost_of HW (x_cons (x_var (pv 0)) (x_cons (x_var (pv 1)) (x_cons (x_var (pv 2)) x_nil))))))))), fun ds Q h => D_cost W ds Q h⟩)

theorem ok__law_source (T : Tops K mg) : FnN P w K mg base 1 T.a__law_source T.d__law_source ["script", "k"] p__law_source := fnN (k := 0) T.F__law_source sc__law_source (fun cdv A outer s H E hr => ⟨t__law_source noW, (b_cons (s_set (i := 2) sc__law_source.nd rfl (Or.inl rfl) x_int)
      (b_cons (s_if (t_cmp o_lt (x_var (pv 1)) (x_scrLen rfl T.z_len (pv 0)) (nomark _)) (b_one (s_set (i := 2) sc__law_source.nd rfl (Or.inl rfl) (x_scrIdx (pv 0) (x_var (pv 1)) (fun _ _ => rfl)))) b_nil)
      (b_cons (s_set (i := 3) sc__law_source.nd rfl (Or.inl rfl) (x_lst (x_cons x_int (x_cons x_int (x_cons x_int (x_cons x_int (x_cons x_int (x_cons x_int (x_cons x_int (x_cons x_int x_nil))))))))))
      (b_cons (s_set (i := 4) sc__law_source.nd rfl (Or.inl rfl) (x_op o_mod (x_op o_mul (x_op o_add (x_op o_mod (x_var (pv 2)) x_int) x_int) (x_op o_add x_int (x_op o_mul x_int (x_var (pv 1))))) x_int))
      (b_cons (s_set (i := 4) sc__law_source.nd rfl (Or.inl rfl) (x_op o_add (x_op o_add (x_op o_mod (x_op o_mul (x_var (pv 4)) (x_var (pv 4))) x_int) (x_var (pv 1))) x_int))
      (b_cons (s_if (t_cmp o_ge (x_var (pv 2)) (x_op o_pow x_int x_int) (nomark _)) (b_one (s_retO (o_lst (x_cons (x_var (pv 2)) (x_cons (x_var (pv 4)) (x_cons (x_ix (o_idx (hu_of hr)) (x_var (pv 3)) (x_op o_mod (x_var (pv 1)) x_int) (fun _ _ => rfl)) x_nil)))))) b_nil)
      (b_one (s_retO (o_lst (x_cons x_int (x_cons (x_var (pv 4)) (x_cons (x_ix (o_idx (hu_of hr)) (x_var (pv 3)) (x_op o_mod (x_var (pv 1)) x_int) (fun _ _ => rfl)) x_nil)))))))))))), fun ns i h => D__law_source ns i h⟩)

theorem ok__law_pick (T : Tops K mg) : FnS P w K mg base 1 T.a__law_pick T.d__law_pick ["source", "size"] p__law_pick := fnS (k := 0) T.F__law_pick sc__law_pick l__law_pick (fun cdv A outer s H E q hr => ⟨t__law_pick noW, (b_cons (s_if (t_cmp o_gt (x_srcIdx (j := 0) (pv 0) (fun _ _ => rfl)) x_int (nomark _)) (b_cons (s_set (i := 2) sc__law_pick.nd rfl (Or.inl rfl) (x_op o_mod (x_srcIdx (j := 0) (pv 0) (fun _ _ => rfl)) (x_var (pv 1))))
      (b_cons (s_srcSet (j := 0) (pv 0) (x_op o_div (x_srcIdx (j := 0) (pv 0) (fun _ _ => rfl)) (x_var (pv 1))))
      (b_one (s_ret (x_var (pv 2)))))) b_nil)
      (b_cons (s_srcSet (j := 1) (pv 0) (x_op o_add (x_op o_mod (x_op o_mul (x_srcIdx (j := 1) (pv 0) (fun _ _ => rfl)) x_int) (x_srcIdx (j := 2) (pv 0) (fun _ _ => rfl))) x_int))
      (b_one (s_ret (x_op o_mod (x_op o_div (x_op o_mod (x_op o_mul (x_srcIdx (j := 1) (pv 0) (fun _ _ => rfl)) (x_srcIdx (j := 1) (pv 0) (fun _ _ => rfl))) x_int) x_int) (x_var (pv 1))))))), fun ds Q h => D__law_pick q ds Q h⟩)

theorem ok__law_error_name {k : Nat} (T : Tops K mg) : FnE P w K mg base (L2N.CX P w) (k + 1) T.a__law_error_name T.d__law_error_name ["e"] (spErr (excs T)) := fnErr (k := k) T.F__law_error_name sc__law_error_name (fun cdv A outer s H E p nm C hr hot hm hld => by
  have err := errOf T hm
  exact ⟨t__law_error_name nm p.1, (b_cons (s_set (i := 1) sc__law_error_name.nd rfl (Or.inl rfl) (x_lst (x_cons (x_isE err.ex hld (err.one (tenOk T) (p := ("InvalidKeypad", T.C_InvalidKeypad)) (ten_InvalidKeypad T)) rfl T.z_isinstance rfl T.n_InvalidKeypad (pv 0)) (x_cons (x_isE err.ex hld (err.one (tenOk T) (p := ("InvalidText", T.C_InvalidText)) (ten_InvalidText T)) rfl T.z_isinstance rfl T.n_InvalidText (pv 0)) (x_cons (x_isE err.ex hld (err.one (tenOk T) (p := ("InvalidLog", T.C_InvalidLog)) (ten_InvalidLog T)) rfl T.z_isinstance rfl T.n_InvalidLog (pv 0)) x_nil)))))
      (b_cons (s_set (i := 1) sc__law_error_name.nd rfl (Or.inl rfl) (x_op o_add (x_var (pv 1)) (x_lst (x_cons (x_isE err.ex hld (err.one (tenOk T) (p := ("InvalidNumber", T.C_InvalidNumber)) (ten_InvalidNumber T)) rfl T.z_isinstance rfl T.n_InvalidNumber (pv 0)) (x_cons (x_isE err.ex hld (err.one (tenOk T) (p := ("InvalidThreshold", T.C_InvalidThreshold)) (ten_InvalidThreshold T)) rfl T.z_isinstance rfl T.n_InvalidThreshold (pv 0)) (x_cons (x_isE err.ex hld (err.one (tenOk T) (p := ("InvalidPress", T.C_InvalidPress)) (ten_InvalidPress T)) rfl T.z_isinstance rfl T.n_InvalidPress (pv 0)) x_nil))))))
      (b_cons (s_set (i := 1) sc__law_error_name.nd rfl (Or.inl rfl) (x_op o_add (x_var (pv 1)) (x_lst (x_cons (x_isE err.ex hld (err.one (tenOk T) (p := ("TooMany", T.C_TooMany)) (ten_TooMany T)) rfl T.z_isinstance rfl T.n_TooMany (pv 0)) (x_cons (x_isE err.ex hld (err.one (tenOk T) (p := ("TooOften", T.C_TooOften)) (ten_TooOften T)) rfl T.z_isinstance rfl T.n_TooOften (pv 0)) (x_cons (x_isE err.ex hld (err.one (tenOk T) (p := ("NothingToUndo", T.C_NothingToUndo)) (ten_NothingToUndo T)) rfl T.z_isinstance rfl T.n_NothingToUndo (pv 0)) x_nil))))))
      (b_cons (s_set (i := 1) sc__law_error_name.nd rfl (Or.inl rfl) (x_op o_add (x_var (pv 1)) (x_lst (x_cons (x_isE err.ex hld (err.one (tenOk T) (p := ("PressError", T.C_PressError)) (ten_PressError T)) rfl T.z_isinstance rfl T.n_PressError (pv 0)) (x_cons (x_isEv err.ex hld err.vone rfl T.z_isinstance rfl T.z_ValueError rfl (pv 0)) x_nil)))))
      (b_cons (s_set (i := 2) sc__law_error_name.nd rfl (Or.inl rfl) x_str)
      (b_cons (s_setLcH (i := 3) (own := [("word", 4), ("good", 5)]) hot sc__law_error_name.nd rfl rfl (sw_true rfl rfl rfl (by decide +kernel)) (i_zipH rfl T.z_zip (x_cons (x_split (x_var (pv 2)) x_str) (x_cons (x_var (pv 1)) x_nil))) (blkOk_by (N := n__law_error_name) (sc := defScope s__law_error_name) (by decide +kernel)) (fun _ _ _ _ _ => (g_tupH (HotC.blk hot) (g_cons (g_name (i := 4) (vs := [4, 5]) (by decide) sc__law_error_name.nd rfl (Or.inl rfl)) (g_cons (g_name (i := 5) (vs := [4, 5]) (by decide) sc__law_error_name.nd rfl (Or.inl rfl)) g_nil)) rfl rfl (len_cons (len_cons (fun _ _ _ h => len_nil h))))) (fun _ _ _ _ _ => (ts_one (t_val (x_var (pv 5))))) (fun _ _ _ _ _ => (x_var (pv 4))))
      (b_one (s_ret (x_if (t_cmp (o_eq (hu64H hr)) (x_slice (x_var (pv 3)) (p_some x_int) p_none) (x_lst (x_cons x_str (x_cons x_str x_nil))) (nomark _)) (x_ix (o_idx (hu_ofH hr)) (x_var (pv 3)) x_int (fun _ _ => rfl)) x_str))))))))), D__law_error_name nm p.1 (by
    simp only [excs, List.mem_cons, List.not_mem_nil, or_false, Prod.mk.injEq] at hm
    rcases hm with ⟨rfl, rfl⟩ | ⟨rfl, rfl⟩ | ⟨rfl, rfl⟩ <;> decide +kernel)⟩)

theorem ok__law_pad (T : Tops K mg) : FnS P w K mg base 2 T.a__law_pad T.d__law_pad ["source", "most", "wide"] p__law_pad := fnS (k := 1) T.F__law_pad sc__law_pad l__law_pad (fun cdv A outer s H E q hr => ⟨t__law_pad noW, (b_cons (s_parOE (i := 3) (j := 4) rfl sc__law_pad.nd rfl rfl (by decide) rfl rfl (o_listStr rfl rfl T.z_list x_str) (x_tup x_nil) rfl rfl)
      (b_cons (s_for (passes_of rfl) rfl (i_rng1 rfl T.z_range (x_cons (x_op o_add x_int (x_callS (ok__law_pick T) m__law_pick (hr.mono (by decide)) rfl T.g__law_pick T.F__law_pick.kp T.b__law_pick (pv 0) (x_cons (x_var (pv 1)) x_nil))) x_nil)) (g_name (i := 5) (vs := [5]) (by decide) sc__law_pad.nd rfl (Or.inl rfl)) (b_cons (s_set (i := 6) sc__law_pad.nd rfl (Or.inl rfl) x_str)
      (b_cons (s_for (passes_of rfl) rfl (i_rng1 rfl T.z_range (x_cons (x_op o_add x_int (x_callS (ok__law_pick T) m__law_pick (hr.mono (by decide)) rfl T.g__law_pick T.F__law_pick.kp T.b__law_pick (pv 0) (x_cons (x_var (pv 2)) x_nil))) x_nil)) (g_name (i := 7) (vs := [7]) (by decide) sc__law_pad.nd rfl (Or.inl rfl)) (b_one (s_if (t_neV (hu64 hr) (pv 3) (x_lst x_nil) (nomark _)) (b_one (s_set (i := 6) sc__law_pad.nd rfl (Or.inl rfl) (x_op o_add (x_var (pv 6)) (x_popAt (pv 3) (x_ix (o_idx (hu_of hr)) (x_lst (x_cons x_int (x_cons (x_callS (ok__law_pick T) m__law_pick (hr.mono (by decide)) rfl T.g__law_pick T.F__law_pick.kp T.b__law_pick (pv 0) (x_cons (x_lenV rfl T.z_len (pv 3)) x_nil)) x_nil))) (x_callS (ok__law_pick T) m__law_pick (hr.mono (by decide)) rfl T.g__law_pick T.F__law_pick.kp T.b__law_pick (pv 0) (x_cons x_int x_nil)) (fun _ _ => rfl)))))) b_nil)))
      (b_one (s_set (i := 4) sc__law_pad.nd rfl (Or.inl rfl) (x_op o_add (x_var (pv 4)) (x_if (t_cmp (o_ne (hu64 hr)) (x_var (pv 6)) x_str (nomark _)) (x_tup (x_cons (x_var (pv 6)) x_nil)) (x_tup x_nil))))))))
      (b_one (s_ret (x_var (pv 4)))))), fun ds Q h => D__law_pad q ds Q h⟩)

theorem ok__law_spots (T : Tops K mg) : FnD P w K mg base 1 T.a__law_spots T.d__law_spots ["pad"] p__law_spots := fnD (k := 0) T.F__law_spots sc__law_spots l__law_spots (fun cdv A outer s H E W hr HW => ⟨t__law_spots W, (b_cons (s_dnew (i := 1) sc__law_spots.nd rfl (Or.inl rfl))
      (b_cons (s_for (passes_of rfl) rfl (i_enum rfl T.z_enumerate (x_var (pv 0))) (g_tup rfl (g_cons (g_name (i := 2) (vs := [2, 3]) (by decide) sc__law_spots.nd rfl (Or.inl rfl)) (g_cons (g_name (i := 3) (vs := [2, 3]) (by decide) sc__law_spots.nd rfl (Or.inl rfl)) g_nil)) rfl rfl (len_cons (len_cons (fun _ _ _ h => len_nil h)))) (b_one (s_for (passes_of rfl) rfl (i_enum rfl T.z_enumerate (x_var (pv 3))) (g_tup rfl (g_cons (g_name (i := 4) (vs := [4, 5]) (by decide) sc__law_spots.nd rfl (Or.inl rfl)) (g_cons (g_name (i := 5) (vs := [4, 5]) (by decide) sc__law_spots.nd rfl (Or.inl rfl)) g_nil)) rfl rfl (len_cons (len_cons (fun _ _ _ h => len_nil h)))) (b_one (s_dput (hu_of hr) (pv 1) (x_var (pv 5)) (x_tup (x_cons (x_var (pv 2)) (x_cons (x_op o_add (x_var (pv 4)) x_int) x_nil))))))))
      (b_one (s_ret (x_varD (pv 1)))))), fun ds Q h => D__law_spots W ds Q h⟩)

theorem ok__law_word (T : Tops K mg) : FnS P w K mg base 2 T.a__law_word T.d__law_word ["source", "pad", "most"] p__law_word := fnS (k := 1) T.F__law_word sc__law_word l__law_word (fun cdv A outer s H E q hr => ⟨t__law_word noW, (b_cons (s_par (i := 3) (j := 4) rfl sc__law_word.nd rfl rfl (by decide) rfl rfl (x_cons x_str (x_cons (x_ix (o_idx (hu_of hr)) (x_var (pv 1)) x_int (fun _ _ => rfl)) x_nil)))
      (b_cons (s_for (passes_of rfl) rfl (i_rng1 rfl T.z_range (x_cons (x_callS (ok__law_pick T) m__law_pick (hr.mono (by decide)) rfl T.g__law_pick T.F__law_pick.kp T.b__law_pick (pv 0) (x_cons (x_op o_add (x_var (pv 2)) x_int) x_nil)) x_nil)) (g_name (i := 5) (vs := [5]) (by decide) sc__law_word.nd rfl (Or.inl rfl)) (b_cons (s_set (i := 4) sc__law_word.nd rfl (Or.inl rfl) (x_ix (o_idx (hu_of hr)) (x_lst (x_cons (x_var (pv 4)) (x_cons (x_ix (o_idx (hu_of hr)) (x_var (pv 1)) (x_callS (ok__law_pick T) m__law_pick (hr.mono (by decide)) rfl T.g__law_pick T.F__law_pick.kp T.b__law_pick (pv 0) (x_cons (x_blt c_len rfl T.z_len PySem.boot_len (x_cons (x_var (pv 1)) x_nil)) x_nil)) (fun _ _ => rfl)) x_nil))) (x_callS (ok__law_pick T) m__law_pick (hr.mono (by decide)) rfl T.g__law_pick T.F__law_pick.kp T.b__law_pick (pv 0) (x_cons x_int x_nil)) (fun _ _ => rfl)))
      (b_one (s_set (i := 3) sc__law_word.nd rfl (Or.inl rfl) (x_op o_add (x_var (pv 3)) (x_ix (o_idx (hu_of hr)) (x_var (pv 4)) (x_callS (ok__law_pick T) m__law_pick (hr.mono (by decide)) rfl T.g__law_pick T.F__law_pick.kp T.b__law_pick (pv 0) (x_cons (x_blt c_len rfl T.z_len PySem.boot_len (x_cons (x_var (pv 4)) x_nil)) x_nil)) (fun _ _ => rfl)))))))
      (b_one (s_ret (x_var (pv 3)))))), fun ds Q h => D__law_word q ds Q h⟩)

theorem ok__law_typed (T : Tops K mg) : FnD P w K mg base 2 T.a__law_typed T.d__law_typed ["pad", "word"] p__law_typed := fnD (k := 1) T.F__law_typed sc__law_typed l__law_typed (fun cdv A outer s H E W hr HW => ⟨t__law_typed W, (b_cons (s_par (i := 2) (j := 3) rfl sc__law_typed.nd rfl rfl (by decide) rfl rfl (x_cons (x_call (ok__law_spots T) m__law_spots (hr.mono (by decide)) rfl T.g__law_spots T.F__law_spots.kp T.b__law_spots HW (x_cons (x_var (pv 0)) x_nil)) (x_cons (x_tup x_nil) x_nil)))
      (b_cons (s_for (passes_of rfl) rfl (i_any (x_var (pv 1))) (g_name (i := 4) (vs := [4]) (by decide) sc__law_typed.nd rfl (Or.inl rfl)) (b_one (s_set (i := 3) sc__law_typed.nd rfl (Or.inl rfl) (x_op o_add (x_var (pv 3)) (x_op o_mul (x_tup (x_cons (x_ix (o_idx (hu_of hr)) (x_ix (o_idx (hu_of hr)) (x_var (pv 2)) (x_var (pv 4)) (fun _ _ => rfl)) x_int (fun _ _ => rfl)) x_nil)) (x_ix (o_idx (hu_of hr)) (x_ix (o_idx (hu_of hr)) (x_var (pv 2)) (x_var (pv 4)) (fun _ _ => rfl)) x_int (fun _ _ => rfl)))))))
      (b_one (s_ret (x_var (pv 3)))))), fun ds Q h => D__law_typed W ds Q h⟩)

theorem ok__law_outcome (T : Tops K mg) : FnD P w K mg base 5 T.a__law_outcome T.d__law_outcome ["pad", "word", "pause"] p__law_outcome := fnT (k := 3) (i := 3) T.F__law_outcome sc__law_outcome l__law_outcome dn__law_outcome rfl (ok__law_error_name T) T.g__law_error_name T.F__law_error_name.kp T.b__law_error_name T.n_PressError (catch_ T) rfl rfl (fun _ _ _ _ _ _ => ⟨rfl, rfl⟩) (by decide) (by decide) (by decide) (by decide) (fun cdv A outer s H E hr => ⟨_, _, (b_one (s_ret x_str)), (fun W pn xe po HW => (b_one (s_expr (x_call (ok_cost T) m_cost (hr.mono (by decide)) rfl T.g_cost T.F_cost.kp T.b_cost HW (x_cons (x_var (pv 0)) (x_cons (x_var (pv 1)) (x_cons (x_var (pv 2)) x_nil))))))), fun W ds Q h hW => D__law_outcome W ds Q h fun nm hm q => by
    obtain ⟨p, hp, rfl⟩ := List.mem_map.mp (show nm ∈ (excs T).map (·.1) from hm)
    exact hW p.1 p.2 hp q⟩)

theorem ok_law (T : Tops K mg) : FnOk P w K mg base (L2N.CX P w) 6 T.a_law T.d_law ["script"] (spLaw K) := fnL (k := 5) T.F_law sc_law (fun cdv A outer s H E hr => ⟨t_law noW, (b_cons (s_for (passes_of rfl) rfl (i_rng1 rfl T.z_range (x_cons (x_blt (c_max2 rfl) rfl T.z_max boot_max (x_cons x_int (x_cons (x_blt (c_min2 rfl) rfl T.z_min boot_min (x_cons x_int (x_cons (x_scrLen rfl T.z_len (pv 0)) x_nil))) x_nil))) x_nil)) (g_name (i := 1) (vs := [1]) (by decide) sc_law.nd rfl (Or.inl rfl)) (b_cons (s_newSrc (i := 2) (ok__law_source T) (hr.mono (by decide)) rfl T.g__law_source T.F__law_source.kp T.b__law_source (pv 0) sc_law.nd rfl (Or.inl rfl) (x_var (pv 1)))
      (b_cons (s_set (i := 3) sc_law.nd rfl (Or.inr rfl) (x_callS (ok__law_pad T) m__law_pad (hr.mono (by decide)) rfl T.g__law_pad T.F__law_pad.kp T.b__law_pad (pv 2) (x_cons x_int (x_cons x_int x_nil))))
      (b_cons (s_par (i := 4) (j := 5) rfl sc_law.nd rfl rfl (by decide) rfl rfl (x_cons (x_callS (ok__law_word T) m__law_word (hr.mono (by decide)) rfl T.g__law_word T.F__law_word.kp T.b__law_word (pv 2) (x_cons (x_var (pv 3)) (x_cons x_int x_nil))) (x_cons (x_ix (o_idx (hu_of hr)) (x_lst (x_cons x_int (x_cons x_int (x_cons (x_callS (ok__law_pick T) m__law_pick (hr.mono (by decide)) rfl T.g__law_pick T.F__law_pick.kp T.b__law_pick (pv 2) (x_cons x_int x_nil)) x_nil)))) (x_callS (ok__law_pick T) m__law_pick (hr.mono (by decide)) rfl T.g__law_pick T.F__law_pick.kp T.b__law_pick (pv 2) (x_cons x_int x_nil)) (fun _ _ => rfl)) x_nil)))
      (b_cons (s_par (i := 6) (j := 7) rfl sc_law.nd rfl rfl (by decide) rfl rfl (x_cons (x_call (ok__law_spots T) m__law_spots (hr.mono (by decide)) rfl T.g__law_spots T.F__law_spots.kp T.b__law_spots xw_none (x_cons (x_var (pv 3)) x_nil)) (x_cons x_int x_nil)))
      (b_cons (s_for (passes_of rfl) rfl (i_enum rfl T.z_enumerate (x_var (pv 4))) (g_tup rfl (g_cons (g_name (i := 8) (vs := [8, 9]) (by decide) sc_law.nd rfl (Or.inl rfl)) (g_cons (g_name (i := 9) (vs := [8, 9]) (by decide) sc_law.nd rfl (Or.inl rfl)) g_nil)) rfl rfl (len_cons (len_cons (fun _ _ _ h => len_nil h)))) (b_cons (s_set (i := 7) sc_law.nd rfl (Or.inl rfl) (x_op o_add (x_var (pv 7)) (x_ix (o_idx (hu_of hr)) (x_ix (o_idx (hu_of hr)) (x_var (pv 6)) (x_var (pv 9)) (fun _ _ => rfl)) x_int (fun _ _ => rfl))))
      (b_one (s_if (DXw.pt (t_and (t_cmp o_gt (x_var (pv 8)) x_int (nomark _)) (t_and1 (t_cmp (o_eq (hu64 hr)) (x_ix (o_idx (hu_of hr)) (x_ix (o_idx (hu_of hr)) (x_var (pv 6)) (x_ix (o_idx (hu_of hr)) (x_var (pv 4)) (x_op o_sub (x_var (pv 8)) x_int) (fun _ _ => rfl)) (fun _ _ => rfl)) x_int (fun _ _ => rfl)) (x_ix (o_idx (hu_of hr)) (x_ix (o_idx (hu_of hr)) (x_var (pv 6)) (x_var (pv 9)) (fun _ _ => rfl)) x_int (fun _ _ => rfl)) (nomark _))))) (b_one (s_set (i := 7) sc_law.nd rfl (Or.inl rfl) (x_op o_add (x_var (pv 7)) (x_var (pv 5))))) b_nil))))
      (b_cons (s_if (DXw.pt (t_or (t_cmp (o_ne (hu64 hr)) (x_call (ok_cost T) m_cost (hr.mono (by decide)) rfl T.g_cost T.F_cost.kp T.b_cost xw_none (x_cons (x_var (pv 3)) (x_cons (x_var (pv 4)) (x_cons (x_var (pv 5)) x_nil)))) (x_var (pv 7)) (nomark _)) (t_or1 (t_cmp (o_ne (hu64 hr)) (x_call (ok_cost T) m_cost (hr.mono (by decide)) rfl T.g_cost T.F_cost.kp T.b_cost xw_none (x_cons (x_var (pv 3)) (x_cons (x_var (pv 4)) (x_cons x_int x_nil)))) (x_blt c_len rfl T.z_len PySem.boot_len (x_cons (x_call (ok__law_typed T) m__law_typed (hr.mono (by decide)) rfl T.g__law_typed T.F__law_typed.kp T.b__law_typed xw_none (x_cons (x_var (pv 3)) (x_cons (x_var (pv 4)) x_nil))) x_nil)) (nomark _))))) (b_one (s_ret x_bl)) b_nil)
      (b_cons (s_for (passes_of rfl) rfl (i_any (x_lst (x_cons x_non (x_cons (x_un o_neg x_int) (x_cons x_int (x_cons x_bl (x_cons x_str x_nil))))))) (g_name (i := 10) (vs := [10]) (by decide) sc_law.nd rfl (Or.inl rfl)) (b_one (s_if (t_cmp (o_ne (hu64 hr)) (x_call (ok__law_outcome T) m__law_outcome (hr.mono (by decide)) rfl T.g__law_outcome T.F__law_outcome.kp T.b__law_outcome xw_none (x_cons (x_var (pv 3)) (x_cons (x_var (pv 4)) (x_cons (x_var (pv 10)) x_nil)))) x_str (nomark _)) (b_one (s_ret x_bl)) b_nil)))
      (b_one (s_if (t_cmp (o_ne (hu64 hr)) (x_lc (own := [("odd", 10)]) rfl sc_law.nd (i_any (x_lst (x_cons x_non (x_cons x_str (x_cons x_int (x_cons (x_op o_mul (x_ix (o_idx (hu_of hr)) (x_ix (o_idx (hu_of hr)) (x_var (pv 3)) x_int (fun _ _ => rfl)) x_int (fun _ _ => rfl)) x_int) x_nil)))))) (blkOk_by (N := n_law) (sc := defScope s_law) (by decide +kernel)) (fun _ _ _ _ _ => (g_name (i := 10) (vs := [10]) (by decide) sc_law.nd rfl (Or.inl rfl))) (fun _ _ _ _ _ => ts_nil) (fun _ _ _ _ _ => (x_call (ok__law_outcome T) m__law_outcome (hr.mono (by decide)) rfl T.g__law_outcome T.F__law_outcome.kp T.b__law_outcome xw_none (x_cons (x_var (pv 3)) (x_cons (x_var (pv 10)) (x_cons x_non x_nil)))))) (x_op o_mul (x_lst (x_cons x_str x_nil)) x_int) (nomark _)) (b_one (s_ret x_bl)) b_nil))))))))))
      (b_one (s_ret (x_cmp (o_eq (hu64 hr)) (x_call (ok_cost T) m_cost (hr.mono (by decide)) rfl T.g_cost T.F_cost.kp T.b_cost xw_none (x_cons (x_tup (x_cons x_str (x_cons x_str x_nil))) (x_cons x_str (x_cons x_int x_nil)))) x_int (nomark _))))), fun ns hn => D_law ns hn⟩)

end
theorem nm_InvalidKeypad : isNm "InvalidKeypad" "InvalidKeypad" = true ∧ isNm "InvalidKeypad" "InvalidText" = false ∧ isNm "InvalidKeypad" "InvalidLog" = false ∧ isNm "InvalidKeypad" "InvalidNumber" = false ∧ isNm "InvalidKeypad" "InvalidThreshold" = false ∧ isNm "InvalidKeypad" "InvalidPress" = false ∧ isNm "InvalidKeypad" "TooMany" = false ∧ isNm "InvalidKeypad" "TooOften" = false ∧ isNm "InvalidKeypad" "NothingToUndo" = false ∧ isNm "InvalidKeypad" "PressError" = true := ⟨by decide +kernel, by decide +kernel, by decide +kernel, by decide +kernel, by decide +kernel, by decide +kernel, by decide +kernel, by decide +kernel, by decide +kernel, by decide +kernel⟩
theorem nm_InvalidNumber : isNm "InvalidNumber" "InvalidKeypad" = false ∧ isNm "InvalidNumber" "InvalidText" = false ∧ isNm "InvalidNumber" "InvalidLog" = false ∧ isNm "InvalidNumber" "InvalidNumber" = true ∧ isNm "InvalidNumber" "InvalidThreshold" = false ∧ isNm "InvalidNumber" "InvalidPress" = false ∧ isNm "InvalidNumber" "TooMany" = false ∧ isNm "InvalidNumber" "TooOften" = false ∧ isNm "InvalidNumber" "NothingToUndo" = false ∧ isNm "InvalidNumber" "PressError" = true := ⟨by decide +kernel, by decide +kernel, by decide +kernel, by decide +kernel, by decide +kernel, by decide +kernel, by decide +kernel, by decide +kernel, by decide +kernel, by decide +kernel⟩
theorem nm_InvalidText : isNm "InvalidText" "InvalidKeypad" = false ∧ isNm "InvalidText" "InvalidText" = true ∧ isNm "InvalidText" "InvalidLog" = false ∧ isNm "InvalidText" "InvalidNumber" = false ∧ isNm "InvalidText" "InvalidThreshold" = false ∧ isNm "InvalidText" "InvalidPress" = false ∧ isNm "InvalidText" "TooMany" = false ∧ isNm "InvalidText" "TooOften" = false ∧ isNm "InvalidText" "NothingToUndo" = false ∧ isNm "InvalidText" "PressError" = true := ⟨by decide +kernel, by decide +kernel, by decide +kernel, by decide +kernel, by decide +kernel, by decide +kernel, by decide +kernel, by decide +kernel, by decide +kernel, by decide +kernel⟩
theorem all_mk {l : PySem.W.OpenLaw} {w : World} {K : PySem.W.Frag} {h : Heap} {mg : Str → Option Value} {fa : Addr} (X : K.In h) (G : h.Ns mainGlobals mg) (hfa : mg "law" = some (.ref fa)) {f1 f2 f3 f4 f5 f6 f7 f8 f9 f10 f11 f12 f13 f14 f15 f16 f17 f18 f19 f20 : Addr} {od1 an1 od2 an2 od3 an3 od4 an4 od5 an5 od6 an6 od7 an7 od8 an8 od9 an9 od10 an10 od11 an11 od12 an12 od13 an13 od14 an14 od15 an15 od16 an16 od17 an17 od18 an18 od19 an19 od20 an20 : Option Addr} {sl1 sl2 sl3 sl4 sl5 sl6 sl7 sl8 sl9 sl10 sl11 sl12 sl13 sl14 sl15 sl16 sl17 sl18 sl19 sl20 : Array (Option Value)} {oc1 kV1 dc1 pm1 cd1 ct1 oc2 kV2 dc2 pm2 cd2 ct2 oc3 kV3 dc3 pm3 cd3 ct3 oc4 kV4 dc4 pm4 cd4 ct4 oc5 kV5 dc5 pm5 cd5 ct5 oc6 kV6 dc6 pm6 cd6 ct6 oc7 kV7 dc7 pm7 cd7 ct7 oc8 kV8 dc8 pm8 cd8 ct8 oc9 kV9 dc9 pm9 cd9 ct9 oc10 kV10 dc10 pm10 cd10 ct10 oc11 kV11 dc11 pm11 cd11 ct11 oc12 kV12 dc12 pm12 cd12 ct12 oc13 kV13 dc13 pm13 cd13 ct13 oc14 kV14 dc14 pm14 cd14 ct14 oc15 kV15 dc15 pm15 cd15 ct15 oc16 kV16 dc16 pm16 cd16 ct16 oc17 kV17 dc17 pm17 cd17 ct17 oc18 kV18 dc18 pm18 cd18 ct18 oc19 kV19 dc19 pm19 cd19 ct19 oc20 kV20 dc20 pm20 cd20 ct20 : Value} {t_LETTERS t_MAX_KEYS t_MAX_LETTERS t_MAX_PAUSE t_MAX_TEXT : Tok} {C_InvalidKeypad C_InvalidText C_InvalidLog C_InvalidNumber C_InvalidThreshold C_InvalidPress C_TooMany C_TooOften C_NothingToUndo C_PressError : Addr}
    (a1 : PySem.W.nsIn K mainGlobals "is_integer" = some (some (.ref f1))) (l1 : K.lookup f1 = some ⟨oc1, od1, .func (PySem.W.fnOf "is_integer" "is_integer" (defArgs s_is_integer) (defBody s_is_integer) (defScope s_is_integer) .none kV1 dc1 pm1 an1 cd1 ct1), sl1⟩) (c1 : PySem.W.codeIn K cd1 "is_integer" = true) (k1 : PySem.W.keepIn K (.ref f1) = true)
    (a2 : PySem.W.nsIn K mainGlobals "is_string_of" = some (some (.ref f2))) (l2 : K.lookup f2 = some ⟨oc2, od2, .func (PySem.W.fnOf "is_string_of" "is_string_of" (defArgs s_is_string_of) (defBody s_is_string_of) (defScope s_is_string_of) .none kV2 dc2 pm2 an2 cd2 ct2), sl2⟩) (c2 : PySem.W.codeIn K cd2 "is_string_of" = true) (k2 : PySem.W.keepIn K (.ref f2) = true)
    (a3 : PySem.W.nsIn K mainGlobals "is_keypad" = some (some (.ref f3))) (l3 : K.lookup f3 = some ⟨oc3, od3, .func (PySem.W.fnOf "is_keypad" "is_keypad" (defArgs s_is_keypad) (defBody s_is_keypad) (defScope s_is_keypad) .none kV3 dc3 pm3 an3 cd3 ct3), sl3⟩) (c3 : PySem.W.codeIn K cd3 "is_keypad" = true) (k3 : PySem.W.keepIn K (.ref f3) = true)
    (a4 : PySem.W.nsIn K mainGlobals "require_keypad" = some (some (.ref f4))) (l4 : K.lookup f4 = some ⟨oc4, od4, .func (PySem.W.fnOf "require_keypad" "require_keypad" (defArgs s_require_keypad) (defBody s_require_keypad) (defScope s_require_keypad) .none kV4 dc4 pm4 an4 cd4 ct4), sl4⟩) (c4 : PySem.W.codeIn K cd4 "require_keypad" = true) (k4 : PySem.W.keepIn K (.ref f4) = true)
    (a5 : PySem.W.nsIn K mainGlobals "require_text" = some (some (.ref f5))) (l5 : K.lookup f5 = some ⟨oc5, od5, .func (PySem.W.fnOf "require_text" "require_text" (defArgs s_require_text) (defBody s_require_text) (defScope s_require_text) .none kV5 dc5 pm5 an5 cd5 ct5), sl5⟩) (c5 : PySem.W.codeIn K cd5 "require_text" = true) (k5 : PySem.W.keepIn K (.ref f5) = true)
    (a6 : PySem.W.nsIn K mainGlobals "require_number" = some (some (.ref f6))) (l6 : K.lookup f6 = some ⟨oc6, od6, .func (PySem.W.fnOf "require_number" "require_number" (defArgs s_require_number) (defBody s_require_number) (defScope s_require_number) .none kV6 dc6 pm6 an6 cd6 ct6), sl6⟩) (c6 : PySem.W.codeIn K cd6 "require_number" = true) (k6 : PySem.W.keepIn K (.ref f6) = true)
    (a7 : PySem.W.nsIn K mainGlobals "places" = some (some (.ref f7))) (l7 : K.lookup f7 = some ⟨oc7, od7, .func (PySem.W.fnOf "places" "places" (defArgs s_places) (defBody s_places) (defScope s_places) .none kV7 dc7 pm7 an7 cd7 ct7), sl7⟩) (c7 : PySem.W.codeIn K cd7 "places" = true) (k7 : PySem.W.keepIn K (.ref f7) = true)
    (a8 : PySem.W.nsIn K mainGlobals "pressed" = some (some (.ref f8))) (l8 : K.lookup f8 = some ⟨oc8, od8, .func (PySem.W.fnOf "pressed" "pressed" (defArgs s_pressed) (defBody s_pressed) (defScope s_pressed) .none kV8 dc8 pm8 an8 cd8 ct8), sl8⟩) (c8 : PySem.W.codeIn K cd8 "pressed" = true) (k8 : PySem.W.keepIn K (.ref f8) = true)
    (a9 : PySem.W.nsIn K mainGlobals "sums_of" = some (some (.ref f9))) (l9 : K.lookup f9 = some ⟨oc9, od9, .func (PySem.W.fnOf "sums_of" "sums_of" (defArgs s_sums_of) (defBody s_sums_of) (defScope s_sums_of) .none kV9 dc9 pm9 an9 cd9 ct9), sl9⟩) (c9 : PySem.W.codeIn K cd9 "sums_of" = true) (k9 : PySem.W.keepIn K (.ref f9) = true)
    (a10 : PySem.W.nsIn K mainGlobals "cost_of" = some (some (.ref f10))) (l10 : K.lookup f10 = some ⟨oc10, od10, .func (PySem.W.fnOf "cost_of" "cost_of" (defArgs s_cost_of) (defBody s_cost_of) (defScope s_cost_of) .none kV10 dc10 pm10 an10 cd10 ct10), sl10⟩) (c10 : PySem.W.codeIn K cd10 "cost_of" = true) (k10 : PySem.W.keepIn K (.ref f10) = true)
    (a11 : PySem.W.nsIn K mainGlobals "cost" = some (some (.ref f11))) (l11 : K.lookup f11 = some ⟨oc11, od11, .func (PySem.W.fnOf "cost" "cost" (defArgs s_cost) (defBody s_cost) (defScope s_cost) .none kV11 dc11 pm11 an11 cd11 ct11), sl11⟩) (c11 : PySem.W.codeIn K cd11 "cost" = true) (k11 : PySem.W.keepIn K (.ref f11) = true)
    (a12 : PySem.W.nsIn K mainGlobals "_law_source" = some (some (.ref f12))) (l12 : K.lookup f12 = some ⟨oc12, od12, .func (PySem.W.fnOf "_law_source" "_law_source" (defArgs s__law_source) (defBody s__law_source) (defScope s__law_source) .none kV12 dc12 pm12 an12 cd12 ct12), sl12⟩) (c12 : PySem.W.codeIn K cd12 "_law_source" = true) (k12 : PySem.W.keepIn K (.ref f12) = true)
    (a13 : PySem.W.nsIn K mainGlobals "_law_pick" = some (some (.ref f13))) (l13 : K.lookup f13 = some ⟨oc13, od13, .func (PySem.W.fnOf "_law_pick" "_law_pick" (defArgs s__law_pick) (defBody s__law_pick) (defScope s__law_pick) .none kV13 dc13 pm13 an13 cd13 ct13), sl13⟩) (c13 : PySem.W.codeIn K cd13 "_law_pick" = true) (k13 : PySem.W.keepIn K (.ref f13) = true)
    (a14 : PySem.W.nsIn K mainGlobals "_law_error_name" = some (some (.ref f14))) (l14 : K.lookup f14 = some ⟨oc14, od14, .func (PySem.W.fnOf "_law_error_name" "_law_error_name" (defArgs s__law_error_name) (defBody s__law_error_name) (defScope s__law_error_name) .none kV14 dc14 pm14 an14 cd14 ct14), sl14⟩) (c14 : PySem.W.codeIn K cd14 "_law_error_name" = true) (k14 : PySem.W.keepIn K (.ref f14) = true)
    (a15 : PySem.W.nsIn K mainGlobals "_law_pad" = some (some (.ref f15))) (l15 : K.lookup f15 = some ⟨oc15, od15, .func (PySem.W.fnOf "_law_pad" "_law_pad" (defArgs s__law_pad) (defBody s__law_pad) (defScope s__law_pad) .none kV15 dc15 pm15 an15 cd15 ct15), sl15⟩) (c15 : PySem.W.codeIn K cd15 "_law_pad" = true) (k15 : PySem.W.keepIn K (.ref f15) = true)
    (a16 : PySem.W.nsIn K mainGlobals "_law_spots" = some (some (.ref f16))) (l16 : K.lookup f16 = some ⟨oc16, od16, .func (PySem.W.fnOf "_law_spots" "_law_spots" (defArgs s__law_spots) (defBody s__law_spots) (defScope s__law_spots) .none kV16 dc16 pm16 an16 cd16 ct16), sl16⟩) (c16 : PySem.W.codeIn K cd16 "_law_spots" = true) (k16 : PySem.W.keepIn K (.ref f16) = true)
    (a17 : PySem.W.nsIn K mainGlobals "_law_word" = some (some (.ref f17))) (l17 : K.lookup f17 = some ⟨oc17, od17, .func (PySem.W.fnOf "_law_word" "_law_word" (defArgs s__law_word) (defBody s__law_word) (defScope s__law_word) .none kV17 dc17 pm17 an17 cd17 ct17), sl17⟩) (c17 : PySem.W.codeIn K cd17 "_law_word" = true) (k17 : PySem.W.keepIn K (.ref f17) = true)
    (a18 : PySem.W.nsIn K mainGlobals "_law_typed" = some (some (.ref f18))) (l18 : K.lookup f18 = some ⟨oc18, od18, .func (PySem.W.fnOf "_law_typed" "_law_typed" (defArgs s__law_typed) (defBody s__law_typed) (defScope s__law_typed) .none kV18 dc18 pm18 an18 cd18 ct18), sl18⟩) (c18 : PySem.W.codeIn K cd18 "_law_typed" = true) (k18 : PySem.W.keepIn K (.ref f18) = true)
    (a19 : PySem.W.nsIn K mainGlobals "_law_outcome" = some (some (.ref f19))) (l19 : K.lookup f19 = some ⟨oc19, od19, .func (PySem.W.fnOf "_law_outcome" "_law_outcome" (defArgs s__law_outcome) (defBody s__law_outcome) (defScope s__law_outcome) .none kV19 dc19 pm19 an19 cd19 ct19), sl19⟩) (c19 : PySem.W.codeIn K cd19 "_law_outcome" = true) (k19 : PySem.W.keepIn K (.ref f19) = true)
    (a20 : PySem.W.nsIn K mainGlobals "law" = some (some (.ref f20))) (l20 : K.lookup f20 = some ⟨oc20, od20, .func (PySem.W.fnOf "law" "law" (defArgs s_law) (defBody s_law) (defScope s_law) .none kV20 dc20 pm20 an20 cd20 ct20), sl20⟩) (c20 : PySem.W.codeIn K cd20 "law" = true) (k20 : PySem.W.keepIn K (.ref f20) = true)
    (z_ValueError : PySem.W.nsIn K mainGlobals "ValueError" = some none)
    (z_all : PySem.W.nsIn K mainGlobals "all" = some none)
    (z_bool : PySem.W.nsIn K mainGlobals "bool" = some none)
    (z_enumerate : PySem.W.nsIn K mainGlobals "enumerate" = some none)
    (z_int : PySem.W.nsIn K mainGlobals "int" = some none)
    (z_isinstance : PySem.W.nsIn K mainGlobals "isinstance" = some none)
    (z_len : PySem.W.nsIn K mainGlobals "len" = some none)
    (z_list : PySem.W.nsIn K mainGlobals "list" = some none)
    (z_max : PySem.W.nsIn K mainGlobals "max" = some none)
    (z_min : PySem.W.nsIn K mainGlobals "min" = some none)
    (z_range : PySem.W.nsIn K mainGlobals "range" = some none)
    (z_set : PySem.W.nsIn K mainGlobals "set" = some none)
    (z_str : PySem.W.nsIn K mainGlobals "str" = some none)
    (z_tuple : PySem.W.nsIn K mainGlobals "tuple" = some none)
    (z_zip : PySem.W.nsIn K mainGlobals "zip" = some none)
    (g_LETTERS : PySem.W.nsIn K mainGlobals "LETTERS" = some (some (.str "abcdefghijklmnopqrstuvwxyz" t_LETTERS)))
    (g_MAX_KEYS : PySem.W.nsIn K mainGlobals "MAX_KEYS" = some (some (.int 10 t_MAX_KEYS)))
    (g_MAX_LETTERS : PySem.W.nsIn K mainGlobals "MAX_LETTERS" = some (some (.int 6 t_MAX_LETTERS)))
    (g_MAX_PAUSE : PySem.W.nsIn K mainGlobals "MAX_PAUSE" = some (some (.int 1000 t_MAX_PAUSE)))
    (g_MAX_TEXT : PySem.W.nsIn K mainGlobals "MAX_TEXT" = some (some (.int 30 t_MAX_TEXT)))
    (e_InvalidKeypad : PySem.W.nsIn K mainGlobals "InvalidKeypad" = some (some (.ref C_InvalidKeypad))) (hh_InvalidKeypad : PySem.W.hasDictIn K C_InvalidKeypad = true) (y_InvalidKeypad : PySem.W.typeIn K (.ref C_InvalidKeypad) = some (.type "type"))
    (e_InvalidText : PySem.W.nsIn K mainGlobals "InvalidText" = some (some (.ref C_InvalidText))) (hh_InvalidText : PySem.W.hasDictIn K C_InvalidText = true) (y_InvalidText : PySem.W.typeIn K (.ref C_InvalidText) = some (.type "type"))
    (e_InvalidLog : PySem.W.nsIn K mainGlobals "InvalidLog" = some (some (.ref C_InvalidLog))) (hh_InvalidLog : PySem.W.hasDictIn K C_InvalidLog = true) (y_InvalidLog : PySem.W.typeIn K (.ref C_InvalidLog) = some (.type "type"))
    (e_InvalidNumber : PySem.W.nsIn K mainGlobals "InvalidNumber" = some (some (.ref C_InvalidNumber))) (hh_InvalidNumber : PySem.W.hasDictIn K C_InvalidNumber = true) (y_InvalidNumber : PySem.W.typeIn K (.ref C_InvalidNumber) = some (.type "type"))
    (e_InvalidThreshold : PySem.W.nsIn K mainGlobals "InvalidThreshold" = some (some (.ref C_InvalidThreshold))) (hh_InvalidThreshold : PySem.W.hasDictIn K C_InvalidThreshold = true) (y_InvalidThreshold : PySem.W.typeIn K (.ref C_InvalidThreshold) = some (.type "type"))
    (e_InvalidPress : PySem.W.nsIn K mainGlobals "InvalidPress" = some (some (.ref C_InvalidPress))) (hh_InvalidPress : PySem.W.hasDictIn K C_InvalidPress = true) (y_InvalidPress : PySem.W.typeIn K (.ref C_InvalidPress) = some (.type "type"))
    (e_TooMany : PySem.W.nsIn K mainGlobals "TooMany" = some (some (.ref C_TooMany))) (hh_TooMany : PySem.W.hasDictIn K C_TooMany = true) (y_TooMany : PySem.W.typeIn K (.ref C_TooMany) = some (.type "type"))
    (e_TooOften : PySem.W.nsIn K mainGlobals "TooOften" = some (some (.ref C_TooOften))) (hh_TooOften : PySem.W.hasDictIn K C_TooOften = true) (y_TooOften : PySem.W.typeIn K (.ref C_TooOften) = some (.type "type"))
    (e_NothingToUndo : PySem.W.nsIn K mainGlobals "NothingToUndo" = some (some (.ref C_NothingToUndo))) (hh_NothingToUndo : PySem.W.hasDictIn K C_NothingToUndo = true) (y_NothingToUndo : PySem.W.typeIn K (.ref C_NothingToUndo) = some (.type "type"))
    (e_PressError : PySem.W.nsIn K mainGlobals "PressError" = some (some (.ref C_PressError))) (hh_PressError : PySem.W.hasDictIn K C_PressError = true) (y_PressError : PySem.W.typeIn K (.ref C_PressError) = some (.type "type"))
    (sp_ : PySem.W.specialIn K (.builtin "object.__class__") "__get__" = some (some (.builtin "getset_descriptor.__get__"))) (tk_ : PySem.W.takesIn K (.builtin "object.__class__") = some true) (bp_ : PySem.W.subIn K (.ref C_PressError) (.type "BaseException") = some true)
    (x_InvalidKeypad : PySem.W.excIn K C_InvalidKeypad [.type "ValueError", .type "Exception", .type "BaseException", .type "object"] "ValueError.__new__" = true) (p_InvalidKeypad : PySem.W.keepIn K (.ref C_InvalidKeypad) = true) (b_InvalidKeypad : PySem.W.subIn K (.ref C_InvalidKeypad) (.type "BaseException") = some true)
    (q1_InvalidKeypad : PySem.W.findIn K (.ref C_InvalidKeypad) "__getattribute__" = some (some (.builtin "BaseException.__getattribute__"))) (q2_InvalidKeypad : PySem.W.findIn K (.ref C_InvalidKeypad) "__getattr__" = some none) (q3_InvalidKeypad : PySem.W.findIn K (.ref C_InvalidKeypad) "__class__" = some (some (.builtin "object.__class__"))) (q4_InvalidKeypad : PySem.W.mroIn K C_InvalidKeypad (.type "object") = some true) (q5_InvalidKeypad : PySem.W.subIn K (.ref C_InvalidKeypad) (.type "ValueError") = some true)
    (k_InvalidKeypad_InvalidKeypad : PySem.W.subIn K (.ref C_InvalidKeypad) (.ref C_InvalidKeypad) = some true)
    (k_InvalidKeypad_InvalidText : PySem.W.subIn K (.ref C_InvalidKeypad) (.ref C_InvalidText) = some false)
    (k_InvalidKeypad_InvalidLog : PySem.W.subIn K (.ref C_InvalidKeypad) (.ref C_InvalidLog) = some false)
    (k_InvalidKeypad_InvalidNumber : PySem.W.subIn K (.ref C_InvalidKeypad) (.ref C_InvalidNumber) = some false)
    (k_InvalidKeypad_InvalidThreshold : PySem.W.subIn K (.ref C_InvalidKeypad) (.ref C_InvalidThreshold) = some false)
    (k_InvalidKeypad_InvalidPress : PySem.W.subIn K (.ref C_InvalidKeypad) (.ref C_InvalidPress) = some false)
    (k_InvalidKeypad_TooMany : PySem.W.subIn K (.ref C_InvalidKeypad) (.ref C_TooMany) = some false)
    (k_InvalidKeypad_TooOften : PySem.W.subIn K (.ref C_InvalidKeypad) (.ref C_TooOften) = some false)
    (k_InvalidKeypad_NothingToUndo : PySem.W.subIn K (.ref C_InvalidKeypad) (.ref C_NothingToUndo) = some false)
    (k_InvalidKeypad_PressError : PySem.W.subIn K (.ref C_InvalidKeypad) (.ref C_PressError) = some true)
    (x_InvalidNumber : PySem.W.excIn K C_InvalidNumber [.type "ValueError", .type "Exception", .type "BaseException", .type "object"] "ValueError.__new__" = true) (p_InvalidNumber : PySem.W.keepIn K (.ref C_InvalidNumber) = true) (b_InvalidNumber : PySem.W.subIn K (.ref C_InvalidNumber) (.type "BaseException") = some true)
    (q1_InvalidNumber : PySem.W.findIn K (.ref C_InvalidNumber) "__getattribute__" = some (some (.builtin "BaseException.__getattribute__"))) (q2_InvalidNumber : PySem.W.findIn K (.ref C_InvalidNumber) "__getattr__" = some none) (q3_InvalidNumber : PySem.W.findIn K (.ref C_InvalidNumber) "__class__" = some (some (.builtin "object.__class__"))) (q4_InvalidNumber : PySem.W.mroIn K C_InvalidNumber (.type "object") = some true) (q5_InvalidNumber : PySem.W.subIn K (.ref C_InvalidNumber) (.type "ValueError") = some true)
    (k_InvalidNumber_InvalidKeypad : PySem.W.subIn K (.ref C_InvalidNumber) (.ref C_InvalidKeypad) = some false)
    (k_InvalidNumber_InvalidText : PySem.W.subIn K (.ref C_InvalidNumber) (.ref C_InvalidText) = some false)
    (k_InvalidNumber_InvalidLog : PySem.W.subIn K (.ref C_InvalidNumber) (.ref C_InvalidLog) = some false)
    (k_InvalidNumber_InvalidNumber : PySem.W.subIn K (.ref C_InvalidNumber) (.ref C_InvalidNumber) = some true)
    (k_InvalidNumber_InvalidThreshold : PySem.W.subIn K (.ref C_InvalidNumber) (.ref C_InvalidThreshold) = some false)
    (k_InvalidNumber_InvalidPress : PySem.W.subIn K (.ref C_InvalidNumber) (.ref C_InvalidPress) = some false)
    (k_InvalidNumber_TooMany : PySem.W.subIn K (.ref C_InvalidNumber) (.ref C_TooMany) = some false)
    (k_InvalidNumber_TooOften : PySem.W.subIn K (.ref C_InvalidNumber) (.ref C_TooOften) = some false)
    (k_InvalidNumber_NothingToUndo : PySem.W.subIn K (.ref C_InvalidNumber) (.ref C_NothingToUndo) = some false)
    (k_InvalidNumber_PressError : PySem.W.subIn K (.ref C_InvalidNumber) (.ref C_PressError) = some true)
    (x_InvalidText : PySem.W.excIn K C_InvalidText [.type "ValueError", .type "Exception", .type "BaseException", .type "object"] "ValueError.__new__" = true) (p_InvalidText : PySem.W.keepIn K (.ref C_InvalidText) = true) (b_InvalidText : PySem.W.subIn K (.ref C_InvalidText) (.type "BaseException") = some true)
    (q1_InvalidText : PySem.W.findIn K (.ref C_InvalidText) "__getattribute__" = some (some (.builtin "BaseException.__getattribute__"))) (q2_InvalidText : PySem.W.findIn K (.ref C_InvalidText) "__getattr__" = some none) (q3_InvalidText : PySem.W.findIn K (.ref C_InvalidText) "__class__" = some (some (.builtin "object.__class__"))) (q4_InvalidText : PySem.W.mroIn K C_InvalidText (.type "object") = some true) (q5_InvalidText : PySem.W.subIn K (.ref C_InvalidText) (.type "ValueError") = some true)
    (k_InvalidText_InvalidKeypad : PySem.W.subIn K (.ref C_InvalidText) (.ref C_InvalidKeypad) = some false)
    (k_InvalidText_InvalidText : PySem.W.subIn K (.ref C_InvalidText) (.ref C_InvalidText) = some true)
    (k_InvalidText_InvalidLog : PySem.W.subIn K (.ref C_InvalidText) (.ref C_InvalidLog) = some false)
    (k_InvalidText_InvalidNumber : PySem.W.subIn K (.ref C_InvalidText) (.ref C_InvalidNumber) = some false)
    (k_InvalidText_InvalidThreshold : PySem.W.subIn K (.ref C_InvalidText) (.ref C_InvalidThreshold) = some false)
    (k_InvalidText_InvalidPress : PySem.W.subIn K (.ref C_InvalidText) (.ref C_InvalidPress) = some false)
    (k_InvalidText_TooMany : PySem.W.subIn K (.ref C_InvalidText) (.ref C_TooMany) = some false)
    (k_InvalidText_TooOften : PySem.W.subIn K (.ref C_InvalidText) (.ref C_TooOften) = some false)
    (k_InvalidText_NothingToUndo : PySem.W.subIn K (.ref C_InvalidText) (.ref C_NothingToUndo) = some false)
    (k_InvalidText_PressError : PySem.W.subIn K (.ref C_InvalidText) (.ref C_PressError) = some true) :
    ∃ fd : FuncData, (∀ (s : Shared) (v : Value), BindsTo s fd ⟨[v], []⟩ [("script", v)]) ∧ ∀ base : Heap, K.In base → base.Ns mainGlobals mg → FnOk l.prog w K mg base (L2N.CX l.prog w) 6 fa fd ["script"] (spLaw K) := by
  have e := hfa.symm.trans (PySem.W.mg_of X G a20)
  cases e
  have F1 := fun_mk (st := s_is_integer) l1 c1 k1
  have b1 := F1.binds (ps := ["value", "low", "high"]) fun _ _ _ _ _ _ us hl => match us, hl with | [_, _, _], _ => rfl
  have F2 := fun_mk (st := s_is_string_of) l2 c2 k2
  have b2 := F2.binds (ps := ["value", "letters", "least", "most"]) fun _ _ _ _ _ _ us hl => match us, hl with | [_, _, _, _], _ => rfl
  have F3 := fun_mk (st := s_is_keypad) l3 c3 k3
  have b3 := F3.binds (ps := ["value"]) fun _ _ _ _ _ _ us hl => match us, hl with | [_], _ => rfl
  have F4 := fun_mk (st := s_require_keypad) l4 c4 k4
  have b4 := F4.binds (ps := ["value"]) fun _ _ _ _ _ _ us hl => match us, hl with | [_], _ => rfl
  have F5 := fun_mk (st := s_require_text) l5 c5 k5
  have b5 := F5.binds (ps := ["keypad", "value"]) fun _ _ _ _ _ _ us hl => match us, hl with | [_, _], _ => rfl
  have F6 := fun_mk (st := s_require_number) l6 c6 k6
  have b6 := F6.binds (ps := ["value", "low", "high"]) fun _ _ _ _ _ _ us hl => match us, hl with | [_, _, _], _ => rfl
  have F7 := fun_mk (st := s_places) l7 c7 k7
  have b7 := F7.binds (ps := ["keypad"]) fun _ _ _ _ _ _ us hl => match us, hl with | [_], _ => rfl
  have F8 := fun_mk (st := s_pressed) l8 c8 k8
  have b8 := F8.binds (ps := ["keypad", "text"]) fun _ _ _ _ _ _ us hl => match us, hl with | [_, _], _ => rfl
  have F9 := fun_mk (st := s_sums_of) l9 c9 k9
  have b9 := F9.binds (ps := ["keypad", "text"]) fun _ _ _ _ _ _ us hl => match us, hl with | [_, _], _ => rfl
  have F10 := fun_mk (st := s_cost_of) l10 c10 k10
  have b10 := F10.binds (ps := ["keypad", "text", "pause"]) fun _ _ _ _ _ _ us hl => match us, hl with | [_, _, _], _ => rfl
  have F11 := fun_mk (st := s_cost) l11 c11 k11
  have b11 := F11.binds (ps := ["keypad", "text", "pause"]) fun _ _ _ _ _ _ us hl => match us, hl with | [_, _, _], _ => rfl
  have F12 := fun_mk (st := s__law_source) l12 c12 k12
  have b12 := F12.binds (ps := ["script", "k"]) fun _ _ _ _ _ _ us hl => match us, hl with | [_, _], _ => rfl
  have F13 := fun_mk (st := s__law_pick) l13 c13 k13
  have b13 := F13.binds (ps := ["source", "size"]) fun _ _ _ _ _ _ us hl => match us, hl with | [_, _], _ => rfl
  have F14 := fun_mk (st := s__law_error_name) l14 c14 k14
  have b14 := F14.binds (ps := ["e"]) fun _ _ _ _ _ _ us hl => match us, hl with | [_], _ => rfl
  have F15 := fun_mk (st := s__law_pad) l15 c15 k15
  have b15 := F15.binds (ps := ["source", "most", "wide"]) fun _ _ _ _ _ _ us hl => match us, hl with | [_, _, _], _ => rfl
  have F16 := fun_mk (st := s__law_spots) l16 c16 k16
  have b16 := F16.binds (ps := ["pad"]) fun _ _ _ _ _ _ us hl => match us, hl with | [_], _ => rfl
  have F17 := fun_mk (st := s__law_word) l17 c17 k17
  have b17 := F17.binds (ps := ["source", "pad", "most"]) fun _ _ _ _ _ _ us hl => match us, hl with | [_, _, _], _ => rfl
  have F18 := fun_mk (st := s__law_typed) l18 c18 k18
  have b18 := F18.binds (ps := ["pad", "word"]) fun _ _ _ _ _ _ us hl => match us, hl with | [_, _], _ => rfl
  have F19 := fun_mk (st := s__law_outcome) l19 c19 k19
  have b19 := F19.binds (ps := ["pad", "word", "pause"]) fun _ _ _ _ _ _ us hl => match us, hl with | [_, _, _], _ => rfl
  have F20 := fun_mk (st := s_law) l20 c20 k20
  have b20 := F20.binds (ps := ["script"]) fun _ _ _ _ _ _ us hl => match us, hl with | [_], _ => rfl
  have er_InvalidKeypad : ErrC K mg [("InvalidKeypad", C_InvalidKeypad), ("InvalidText", C_InvalidText), ("InvalidLog", C_InvalidLog), ("InvalidNumber", C_InvalidNumber), ("InvalidThreshold", C_InvalidThreshold), ("InvalidPress", C_InvalidPress), ("TooMany", C_TooMany), ("TooOften", C_TooOften), ("NothingToUndo", C_NothingToUndo), ("PressError", C_PressError)] "InvalidKeypad" C_InvalidKeypad := ⟨PySem.W.mg_of X G e_InvalidKeypad, ⟨q1_InvalidKeypad, q2_InvalidKeypad, b_InvalidKeypad, hh_InvalidKeypad, q3_InvalidKeypad, sp_, tk_, q4_InvalidKeypad⟩, k_InvalidKeypad_InvalidKeypad, fun p hp => by
    simp only [List.mem_cons, List.not_mem_nil, or_false] at hp
    rcases hp with rfl | rfl | rfl | rfl | rfl | rfl | rfl | rfl | rfl | rfl
    · exact k_InvalidKeypad_InvalidKeypad.trans (congrArg some nm_InvalidKeypad.1.symm)
    · exact k_InvalidKeypad_InvalidText.trans (congrArg some nm_InvalidKeypad.2.1.symm)
    · exact k_InvalidKeypad_InvalidLog.trans (congrArg some nm_InvalidKeypad.2.2.1.symm)
    · exact k_InvalidKeypad_InvalidNumber.trans (congrArg some nm_InvalidKeypad.2.2.2.1.symm)
    · exact k_InvalidKeypad_InvalidThreshold.trans (congrArg some nm_InvalidKeypad.2.2.2.2.1.symm)
    · exact k_InvalidKeypad_InvalidPress.trans (congrArg some nm_InvalidKeypad.2.2.2.2.2.1.symm)
    · exact k_InvalidKeypad_TooMany.trans (congrArg some nm_InvalidKeypad.2.2.2.2.2.2.1.symm)
    · exact k_InvalidKeypad_TooOften.trans (congrArg some nm_InvalidKeypad.2.2.2.2.2.2.2.1.symm)
    · exact k_InvalidKeypad_NothingToUndo.trans (congrArg some nm_InvalidKeypad.2.2.2.2.2.2.2.2.1.symm)
    · exact k_InvalidKeypad_PressError.trans (congrArg some nm_InvalidKeypad.2.2.2.2.2.2.2.2.2.symm), q5_InvalidKeypad⟩
  have er_InvalidNumber : ErrC K mg [("InvalidKeypad", C_InvalidKeypad), ("InvalidText", C_InvalidText), ("InvalidLog", C_InvalidLog), ("InvalidNumber", C_InvalidNumber), ("InvalidThreshold", C_InvalidThreshold), ("InvalidPress", C_InvalidPress), ("TooMany", C_TooMany), ("TooOften", C_TooOften), ("NothingToUndo", C_NothingToUndo), ("PressError", C_PressError)] "InvalidNumber" C_InvalidNumber := ⟨PySem.W.mg_of X G e_InvalidNumber, ⟨q1_InvalidNumber, q2_InvalidNumber, b_InvalidNumber, hh_InvalidNumber, q3_InvalidNumber, sp_, tk_, q4_InvalidNumber⟩, k_InvalidNumber_InvalidNumber, fun p hp => by
    simp only [List.mem_cons, List.not_mem_nil, or_false] at hp
    rcases hp with rfl | rfl | rfl | rfl | rfl | rfl | rfl | rfl | rfl | rfl
    · exact k_InvalidNumber_InvalidKeypad.trans (congrArg some nm_InvalidNumber.1.symm)
    · exact k_InvalidNumber_InvalidText.trans (congrArg some nm_InvalidNumber.2.1.symm)
    · exact k_InvalidNumber_InvalidLog.trans (congrArg some nm_InvalidNumber.2.2.1.symm)
    · exact k_InvalidNumber_InvalidNumber.trans (congrArg some nm_InvalidNumber.2.2.2.1.symm)
    · exact k_InvalidNumber_InvalidThreshold.trans (congrArg some nm_InvalidNumber.2.2.2.2.1.symm)
    · exact k_InvalidNumber_InvalidPress.trans (congrArg some nm_InvalidNumber.2.2.2.2.2.1.symm)
    · exact k_InvalidNumber_TooMany.trans (congrArg some nm_InvalidNumber.2.2.2.2.2.2.1.symm)
    · exact k_InvalidNumber_TooOften.trans (congrArg some nm_InvalidNumber.2.2.2.2.2.2.2.1.symm)
    · exact k_InvalidNumber_NothingToUndo.trans (congrArg some nm_InvalidNumber.2.2.2.2.2.2.2.2.1.symm)
    · exact k_InvalidNumber_PressError.trans (congrArg some nm_InvalidNumber.2.2.2.2.2.2.2.2.2.symm), q5_InvalidNumber⟩
  have er_InvalidText : ErrC K mg [("InvalidKeypad", C_InvalidKeypad), ("InvalidText", C_InvalidText), ("InvalidLog", C_InvalidLog), ("InvalidNumber", C_InvalidNumber), ("InvalidThreshold", C_InvalidThreshold), ("InvalidPress", C_InvalidPress), ("TooMany", C_TooMany), ("TooOften", C_TooOften), ("NothingToUndo", C_NothingToUndo), ("PressError", C_PressError)] "InvalidText" C_InvalidText := ⟨PySem.W.mg_of X G e_InvalidText, ⟨q1_InvalidText, q2_InvalidText, b_InvalidText, hh_InvalidText, q3_InvalidText, sp_, tk_, q4_InvalidText⟩, k_InvalidText_InvalidText, fun p hp => by
    simp only [List.mem_cons, List.not_mem_nil, or_false] at hp
    rcases hp with rfl | rfl | rfl | rfl | rfl | rfl | rfl | rfl | rfl | rfl
    · exact k_InvalidText_InvalidKeypad.trans (congrArg some nm_InvalidText.1.symm)
    · exact k_InvalidText_InvalidText.trans (congrArg some nm_InvalidText.2.1.symm)
    · exact k_InvalidText_InvalidLog.trans (congrArg some nm_InvalidText.2.2.1.symm)
    · exact k_InvalidText_InvalidNumber.trans (congrArg some nm_InvalidText.2.2.2.1.symm)
    · exact k_InvalidText_InvalidThreshold.trans (congrArg some nm_InvalidText.2.2.2.2.1.symm)
    · exact k_InvalidText_InvalidPress.trans (congrArg some nm_InvalidText.2.2.2.2.2.1.symm)
    · exact k_InvalidText_TooMany.trans (congrArg some nm_InvalidText.2.2.2.2.2.2.1.symm)
    · exact k_InvalidText_TooOften.trans (congrArg some nm_InvalidText.2.2.2.2.2.2.2.1.symm)
    · exact k_InvalidText_NothingToUndo.trans (congrArg some nm_InvalidText.2.2.2.2.2.2.2.2.1.symm)
    · exact k_InvalidText_PressError.trans (congrArg some nm_InvalidText.2.2.2.2.2.2.2.2.2.symm), q5_InvalidText⟩
  let T : Tops K mg := ⟨_, _, F1, b1, PySem.W.mg_of X G a1,
    _, _, F2, b2, PySem.W.mg_of X G a2,
    _, _, F3, b3, PySem.W.mg_of X G a3,
    _, _, F4, b4, PySem.W.mg_of X G a4,
    _, _, F5, b5, PySem.W.mg_of X G a5,
    _, _, F6, b6, PySem.W.mg_of X G a6,
    _, _, F7, b7, PySem.W.mg_of X G a7,
    _, _, F8, b8, PySem.W.mg_of X G a8,
    _, _, F9, b9, PySem.W.mg_of X G a9,
    _, _, F10, b10, PySem.W.mg_of X G a10,
    _, _, F11, b11, PySem.W.mg_of X G a11,
    _, _, F12, b12, PySem.W.mg_of X G a12,
    _, _, F13, b13, PySem.W.mg_of X G a13,
    _, _, F14, b14, PySem.W.mg_of X G a14,
    _, _, F15, b15, PySem.W.mg_of X G a15,
    _, _, F16, b16, PySem.W.mg_of X G a16,
    _, _, F17, b17, PySem.W.mg_of X G a17,
    _, _, F18, b18, PySem.W.mg_of X G a18,
    _, _, F19, b19, PySem.W.mg_of X G a19,
    _, _, F20, b20, PySem.W.mg_of X G a20,
    PySem.W.mg_none_of X G z_ValueError,
    PySem.W.mg_none_of X G z_all,
    PySem.W.mg_none_of X G z_bool,
    PySem.W.mg_none_of X G z_enumerate,
    PySem.W.mg_none_of X G z_int,
    PySem.W.mg_none_of X G z_isinstance,
    PySem.W.mg_none_of X G z_len,
    PySem.W.mg_none_of X G z_list,
    PySem.W.mg_none_of X G z_max,
    PySem.W.mg_none_of X G z_min,
    PySem.W.mg_none_of X G z_range,
    PySem.W.mg_none_of X G z_set,
    PySem.W.mg_none_of X G z_str,
    PySem.W.mg_none_of X G z_tuple,
    PySem.W.mg_none_of X G z_zip,
    _, PySem.W.mg_of X G g_LETTERS,
    _, PySem.W.mg_of X G g_MAX_KEYS,
    _, PySem.W.mg_of X G g_MAX_LETTERS,
    _, PySem.W.mg_of X G g_MAX_PAUSE,
    _, PySem.W.mg_of X G g_MAX_TEXT,
    C_InvalidKeypad,
    C_InvalidText,
    C_InvalidLog,
    C_InvalidNumber,
    C_InvalidThreshold,
    C_InvalidPress,
    C_TooMany,
    C_TooOften,
    C_NothingToUndo,
    C_PressError,
    ⟨PySem.W.mg_of X G e_InvalidKeypad, x_InvalidKeypad, p_InvalidKeypad, b_InvalidKeypad, y_InvalidKeypad⟩,
    ⟨PySem.W.mg_of X G e_InvalidNumber, x_InvalidNumber, p_InvalidNumber, b_InvalidNumber, y_InvalidNumber⟩,
    ⟨PySem.W.mg_of X G e_InvalidText, x_InvalidText, p_InvalidText, b_InvalidText, y_InvalidText⟩,
    PySem.W.mg_of X G e_InvalidKeypad, hh_InvalidKeypad, y_InvalidKeypad,
    PySem.W.mg_of X G e_InvalidText, hh_InvalidText, y_InvalidText,
    PySem.W.mg_of X G e_InvalidLog, hh_InvalidLog, y_InvalidLog,
    PySem.W.mg_of X G e_InvalidNumber, hh_InvalidNumber, y_InvalidNumber,
    PySem.W.mg_of X G e_InvalidThreshold, hh_InvalidThreshold, y_InvalidThreshold,
    PySem.W.mg_of X G e_InvalidPress, hh_InvalidPress, y_InvalidPress,
    PySem.W.mg_of X G e_TooMany, hh_TooMany, y_TooMany,
    PySem.W.mg_of X G e_TooOften, hh_TooOften, y_TooOften,
    PySem.W.mg_of X G e_NothingToUndo, hh_NothingToUndo, y_NothingToUndo,
    PySem.W.mg_of X G e_PressError, hh_PressError, y_PressError,
    bp_,
    er_InvalidKeypad,
    er_InvalidNumber,
    er_InvalidText⟩
  exact ⟨PySem.W.fnOf "law" "law" (defArgs s_law) (defBody s_law) (defScope s_law) .none kV20 dc20 pm20 an20 cd20 ct20, fun s v => .of_eq rfl, fun base _ _ => ok_law T⟩
end LW
open PySem PySem.W PyProof.Rows
set_option maxHeartbeats 0 in
theorem PySem.Challenge.cw_pressletters_k31_costs_of_texts_holds : PySem.Challenge.rw_pressletters_k31_costs_of_texts.Holds := by
  w_on; o_law; k_head; (case hw => w_witness2)
  k_fill
  refine L2.walk_of (l := PySem.Challenge.rw_pressletters_k31_costs_of_texts) (n := 63) (k := 6) (x := "script") (CX := fun w => L2N.CX PySem.Challenge.pw_pressletters_k31_costs_of_texts w) (sp := fun w => DL.spLaw _) rfl (by decide) rfl ⟨rfl, by decide, by decide⟩ (fun w h Y => PySem.W.kIn_of Y) ?F (fun _ _ a ns hl _ hS => ⟨a, ns, rfl, hS, hl, fun _ => rfl⟩) (fun _ _ _ _ _ ⟨_, _, _, _, _, _, _, _, _, _, _, _, h⟩ => h)
  case F =>
    intro w mg fa h KX G hmg
    refine' LW.all_mk KX G hmg ?a1 ?l1 ?c1 ?k1 ?a2 ?l2 ?c2 ?k2 ?a3 ?l3 ?c3 ?k3 ?a4 ?l4 ?c4 ?k4 ?a5 ?l5 ?c5 ?k5 ?a6 ?l6 ?c6 ?k6 ?a7 ?l7 ?c7 ?k7 ?a8 ?l8 ?c8 ?k8 ?a9 ?l9 ?c9 ?k9 ?a10 ?l10 ?c10 ?k10 ?a11 ?l11 ?c11 ?k11 ?a12 ?l12 ?c12 ?k12 ?a13 ?l13 ?c13 ?k13 ?a14 ?l14 ?c14 ?k14 ?a15 ?l15 ?c15 ?k15 ?a16 ?l16 ?c16 ?k16 ?a17 ?l17 ?c17 ?k17 ?a18 ?l18 ?c18 ?k18 ?a19 ?l19 ?c19 ?k19 ?a20 ?l20 ?c20 ?k20 ?z_ValueError ?z_all ?z_bool ?z_enumerate ?z_int ?z_isinstance ?z_len ?z_list ?z_max ?z_min ?z_range ?z_set ?z_str ?z_tuple ?z_zip ?g_LETTERS ?g_MAX_KEYS ?g_MAX_LETTERS ?g_MAX_PAUSE ?g_MAX_TEXT ?e_InvalidKeypad ?hh_InvalidKeypad ?y_InvalidKeypad ?e_InvalidText ?hh_InvalidText ?y_InvalidText ?e_InvalidLog ?hh_InvalidLog ?y_InvalidLog ?e_InvalidNumber ?hh_InvalidNumber ?y_InvalidNumber ?e_InvalidThreshold ?hh_InvalidThreshold ?y_InvalidThreshold ?e_InvalidPress ?hh_InvalidPress ?y_InvalidPress ?e_TooMany ?hh_TooMany ?y_TooMany ?e_TooOften ?hh_TooOften ?y_TooOften ?e_NothingToUndo ?hh_NothingToUndo ?y_NothingToUndo ?e_PressError ?hh_PressError ?y_PressError ?sp_ ?tk_ ?bp_ ?x_InvalidKeypad ?p_InvalidKeypad ?b_InvalidKeypad ?q1_InvalidKeypad ?q2_InvalidKeypad ?q3_InvalidKeypad ?q4_InvalidKeypad ?q5_InvalidKeypad ?k_InvalidKeypad_InvalidKeypad ?k_InvalidKeypad_InvalidText ?k_InvalidKeypad_InvalidLog ?k_InvalidKeypad_InvalidNumber ?k_InvalidKeypad_InvalidThreshold ?k_InvalidKeypad_InvalidPress ?k_InvalidKeypad_TooMany ?k_InvalidKeypad_TooOften ?k_InvalidKeypad_NothingToUndo ?k_InvalidKeypad_PressError ?x_InvalidNumber ?p_InvalidNumber ?b_InvalidNumber ?q1_InvalidNumber ?q2_InvalidNumber ?q3_InvalidNumber ?q4_InvalidNumber ?q5_InvalidNumber ?k_InvalidNumber_InvalidKeypad ?k_InvalidNumber_InvalidText ?k_InvalidNumber_InvalidLog ?k_InvalidNumber_InvalidNumber ?k_InvalidNumber_InvalidThreshold ?k_InvalidNumber_InvalidPress ?k_InvalidNumber_TooMany ?k_InvalidNumber_TooOften ?k_InvalidNumber_NothingToUndo ?k_InvalidNumber_PressError ?x_InvalidText ?p_InvalidText ?b_InvalidText ?q1_InvalidText ?q2_InvalidText ?q3_InvalidText ?q4_InvalidText ?q5_InvalidText ?k_InvalidText_InvalidKeypad ?k_InvalidText_InvalidText ?k_InvalidText_InvalidLog ?k_InvalidText_InvalidNumber ?k_InvalidText_InvalidThreshold ?k_InvalidText_InvalidPress ?k_InvalidText_TooMany ?k_InvalidText_TooOften ?k_InvalidText_NothingToUndo ?k_InvalidText_PressError
    (case a1 => k_is); (case l1 => k_is); (case c1 => k_is); (case k1 => k_is); (case a2 => k_is); (case l2 => k_is); (case c2 => k_is); (case k2 => k_is); (case a3 => k_is); (case l3 => k_is); (case c3 => k_is); (case k3 => k_is); (case a4 => k_is); (case l4 => k_is); (case c4 => k_is); (case k4 => k_is); (case a5 => k_is); (case l5 => k_is); (case c5 => k_is); (case k5 => k_is); (case a6 => k_is); (case l6 => k_is); (case c6 => k_is); (case k6 => k_is); (case a7 => k_is); (case l7 => k_is); (case c7 => k_is); (case k7 => k_is); (case a8 => k_is); (case l8 => k_is); (case c8 => k_is); (case k8 => k_is); (case a9 => k_is); (case l9 => k_is); (case c9 => k_is); (case k9 => k_is); (case a10 => k_is); (case l10 => k_is); (case c10 => k_is); (case k10 => k_is); (case a11 => k_is); (case l11 => k_is); (case c11 => k_is); (case k11 => k_is); (case a12 => k_is); (case l12 => k_is); (case c12 => k_is); (case k12 => k_is); (case a13 => k_is); (case l13 => k_is); (case c13 => k_is); (case k13 => k_is); (case a14 => k_is); (case l14 => k_is); (case c14 => k_is); (case k14 => k_is); (case a15 => k_is); (case l15 => k_is); (case c15 => k_is); (case k15 => k_is); (case a16 => k_is); (case l16 => k_is); (case c16 => k_is); (case k16 => k_is); (case a17 => k_is); (case l17 => k_is); (case c17 => k_is); (case k17 => k_is); (case a18 => k_is); (case l18 => k_is); (case c18 => k_is); (case k18 => k_is); (case a19 => k_is); (case l19 => k_is); (case c19 => k_is); (case k19 => k_is); (case a20 => k_is); (case l20 => k_is); (case c20 => k_is); (case k20 => k_is); (case z_ValueError => k_is); (case z_all => k_is); (case z_bool => k_is); (case z_enumerate => k_is); (case z_int => k_is); (case z_isinstance => k_is); (case z_len => k_is); (case z_list => k_is); (case z_max => k_is); (case z_min => k_is); (case z_range => k_is); (case z_set => k_is); (case z_str => k_is); (case z_tuple => k_is); (case z_zip => k_is); (case g_LETTERS => k_is); (case g_MAX_KEYS => k_is); (case g_MAX_LETTERS => k_is); (case g_MAX_PAUSE => k_is); (case g_MAX_TEXT => k_is); (case e_InvalidKeypad => k_is); (case hh_InvalidKeypad => k_is); (case y_InvalidKeypad => k_is); (case e_InvalidText => k_is); (case hh_InvalidText => k_is); (case y_InvalidText => k_is); (case e_InvalidLog => k_is); (case hh_InvalidLog => k_is); (case y_InvalidLog => k_is); (case e_InvalidNumber => k_is); (case hh_InvalidNumber => k_is); (case y_InvalidNumber => k_is); (case e_InvalidThreshold => k_is); (case hh_InvalidThreshold => k_is); (case y_InvalidThreshold => k_is); (case e_InvalidPress => k_is); (case hh_InvalidPress => k_is); (case y_InvalidPress => k_is); (case e_TooMany => k_is); (case hh_TooMany => k_is); (case y_TooMany => k_is); (case e_TooOften => k_is); (case hh_TooOften => k_is); (case y_TooOften => k_is); (case e_NothingToUndo => k_is); (case hh_NothingToUndo => k_is); (case y_NothingToUndo => k_is); (case e_PressError => k_is); (case hh_PressError => k_is); (case y_PressError => k_is); (case sp_ => k_is); (case tk_ => k_is); (case bp_ => k_is); (case x_InvalidKeypad => k_exc); (case p_InvalidKeypad => k_is); (case b_InvalidKeypad => k_is); (case q1_InvalidKeypad => k_is); (case q2_InvalidKeypad => k_is); (case q3_InvalidKeypad => k_is); (case q4_InvalidKeypad => k_is); (case q5_InvalidKeypad => k_is); (case k_InvalidKeypad_InvalidKeypad => k_is); (case k_InvalidKeypad_InvalidText => k_is); (case k_InvalidKeypad_InvalidLog => k_is); (case k_InvalidKeypad_InvalidNumber => k_is); (case k_InvalidKeypad_InvalidThreshold => k_is); (case k_InvalidKeypad_InvalidPress => k_is); (case k_InvalidKeypad_TooMany => k_is); (case k_InvalidKeypad_TooOften => k_is); (case k_InvalidKeypad_NothingToUndo => k_is); (case k_InvalidKeypad_PressError => k_is); (case x_InvalidNumber => k_exc); (case p_InvalidNumber => k_is); (case b_InvalidNumber => k_is); (case q1_InvalidNumber => k_is); (case q2_InvalidNumber => k_is); (case q3_InvalidNumber => k_is); (case q4_InvalidNumber => k_is); (case q5_InvalidNumber => k_is); (case k_InvalidNumber_InvalidKeypad => k_is); (case k_InvalidNumber_InvalidText => k_is); (case k_InvalidNumber_InvalidLog => k_is); (case k_InvalidNumber_InvalidNumber => k_is); (case k_InvalidNumber_InvalidThreshold => k_is); (case k_InvalidNumber_InvalidPress => k_is); (case k_InvalidNumber_TooMany => k_is); (case k_InvalidNumber_TooOften => k_is); (case k_InvalidNumber_NothingToUndo => k_is); (case k_InvalidNumber_PressError => k_is); (case x_InvalidText => k_exc); (case p_InvalidText => k_is); (case b_InvalidText => k_is); (case q1_InvalidText => k_is); (case q2_InvalidText => k_is); (case q3_InvalidText => k_is); (case q4_InvalidText => k_is); (case q5_InvalidText => k_is); (case k_InvalidText_InvalidKeypad => k_is); (case k_InvalidText_InvalidText => k_is); (case k_InvalidText_InvalidLog => k_is); (case k_InvalidText_InvalidNumber => k_is); (case k_InvalidText_InvalidThreshold => k_is); (case k_InvalidText_InvalidPress => k_is); (case k_InvalidText_TooMany => k_is); (case k_InvalidText_TooOften => k_is); (case k_InvalidText_NothingToUndo => k_is); (case k_InvalidText_PressError => k_is)
