import PyProof.Rows.All
import Wide.All
import OpenK.AllK
import Wide.FinOn
import HandS.Base
import HandS.Call
import HandS.List
import HandS.Comp
import HandS.Ends
import HandS.Dict
import HandS.Iter
import HandS.Text
import HandS.Words
import HandS.WordsList
import HandS.WordsDict
import HandS.Exc
import HandS.ExcOwn
import HandS.TryOnly
import HandS.WordsExc
import HandS.Wide
import HandS.WideBits
import HandS.IsInst
import HandS.Flow
import HandS.Strs
import HandS.Style
import HandS.TupAny
import HandS.Deep
import HandS.Codes
import HandS.Defaults
import HandS.CallSlots
import HandS.HeadHook2
import HandS.HeadHook4
import HandS.HeadEnd
import HandS.Head2
import HandS.TupMul
import HandS.Zip
import HandS.More
import HandS.RaiseMore
import HandS.SortInts
import HandS.NoneIn
import KE.KRevSl
import HandS.StrMore
import HandS.ExcIs
import PySem.Challenge.RW_allquiet_k21_whole_steps_reckoned
set_option Elab.async false
set_option linter.all false
set_option maxRecDepth 100000
set_option maxHeartbeats 0
/-! QS: set(texts), its length. -/
namespace Q
open PySem PySem.Spec PyProof.Rows L2
/-- each text once, as first met -/
def onceS : List Str → List Str → List Str
  | acc, [] => acc
  | acc, x :: xs => onceS (if x ∈ acc then acc else acc ++ [x]) xs
theorem onceS_le : ∀ (xs acc : List Str), (onceS acc xs).length ≤ acc.length + xs.length
  | [], acc => by simp [onceS]
  | x :: xs, acc => by
    have := onceS_le xs (if x ∈ acc then acc else acc ++ [x])
    unfold onceS
    rw [List.length_cons]
    split at this
    · rename_i h; rw [if_pos h]; omega
    · rename_i h; rw [if_neg h]; rw [List.length_append, List.length_singleton] at this; omega
theorem onceS_snoc (x : Str) : ∀ (xs acc : List Str), onceS acc (xs ++ [x]) = (if x ∈ onceS acc xs then onceS acc xs else onceS acc xs ++ [x])
  | [], acc => rfl
  | y :: ys, acc => by
    show onceS _ (ys ++ [x]) = _
    rw [onceS_snoc x ys]
    rfl
section
variable {prog : Program} {w : World} {A : Around} {I : Addr} {fp wr : List Addr} {G : Array GenState → Array GenState → Prop} {n : Nat} {P : Nat → Value → Prop} {St : Nat → Shared → Prop}
abbrev HasS (prog : Program) (w : World) (h : Heap) (a : Addr) (zs : List Str) : Prop := h.SetOf (PySem.strKind prog w) a (fun k => decide (k ∈ zs)) zs.length
theorem fill_texts {R : Result → Shared → Prop} (W : WalksS prog w A.in1 I fp wr G n P St) (a : Addr) (na : a ∉ fp) (xs : List Str) (hn : xs.length = n) (hb : n + 1 < scanBound) (hv : ∀ i v, P i v → ∃ x t, xs[i]? = some x ∧ v = .str x t) :
    ∀ (m i : Nat) (s : Shared), i + m = n → St i s → HasS prog w s.heap a (onceS [] (xs.take i)) →
      (∀ s', Moved (a :: wr) G s s' → HasS prog w s'.heap a (onceS [] xs) → R (.ok (.ret .none)) s') →
      codeAny (model prog w) A (.builtin "set.update.loop" ⟨[.ref a, .ref I], []⟩) R s := by
  have naw : a ∉ wr := fun q => na (W.sub _ q)
  have up : ∀ b ∈ wr, b ∈ a :: wr := fun b q => List.mem_cons_of_mem _ q
  have stay : ∀ {s s' : Shared} {zs : List Str}, Moved wr G s s' → HasS prog w s.heap a zs → HasS prog w s'.heap a zs := by
    rintro s s' zs mv ⟨o, es, ep, tb, q, more⟩
    exact ⟨o, es, ep, tb, mv.heap a _ naw q, more⟩
  intro m
  induction m with
  | zero =>
    intro i s him st hs k
    obtain rfl : i = n := by omega
    refine codeAny_builtin PyProof.Rows.F.entry_set_update_loop ?_
    rw [Around.under_plainId PyProof.Rows.F.plain_set_update_loop _]
    show wpAny _ A.in1 (pyNext (.ref I) >>= _) _ _ s
    refine wpAny_bind (W.done s _ _ st fun s1 mv => ?_)
    show wpAny _ A.in1 (ret Value.none) _ _ s1
    refine wpAny_pure (k s1 (mv.mono up) ?_)
    have := stay mv hs
    rwa [List.take_of_length_le (by omega)] at this
  | succ m ih =>
    intro i s him st hs k
    refine codeAny_builtin PyProof.Rows.F.entry_set_update_loop ?_
    rw [Around.under_plainId PyProof.Rows.F.plain_set_update_loop _]
    show wpAny _ A.in1 (pyNext (.ref I) >>= _) _ _ s
    refine wpAny_bind (W.item i s _ _ (by omega) st fun v s1 hp st1 mv => ?_)
    obtain ⟨x, t, hx, rfl⟩ := hv i v hp
    have hs1 := stay mv hs
    show wpAny _ A.in1 (holding [Value.str x t] (setAdd a (.str x t)) >>= _) _ _ s1
    refine wpAny_bind (wpAny_holding ?_)
    unfold setAdd
    refine wpAny_holding ?_
    refine wpAny_bind ((PySem.strKind prog w).pyHash (k := x) (strKind_is _ _ _ _) ?_)
    have room : (onceS [] (xs.take i)).length + 1 < scanBound := by
      have h1 := onceS_le (xs.take i) []
      rw [List.length_nil, List.length_take] at h1
      omega
    refine wpAny_setAddHashed_of (knd := PySem.strKind prog w) (s := { s1 with toks := s1.toks + 1 }) (strKind_is _ _ _ _) rfl hs1 room fun h2 sb new => ?_
    have ht : xs.take (i + 1) = xs.take i ++ [x] := by rw [List.take_succ, hx]; rfl
    have new2 : HasS prog w h2 a (onceS [] (xs.take (i + 1))) := by
      rw [ht, onceS_snoc]
      refine PyProof.Rows.SetOf_congr new (fun k' => ?_) ?_
      · show (decide (k' ∈ onceS [] (xs.take i)) || decide (k' = x)) = _
        split
        · rename_i c
          by_cases e : k' = x
          · subst e; simp [c]
          · simp [e]
        · simp only [List.mem_append, List.mem_singleton, Bool.decide_or]
      · show (if decide (x ∈ onceS [] (xs.take i)) = true then _ else _) = _
        split
        · rename_i c; rw [if_pos (of_decide_eq_true c)]
        · rename_i c; rw [if_neg (fun z => c (decide_eq_true z))]; simp
    refine wpAny_pure ⟨plainId_quiet PyProof.Rows.F.plain_set_update_loop _, ih (i + 1) _ (by omega) (W.frame _ s1 _ _ st1 (Nat.le_succ _) fun b q o e => ?_) new2 fun s3 mv3 hs3 => ?_⟩
    · rw [sb.2 b (fun z : b = a => na (by rw [← z]; exact q))]; exact e
    · refine k s3 (Moved.trans W.gtrans ((mv.mono up).then_heap (Nat.le_succ _) fun b o q e => ?_) mv3) hs3
      rw [sb.2 b (fun z : b = a => q (by rw [z]; exact List.mem_cons_self))]; exact e
end
theorem strs_get : ∀ {xs : List Str} {us : List Value}, Vals (xs.map V.str) us → ∀ (i : Nat) (v : Value), us[i]? = some v → ∃ x t, xs[i]? = some x ∧ v = .str x t
  | [], _, .nil, i, v, h => by simp at h
  | x :: xs, _, .cons r rs, 0, v, h => by
    obtain ⟨t, rfl⟩ := r
    simp at h; exact ⟨x, t, rfl, h.symm⟩
  | x :: xs, _, .cons r rs, i + 1, v, h => by
    obtain ⟨y, t, h1, h2⟩ := strs_get rs i v (by simpa using h)
    exact ⟨y, t, by simpa using h1, h2⟩
section
variable {prog : Program} {w : World} {A : Around} {E : Value → Shared → Prop} {s : Shared}
theorem set_of_list {l : Addr} {its : List Value} {xs : List Str} {Q : Value → Shared → Prop} (hh : A.handled = none) (hl : s.heap.IsList l its.toArray) (rel : Vals (xs.map V.str) its) (hb : its.length + 1 < scanBound)
    (k : ∀ (h' : Heap) (tk : Nat), HasS prog w h' s.heap.objs.size (onceS [] xs) → (∀ b o, b < s.heap.objs.size → s.heap.get? b = some o → h'.get? b = some o) → Q (.ref s.heap.objs.size) { s with heap := h', toks := tk }) :
    wpAny (model prog w) A (call (.type "set") [.ref l]) Q E s := by
  obtain ⟨first, others, mro⟩ := PySem.F.called_set.mro
  have f1 := PySem.F.called_set.made
  have f2 := PySem.F.called_set.sub
  refine wpAny_call (codeAny_of_tree ?_)
  show wpAny _ _ (callAny (.type "set") _) _ _ _
  refine wpAny_pure ⟨Code.quiet_builtin _ (by decide +kernel), codeAny_builtin PySem.F.entry_type_call ?_⟩
  rw [Around.under_plain (weight_type_call_type "set" [.ref l] []) rfl]
  have f3 := PySem.F.called_set.notType
  have f4 := PySem.F.called_set.canCreate
  have f5 := PySem.F.typeCall_set_1 (.ref l)
  repeat (any_goals (first | assumption | wp_step))
  refine codeAny_mono (code_set_new_1 (.ref l) (E := E) (Q₁ := fun u s1 => ∃ b : Bool, u = .ref s.heap.objs.size ∧ s1 = { s with heap := s.heap.push ⟨.type "set", none, .set #[] 0 (.fresh 0 0 b), #[]⟩ }) fun b => ⟨b, rfl, rfl⟩) fun r s1 got => ?_
  cases r with
  | error e => exact got
  | ok fl =>
    cases fl with
    | ret u =>
      obtain ⟨bt, rfl, rfl⟩ := got
      have stands : (s.heap.push ⟨.type "set", none, .set #[] 0 (.fresh 0 0 bt), #[]⟩).get? s.heap.objs.size = some ⟨.type "set", none, .set #[] 0 (.fresh 0 0 bt), #[]⟩ := Heap.get?_push_size _ rfl
      have ty : Shared.TypeIs { s with heap := s.heap.push ⟨.type "set", none, .set #[] 0 (.fresh 0 0 bt), #[]⟩ } (.ref s.heap.objs.size) "set" := ⟨_, stands, rfl⟩
      have f6 := PySem.F.called_set.init.lookup
      have f7 := PySem.F.called_set.init.bind (.ref s.heap.objs.size)
      repeat (any_goals (first | assumption | wp_step))
      refine codeAny_mono (codeAny_call_builtin (R := wants (fun r s2 => r = .none ∧ ∃ h2 t2, s2 = { s with heap := h2, toks := t2 } ∧ HasS prog w h2 s.heap.objs.size (onceS [] xs) ∧
          (∀ b o, b < s.heap.objs.size → s.heap.get? b = some o → h2.get? b = some o)) E) PySem.F.called_set.init.plain PySem.F.entry_set_init (check_set_init_1 ty ?_)) fun r2 s2 got2 => ?_
      · obtain ⟨⟨c0, d0, t0, z0⟩, ho, hc, m0, hd⟩ := hl
        simp only at hc hd
        subst hc; subst hd
        have lt : l < s.heap.objs.size := Heap.lt_size ho
        have ho2 : (s.heap.push ⟨.type "set", none, .set #[] 0 (.fresh 0 0 bt), #[]⟩).get? l = some { cls := .type "list", dict := d0, data := .seq its.toArray m0, slots := z0 } := Heap.get?_push_of_some _ ho
        have f8 := PySem.F.sub_list_set
        have f9 := PySem.F.sub_list_frozenset
        have f10 : (Value.type "list" == Value.type "dict") = false := by decide
        have src : (s.heap.push ⟨.type "set", none, .set #[] 0 (.fresh 0 0 bt), #[]⟩).IsList l its.toArray := ⟨_, ho2, rfl, m0, rfl⟩
        unfold Builtin.«set.__init__» noKeywords Builtin.Frozenset.updateFrom
        generalize hIter : pyIter = iter
        wp_walk
        subst hIter
        refine wpAny_pyIter_list src ?_
        refine wpAny_bind (wpAny_runValue ?_)
        have calm : A.in1.in1.in1.handled = none := by simp [hh]
        have far : l ≠ (s.heap.push ⟨.type "set", none, .set #[] 0 (.fresh 0 0 bt), #[]⟩).objs.size := by
          rw [Heap.size_push]; exact Nat.ne_of_lt (Nat.lt_succ_of_lt lt)
        have out : s.heap.objs.size ∉ [(s.heap.push ⟨.type "set", none, .set #[] 0 (.fresh 0 0 bt), #[]⟩).objs.size, l] := by
          rw [Heap.size_push]
          intro z
          rcases List.mem_cons.mp z with z | z
          · exact absurd z (Nat.ne_of_lt (Nat.lt_succ_self _))
          · exact absurd (List.mem_singleton.mp z) (Nat.ne_of_gt lt)
        have le := rel.length
        rw [List.length_map] at le
        refine fill_texts ((Walks.list calm _ l far its.toArray).toS) s.heap.objs.size out xs (by rw [List.size_toArray]; exact le) (by rw [List.size_toArray]; exact hb)
          (fun i v hv => strs_get rel i v (by simpa using hv)) its.toArray.size 0 _ (by omega) ⟨⟨_, Heap.get?_push_size _ rfl, rfl, rfl⟩, (src.push _)⟩ ?start ?goal
        case start =>
          have at2 : ((s.heap.push ⟨.type "set", none, .set #[] 0 (.fresh 0 0 bt), #[]⟩).push { cls := .type "list_iterator", data := .fields #[.ref l, .int 0 0] }).get? s.heap.objs.size
              = some ⟨.type "set", none, .set #[] 0 (.fresh 0 0 bt), #[]⟩ := Heap.get?_push_of_some _ stands
          exact PyProof.Rows.SetOf_congr ((PyProof.Rows.setObjOf_fresh (knd := PySem.strKind prog w) bt).setOf at2 (by unfold scanBound; omega)) (fun _ => by simp [onceS]) rfl
        case goal =>
          intro s3 mv hs3
          obtain ⟨h3, g3, d3, t3, o3⟩ := s3
          obtain rfl : g3 = s.gens := mv.gens
          obtain rfl : d3 = s.drawn := mv.drawn
          obtain rfl : o3 = s.os := mv.os
          show wpAny _ _ _ _ _ _
          refine wpAny_pure ?_
          show wpAny _ _ (ret Value.none) _ _ _
          refine wpAny_pure ⟨rfl, h3, t3, rfl, hs3, fun b o lb e => ?_⟩
          refine mv.heap b o (fun z => ?_) (Heap.get?_push_of_some _ (Heap.get?_push_of_some _ e))
          rw [Heap.size_push] at z
          rcases List.mem_cons.mp z with z | z
          · exact absurd z (Nat.ne_of_lt lb)
          · exact absurd (List.mem_singleton.mp z) (Nat.ne_of_lt (Nat.lt_succ_of_lt lb))
      · cases r2 with
        | error e => exact got2
        | ok fl2 =>
          cases fl2 with
          | ret r =>
            obtain ⟨rfl, h2, t2, rfl, hs2, keep⟩ := got2
            repeat (any_goals (first | assumption | wp_step))
            exact k _ _ hs2 keep
          | _ => exact got2.elim
    | _ => exact got.elim
theorem set_of_tuple {l : Addr} {its : List Value} {xs : List Str} {Q : Value → Shared → Prop} (hh : A.handled = none) (hl : s.heap.IsTuple l its.toArray) (rel : Vals (xs.map V.str) its) (hb : its.length + 1 < scanBound)
    (k : ∀ (h' : Heap) (tk : Nat), HasS prog w h' s.heap.objs.size (onceS [] xs) → (∀ b o, b < s.heap.objs.size → s.heap.get? b = some o → h'.get? b = some o) → Q (.ref s.heap.objs.size) { s with heap := h', toks := tk }) :
    wpAny (model prog w) A (call (.type "set") [.ref l]) Q E s := by
  obtain ⟨first, others, mro⟩ := PySem.F.called_set.mro
  have f1 := PySem.F.called_set.made
  have f2 := PySem.F.called_set.sub
  refine wpAny_call (codeAny_of_tree ?_)
  show wpAny _ _ (callAny (.type "set") _) _ _ _
  refine wpAny_pure ⟨Code.quiet_builtin _ (by decide +kernel), codeAny_builtin PySem.F.entry_type_call ?_⟩
  rw [Around.under_plain (weight_type_call_type "set" [.ref l] []) rfl]
  have f3 := PySem.F.called_set.notType
  have f4 := PySem.F.called_set.canCreate
  have f5 := PySem.F.typeCall_set_1 (.ref l)
  repeat (any_goals (first | assumption | wp_step))
  refine codeAny_mono (code_set_new_1 (.ref l) (E := E) (Q₁ := fun u s1 => ∃ b : Bool, u = .ref s.heap.objs.size ∧ s1 = { s with heap := s.heap.push ⟨.type "set", none, .set #[] 0 (.fresh 0 0 b), #[]⟩ }) fun b => ⟨b, rfl, rfl⟩) fun r s1 got => ?_
  cases r with
  | error e => exact got
  | ok fl =>
    cases fl with
    | ret u =>
      obtain ⟨bt, rfl, rfl⟩ := got
      have stands : (s.heap.push ⟨.type "set", none, .set #[] 0 (.fresh 0 0 bt), #[]⟩).get? s.heap.objs.size = some ⟨.type "set", none, .set #[] 0 (.fresh 0 0 bt), #[]⟩ := Heap.get?_push_size _ rfl
      have ty : Shared.TypeIs { s with heap := s.heap.push ⟨.type "set", none, .set #[] 0 (.fresh 0 0 bt), #[]⟩ } (.ref s.heap.objs.size) "set" := ⟨_, stands, rfl⟩
      have f6 := PySem.F.called_set.init.lookup
      have f7 := PySem.F.called_set.init.bind (.ref s.heap.objs.size)
      repeat (any_goals (first | assumption | wp_step))
      refine codeAny_mono (codeAny_call_builtin (R := wants (fun r s2 => r = .none ∧ ∃ h2 t2, s2 = { s with heap := h2, toks := t2 } ∧ HasS prog w h2 s.heap.objs.size (onceS [] xs) ∧
          (∀ b o, b < s.heap.objs.size → s.heap.get? b = some o → h2.get? b = some o)) E) PySem.F.called_set.init.plain PySem.F.entry_set_init (check_set_init_1 ty ?_)) fun r2 s2 got2 => ?_
      · obtain ⟨⟨c0, d0, t0, z0⟩, ho, hc, m0, hd⟩ := hl
        simp only at hc hd
        subst hc; subst hd
        have lt : l < s.heap.objs.size := Heap.lt_size ho
        have ho2 : (s.heap.push ⟨.type "set", none, .set #[] 0 (.fresh 0 0 bt), #[]⟩).get? l = some { cls := .type "tuple", dict := d0, data := .seq its.toArray m0, slots := z0 } := Heap.get?_push_of_some _ ho
        have f8 := PySem.F.sub_tuple_set
        have f9 := PySem.F.sub_tuple_frozenset
        have f10 : (Value.type "tuple" == Value.type "dict") = false := by decide
        have src : (s.heap.push ⟨.type "set", none, .set #[] 0 (.fresh 0 0 bt), #[]⟩).IsTuple l its.toArray := ⟨_, ho2, rfl, m0, rfl⟩
        unfold Builtin.«set.__init__» noKeywords Builtin.Frozenset.updateFrom
        generalize hIter : pyIter = iter
        wp_walk
        subst hIter
        refine wpAny_pyIter_tuple src ?_
        refine wpAny_bind (wpAny_runValue ?_)
        have calm : A.in1.in1.in1.handled = none := by simp [hh]
        have far : l ≠ (s.heap.push ⟨.type "set", none, .set #[] 0 (.fresh 0 0 bt), #[]⟩).objs.size := by
          rw [Heap.size_push]; exact Nat.ne_of_lt (Nat.lt_succ_of_lt lt)
        have out : s.heap.objs.size ∉ [(s.heap.push ⟨.type "set", none, .set #[] 0 (.fresh 0 0 bt), #[]⟩).objs.size, l] := by
          rw [Heap.size_push]
          intro z
          rcases List.mem_cons.mp z with z | z
          · exact absurd z (Nat.ne_of_lt (Nat.lt_succ_self _))
          · exact absurd (List.mem_singleton.mp z) (Nat.ne_of_gt lt)
        have le := rel.length
        rw [List.length_map] at le
        refine fill_texts ((Walks.tuple calm _ l far its.toArray).toS) s.heap.objs.size out xs (by rw [List.size_toArray]; exact le) (by rw [List.size_toArray]; exact hb)
          (fun i v hv => strs_get rel i v (by simpa using hv)) its.toArray.size 0 _ (by omega) ⟨⟨_, Heap.get?_push_size _ rfl, rfl, rfl⟩, (src.push _)⟩ ?start ?goal
        case start =>
          have at2 : ((s.heap.push ⟨.type "set", none, .set #[] 0 (.fresh 0 0 bt), #[]⟩).push { cls := .type "tuple_iterator", data := .fields #[.ref l, .int 0 0] }).get? s.heap.objs.size
              = some ⟨.type "set", none, .set #[] 0 (.fresh 0 0 bt), #[]⟩ := Heap.get?_push_of_some _ stands
          exact PyProof.Rows.SetOf_congr ((PyProof.Rows.setObjOf_fresh (knd := PySem.strKind prog w) bt).setOf at2 (by unfold scanBound; omega)) (fun _ => by simp [onceS]) rfl
        case goal =>
          intro s3 mv hs3
          obtain ⟨h3, g3, d3, t3, o3⟩ := s3
          obtain rfl : g3 = s.gens := mv.gens
          obtain rfl : d3 = s.drawn := mv.drawn
          obtain rfl : o3 = s.os := mv.os
          show wpAny _ _ _ _ _ _
          refine wpAny_pure ?_
          show wpAny _ _ (ret Value.none) _ _ _
          refine wpAny_pure ⟨rfl, h3, t3, rfl, hs3, fun b o lb e => ?_⟩
          refine mv.heap b o (fun z => ?_) (Heap.get?_push_of_some _ (Heap.get?_push_of_some _ e))
          rw [Heap.size_push] at z
          rcases List.mem_cons.mp z with z | z
          · exact absurd z (Nat.ne_of_lt lb)
          · exact absurd (List.mem_singleton.mp z) (Nat.ne_of_lt (Nat.lt_succ_of_lt lb))
      · cases r2 with
        | error e => exact got2
        | ok fl2 =>
          cases fl2 with
          | ret r =>
            obtain ⟨rfl, h2, t2, rfl, hs2, keep⟩ := got2
            repeat (any_goals (first | assumption | wp_step))
            exact k _ _ hs2 keep
          | _ => exact got2.elim
    | _ => exact got.elim
end
section
variable {X : Cx}
/-- len(set(x)), x texts -/
def tLenSetS (K : PySem.W.Frag) (ta : TE) : TE := fun σ H Q => ta σ H fun x H1 => ∃ l, ∃ xs : List Str, x = .ref l ∧ (SqL K H1 l (xs.map V.str) ∨ SqT K H1 l (xs.map V.str)) ∧ xs.length ≤ 1000 ∧ Q (.int (onceS [] xs).length) H1
theorem pe_lenSetS {a : Expr} {ta : TE} {p p2 q pos : Pos} (hc : X.calm = true) (hg : Gl X "len") (hm : X.mg "len" = none) (hg2 : Gl X "set") (hm2 : X.mg "set" = none) (ha : PE X a ta)
    (na : starEach [a] X.env = (false, eval a X.env) :: starEach [] X.env) : PE X (.Call (.Name "len" p) [.Call (.Name "set" p2) [a] [] q] [] pos) (tLenSetS X.K ta) := by
  refine ⟨fun pins s σ H Q I h => ?_⟩
  refine Call_ (ld_blt I hg hm boot_len ?_)
  refine PyProof.Rows.callWith_builtin1 (PyProof.Rows.args_cons ?_ rfl) rfl rfl
  refine Call_ (ld_blt I hg2 hm2 boot_set ?_)
  refine PyProof.Rows.callWith_type1 (PyProof.Rows.args_cons (thn (ha.run pins s σ H _ I h) fun v s1 ⟨x, H1, I1, r1, q1⟩ => PyProof.Rows.args_nil ?_) na) na rfl
  obtain ⟨l, xs, rfl, hq, z, q1⟩ := q1
  cases r1
  have fin : ∀ (h' : Heap) (tk : Nat), HasS X.prog X.w h' s1.heap.objs.size (onceS [] xs) → (∀ b o, b < s1.heap.objs.size → s1.heap.get? b = some o → h'.get? b = some o) →
      wpAny (model X.prog X.w) X.A (spliced (backTo pos (starEach [] X.env))) (fun vs s2 => wpAny (model X.prog X.w) X.A (call (.builtin "len") (Value.ref s1.heap.objs.size :: vs)) (EP X pins σ Q) X.xe s2) X.xe { s1 with heap := h', toks := tk } := fun h' tk hS keep => by
    refine PyProof.Rows.args_nil ?_
    obtain ⟨o, es, ep, t, ho, hex, hd, _, _, _, hf, hn⟩ := hS
    have I2 : Inv X pins σ H1 { s1 with heap := h', toks := tk } := I1.kept fun b o e => keep b o (Heap.lt_size e) e
    have := onceS_le xs []
    rw [List.length_nil] at this
    refine call_len_set ho hex hd hf (by rw [hn]; omega) ⟨.int (onceS [] xs).length, H1, I2.tok _, ⟨_, by rw [hn]⟩, q1⟩
  rcases hq with hq | hq
  · obtain ⟨its, r, pl, hz⟩ := I1.list hq
    have := r.length
    rw [List.length_map] at this
    exact set_of_list (I1.ok.hd hc) pl.isList r (by unfold scanBound; omega) fun h' tk hS keep => fin h' tk hS keep
  · obtain ⟨its, r, pl, hz⟩ := I1.tuple hq
    have := r.length
    rw [List.length_map] at this
    exact set_of_tuple (I1.ok.hd hc) pl r (by unfold scanBound; omega) fun h' tk hS keep => fin h' tk hS keep
end
end Q
/-! QR (read between Q2 and Q3): rules that HandS has not. -/
namespace Q
open PySem PySem.Spec PyProof.Rows L2
section
variable {X : Cx}
/-! ### a text, a tuple, a list times a number -/
theorem fold_reps {α : Type} (l : List α) : ∀ (m : Nat) (acc : List α), List.foldl (fun u v => u ++ v) acc.toArray (List.replicate m l.toArray) = (acc ++ (List.replicate m l).flatten).toArray
  | 0, acc => by simp
  | m + 1, acc => by
    rw [List.replicate_succ, List.foldl_cons, List.append_toArray, fold_reps l m (acc ++ l), List.replicate_succ, List.flatten_cons, List.append_assoc]
theorem reps_len {α : Type} (l : List α) : ∀ m : Nat, (List.replicate m l).flatten.length = l.length * m
  | 0 => by simp
  | m + 1 => by rw [List.replicate_succ, List.flatten_cons, List.length_append, reps_len l m, Nat.mul_succ, Nat.add_comm]
theorem vals_reps {xs : List V} {us : List Value} (r : Vals xs us) : ∀ m : Nat, Vals (List.replicate m xs).flatten (List.replicate m us).flatten
  | 0 => .nil
  | m + 1 => by rw [List.replicate_succ, List.replicate_succ, List.flatten_cons, List.flatten_cons]; exact r.append (vals_reps r m)
/-- x * k -/
def timesS (x : Str) (k : Int) : Str := if k = 1 then x else if x.length = 0 then (if k < 1 then Str.empty else x) else ⟨(List.replicate k.toNat x.cps.toList).flatten.toArray⟩
def rMulS : R2 := fun x y H Q => ∃ z k, x = .str z ∧ y = .int k ∧ -1000000 ≤ k ∧ k ≤ 1000000 ∧ z.length * k.toNat ≤ 1000000 ∧ Q (.str (timesS z k)) H
theorem op_mulS : OpR X (binaryOp .Mult) rMulS := by
  intro pins s σ H x y v u Q I rx ry h
  obtain ⟨z, k, rfl, rfl, k0, k1, kz, q⟩ := h
  obtain ⟨t1, rfl⟩ := rx
  obtain ⟨t2, rfl⟩ := ry
  have e9 : List.foldl (fun u v => u ++ v) #[] (List.replicate k.toNat z.cps) = (List.replicate k.toNat z.cps.toList).flatten.toArray := by
    have := fold_reps z.cps.toList k.toNat []
    rw [List.nil_append] at this
    exact this
  have sz : (Str.mk (List.foldl (fun u v => u ++ v) #[] (List.replicate k.toNat z.cps))).length = z.length * k.toNat := by
    rw [e9]
    show (List.replicate k.toNat z.cps.toList).flatten.toArray.size = _
    rw [List.size_toArray, reps_len]
    simp [Str.length]
  refine PySem.P.mul_str (by rw [decide_eq_false (by omega), decide_eq_false (by omega)]; rfl) (fun p1 _ => ?_) (fun _ _ => ?_) ?_
  · have e1 : ((z.length : Nat) : Int) * 1 ≤ z.length * k := Int.mul_le_mul_of_nonneg_left (by omega) (by omega)
    have e2 : ((z.length * k.toNat : Nat) : Int) = (z.length : Int) * k := by rw [Int.natCast_mul]; congr 1; omega
    have e3 : (9223372036854 : Int) ≤ (2 ^ 63 - 1) / k := by
      rw [Int.le_ediv_iff_mul_le (by omega)]
      omega
    omega
  · unfold Builtin.Str.tooLong
    exact decide_eq_false (by rw [sizeLine_eq]; omega)
  · by_cases c1 : k < 1
    · rw [if_pos c1]
      have e : timesS z k = Str.empty := by
        unfold timesS
        rw [if_neg (by omega), if_pos c1]
        split
        · rfl
        · have : k.toNat = 0 := by omega
          rw [this]; rfl
      rw [e] at q
      exact ⟨by decide, .str _, H, I.tok _, ⟨_, rfl⟩, q⟩
    · rw [if_neg c1]
      unfold timesS at q
      by_cases c2 : k = 1
      · rw [if_pos c2] at q
        rw [if_pos (by rw [c2]; rfl)]
        exact ⟨.str _, H, I, ⟨_, rfl⟩, q⟩
      · rw [if_neg c2] at q
        by_cases c3 : z.length = 0
        · rw [if_pos c3, if_neg c1] at q
          rw [if_pos (by rw [Bool.or_eq_true, beq_iff_eq, beq_iff_eq]; exact .inr c3)]
          exact ⟨.str _, H, I, ⟨_, rfl⟩, q⟩
        · rw [if_neg c3, ← e9] at q
          rw [if_neg (by rw [Bool.or_eq_true, beq_iff_eq, beq_iff_eq]; omega)]
          exact ⟨by rw [sz, sizeLine_eq]; omega, .str _, H, I.tok _, ⟨_, rfl⟩, q⟩
theorem tup_times (l : Addr) (items : Array Value) (n : Nat) (dd : Option Addr) (sl : Array (Option Value)) (x : Int) (u : Tok) (b0 : -1000000 ≤ x) (b1 : x ≤ 1000000) (bz : items.size * x.toNat ≤ 1000000) :
    Meets (Builtin.«tuple.__mul__» ⟨[.ref l, .int x u], []⟩) (fun _ R s => s.heap.get? l = some { cls := .type "tuple", dict := dd, data := .seq items n, slots := sl } ∧
      ((x = 1 ∨ items.isEmpty = true) → R (.ok (.ret (Value.ref l))) s) ∧
      (¬ (x = 1 ∨ items.isEmpty = true) → R (.ok (.ret (Value.ref s.heap.objs.size))) { s with heap := s.heap.push { cls := Value.type "tuple", data := Data.seq (List.foldl (fun a b => a ++ b) #[] (List.replicate x.toNat items)) }, toks := s.toks })) :=
  .of_wp fun prog w A R s h => by
    obtain ⟨hp, g, d, tk, os⟩ := s
    obtain ⟨hl, h1, h2⟩ := h
    have f1 := AutoSeq1.idx_int
    have c0 : (decide (x < -(2 ^ 63)) || decide (x ≥ 2 ^ 63)) = false := by rw [decide_eq_false (by omega), decide_eq_false (by omega)] <;> rfl
    have sz9 : (List.foldl (fun a b => a ++ b) #[] (List.replicate x.toNat items)).size = items.size * x.toNat := by
      have := fold_reps items.toList x.toNat []
      rw [List.nil_append] at this
      rw [show List.foldl (fun a b => a ++ b) #[] (List.replicate x.toNat items) = _ from this, List.size_toArray, reps_len]
      simp
    wp_walk using wpAny_loadPart' hl
    by_cases c1 : (items.isEmpty || x == 1) = true
    · have c1' : x = 1 ∨ items.isEmpty = true := by
        rw [Bool.or_eq_true, beq_iff_eq] at c1
        exact c1.symm
      repeat (first
        | exact ⟨_, rfl, h1 c1'⟩
        | (refine wpAny_ite_false (decide_eq_false (by rw [c0]; exact Bool.false_ne_true)) ?_; wp_walk using wpAny_loadPart' hl)
        | (refine wpAny_ite_true (decide_eq_true c1) ?_; wp_walk using wpAny_loadPart' hl))
    · have c1' : ¬ (x = 1 ∨ items.isEmpty = true) := fun z => c1 (by rw [Bool.or_eq_true, beq_iff_eq]; exact z.symm)
      by_cases c2 : (decide (x ≤ 0) || items.isEmpty) = true
      · have e0 : List.foldl (fun a b => a ++ b) #[] (List.replicate x.toNat items) = #[] := by
          rw [Bool.or_eq_true, decide_eq_true_eq] at c2
          have : x.toNat = 0 := by
            rcases c2 with c2 | c2
            · omega
            · exact absurd (.inr c2) c1'
          rw [this]; rfl
        have h3 := h2 c1'
        rw [e0] at h3
        repeat (first
          | exact ⟨_, rfl, h3⟩
          | (refine wpAny_ite_false (decide_eq_false (by rw [c0]; exact Bool.false_ne_true)) ?_; wp_walk using wpAny_loadPart' hl)
          | (refine wpAny_ite_false (decide_eq_false c1) ?_; wp_walk using wpAny_loadPart' hl)
          | (refine wpAny_ite_true (decide_eq_true c2) ?_; wp_walk using wpAny_loadPart' hl))
      · have hx0 : 0 ≤ x := by
          rw [Bool.or_eq_true, decide_eq_true_eq] at c2
          omega
        have hm : ((items.size : Nat) : Int) * x ≤ 1000000 := by
          have e2 : ((items.size * x.toNat : Nat) : Int) = (items.size : Int) * x := by rw [Int.natCast_mul]; congr 1; omega
          omega
        have c4 : Builtin.Tuple.tupleTooMany (((items.size : Nat) : Int) * x) = false := by
          unfold Builtin.Tuple.tupleTooMany
          rw [sizeLine_eq]
          exact decide_eq_false (by omega)
        repeat (first
          | exact ⟨_, rfl, h2 c1'⟩
          | (refine wpAny_ite_false (decide_eq_false (by rw [c0]; exact Bool.false_ne_true)) ?_; wp_walk using wpAny_loadPart' hl)
          | (refine wpAny_ite_false (decide_eq_false c1) ?_; wp_walk using wpAny_loadPart' hl)
          | (refine wpAny_ite_false (decide_eq_false c2) ?_; wp_walk using wpAny_loadPart' hl)
          | (refine wpAny_ite_false (decide_eq_false (by omega)) ?_; wp_walk using wpAny_loadPart' hl)
          | (refine wpAny_ite_false (decide_eq_false (by rw [c4]; exact Bool.false_ne_true)) ?_; wp_walk using wpAny_loadPart' hl)
          | (refine wpAny_ite_false (decide_eq_false (by rw [sz9, sizeLine_eq]; omega)) ?_; wp_walk using wpAny_loadPart' hl))
def rMulT (K : PySem.W.Frag) : R2 := fun x y H Q => ∃ l k xs, x = .ref l ∧ y = .int k ∧ SqT K H l xs ∧ -1000000 ≤ k ∧ k ≤ 1000000 ∧ xs.length * k.toNat ≤ 1000000 ∧
  ((k = 1 ∨ xs = []) → Q (.ref l) H) ∧ (¬ (k = 1 ∨ xs = []) → ∀ p, H p = none → Q (.ref p) (upd H p (.tup (List.replicate k.toNat xs).flatten)))
theorem op_mulT : OpR X (binaryOp .Mult) (rMulT X.K) := by
  intro pins s σ H x y v u Q I rx ry h
  obtain ⟨l, k, xs, rfl, rfl, hT, b0, b1, bz, q1, q2⟩ := h
  cases rx
  obtain ⟨t, rfl⟩ := ry
  obtain ⟨its, r, ⟨⟨cls, dd, data, sl⟩, ho, hc, n, hd⟩, hs⟩ := I.tuple hT
  simp only at hc hd
  subst hc hd
  have hle : its.length = xs.length := r.length.symm
  have hem : its.toArray.isEmpty = true ↔ xs = [] := by
    rw [Array.isEmpty_iff_size_eq_zero, List.size_toArray, hle, List.length_eq_zero_iff]
  refine wpAny_binaryOp_repeat_ref (T := "tuple") (U := "int") (by decide) ⟨_, ho, rfl⟩ (fun s' => typeIs_int s' k t) noFill_tuple_mul F.fills_int_mul F.slot_int_rmul repeat_tuple F.slot_int_index.lookup
    (call_meets F.slot_int_rmul (typeIs_int s k t) F.entry_int_rmul (F.args_int_rmul_2 _ _) (int_rmul_tuple k t l its.toArray n dd sl)
      ⟨ho, rfl, ⟨_, ho, rfl⟩, call_meets F.slot_tuple_mul ⟨_, ho, rfl⟩ F.entry_tuple_mul (F.args_tuple_mul_2 _ _) (tup_times l its.toArray n dd sl k t b0 b1 (by rw [List.size_toArray, hle]; exact bz)) ⟨ho, fun c => ?_, fun c => ?_⟩⟩)
  · exact ⟨.ref l, H, I, rfl, q1 (c.imp id hem.mp)⟩
  · have e9 : List.foldl (fun u v => u ++ v) #[] (List.replicate k.toNat its.toArray) = (List.replicate k.toNat its).flatten.toArray := by
      have := fold_reps its k.toNat []
      rw [List.nil_append] at this
      exact this
    rw [e9]
    refine ⟨.ref s.heap.objs.size, _, I.laid (t' := s.toks) (o := .tup (List.replicate k.toNat xs).flatten) (fun b ob q => Heap.get?_push_of_some _ q) (Nat.le_refl _) ?_, rfl, q2 (fun z => c (z.imp id hem.mpr)) _ (I.hok.fresh (Nat.le_refl _))⟩
    exact ⟨by rw [reps_len, sizeLine_eq]; omega, _, vals_reps r k.toNat, IsTup.new _ _⟩
theorem rmul_lst (a : Int) (t : Tok) (l : Addr) (items : Array Value) (n : Nat) (dd : Option Addr) (sl : Array (Option Value)) :
    Meets (Builtin.«int.__rmul__» ⟨[.int a t, .ref l], []⟩) (fun _ R s => s.heap.get? l = some { cls := .type "list", dict := dd, data := .seq items n, slots := sl } ∧ R (.ok (.ret Value.notImplemented)) s) :=
  .of_wp fun prog w A R s h => by obtain ⟨hp, g, d, tk, os⟩ := s; obtain ⟨at_, h⟩ := h; wp_walk using wpAny_loadPart' at_; exact ⟨_, rfl, h⟩
theorem lst_times (l : Addr) (items : Array Value) (n : Nat) (dd : Option Addr) (sl : Array (Option Value)) (x : Int) (u : Tok) (b0 : -1000000 ≤ x) (b1 : x ≤ 1000000) (bz : items.size * x.toNat ≤ 1000000) :
    Meets (Builtin.«list.__mul__» ⟨[.ref l, .int x u], []⟩) (fun _ R s => s.heap.get? l = some { cls := .type "list", dict := dd, data := .seq items n, slots := sl } ∧
      R (.ok (.ret (Value.ref s.heap.objs.size))) { s with heap := s.heap.push { cls := Value.type "list", data := Data.seq (List.foldl (fun a b => a ++ b) #[] (List.replicate (if items.isEmpty = true then 0 else x.toNat) items)) }, toks := s.toks }) :=
  .of_wp fun prog w A R s h => by
    obtain ⟨hp, g, d, tk, os⟩ := s
    obtain ⟨hl, h1⟩ := h
    have f1 := AutoSeq1.idx_int
    have hfit : ¬ (!Builtin.List.listFitsIndex x) = true := by
      rw [fitsIndex_both (by omega) (by omega)]
      exact Bool.false_ne_true
    have sz9 : (List.foldl (fun a b => a ++ b) #[] (List.replicate (if items.isEmpty = true then 0 else x.toNat) items)).size ≤ items.size * x.toNat := by
      have := fold_reps items.toList (if items.isEmpty = true then 0 else x.toNat) []
      rw [List.nil_append] at this
      rw [show List.foldl (fun a b => a ++ b) #[] (List.replicate (if items.isEmpty = true then 0 else x.toNat) items) = _ from this, List.size_toArray, reps_len]
      split
      · omega
      · simp
    have hlong : ¬ Builtin.List.listTooLong (items.size * x.toNat) = true := by
      rw [notLongL (by rw [sizeLine_eq]; omega)]
      exact Bool.false_ne_true
    wp_walk using wpAny_loadPart' hl
    repeat (first
      | exact ⟨_, rfl, h1⟩
      | (refine wpAny_ite_false (decide_eq_false (by omega)) ?_; wp_walk using wpAny_loadPart' hl)
      | (refine wpAny_ite_false (decide_eq_false hlong) ?_; wp_walk using wpAny_loadPart' hl)
      | (refine wpAny_ite_false (decide_eq_false (by have := sizeLine_eq; omega)) ?_; wp_walk using wpAny_loadPart' hl))
def rMulL (K : PySem.W.Frag) : R2 := fun x y H Q => ∃ l k xs, x = .ref l ∧ y = .int k ∧ SqL K H l xs ∧ -1000000 ≤ k ∧ k ≤ 1000000 ∧ xs.length * k.toNat ≤ 1000000 ∧
  ∀ p, H p = none → Q (.ref p) (upd H p (.lst (List.replicate k.toNat xs).flatten))
theorem op_mulL : OpR X (binaryOp .Mult) (rMulL X.K) := by
  intro pins s σ H x y v u Q I rx ry h
  obtain ⟨l, k, xs, rfl, rfl, hL, b0, b1, bz, q⟩ := h
  cases rx
  obtain ⟨t, rfl⟩ := ry
  obtain ⟨its, r, ⟨⟨cls, dd, data, sl⟩, n, ho, hc, _, hd⟩, hs⟩ := I.list hL
  simp only at hc hd
  subst hc hd
  have hle : its.length = xs.length := r.length.symm
  refine wpAny_binaryOp_repeat_ref (T := "list") (U := "int") (by decide) ⟨_, ho, rfl⟩ (fun s' => typeIs_int s' k t) noFill_list_mul F.fills_int_mul F.slot_int_rmul repeat_list F.slot_int_index.lookup
    (call_meets F.slot_int_rmul (typeIs_int s k t) F.entry_int_rmul (F.args_int_rmul_2 _ _) (rmul_lst k t l its.toArray n dd sl)
      ⟨ho, rfl, ⟨_, ho, rfl⟩, call_meets F.slot_list_mul ⟨_, ho, rfl⟩ F.entry_list_mul (F.args_list_mul_2 _ _) (lst_times l its.toArray n dd sl k t b0 b1 (by rw [List.size_toArray, hle]; exact bz)) ⟨ho, ?_⟩⟩)
  have e9 : ∀ m : Nat, List.foldl (fun u v => u ++ v) #[] (List.replicate m its.toArray) = (List.replicate m its).flatten.toArray := fun m => by
    have := fold_reps its m []
    rw [List.nil_append] at this
    exact this
  have e8 : List.foldl (fun u v => u ++ v) #[] (List.replicate (if its.toArray.isEmpty = true then 0 else k.toNat) its.toArray) = (List.replicate k.toNat its).flatten.toArray := by
    rw [e9]
    cases its with
    | nil => simp
    | cons a r' => rw [if_neg (by simp)]
  rw [e8]
  exact ⟨.ref _, _, I.lnew (t' := s.toks) (vals_reps r k.toNat) (by rw [reps_len, sizeLine_eq]; omega), rfl, q _ I.fresh⟩
/-! ### x in t -/
def rInT (K : PySem.W.Frag) (neg : Bool) : R2 := fun x y H Q => ∃ d ds, Dp K H x d ∧ Dp K H y (.tuple ds) ∧ SeqAt.shaped d = true ∧ SeqAt.shaped (.tuple ds) = true ∧ Q (.bl (if neg then !ds.any fun z => PyData.eqv z d else ds.any fun z => PyData.eqv z d)) H
theorem op_inT (hu : X.A.units + 65 < cLine) : OpR X (compareOp .In) (rInT X.K false) := by
  intro pins s σ H x y v u Q I rx ry h
  obtain ⟨d, ds, hd, he, sd, se, q⟩ := h
  obtain ⟨as, r1⟩ := Dp.reads I d x v hd rx
  obtain ⟨bs, r2⟩ := Dp.reads I (.tuple ds) y u he ry
  exact SeqAt.in_tuple_reads r2 r1 (SeqAt.canLay_of_shaped se) (SeqAt.canLay_of_shaped sd) (room_in_shaped sd hu) ⟨.bl _, H, I, rfl, q⟩
theorem op_ninT (hu : X.A.units + 65 < cLine) : OpR X (compareOp .NotIn) (rInT X.K true) := by
  intro pins s σ H x y v u Q I rx ry h
  obtain ⟨d, ds, hd, he, sd, se, q⟩ := h
  obtain ⟨as, r1⟩ := Dp.reads I d x v hd rx
  obtain ⟨bs, r2⟩ := Dp.reads I (.tuple ds) y u he ry
  exact SeqAt.notIn_tuple_reads r2 r1 (SeqAt.canLay_of_shaped se) (SeqAt.canLay_of_shaped sd) (room_in_shaped sd hu) ⟨.bl _, H, I, rfl, q⟩
/-! ### lists of unlike lengths -/
def rLnD (K : PySem.W.Frag) (neg : Bool) : R2 := fun x y H Q => ∃ a b xs ys, x = .ref a ∧ y = .ref b ∧ SqL K H a xs ∧ SqL K H b ys ∧ xs.length ≠ ys.length ∧ Q (.bl neg) H
theorem op_eqLn (hu : X.A.units < cLine) : OpR X (compareOp .Eq) (rLnD X.K false) := by
  intro pins s σ H x y v u Q I rx ry h
  obtain ⟨a, b, xs, ys, rfl, rfl, h1, h2, hl, q⟩ := h
  cases rx
  cases ry
  obtain ⟨its, r1, p1, _⟩ := I.list h1
  obtain ⟨jts, r2, p2, _⟩ := I.list h2
  have l1 := r1.length
  have l2 := r2.length
  exact SeqAt.eq_list_lengthsAt p1.isList p2.isList (by rw [bne_iff_ne, List.size_toArray, List.size_toArray]; omega) hu ⟨.bl false, H, I, rfl, q⟩
theorem op_neLn (hu : X.A.units < cLine) : OpR X (compareOp .NotEq) (rLnD X.K true) := by
  intro pins s σ H x y v u Q I rx ry h
  obtain ⟨a, b, xs, ys, rfl, rfl, h1, h2, hl, q⟩ := h
  cases rx
  cases ry
  obtain ⟨its, r1, p1, _⟩ := I.list h1
  obtain ⟨jts, r2, p2, _⟩ := I.list h2
  have l1 := r1.length
  have l2 := r2.length
  exact SeqAt.RcNeAt.lists_lengths p1.isList p2.isList (by rw [bne_iff_ne, List.size_toArray, List.size_toArray]; omega) hu _ _ _ _ ⟨.bl true, H, I, rfl, q⟩
/-! ### dicts as operands -/
def rInK (neg : Bool) : R2 := fun x y H Q => ∃ a o, y = .ref a ∧ DGet H a x o ∧ Q (.bl (if neg then !o.isSome else o.isSome)) H
theorem op_inK (hu : X.A.units + 65 < cLine) : OpR X (compareOp .In) (rInK false) := by
  intro pins s σ H x y v u Q I rx ry h
  obtain ⟨a, o, rfl, g, q⟩ := h
  cases ry
  exact d_in (by omega) I g rx fun s2 I2 => ⟨.bl o.isSome, H, I2, rfl, q⟩
theorem op_ninK (hu : X.A.units + 65 < cLine) : OpR X (compareOp .NotIn) (rInK true) := by
  intro pins s σ H x y v u Q I rx ry h
  obtain ⟨a, o, rfl, g, q⟩ := h
  cases ry
  exact d_notIn (by omega) I g rx fun s2 I2 => ⟨.bl (!o.isSome), H, I2, rfl, q⟩
def rIxK : R2 := fun x y H Q => ∃ a v, x = .ref a ∧ DGet H a y (some v) ∧ Q v H
theorem ix_key (hu : X.A.units + 65 < cLine) : IxR X rIxK := by
  intro value slice pins s σ H x y v u Q I rx ry h hs
  obtain ⟨a, z, rfl, g, q⟩ := h
  cases rx
  have hT := dict_typeIs I g
  have body : wpAny (model X.prog X.w) X.A (getItem (.ref a) u) (EP X pins σ Q) X.xe s := d_getItem (by omega) I g ry fun w' s2 I2 r2 => ⟨z, H, I2, r2, q⟩
  unfold subscriptTail
  refine wpAny_bind ?_
  rw [getitemInPython_of_ne hT.not_modules]
  refine wpAny_bind (wpAny_specialOf hT PySem.F.slot_dict_getitem.lookup ?_)
  have last : wpAny (model X.prog X.w) X.A (subscripted slice false (.ref a) u) (fun r s3 => wpAny (model X.prog X.w) X.A (letTemporaryGo value (.ref a) r >>= fun _ => pure r) (EP X pins σ Q) X.xe s3) X.xe s := by
    rw [hs]
    exact wpAny_operating (wpAny_mono body (fun r s3 h3 => wpAny_bind (wpAny_letTemporaryGo (wpAny_pure h3))) fun _ _ e => e)
  first
    | exact wpAny_pure (wpAny_bind last)
    | exact wpAny_bind (wpAny_pure (wpAny_bind last))
    | exact wpAny_bind last
def rSetK : V → V → V → Hp → (Hp → Prop) → Prop := fun o i v H Q => ∃ a H', o = .ref a ∧ DPut H a i v H' ∧ Q H'
theorem set_key (hu : X.A.units + 65 < cLine) : PSet X rSetK := by
  intro pins s σ H o i v ov iv u Q I ro ri rv h
  obtain ⟨a, H', rfl, g, q⟩ := h
  cases ro
  exact d_setItem (by omega) I g ri rv fun s2 I2 => ⟨H', I2, q⟩
/-! ### list(text); d.get -/
theorem cr_listS (hc : X.calm = true) : CallR X (.type "list") (fun xs H Q => ∃ z : Str, xs = [.str z] ∧ z.length ≤ sizeLine ∧ ∀ l, H l = none → Q (.ref l) (upd H l (.lst (z.cps.toList.map fun c => .str ⟨#[c]⟩)))) := by
  intro pins s σ H xs us Q I r h
  obtain ⟨z, rfl, hz, q⟩ := h
  cases r with
  | cons r0 rr =>
    cases rr
    obtain ⟨t, rfl⟩ := r0
    refine PySem.call_list_str (I.ok.hd hc) z t (fun h' tk acc c keep at_ items => ?_) hz
    have rel : ∀ (ys : List Nat) (us : List Value), us.length = ys.length → (∀ (i : Nat) (c : Nat), ys[i]? = some c → ∃ u, us[i]? = some (.str ⟨#[c]⟩ u)) → Vals (ys.map fun c => V.str ⟨#[c]⟩) us := by
      intro ys
      induction ys with
      | nil =>
        intro us hl _
        rw [List.length_nil, List.length_eq_zero_iff] at hl
        subst hl
        exact .nil
      | cons y ys ih =>
        intro us hl hg
        cases us with
        | nil => cases hl
        | cons v us =>
          obtain ⟨u, hu⟩ := hg 0 y rfl
          simp at hu
          refine .cons ⟨u, hu⟩ (ih us (by simpa using hl) fun i c hi => ?_)
          obtain ⟨u2, hu2⟩ := hg (i + 1) c (by simpa using hi)
          exact ⟨u2, by simpa using hu2⟩
    have hv : Vals (z.cps.toList.map fun c => V.str ⟨#[c]⟩) acc.toList := by
      refine rel _ _ (by simp [items.1]) fun i c hi => ?_
      have lt := (List.getElem?_eq_some_iff.mp hi).1
      have lt2 : i < acc.size := by rw [items.1]; simpa using lt
      obtain ⟨c2, u, h1, h2⟩ := items.2 i acc[i] (by simp [lt2])
      rw [← Array.getElem?_toList, hi] at h1
      cases h1
      exact ⟨u, by rw [Array.getElem?_toList, ← h2]; simp [lt2]⟩
    have new : ObjOk X.prog X.w (upd H s.heap.objs.size (.lst (z.cps.toList.map fun c => V.str ⟨#[c]⟩))) h' s.heap.objs.size (.lst (z.cps.toList.map fun c => V.str ⟨#[c]⟩)) :=
      ⟨by rw [List.length_map]; simpa [Str.length] using hz, acc.toList, c, hv, by simpa using at_⟩
    exact ⟨.ref s.heap.objs.size, _, I.laid (t' := tk) (o := .lst (z.cps.toList.map fun c => V.str ⟨#[c]⟩)) keep (Nat.le_refl _) new, rfl, q _ (I.hok.fresh (Nat.le_refl _))⟩
def rGetD : V → List V → Hp → VK → Prop := fun x xs H Q => ∃ a y o, x = .ref a ∧ DGet H a y o ∧ ((xs = [y] ∧ Q (o.getD .non) H) ∨ ∃ z, xs = [y, z] ∧ Q (o.getD z) H)
theorem mt_getD (hu : X.A.units + 65 < cLine) : MtR X "dict.get" rGetD := by
  intro pins s σ H x xs v us Q I rx rxs h
  obtain ⟨a, y, o, rfl, g, h⟩ := h
  cases rx
  rcases h with ⟨rfl, q⟩ | ⟨z, rfl, q⟩
  · cases rxs with
    | cons r1 rr =>
      cases rr
      exact d_get1 (by omega) I g r1 fun w' s3 I3 rw' => ⟨_, H, I3, rw', q⟩
  · cases rxs with
    | cons r1 rr =>
      cases rr with
      | cons r2 rr =>
        cases rr
        exact d_get2 (by omega) I g r1 r2 fun w' s3 I3 rw' => ⟨_, H, I3, rw', q⟩
/-! ### x[::-1] of a list -/
theorem pe_revL {e : Expr} {te : TE} {p2 p3 p4 pos : Pos} {j : Nat} (he : PE X e te) (hp : PE X (.UnaryOp .USub (.Constant (.int 1) j p3) p4) (tC (.int (-1)))) :
    PE X (.Subscript e (.Slice none none (some (.UnaryOp .USub (.Constant (.int 1) j p3) p4)) p2) pos) (fun σ H Q => te σ H fun x H1 => ∃ a xs, x = .ref a ∧ SqL X.K H1 a xs ∧ ∀ p, H1 p = none → Q (.ref p) (upd H1 p (.lst xs.reverse))) := by
  refine ⟨fun pins s σ H Q I h => ?_⟩
  refine Subscript_ (thn (he.run pins s σ H _ I h) fun v s1 ⟨x, H1, I1, r1, q1⟩ => ?_)
  refine wpAny_Slice ?_
  rw [evalPart_none]
  refine wpAny_pure ?_
  refine wpAny_pure ?_
  show wpAny (model X.prog X.w) X.A (eval (.UnaryOp .USub (.Constant (.int 1) j p3) p4) X.env) _ _ _
  refine thn (hp.run pins s1 σ H1 (fun y H' => y = .int (-1) ∧ H' = H1) I1 ⟨rfl, rfl⟩) fun vs s2 ⟨y, H2, I2, ry, ey, eH⟩ => ?_
  subst ey eH
  obtain ⟨t, rfl⟩ := ry
  obtain ⟨a, xs, rfl, hx, q⟩ := q1
  cases r1
  have I4 : Inv X pins σ H2 { s2 with heap := s2.heap.push { cls := .type "slice", data := .fields #[.none, .none, .int (-1) t] } } := I2.kept (t' := s2.toks) fun b ob q => Heap.get?_push_of_some _ q
  obtain ⟨its, r, ht, hz⟩ := I4.list hx
  have hlen := r.length
  show wpAny (model X.prog X.w) X.A (subscriptTail e (.Slice none none (some (.UnaryOp .USub (.Constant (.int 1) j p3) p4)) p2) (.ref a) (.ref s2.heap.objs.size)) (EP X pins σ Q) X.xe { s2 with heap := s2.heap.push { cls := .type "slice", data := .fields #[.none, .none, .int (-1) t] } }
  refine tail_any ht.isList.typeIs slot_list_getitem.lookup ?_ (by with_unfolding_all rfl)
  refine wpAny_getItem_list_slice ht.isList (Heap.IsSliceOf.new ..) .none .none (.int _ _) (by decide) ?_ (by rw [List.size_toArray] <;> omega)
  rw [W.krv_pick]
  refine ⟨.ref (s2.heap.push { cls := .type "slice", data := .fields #[.none, .none, .int (-1) t] }).objs.size, _, I4.laid (t' := s2.toks) (o := .lst xs.reverse) (fun b ob q => Heap.get?_push_of_some _ q) (Nat.le_refl _) ?_, rfl, q _ (I4.hok.fresh (Nat.le_refl _))⟩
  refine ⟨by rw [List.length_reverse]; exact hz, its.reverse, 0, r.reverse, ?_⟩
  have := Heap.get?_push_size (s2.heap.push { cls := .type "slice", data := .fields #[.none, .none, .int (-1) t] }) (o := { cls := .type "list", data := .seq its.reverse.toArray 0 }) rfl
  exact this
end
end Q
/-! Q1: a plain interpreter of the program's own syntax, over plain data. Tuples and lists that nobody changes are values; lists that are changed, and instances, stand in a store. -/
namespace Q
open PySem L2

/-- data -/
inductive D where
  | non | bl (b : Bool) | int (i : Int) | str (x : Str) | tup (xs : List D) | lst (xs : List D) | ref (l : Nat)

def isStar' : Expr → Bool
  | .Starred .. => true
  | _ => false
/-- what stands in the store -/
inductive Ob where
  | lst (xs : List D) | ins (C : Str) (fs : List (Str × D)) | dic (kvs : List (L2.Key × D)) | dead

abbrev Store := List Ob
abbrev Env := List (Option D)

inductive Out (α : Type) where
  | ok (a : α) (S : Store) | exc (c : Str) (S : Store) | bad
def Out.bind {α β : Type} (r : Out α) (f : α → Store → Out β) : Out β := match r with
  | .ok a S => f a S
  | .exc c S => .exc c S
  | .bad => .bad
def ofO {α : Type} (S : Store) : Option α → Out α
  | some a => .ok a S
  | none => .bad
/-- what an operation of values gives, with the store behind it -/
def ofP {α : Type} : Option (α × Store) → Out α
  | some (a, S) => .ok a S
  | none => .bad

inductive Fl where
  | nx (σ : Env) (S : Store) | rt (d : D) (S : Store) | bk (σ : Env) (S : Store) | ct (σ : Env) (S : Store) | exc (c : Str) (σ : Env) (S : Store) | bad
def Fl.seq (r : Fl) (f : Env → Store → Fl) : Fl := match r with
  | .nx σ S => f σ S
  | r => r
/-- an expression's value, in a statement -/
def Out.use {α : Type} (r : Out α) (σ : Env) (f : α → Store → Fl) : Fl := match r with
  | .ok a S => f a S
  | .exc c S => .exc c σ S
  | .bad => .bad

abbrev Fn := List D → Store → Out D
structure Cfg where
  funs : Str → Option Fn
  vars : Str → Option D
  free : Str → Bool
  mutl : Pos → Bool
  meths : Str → Str → Option Fn := fun _ _ => none
  mks : Str → Option (Fn × Str) := fun _ => none
  excs : Str → Bool := fun _ => false
  hot : Option (Nat × Str) := none
  kits : Str → Str → Option Bool := fun _ _ => none
/-- where an error is held: no calls, no loops -/
def Cfg.hotC (c : Cfg) (i : Nat) (x : Str) : Cfg := { c with funs := fun _ => none, excs := fun _ => false, free := fun f => c.free f && (f == "isinstance" || f == "int"), hot := some (i, x) }
def Cfg.calm (c : Cfg) : Bool := c.hot.isNone
def Cfg.hotAt (c : Cfg) (i : Nat) : Bool := match c.hot with
  | some (j, _) => i == j
  | none => false

/-! ### operations -/
def seqL (S : Store) : D → Option (List D)
  | .lst xs => some xs
  | .ref l => (match S[l]? with
    | some (.lst xs) => some xs
    | _ => none)
  | _ => none
def seqT : D → Option (List D)
  | .tup xs => some xs
  | _ => none
def seqO (S : Store) (d : D) : Option (List D) := match d with
  | .tup xs => some xs
  | d => seqL S d
/-- a dict's key -/
def keyD : D → Option L2.Key
  | .int i => some (.inl i)
  | .str x => some (.inr x)
  | _ => none
def valG {α : Type} (kvs : List (L2.Key × α)) (k : L2.Key) : Option α := (kvs.find? fun kv => decide (kv.1 = k)).map (·.2)
def putG {α : Type} (kvs : List (L2.Key × α)) (k : L2.Key) (v : α) : List (L2.Key × α) :=
  if (kvs.any fun kv => decide (kv.1 = k)) = true then kvs.map (fun kv => if kv.1 = k then (kv.1, v) else kv) else kvs ++ [(k, v)]
def mergeG {α : Type} (kvs more : List (L2.Key × α)) : List (L2.Key × α) := more.foldl (fun acc kv => putG acc kv.1 kv.2) kvs
def dicOf (S : Store) : D → Option (List (L2.Key × D))
  | .ref l => (match S[l]? with
    | some (.dic kvs) => some kvs
    | _ => none)
  | _ => none
def truth (S : Store) : D → Option Bool
  | .non => some false
  | .bl b => some b
  | .int i => some (i != 0)
  | .str x => if x.length ≤ 16777216 then some ((x.length : Int) != 0) else none
  | d => (match seqO S d with
    | some xs => some (!xs.isEmpty)
    | none => none)
def arith (op : Operator) (i j : Int) : Option Int := match op with
  | .Add => some (i + j)
  | .Sub => some (i - j)
  | .Mult => if i.natAbs.log2 + j.natAbs.log2 < 1000000 then some (i * j) else none
  | .FloorDiv => if 0 < j ∧ j.natAbs.log2 < 9000 then some (i / j) else none
  | .Mod => if 0 < j then some (i % j) else none
  | .Pow => if 0 ≤ j ∧ j ≤ 1000000 ∧ i.natAbs < 2 ^ 64 then some (i ^ j.toNat) else none
  | .LShift => if 0 ≤ j ∧ (Builtin.Int.intBits i : Int) + j ≤ 2 ^ 27 then some (i * 2 ^ j.toNat) else none
  | .RShift => if 0 ≤ j then some (i / 2 ^ j.toNat) else none
  | .BitAnd => some (Builtin.bitAnd i j)
  | _ => none
def catD (S : Store) (op : Operator) (x y : D) : Option D := match op with
  | .Add => (match seqL S x, seqL S y with
    | some xs, some ys => if xs.length ≤ 16777216 ∧ ys.length ≤ 16777216 ∧ xs.length + ys.length ≤ 16777216 then some (.lst (xs ++ ys)) else none
    | _, _ => none)
  | .Mult => (match seqL S x, y with
    | some xs, .int k => if -1000000 ≤ k ∧ k ≤ 1000000 ∧ xs.length * k.toNat ≤ 1000000 then some (.lst (List.replicate k.toNat xs).flatten) else none
    | _, _ => none)
  | _ => none
def binD (S : Store) (op : Operator) (x y : D) : Option D := match x, y with
  | .int i, .int j => (arith op i j).map D.int
  | .str a, .int k => (match op with
    | .Mult => if -1000000 ≤ k ∧ k ≤ 1000000 ∧ a.length * k.toNat ≤ 1000000 then some (.str (timesS a k)) else none
    | _ => none)
  | .tup xs, .int k => (match op with
    | .Mult => if -1000000 ≤ k ∧ k ≤ 1000000 ∧ xs.length * k.toNat ≤ 1000000 then some (.tup (List.replicate k.toNat xs).flatten) else none
    | _ => none)
  | .str a, .str b => (match op with
    | .Add => if a.length + b.length ≤ 16777216 then some (.str (a ++ b)) else none
    | _ => none)
  | .tup xs, .tup ys => (match op with
    | .Add => if xs.length + ys.length ≤ 16777216 then some (.tup (xs ++ ys)) else none
    | _ => none)
  | x, y => catD S op x y
mutual
def toPy : D → Option PyData
  | .non => some .none
  | .bl b => some (.bool b)
  | .int i => some (.int i)
  | .str x => some (.str x)
  | .tup xs => (match toPys xs with
    | some ys => some (.tuple ys)
    | none => none)
  | .lst xs => (match toPys xs with
    | some ys => some (.list ys)
    | none => none)
  | .ref _ => none
def toPys : List D → Option (List PyData)
  | [] => some []
  | x :: xs => (match toPy x, toPys xs with
    | some y, some ys => some (y :: ys)
    | _, _ => none)
end
/-- lists of the store that stand in a thing, looked up -/
def res : Nat → Store → D → D
  | 0, _, d => d
  | n + 1, S, .ref l => (match S[l]? with
    | some (.lst xs) => .lst (xs.map (res n S))
    | _ => .ref l)
  | n + 1, S, .tup xs => .tup (xs.map (res n S))
  | n + 1, S, .lst xs => .lst (xs.map (res n S))
  | _ + 1, _, d => d
def toPyS (S : Store) (d : D) : Option PyData := toPy (res 8 S d)
def eqD (S : Store) (x y : D) : Option Bool := match toPyS S x, toPyS S y with
  | some a, some b => if SeqAt.shaped a = true ∧ SeqAt.shaped b = true then some (PyData.eqv a b) else none
  | _, _ => (match seqL S x, seqL S y with
    | some xs, some ys => if xs.length = ys.length then none else some false
    | _, _ => none)
def inSeq (S : Store) (x y : D) : Option Bool := match toPyS S x, toPyS S y with
  | some a, some (.list bs) => if SeqAt.shaped a = true ∧ SeqAt.shaped (.list bs) = true then some (bs.any fun z => PyData.eqv z a) else none
  | some a, some (.tuple bs) => if SeqAt.shaped a = true ∧ SeqAt.shaped (.tuple bs) = true then some (bs.any fun z => PyData.eqv z a) else none
  | _, _ => none
def inObj (S : Store) (x y : D) : Option Bool := match dicOf S y with
  | some kvs => (match keyD x with
    | some k => some (valG kvs k).isSome
    | none => none)
  | none => inSeq S x y
def inD (S : Store) (x y : D) : Option Bool := match x, y with
  | .str a, .str b => some (!(Builtin.Str.occurrences b a 0 b.length 1).isEmpty)
  | x, y => inObj S x y
def cmpI (op : CmpOp) (i j : Int) : Option Bool := match op with
  | .Lt => some (decide (i < j))
  | .LtE => some (decide (i ≤ j))
  | .Gt => some (decide (j < i))
  | .GtE => some (decide (j ≤ i))
  | _ => none
def cmpS (op : CmpOp) (i j : Str) : Option Bool := match op with
  | .Lt => some (decide (i.cps.toList < j.cps.toList))
  | .Gt => some (decide (j.cps.toList < i.cps.toList))
  | _ => none
def isD (x y : D) : Option Bool := match x, y with
  | .bl a, .bl b => some (decide (a = b))
  | .non, .non => some true
  | _, .non => some false
  | _, _ => none
def cmpD (S : Store) (op : CmpOp) (x y : D) : Option Bool := match op with
  | .Eq => eqD S x y
  | .NotEq => (eqD S x y).map (! ·)
  | .Is => isD x y
  | .IsNot => (isD x y).map (! ·)
  | .In => inD S x y
  | .NotIn => (inD S x y).map (! ·)
  | op => (match x, y with
    | .int i, .int j => cmpI op i j
    | .str i, .str j => cmpS op i j
    | _, _ => none)
/-- the place of an index -/
def ixS (S : Store) (x i : D) : Option D := match i with
  | .int k => (match x with
    | .str z => if z.length ≤ 16777216 then (match L2.atI z.cps.toList k with
      | some c => some (.str ⟨#[c]⟩)
      | none => none) else none
    | x => (match seqO S x with
      | some xs => L2.atI xs k
      | none => none))
  | _ => none
def ixD (S : Store) (x i : D) : Option D := match dicOf S x with
  | some kvs => (match keyD i with
    | some k => valG kvs k
    | none => none)
  | none => ixS S x i
def cut {α : Type} (xs : List α) (lo hi : Option Int) : List α := (xs.drop (HT.sIx xs.length 0 lo)).take (HT.sIx xs.length xs.length hi - HT.sIx xs.length 0 lo)
def slD (S : Store) (x : D) (lo hi : Option Int) : Option D := match x with
  | .str z => if z.length ≤ 16777216 then some (.str (Txt.slice z lo hi)) else none
  | .tup xs => some (.tup (cut xs lo hi))
  | x => (match seqL S x with
    | some xs => some (.lst (cut xs lo hi))
    | none => none)
def revD (S : Store) (x : D) : Option D := match seqL S x with
  | some xs => some (.lst xs.reverse)
  | none => (match seqT x with
    | some xs => some (.tup xs.reverse)
    | none => none)
def isTy (S : Store) (x : D) (t : Str) : Option Bool := match x with
  | .non => some false
  | .bl _ => some (t == "bool" || t == "int")
  | .int _ => some (t == "int")
  | .str _ => some (t == "str")
  | .tup _ => some (t == "tuple")
  | .lst _ => some (t == "list")
  | .ref l => (match S[l]? with
    | some (.lst _) => some (t == "list")
    | some (.dic _) => some (t == "dict")
    | _ => none)
def tyOk (t : Str) : Bool := t == "int" || t == "bool" || t == "str" || t == "tuple" || t == "list" || t == "dict"
def lenD (S : Store) (x : D) : Option D := match x with
  | .str z => if z.length ≤ 16777216 then some (.int z.length) else none
  | x => (match seqO S x with
    | some xs => some (.int xs.length)
    | none => none)
def blsOf : List D → Option (List Bool)
  | [] => some []
  | .bl b :: xs => (match blsOf xs with
    | some bs => some (b :: bs)
    | none => none)
  | _ => none
def intsOf : List D → Option (List Int)
  | [] => some []
  | .int b :: xs => (match intsOf xs with
    | some bs => some (b :: bs)
    | none => none)
  | _ => none
def strsOf : List D → Option (List Str)
  | [] => some []
  | .str b :: xs => (match strsOf xs with
    | some bs => some (b :: bs)
    | none => none)
  | _ => none
/-- the built-ins' ids, types and rules, by name -/
inductive Blt where
  | len | int | list | tuple | all | abs | min | max | str | any | sum
def bltOf (f : Str) : Option Blt :=
  if f == "len" then some .len else if f == "int" then some .int else if f == "list" then some .list else if f == "tuple" then some .tuple else if f == "all" then some .all else if f == "abs" then some .abs
  else if f == "min" then some .min else if f == "max" then some .max else if f == "str" then some .str else if f == "any" then some .any else if f == "sum" then some .sum else none
/-- a built-in called by its name -/
def intD : D → Option D
  | .int i => some (.int i)
  | .bl b => some (.int (if b then 1 else 0))
  | .str x => (match PySem.intText? x with
    | some n => if x.length ≤ 640 then some (.int n) else none
    | none => none)
  | _ => none
def absD : D → Option D
  | .int i => some (.int (if i < 0 then -i else i))
  | _ => none
def listD (S : Store) (x : D) : Option D := match x with
  | .str z => if z.length ≤ 16777216 then some (.lst (z.cps.toList.map fun c => .str ⟨#[c]⟩)) else none
  | x => (match seqO S x with
    | some ys => some (.lst ys)
    | none => none)
def tupleD (S : Store) (x : D) : Option D := match seqO S x with
  | some ys => some (.tup ys)
  | none => none
def allD (S : Store) (x : D) : Option D := match seqL S x with
  | some ys => (match blsOf ys with
    | some bs => some (.bl (bs.all id))
    | none => none)
  | none => none
def anyD (S : Store) (x : D) : Option D := match seqL S x with
  | some ys => (match blsOf ys with
    | some bs => some (.bl (bs.any id))
    | none => none)
  | none => none
def sumD (S : Store) (x : D) : Option D := match seqL S x with
  | some ys => (match intsOf ys with
    | some bs => some (.int bs.sum)
    | none => none)
  | none => none
def minD : D → D → Option D
  | .int i, .int j => some (.int (if j < i then j else i))
  | _, _ => none
def maxD : D → D → Option D
  | .int i, .int j => some (.int (if j > i then j else i))
  | _, _ => none
def strD : D → Option D
  | .int i => if i.natAbs.log2 < 1920 then some (.str (toString i)) else none
  | .str x => some (.str x)
  | _ => none
def Blt.sem1 (S : Store) (b : Blt) (x : D) : Option D := match b with
  | .len => lenD S x
  | .int => intD x
  | .list => listD S x
  | .tuple => tupleD S x
  | .all => allD S x
  | .abs => absD x
  | .str => strD x
  | .any => anyD S x
  | .sum => sumD S x
  | _ => none
def Blt.sem2 (b : Blt) (x y : D) : Option D := match b with
  | .min => minD x y
  | .max => maxD x y
  | _ => none
def Blt.sem (S : Store) (b : Blt) (xs : List D) : Option D := match xs with
  | [x] => b.sem1 S x
  | [x, y] => b.sem2 x y
  | _ => none
/-- len(set(x)) of texts -/
def lenSetD (S : Store) (x : D) : Option D := match seqO S x with
  | some ys => (match strsOf ys with
    | some zs => if zs.length ≤ 1000 then some (.int (onceS [] zs).length) else none
    | none => none)
  | none => none
def lenSet? : List Expr → Option (Expr × Str)
  | [.Call (.Name f _) [a] [] _] => if f == "set" && !isStar' a then some (a, f) else none
  | _ => none
/-- pairs of keys and values -/
def pairsD : List D → Option (List (L2.Key × D))
  | [] => some []
  | .tup [k, v] :: xs => (match keyD k, pairsD xs with
    | some k, some r => some ((k, v) :: r)
    | _, _ => none)
  | _ => none
/-- dict(x) -/
def dictD (S : Store) (x : D) : Option (D × Store) := match dicOf S x with
  | some kvs => some (.ref S.length, S ++ [.dic kvs])
  | none => (match seqL S x with
    | some xs => (match pairsD xs with
      | some kvs => some (.ref S.length, S ++ [.dic (mergeG [] kvs)])
      | none => none)
    | none => none)
/-- methods of built-in types -/
inductive MId where
  | bitLength | append | split | join | index | pop | insert | clear | upper | partition | get | count
/-- the method of a name, by what the thing is -/
def mIdD (S : Store) (x : D) (m : Str) : Option MId := match x with
  | .int _ => if m == "bit_length" then some .bitLength else none
  | .str _ => if m == "split" then some .split else if m == "join" then some .join else if m == "upper" then some .upper else if m == "partition" then some .partition else if m == "count" then some .count else none
  | x => (match seqL S x with
    | some _ => if m == "append" then some .append else if m == "index" then some .index else if m == "pop" then some .pop else if m == "insert" then some .insert else if m == "clear" then some .clear else none
    | none => (match dicOf S x with
      | some _ => if m == "get" then some .get else none
      | none => none))
/-- the first place of an equal item -/
def firstD (a : PyData) : Nat → List PyData → Option Nat
  | _, [] => none
  | i, z :: zs => if PyData.eqv z a = true then some i else firstD a (i + 1) zs
/-- called: the value, the store behind -/
def mthD (S : Store) (m : MId) (x : D) (xs : List D) : Option (D × Store) := match m with
  | .bitLength => (match x, xs with
    | .int i, [] => some (.int (Builtin.Int.intBits i : Nat), S)
    | _, _ => none)
  | .append => (match x, xs with
    | .ref l, [y] => (match S[l]? with
      | some (.lst ys) => if ys.length < 16777216 then some (.non, S.set l (.lst (ys ++ [y]))) else none
      | _ => none)
    | _, _ => none)
  | .split => (match x, xs with
    | .str a, [.str b] => if (b.length == 0) = false ∧ a.length + 2 ≤ 16777216 then some (.lst ((Txt.split a b).map D.str), S) else none
    | _, _ => none)
  | .join => (match x, xs with
    | .str a, [y] => (match seqO S y with
      | some ys => (match strsOf ys with
        | some zs => if (zs.map (·.length)).sum + zs.length * a.length ≤ 16777216 then some (.str (Txt.join a zs), S) else none
        | none => none)
      | none => none)
    | _, _ => none)
  | .upper => (match x, xs with
    | .str a, [] => if a.length ≤ 5592405 then some (.str (Txt.upper a), S) else none
    | _, _ => none)
  | .partition => (match x, xs with
    | .str a, [.str b] => if (b.length == 0) = false ∧ a.length ≤ 16777216 then some (.tup [.str (Txt.partition a b).1, .str (Txt.partition a b).2.1, .str (Txt.partition a b).2.2], S) else none
    | _, _ => none)
  | .count => (match x, xs with
    | .str a, [.str b] => some (.int (Txt.count a b), S)
    | _, _ => none)
  | .index => (match toPyS S x, xs with
    | some (.list ds), [y] => (match toPyS S y with
      | some a => if SeqAt.shaped (.list ds) = true ∧ SeqAt.shaped a = true then (match firstD a 0 ds with
        | some j => some (.int (j : Nat), S)
        | none => none) else none
      | none => none)
    | _, _ => none)
  | .pop => (match x, xs with
    | .ref l, [] => (match S[l]? with
      | some (.lst ys) => (match ys[ys.length - 1]? with
        | some y => some (y, S.set l (.lst ys.dropLast))
        | none => none)
      | _ => none)
    | .ref l, [.int i] => (match S[l]? with
      | some (.lst ys) => if 0 ≤ i ∧ i < ys.length ∧ i < 2 ^ 62 then (match ys[i.toNat]? with
        | some y => some (y, S.set l (.lst (ys.eraseIdx i.toNat)))
        | none => none) else none
      | _ => none)
    | _, _ => none)
  | .insert => (match x, xs with
    | .ref l, [.int i, y] => (match S[l]? with
      | some (.lst ys) => if ys.length < 16777216 ∧ 0 ≤ i ∧ i < 2 ^ 62 then some (.non, S.set l (.lst (ys.take i.toNat ++ [y] ++ ys.drop i.toNat))) else none
      | _ => none)
    | _, _ => none)
  | .clear => (match x, xs with
    | .ref l, [] => (match S[l]? with
      | some (.lst _) => some (.non, S.set l (.lst []))
      | _ => none)
    | _, _ => none)
  | .get => (match dicOf S x, xs with
    | some kvs, [y] => (match keyD y with
      | some k => some ((valG kvs k).getD .non, S)
      | none => none)
    | some kvs, [y, z] => (match keyD y with
      | some k => some ((valG kvs k).getD z, S)
      | none => none)
    | _, _ => none)
def setL (S : Store) (o i v : D) : Option Store := match o, i with
  | .ref l, .int k => (match S[l]? with
    | some (.lst xs) => (match L2.ixN xs.length k with
      | some j => some (S.set l (.lst (xs.set j v)))
      | none => none)
    | _ => none)
  | _, _ => none
def setD (S : Store) (o i v : D) : Option Store := match o, dicOf S o, keyD i with
  | .ref l, some kvs, some k => if kvs.length < 16777216 then some (S.set l (.dic (putG kvs k v))) else none
  | o, _, _ => setL S o i v

/-! ### names -/
inductive Nm where
  | slot (i : Nat) | glob | no
def Nm.isGlob : Nm → Bool
  | .glob => true
  | _ => false
/-- isinstance(a, T) -/
def isArgs : List Expr → Option (Expr × Str)
  | [a, .Name t _] => some (a, t)
  | _ => none
def nmOf (sc : Scope) (N : List Str) (x : Str) : Nm := match sc.names.lookup x with
  | some .local | some .cell | some .free => (match N.idxOf? x with
    | some i => .slot i
    | none => .no)
  | some .globalImplicit => .glob
  | _ => .no
/-- a name that is stored -/
def stOf (sc : Scope) (N : List Str) (x : Str) : Option Nat := match sc.names.lookup x with
  | some .local | some .cell => N.idxOf? x
  | _ => none
def plainName (x : Str) : Bool := !(x == ("__debug__" : Str)) && !(x == ("__classdict__" : Str)) && !(x == ("__name__" : Str))
/-- isinstance of the error that is held -/
def kitAll (c : Cfg) (N : List Str) (sc : Scope) (x : Str) : List Expr → Option Bool
  | [] => some false
  | .Name t _ :: es => if (nmOf sc N t).isGlob && plainName t then (match c.kits x t, kitAll c N sc x es with
    | some b, some r => some (b || r)
    | _, _ => none) else none
  | _ => none
def Nm.at_ (i : Nat) : Nm → Bool
  | .slot j => i == j
  | _ => false
def hotIs (c : Cfg) (N : List Str) (sc : Scope) : List Expr → Option Bool
  | [.Name e _, .Name t p] => (match c.hot with
    | some (i, x) => if (nmOf sc N e).at_ i && plainName e then kitAll c N sc x [.Name t p] else none
    | none => none)
  | [.Name e _, .Tuple es _ _] => (match c.hot with
    | some (i, x) => if (nmOf sc N e).at_ i && plainName e && decide (es.length ≤ 20) then kitAll c N sc x es else none
    | none => none)
  | _ => none
def litD : Const → Option D
  | .none => some .non
  | .bool b => some (.bl b)
  | .int i => some (.int i)
  | .str x => some (.str x)
  | _ => none
def isStar : Expr → Bool
  | .Starred .. => true
  | _ => false
/-- o.m(..) with nothing odd about o -/
def okBase : Expr → Bool
  | .Call (.Name _ _) [] [] _ => false
  | _ => true
def isTup : Expr → Bool
  | .Tuple .. => true
  | _ => false
def isSet : Expr → Bool
  | .Set .. => true
  | _ => false
def isSlice : Expr → Bool
  | .Slice .. => true
  | _ => false

/-- what is walked: the items, and which list must stay as it is meanwhile -/
structure Items where
  xs : List D
  at_ : Option Nat
  enum : Bool := false
def wrapI (e : Bool) (i : Nat) (d : D) : D := if e then .tup [.int (i : Nat), d] else d
/-- the item at a turn -/
def Items.get (it : Items) (S : Store) (i : Nat) : Option (Option D) := match it.at_ with
  | none => some (it.xs[i]?.map (wrapI it.enum i))
  | some l => (match S[l]? with
    | some (.lst xs) => some (xs[i]?.map (wrapI it.enum i))
    | _ => none)
def itersD (S : Store) (d : D) : Option Items := match d with
  | .tup xs => some ⟨xs, none, false⟩
  | .lst xs => some ⟨xs, none, false⟩
  | .str z => some ⟨z.cps.toList.map fun c => .str ⟨#[c]⟩, none, false⟩
  | .ref l => (match S[l]? with
    | some (.lst xs) => some ⟨xs, some l, false⟩
    | _ => none)
  | _ => none
/-- enumerate -/
def enumD (S : Store) (d : D) : Option Items := match d with
  | .lst xs => some ⟨xs, none, true⟩
  | .ref l => (match S[l]? with
    | some (.lst xs) => some ⟨xs, some l, true⟩
    | _ => none)
  | _ => none
def pairUp : List D → List D → List D
  | x :: xs, y :: ys => .tup [x, y] :: pairUp xs ys
  | _, _ => []
/-- zip -/
def zipD (x y : D) : Option Items := match x, y with
  | .lst xs, .lst ys => some ⟨pairUp xs ys, none, false⟩
  | .tup xs, .tup ys => some ⟨pairUp xs ys, none, false⟩
  | _, _ => none
def rangeD (lo hi : Int) : Items := ⟨(List.range (hi - lo).toNat).map fun (k : Nat) => .int (lo + k), none, false⟩
def small62 (i : Int) : Bool := decide (-(2 ^ 62) ≤ i) && decide (i < 2 ^ 62)

/-- the turns of a comprehension, from item i on -/
def compF (it : Items) (f : D → Store → Out (Option D)) : Nat → Nat → List D → Store → Out (List D)
  | 0, _, _, _ => .bad
  | m + 1, i, acc, S => match it.get S i with
    | none => .bad
    | some none => .ok acc S
    | some (some x) => (match f x S with
      | .ok (some y) S1 => if acc.length < 16777216 then compF it f m (i + 1) (acc ++ [y]) S1 else .bad
      | .ok none S1 => compF it f m (i + 1) acc S1
      | _ => .bad)
def loopMost : Nat := 100000
/-- a new list: a value, or in the store -/
def newL (c : Cfg) (pos : Pos) (xs : List D) (S : Store) : Out D :=
  if c.mutl pos then .ok (.ref S.length) (S ++ [.lst xs]) else .ok (.lst xs) S

def wipeE (σ : Env) : List Nat → Env
  | [] => σ
  | i :: is => (wipeE σ is).set i none
/-- the names of a target: one name, or a tuple of names -/
def tgEach : List Expr → Option (List Str)
  | [] => some []
  | .Name x _ :: es => (match tgEach es with
    | some xs => some (x :: xs)
    | none => none)
  | _ => none
def tgNames : Expr → Option (List Str)
  | .Name x _ => some [x]
  | .Tuple es _ _ => tgEach es
  | _ => none
def slotsOf (sc : Scope) (N : List Str) : List Str → Option (List Nat)
  | [] => some []
  | x :: xs => (match stOf sc N x, slotsOf sc N xs with
    | some i, some is => some (i :: is)
    | _, _ => none)
/-- one name or a tuple of names gets an item -/
def setAll (σ : Env) : List Nat → List D → Env
  | i :: is, d :: ds => setAll (σ.set i (some d)) is ds
  | _, _ => σ
/-- a tuple of names gets a tuple -/
def bT (is : List Nat) : Env → D → Option Env := fun σ d => match seqT d with
  | some ds => if ds.length = is.length then some (setAll σ is ds) else none
  | none => none
def bindTg (tg : Expr) (sc : Scope) (N : List Str) (σ : Env) (d : D) : Option Env := match tg with
  | .Name x _ => (match stOf sc N x with
    | some i => some (σ.set i (some d))
    | none => none)
  | .Tuple es _ _ => (match tgEach es with
    | some xs => (match slotsOf sc N xs with
      | some is => bT is σ d
      | none => none)
    | none => none)
  | _ => none

mutual
def ev (c : Cfg) (N : List Str) : Nat → Scope → Expr → Env → Store → Out D
  | 0, _, _, _, _ => .bad
  | n + 1, sc, e, σ, S => match e with
    | .Constant k _ _ => ofO S (litD k)
    | .Name x _ => if plainName x then (match nmOf sc N x with
      | .slot i => (match σ[i]? with
        | some (some d) => .ok d S
        | _ => .bad)
      | .glob => ofO S (c.vars x)
      | .no => .bad) else .bad
    | .BinOp a op b _ => (ev c N n sc a σ S).bind fun x S1 => (ev c N n sc b σ S1).bind fun y S2 => ofO S2 (binD S2 op x y)
    | .UnaryOp .Not a _ => (ev c N n sc a σ S).bind fun x S1 => ofO S1 ((truth S1 x).map fun b => .bl (!b))
    | .UnaryOp .USub a _ => (ev c N n sc a σ S).bind fun x S1 => (match x with
      | .int i => .ok (.int (-i)) S1
      | _ => .bad)
    | .BoolOp op es _ => evB c N n sc op es σ S
    | .Compare a [op] [b] _ => if isSet b then .bad else (ev c N n sc a σ S).bind fun x S1 => (ev c N n sc b σ S1).bind fun y S2 => ofO S2 ((cmpD S2 op x y).map D.bl)
    | .Compare a [op, op'] [b, b'] _ => if isSet b || isSet b' then .bad else (ev c N n sc a σ S).bind fun x S1 => (ev c N n sc b σ S1).bind fun y S2 => (match cmpD S2 op x y with
      | some true => (ev c N n sc b' σ S2).bind fun z S3 => ofO S3 ((cmpD S3 op' y z).map D.bl)
      | some false => .ok (.bl false) S2
      | none => .bad)
    | .IfExp t a b _ => (evT c N n sc t σ S).bind fun k S1 => if k = true then ev c N n sc a σ S1 else ev c N n sc b σ S1
    | .List es pos => (evA c N n sc es σ S).bind fun xs S1 => if xs.length ≤ 16777216 then newL c pos xs S1 else .bad
    | .Dict [] [] _ => .ok (.ref S.length) (S ++ [.dic []])
    | .Dict ks vs _ => if ks.all (·.isSome) = true ∧ ks.length = vs.length ∧ ks.length ≤ 15 then (evD c N n sc ks vs σ S).bind fun kvs S1 => .ok (.ref S1.length) (S1 ++ [.dic (mergeG [] kvs)]) else .bad
    | .Tuple es _ _ => (evA c N n sc es σ S).bind fun xs S1 => if xs.length ≤ 16777216 then .ok (.tup xs) S1 else .bad
    | .Subscript a (.Slice lo hi none _) _ => (ev c N n sc a σ S).bind fun x S1 => (evP c N n sc lo σ S1).bind fun l S2 => (evP c N n sc hi σ S2).bind fun h S3 => ofO S3 (slD S3 x l h)
    | .Subscript a (.Slice none none (some (.UnaryOp .USub (.Constant (.int 1) _ _) _)) _) _ => (ev c N n sc a σ S).bind fun x S1 => ofO S1 (revD S1 x)
    | .Subscript a i _ => if isSlice i then .bad else (ev c N n sc a σ S).bind fun x S1 => (ev c N n sc i σ S1).bind fun y S2 => ofO S2 (ixD S2 x y)
    | .Call (.Name f _) args [] _ => if plainName f && !args.any isStar then (match nmOf sc N f with
      | .glob => (match c.funs f with
        | some φ => (evA c N n sc args σ S).bind fun xs S1 => φ xs S1
        | none => if c.free f then (if f == "isinstance" then (match hotIs c N sc args with
            | some b => .ok (.bl b) S
            | none => (match isArgs args with
              | some (a, t) => if (nmOf sc N t).isGlob && (c.free t && tyOk t && plainName t) then (ev c N n sc a σ S).bind fun x S1 => ofO S1 ((isTy S1 x t).map D.bl) else .bad
              | none => .bad))
          else if f == "dict" then (evA c N n sc args σ S).bind fun xs S1 => (match xs with
            | [x] => ofP (dictD S1 x)
            | _ => .bad)
          else (match (if f == "len" then lenSet? args else none) with
            | some (a, g) => if c.free g && (nmOf sc N g).isGlob then (ev c N n sc a σ S).bind fun x S1 => ofO S1 (lenSetD S1 x) else .bad
            | none => (match bltOf f with
              | some b => (evA c N n sc args σ S).bind fun xs S1 => ofO S1 (b.sem S1 xs)
              | none => .bad)))
          else .bad)
      | _ => .bad) else .bad
    | .Call (.Attribute o m apos) args [] cpos => if apos.endLine == cpos.line && (okBase o && (!args.any isStar && decide (args.length < 20))) then (ev c N n sc o σ S).bind fun x S1 => (match mIdD S1 x m with
      | some i => (evA c N n sc args σ S1).bind fun xs S2 => ofP (mthD S2 i x xs)
      | none => .bad) else .bad
    | .ListComp elt [⟨tg, iter, ifs, 0⟩] scope pos => (match tgNames tg with
      | some xs => (match slotsOf scope N xs with
        | some is => if !c.calm || (isSet iter || (!L2.blkC N sc scope (xs.zip is) || decide (2 ≤ ifs.length))) then .bad else (evI c N n (isTup tg) sc iter σ S).bind fun it S1 => (compF it (fun d S2 => match bindTg tg scope N (wipeE σ is) d with
            | some σ2 => (match ifs with
              | [] => (ev c N n scope elt σ2 S2).bind fun y S3 => .ok (some y) S3
              | [t] => (evT c N n scope t σ2 S2).bind fun k S3 => if k = true then (ev c N n scope elt σ2 S3).bind fun y S4 => .ok (some y) S4 else .ok none S3
              | _ => .bad)
            | none => .bad) loopMost 0 [] S1).bind fun ys S2 => newL c pos ys S2
        | none => .bad)
      | none => .bad)
    | _ => .bad
def evB (c : Cfg) (N : List Str) : Nat → Scope → BoolOp → List Expr → Env → Store → Out D
  | 0, _, _, _, _, _ => .bad
  | n + 1, sc, op, es, σ, S => match es with
    | [] => .bad
    | [a] => ev c N n sc a σ S
    | a :: b :: rest => (ev c N n sc a σ S).bind fun x S1 => (match truth S1 x with
      | some k => (match op with
        | .And => if k = true then evB c N n sc op (b :: rest) σ S1 else .ok x S1
        | .Or => if k = true then .ok x S1 else evB c N n sc op (b :: rest) σ S1)
      | none => .bad)
def evT (c : Cfg) (N : List Str) : Nat → Scope → Expr → Env → Store → Out Bool
  | 0, _, _, _, _ => .bad
  | n + 1, sc, e, σ, S => match e with
    | .UnaryOp .Not a _ => (evT c N n sc a σ S).bind fun k S1 => .ok (!k) S1
    | .BoolOp op es _ => evTs c N n sc op es σ S
    | .IfExp .. => .bad
    | .Compare .. => (ev c N n sc e σ S).bind fun x S1 => (match x with
      | .bl k => .ok k S1
      | _ => .bad)
    | e => (ev c N n sc e σ S).bind fun x S1 => ofO S1 (truth S1 x)
def evTs (c : Cfg) (N : List Str) : Nat → Scope → BoolOp → List Expr → Env → Store → Out Bool
  | 0, _, _, _, _, _ => .bad
  | n + 1, sc, op, es, σ, S => match es with
    | [] => .bad
    | [a] => evT c N n sc a σ S
    | a :: b :: rest => (evT c N n sc a σ S).bind fun k S1 => (match op with
      | .And => if k = true then evTs c N n sc op (b :: rest) σ S1 else .ok false S1
      | .Or => if k = true then .ok true S1 else evTs c N n sc op (b :: rest) σ S1)
def evA (c : Cfg) (N : List Str) : Nat → Scope → List Expr → Env → Store → Out (List D)
  | 0, _, _, _, _ => .bad
  | n + 1, sc, es, σ, S => match es with
    | [] => .ok [] S
    | a :: rest => if isStar a then .bad else (ev c N n sc a σ S).bind fun x S1 => (evA c N n sc rest σ S1).bind fun xs S2 => .ok (x :: xs) S2
def evD (c : Cfg) (N : List Str) : Nat → Scope → List (Option Expr) → List Expr → Env → Store → Out (List (L2.Key × D))
  | 0, _, _, _, _, _ => .bad
  | n + 1, sc, ks, vs, σ, S => match ks, vs with
    | [], [] => .ok [] S
    | some k :: ks, v :: vs => (ev c N n sc k σ S).bind fun x S1 => (ev c N n sc v σ S1).bind fun y S2 => (evD c N n sc ks vs σ S2).bind fun r S3 => (match keyD x with
      | some k => .ok ((k, y) :: r) S3
      | none => .bad)
    | _, _ => .bad
def evP (c : Cfg) (N : List Str) : Nat → Scope → Option Expr → Env → Store → Out (Option Int)
  | 0, _, _, _, _ => .bad
  | n + 1, sc, e, σ, S => match e with
    | none => .ok none S
    | some a => (ev c N n sc a σ S).bind fun x S1 => (match x with
      | .int i => .ok (some i) S1
      | _ => .bad)
def evI (c : Cfg) (N : List Str) : Nat → Bool → Scope → Expr → Env → Store → Out Items
  | 0, _, _, _, _, _ => .bad
  | n + 1, tp, sc, e, σ, S => match e with
    | .Call (.Name f _) [a] [] _ => if f == "range" && c.free f && (match nmOf sc N f with | .glob => true | _ => false) then
        (if isStar a then .bad else (ev c N n sc a σ S).bind fun x S1 => (match x with
          | .int j => if small62 j then .ok (rangeD 0 j) S1 else .bad
          | _ => .bad))
      else if tp && (f == "enumerate" && c.free f && (match nmOf sc N f with | .glob => true | _ => false)) then
        (if isStar a then .bad else (ev c N n sc a σ S).bind fun x S1 => ofO S1 (enumD S1 x))
      else (ev c N n sc e σ S).bind fun x S1 => ofO S1 (itersD S1 x)
    | .Call (.Name f _) [a, b] [] _ => if f == "range" && c.free f && (match nmOf sc N f with | .glob => true | _ => false) then
        (if isStar a || isStar b then .bad else (ev c N n sc a σ S).bind fun x S1 => (ev c N n sc b σ S1).bind fun y S2 => (match x, y with
          | .int i, .int j => if small62 i && small62 j then .ok (rangeD i j) S2 else .bad
          | _, _ => .bad))
      else if tp && (f == "zip" && c.free f && (match nmOf sc N f with | .glob => true | _ => false)) then
        (if isStar a || isStar b then .bad else (ev c N n sc a σ S).bind fun x S1 => (ev c N n sc b σ S1).bind fun y S2 => ofO S2 (zipD x y))
      else (ev c N n sc e σ S).bind fun x S1 => ofO S1 (itersD S1 x)
    | e => (ev c N n sc e σ S).bind fun x S1 => ofO S1 (itersD S1 x)
end

/-- what may be given to a name by =, as we serve it -/
def okSet (sc : Scope) (x : Str) (p : Pos) : Expr → Bool
  | .ListComp _ _ scope pos => decide (sc.names.lookup x = some .cell) || decide (sc.names.lookup x = some .local) && (p.line == pos.line && !(scope.names.any fun (n, k) => n == x && (k == .local || k == .cell)))
  | .SetComp .. => false
  | .DictComp .. => false
  | _ => true
/-- the turns of a for: at each turn the item is looked up anew -/
def forF (it : Items) (f : D → Env → Store → Fl) : Nat → Nat → Env → Store → Fl
  | 0, _, _, _ => .bad
  | m + 1, i, σ, S => match it.get S i with
    | none => .bad
    | some none => .nx σ S
    | some (some d) => (match f d σ S with
      | .nx σ1 S1 => forF it f m (i + 1) σ1 S1
      | .ct σ1 S1 => forF it f m (i + 1) σ1 S1
      | .bk σ1 S1 => .nx σ1 S1
      | r => r)
def whileF (t : Env → Store → Out Bool) (f : Env → Store → Fl) : Nat → Env → Store → Fl
  | 0, _, _ => .bad
  | m + 1, σ, S => (t σ S).use σ fun k S1 => if k = true then (match f σ S1 with
      | .nx σ1 S2 => whileF t f m σ1 S2
      | .ct σ1 S2 => whileF t f m σ1 S2
      | .bk σ1 S2 => .nx σ1 S2
      | r => r) else .nx σ S1

/-- the slot of an except clause's name -/
def heldAt (sc : Scope) (N : List Str) : Option Str → Option Nat
  | none => some N.length
  | some nm => if sc.names.lookup nm = some .local then N.idxOf? nm else none
/-- a suite's end: the error is let go -/
def hotEnd (i : Nat) : Fl → Fl
  | .nx σ S => .nx (σ.set i none) S
  | .bk σ S => .bk (σ.set i none) S
  | .ct σ S => .ct (σ.set i none) S
  | .rt d S => .rt d S
  | _ => .bad
mutual
def ex (c : Cfg) (N : List Str) (sc : Scope) : Nat → Stmt → Env → Store → Fl
  | 0, _, _, _ => .bad
  | n + 1, st, σ, S => match st with
    | .Pass _ => .nx σ S
    | .Break _ => .bk σ S
    | .Continue _ => .ct σ S
    | .Return none _ => .rt .non S
    | .Return (some e) _ => (ev c N n sc e σ S).use σ fun x S1 => .rt x S1
    | .Expr e _ => (match e with
      | .Call .. => (ev c N n sc e σ S).use σ fun _ S1 => .nx σ S1
      | _ => .bad)
    | .If t a b _ => (evT c N n sc t σ S).use σ fun k S1 => if k = true then exs c N sc n a σ S1 else exs c N sc n b σ S1
    | .Assign [.Name x p] e _ => if okSet sc x p e then (match stOf sc N x with
      | some i => if c.hotAt i then .bad else (ev c N n sc e σ S).use σ fun d S1 => .nx (σ.set i (some d)) S1
      | none => .bad) else .bad
    | .Assign [.Subscript o i _] e _ => if isSlice i then .bad else (ev c N n sc e σ S).use σ fun d S1 => (ev c N n sc o σ S1).use σ fun x S2 => (ev c N n sc i σ S2).use σ fun y S3 => (match setD S3 x y d with
      | some S4 => .nx σ S4
      | none => .bad)
    | .Assign [.Tuple es k p] e _ => if !c.calm || isTup e then .bad else (match tgNames (.Tuple es k p) with
      | some xs => (match slotsOf sc N xs with
        | some _ => (ev c N n sc e σ S).use σ fun d S1 => (match bindTg (.Tuple es k p) sc N σ d with
          | some σ1 => .nx σ1 S1
          | none => .bad)
        | none => .bad)
      | none => .bad)
    | .While t body [] _ => whileF (evT c N n sc t) (exs c N sc n body) loopMost σ S
    | .For tg iter body [] _ => if !c.calm || isSet iter then .bad else (match tgNames tg with
      | some xs => (match slotsOf sc N xs with
        | some _ => (evI c N n (isTup tg) sc iter σ S).use σ fun it S1 => forF it (fun d σ1 S2 => match bindTg tg sc N σ1 d with
          | some σ2 => exs c N sc n body σ2 S2
          | none => .bad) loopMost 0 σ S1
        | none => .bad)
      | none => .bad)
    | .Raise (some (.Call (.Name x _) [.Constant (.str _) _ _] [] _)) none _ => if plainName x && c.excs x && (nmOf sc N x).isGlob then .exc x σ S else .bad
    | .Try body [.ExceptHandler (some (.Name y _)) nm (b0 :: suite) _] [] [] _ => if c.calm && (plainName y && ((nmOf sc N y).isGlob && (c.kits y y).isSome)) then (match heldAt sc N nm with
      | some i => (match exs c N sc n body σ S with
        | .exc x σ1 S1 => (match c.kits x y with
          | some true => if nm.isSome && decide (σ1.length ≤ i) then .bad else hotEnd i (exs (c.hotC i x) N sc n (b0 :: suite) (σ1.set i none) S1)
          | some false => .exc x σ1 S1
          | none => .bad)
        | r => r)
      | none => .bad) else .bad
    | _ => .bad
def exs (c : Cfg) (N : List Str) (sc : Scope) : Nat → List Stmt → Env → Store → Fl
  | 0, _, _, _ => .bad
  | n + 1, sts, σ, S => match sts with
    | [] => .nx σ S
    | [st] => ex c N sc n st σ S
    | st :: rest => (ex c N sc n st σ S).seq (exs c N sc n rest)
end

/-! ### a def -/
mutual
def below (n : Nat) : D → Bool
  | .ref l => decide (l < n)
  | .tup xs => belows n xs
  | .lst xs => belows n xs
  | _ => true
def belows (n : Nat) : List D → Bool
  | [] => true
  | x :: xs => below n x && belows n xs
end
def obBelow (n : Nat) : Ob → Bool
  | .lst xs => belows n xs
  | .ins _ fs => belows n (fs.map (·.2))
  | .dic kvs => belows n (kvs.map (·.2))
  | .dead => true
/-- what a def leaves: its own objects are forgotten where nothing names them; a list of its own that is handed back, unless it is to be changed further, becomes a value -/
def fin (frz : Bool) (n : Nat) (d : D) (S : Store) : Out D :=
  let d1 := if frz then (match d with
    | .ref l => if l < n then d else (match S[l]? with
      | some (.lst xs) => .lst xs
      | _ => d)
    | d => d) else d
  if S.length = n ∧ frz = false then .ok d1 S
  else if below n d1 && (S.take n).all (obBelow n) then .ok d1 (S.take n) else .ok d S
def finX (n : Nat) (c : Str) (S : Store) : Out D :=
  if S.length = n then .exc c S else if (S.take n).all (obBelow n) then .exc c (S.take n) else .exc c S
def runF (c : Cfg) (frz : Bool) (ps N : List Str) (sc : Scope) (fuel : Nat) (body : List Stmt) : Fn := fun args S =>
  if args.length = ps.length then (match exs c N sc fuel body (args.map some ++ List.replicate (N.length - args.length) none) S with
    | .nx _ S' => fin frz S.length .non S'
    | .rt d S' => fin frz S.length d S'
    | .exc x _ S' => finX S.length x S'
    | _ => .bad) else .bad
end Q
/-! Q2: plain data stand in the heap of HandS. -/
namespace Q
open PySem PySem.Spec PyProof.Rows L2

def KT (K : PySem.W.Frag) (a : Addr) (vs : List V) : Prop :=
  ∃ (o : Obj) (its : Array Value) (n : Nat), K.lookup a = some o ∧ o.cls = .type "tuple" ∧ o.data = .seq its n ∧ its.size ≤ sizeLine ∧ Vals vs its.toList
/-- the places of the store's objects, and places that somebody is just writing at -/
structure Pl where
  l : List Addr
  b : List Addr
  pin : Option (Nat × Addr)
/-- where the classes stand; the place and the address of the error that a suite holds -/
structure CA where
  ad : Str → Addr
  pin : Option (Nat × Addr)
instance : CoeFun CA (fun _ => Str → Addr) := ⟨CA.ad⟩
def Pl.has (ρ : Pl) (a : Addr) : Prop := a ∈ ρ.l ∨ a ∈ ρ.b
def TupAt (K : PySem.W.Frag) (ρ : Pl) (H : Hp) (a : Addr) (vs : List V) : Prop := (Rd H a (.tup vs) ∧ ¬ ρ.has a) ∨ KT K a vs
def KL (K : PySem.W.Frag) (a : Addr) (vs : List V) : Prop :=
  ∃ (o : Obj) (its : Array Value) (n : Nat), K.lookup a = some o ∧ o.cls = .type "list" ∧ o.dict = none ∧ o.data = .seq its n ∧ its.size ≤ sizeLine ∧ Vals vs its.toList
def LstAt (K : PySem.W.Frag) (ρ : Pl) (H : Hp) (a : Addr) (vs : List V) : Prop := (Rd H a (.lst vs) ∧ ¬ ρ.has a) ∨ KL K a vs

mutual
inductive Rep (K : PySem.W.Frag) (ρ : Pl) (H : Hp) : D → V → Prop
  | non : Rep K ρ H .non .non
  | bl (b : Bool) : Rep K ρ H (.bl b) (.bl b)
  | int (i : Int) : Rep K ρ H (.int i) (.int i)
  | str (x : Str) : Rep K ρ H (.str x) (.str x)
  | tup {ds : List D} {a : Addr} {vs : List V} : TupAt K ρ H a vs → Reps K ρ H ds vs → Rep K ρ H (.tup ds) (.ref a)
  | lst {ds : List D} {a : Addr} {vs : List V} : LstAt K ρ H a vs → Reps K ρ H ds vs → Rep K ρ H (.lst ds) (.ref a)
  | ref {l : Nat} {a : Addr} : ρ.l[l]? = some a → Rep K ρ H (.ref l) (.ref a)
inductive Reps (K : PySem.W.Frag) (ρ : Pl) (H : Hp) : List D → List V → Prop
  | nil : Reps K ρ H [] []
  | cons {d : D} {v : V} {ds : List D} {vs : List V} : Rep K ρ H d v → Reps K ρ H ds vs → Reps K ρ H (d :: ds) (v :: vs)
end

structure Ext (ρ : Pl) (H : Hp) (ρ' : Pl) (H' : Hp) : Prop where
  pre : ∃ τ, ρ'.l = ρ.l ++ τ ∧ ∀ a ∈ τ, H a = none
  lo : ∀ a, a ∈ ρ.b → a ∈ ρ'.b
  hi : ∀ a, a ∈ ρ'.b → a ∈ ρ.b ∨ H a = none
  keep : ∀ a o, a ∉ ρ.l → H a = some o → H' a = some o
  tr : ∀ a, H' a = none → H a = none
  pn : ρ'.pin = ρ.pin

section
variable {K : PySem.W.Frag} {cA : CA} {ρ ρ' ρ1 ρ2 : Pl} {H H' H1 H2 : Hp}
theorem Ext.refl : Ext ρ H ρ H := ⟨⟨[], by simp⟩, fun _ h => h, fun _ h => .inl h, fun _ _ _ e => e, fun _ e => e, rfl⟩
theorem Ext.trans (a : Ext ρ H ρ1 H1) (b : Ext ρ1 H1 ρ2 H2) : Ext ρ H ρ2 H2 := by
  obtain ⟨τ, e1, f1⟩ := a.pre
  obtain ⟨τ', e2, f2⟩ := b.pre
  refine ⟨⟨τ ++ τ', by rw [e2, e1, List.append_assoc], fun x hx => ?_⟩, fun x h => b.lo x (a.lo x h), fun x h => (b.hi x h).elim (a.hi x) fun z => .inr (a.tr x z), fun x o nx e => ?_, fun x e => a.tr x (b.tr x e), b.pn.trans a.pn⟩
  · rcases List.mem_append.mp hx with h | h
    · exact f1 x h
    · exact a.tr x (f2 x h)
  · refine b.keep x o (fun h => ?_) (a.keep x o nx e)
    rw [e1] at h
    rcases List.mem_append.mp h with h | h
    · exact nx h
    · rw [f1 x h] at e; cases e
theorem Ext.get (e : Ext ρ H ρ' H') {l : Nat} {a : Addr} (h : ρ.l[l]? = some a) : ρ'.l[l]? = some a := by
  obtain ⟨τ, e1, _⟩ := e.pre
  rw [e1, List.getElem?_append_left (List.getElem?_eq_some_iff.mp h).1]; exact h
theorem Ext.nmem (e : Ext ρ H ρ' H') {a : Addr} (h : ¬ ρ.has a) (t : H a ≠ none) : ¬ ρ'.has a := by
  obtain ⟨τ, e1, f⟩ := e.pre
  intro q
  rcases q with q | q
  · rw [e1] at q
    rcases List.mem_append.mp q with q | q
    · exact h (.inl q)
    · exact t (f a q)
  · exact (e.hi a q).elim (fun z => h (.inr z)) t
theorem Rd.ne {a : Addr} {u : HO} (h : Rd H a u) : H a ≠ none := by
  rcases h with h | ⟨o, h⟩ <;> rw [h] <;> simp
theorem Rd.ext (e : Ext ρ H ρ' H') {a : Addr} {u : HO} (h : Rd H a u) (n : ¬ ρ.has a) : Rd H' a u := by
  rcases h with h | ⟨o, h⟩
  · exact .inl (e.keep a _ (fun z => n (.inl z)) h)
  · exact .inr ⟨o, e.keep a _ (fun z => n (.inl z)) h⟩
theorem TupAt.ext (e : Ext ρ H ρ' H') {a : Addr} {vs : List V} (h : TupAt K ρ H a vs) : TupAt K ρ' H' a vs := by
  rcases h with ⟨h, n⟩ | h
  · exact .inl ⟨Rd.ext e h n, e.nmem n (Rd.ne h)⟩
  · exact .inr h
theorem LstAt.ext (e : Ext ρ H ρ' H') {a : Addr} {vs : List V} (h : LstAt K ρ H a vs) : LstAt K ρ' H' a vs := by
  rcases h with ⟨h, n⟩ | h
  · exact .inl ⟨Rd.ext e h n, e.nmem n (Rd.ne h)⟩
  · exact .inr h
theorem TupAt.sq {a : Addr} {vs : List V} (h : TupAt K ρ H a vs) : SqT K H a vs := by
  rcases h with ⟨h, _⟩ | h
  · exact .inl h
  · exact .inr h
theorem LstAt.sq {a : Addr} {vs : List V} (h : LstAt K ρ H a vs) : SqL K H a vs := by
  rcases h with ⟨h, _⟩ | h
  · exact .inl h
  · exact .inr h
mutual
theorem Rep.ext (e : Ext ρ H ρ' H') : ∀ {d : D} {v : V}, Rep K ρ H d v → Rep K ρ' H' d v
  | _, _, .non => .non
  | _, _, .bl b => .bl b
  | _, _, .int i => .int i
  | _, _, .str x => .str x
  | _, _, .tup h r => .tup (h.ext e) (Reps.ext e r)
  | _, _, .lst h r => .lst (h.ext e) (Reps.ext e r)
  | _, _, .ref h => .ref (e.get h)
theorem Reps.ext (e : Ext ρ H ρ' H') : ∀ {ds : List D} {vs : List V}, Reps K ρ H ds vs → Reps K ρ' H' ds vs
  | _, _, .nil => .nil
  | _, _, .cons r t => .cons (Rep.ext e r) (Reps.ext e t)
end
theorem Reps.length : ∀ {ds : List D} {vs : List V}, Reps K ρ H ds vs → ds.length = vs.length
  | _, _, .nil => rfl
  | _, _, .cons _ t => congrArg (· + 1) t.length
theorem Reps.get : ∀ {ds : List D} {vs : List V} {i : Nat} {d : D}, Reps K ρ H ds vs → ds[i]? = some d → ∃ v, vs[i]? = some v ∧ Rep K ρ H d v
  | _, _, _, _, .nil, e => by simp at e
  | _, _, 0, _, .cons r _, e => by simp at e; subst e; exact ⟨_, rfl, r⟩
  | _, _, i + 1, d, .cons _ t, e => by
    obtain ⟨v, h1, h2⟩ := Reps.get (i := i) (d := d) t (by simpa using e)
    exact ⟨v, by simpa using h1, h2⟩
theorem Reps.getV : ∀ {ds : List D} {vs : List V} {i : Nat} {v : V}, Reps K ρ H ds vs → vs[i]? = some v → ∃ d, ds[i]? = some d ∧ Rep K ρ H d v
  | _, _, _, _, .nil, e => by simp at e
  | _, _, 0, _, .cons r _, e => by simp at e; subst e; exact ⟨_, rfl, r⟩
  | _, _, i + 1, d, .cons _ t, e => by
    obtain ⟨v, h1, h2⟩ := Reps.getV (i := i) (v := d) t (by simpa using e)
    exact ⟨v, by simpa using h1, h2⟩
theorem Reps.append : ∀ {ds es : List D} {vs ws : List V}, Reps K ρ H ds vs → Reps K ρ H es ws → Reps K ρ H (ds ++ es) (vs ++ ws)
  | _, _, _, _, .nil, s => s
  | _, _, _, _, .cons r t, s => .cons r (Reps.append t s)
theorem Reps.take : ∀ {ds : List D} {vs : List V} (n : Nat), Reps K ρ H ds vs → Reps K ρ H (ds.take n) (vs.take n)
  | _, _, 0, _ => .nil
  | _, _, _ + 1, .nil => .nil
  | _, _, n + 1, .cons r t => .cons r (Reps.take n t)
theorem Reps.drop : ∀ {ds : List D} {vs : List V} (n : Nat), Reps K ρ H ds vs → Reps K ρ H (ds.drop n) (vs.drop n)
  | _, _, 0, r => r
  | _, _, _ + 1, .nil => .nil
  | _, _, n + 1, .cons r t => Reps.drop n t
theorem Reps.set {d : D} {v : V} (r : Rep K ρ H d v) : ∀ {ds : List D} {vs : List V} (i : Nat), Reps K ρ H ds vs → Reps K ρ H (ds.set i d) (vs.set i v)
  | _, _, _, .nil => .nil
  | _, _, 0, .cons _ t => .cons r t
  | _, _, i + 1, .cons q t => .cons q (Reps.set r i t)
theorem Reps.cut {ds : List D} {vs : List V} (r : Reps K ρ H ds vs) (lo hi : Option Int) : Reps K ρ H (Q.cut ds lo hi) (cutV vs lo hi) := by
  unfold Q.cut cutV
  rw [r.length]
  exact (r.drop _).take _

/-! ### the store -/
inductive FReps (K : PySem.W.Frag) (ρ : Pl) (H : Hp) {κ : Type} : List (κ × D) → List (κ × V) → Prop
  | nil : FReps K ρ H [] []
  | cons {k : κ} {d : D} {v : V} {ds : List (κ × D)} {vs : List (κ × V)} : Rep K ρ H d v → FReps K ρ H ds vs → FReps K ρ H ((k, d) :: ds) ((k, v) :: vs)
theorem FReps.ext {κ : Type} (e : Ext ρ H ρ' H') : ∀ {ds : List (κ × D)} {vs : List (κ × V)}, FReps K ρ H ds vs → FReps K ρ' H' ds vs
  | _, _, .nil => .nil
  | _, _, .cons r t => .cons (Rep.ext e r) (FReps.ext e t)
variable (K cA) in
def ObR (ρ : Pl) (H : Hp) (a : Addr) : Ob → Prop
  | .lst ds => ∃ vs, H a = some (.lst vs) ∧ Reps K ρ H ds vs
  | .ins C fs => ∃ dx vs, H a = some (.ins (cA C) dx vs) ∧ FReps K ρ H fs vs
  | .dic kvs => ∃ vs, H a = some (.dK vs) ∧ FReps K ρ H kvs vs
  | .dead => ∃ o, H a = some o
theorem ObR.tr {a : Addr} {o : Ob} (h : ObR K cA ρ H a o) : H a ≠ none := by
  cases o with
  | lst ds => obtain ⟨vs, e, _⟩ := h; rw [e]; simp
  | ins C fs => obtain ⟨_, vs, e, _⟩ := h; rw [e]; simp
  | dic kvs => obtain ⟨vs, e, _⟩ := h; rw [e]; simp
  | dead => obtain ⟨o, e⟩ := h; rw [e]; simp
theorem ObR.ext {a : Addr} {o : Ob} (h : ObR K cA ρ H a o) (e : Ext ρ H ρ' H') (s : ∀ u, H a = some u → H' a = some u) : ObR K cA ρ' H' a o := by
  cases o with
  | lst ds => obtain ⟨vs, q, r⟩ := h; exact ⟨vs, s _ q, r.ext e⟩
  | ins C fs => obtain ⟨dx, vs, q, r⟩ := h; exact ⟨dx, vs, s _ q, r.ext e⟩
  | dic kvs => obtain ⟨vs, q, r⟩ := h; exact ⟨vs, s _ q, r.ext e⟩
  | dead => obtain ⟨o, q⟩ := h; exact ⟨o, s _ q⟩
variable (K cA) in
structure StR (ρ : Pl) (H : Hp) (S : Store) : Prop where
  len : ρ.l.length = S.length
  nd : ρ.l.Nodup
  ob : ∀ (l : Nat) (o : Ob), S[l]? = some o → ∃ a, ρ.l[l]? = some a ∧ ObR K cA ρ H a o
  bl : ∀ a ∈ ρ.b, H a ≠ none ∧ a ∉ ρ.l
  pin : ρ.pin = cA.pin
theorem StR.at {S : Store} (s : StR K cA ρ H S) {l : Nat} {o : Ob} {a : Addr} (e : S[l]? = some o) (f : ρ.l[l]? = some a) : ObR K cA ρ H a o := by
  obtain ⟨b, g, r⟩ := s.ob l o e
  rw [f] at g; cases g; exact r
theorem StR.trk {S : Store} (s : StR K cA ρ H S) {a : Addr} (h : a ∈ ρ.l) : H a ≠ none := by
  obtain ⟨l, hl, e⟩ := List.getElem_of_mem h
  have hl' : l < S.length := by rw [← s.len]; exact hl
  have := s.at (l := l) (o := S[l]) (a := a) (List.getElem?_eq_getElem hl') (by rw [List.getElem?_eq_getElem hl, e])
  exact this.tr
theorem StR.freshL {S : Store} (s : StR K cA ρ H S) {p : Addr} (h : H p = none) : p ∉ ρ.l := fun q => s.trk q h
theorem StR.fresh {S : Store} (s : StR K cA ρ H S) {p : Addr} (h : H p = none) : ¬ ρ.has p := by
  rintro (q | q)
  · exact s.trk q h
  · exact (s.bl p q).1 h
/-- a new object that is a value -/
theorem ext_new {S : Store} (s : StR K cA ρ H S) {p : Addr} {u : HO} (h : H p = none) : Ext ρ H ρ (upd H p u) ∧ StR K cA ρ (upd H p u) S := by
  have e : Ext ρ H ρ (upd H p u) := by
    refine ⟨⟨[], by simp⟩, fun _ h => h, fun _ h => .inl h, fun a o _ q => ?_, fun a q => ?_, rfl⟩
    · rw [upd_ne (ne_of_none q h)]; exact q
    · by_cases z : a = p
      · rw [z]; exact h
      · rw [upd_ne z] at q; exact q
  refine ⟨e, s.len, s.nd, fun l o q => ?_, fun a q => ⟨fun z => (s.bl a q).1 (e.tr a z), (s.bl a q).2⟩, s.pin⟩
  obtain ⟨a, f, r⟩ := s.ob l o q
  exact ⟨a, f, r.ext e fun v z => by rw [upd_ne (ne_of_none z h)]; exact z⟩
def Pl.more (ρ : Pl) (p : Addr) : Pl := ⟨ρ.l ++ [p], ρ.b, ρ.pin⟩
/-- a new object in the store -/
theorem ext_alloc {S : Store} (s : StR K cA ρ H S) {p : Addr} {u : HO} {o : Ob} (h : H p = none) (r : ∀ ρ' H', Ext ρ H ρ' H' → H' p = some u → ObR K cA ρ' H' p o) :
    Ext ρ H (ρ.more p) (upd H p u) ∧ StR K cA (ρ.more p) (upd H p u) (S ++ [o]) := by
  have e : Ext ρ H (ρ.more p) (upd H p u) := by
    refine ⟨⟨[p], rfl, fun a q => ?_⟩, fun _ h => h, fun _ h => .inl h, fun a o _ q => ?_, fun a q => ?_, rfl⟩
    · rw [List.mem_singleton.mp q]; exact h
    · rw [upd_ne (ne_of_none q h)]; exact q
    · by_cases z : a = p
      · rw [z]; exact h
      · rw [upd_ne z] at q; exact q
  refine ⟨e, by simp [Pl.more, s.len], ?_, fun l o' q => ?_, fun a q => ⟨fun z => (s.bl a q).1 (e.tr a z), fun z => ?_⟩, s.pin⟩
  · show (ρ.l ++ [p]).Nodup
    rw [List.nodup_append]
    refine ⟨s.nd, by simp, fun a ha b hb z => ?_⟩
    rw [List.mem_singleton.mp hb] at z
    exact s.freshL h (z ▸ ha)
  · by_cases hl : l < S.length
    · rw [List.getElem?_append_left hl] at q
      obtain ⟨a, f, r'⟩ := s.ob l o' q
      exact ⟨a, e.get f, r'.ext e fun v z => by rw [upd_ne (ne_of_none z h)]; exact z⟩
    · rw [List.getElem?_append_right (Nat.le_of_not_lt hl)] at q
      have z : l - S.length = 0 := by
        have := (List.getElem?_eq_some_iff.mp q).1
        simp at this; omega
      rw [z] at q
      simp at q
      subst q
      refine ⟨p, ?_, r _ _ e upd_same⟩
      show (ρ.l ++ [p])[l]? = some p
      rw [List.getElem?_append_right (by rw [s.len]; exact Nat.le_of_not_lt hl), s.len, z]; rfl
  · have z : a ∈ ρ.l ++ [p] := z
    rcases List.mem_append.mp z with z | z
    · exact (s.bl a q).2 z
    · rw [List.mem_singleton.mp z] at q
      exact (s.bl p q).1 h
/-- an object of the store is changed -/
theorem ext_write {S : Store} (s : StR K cA ρ H S) {l : Nat} {a : Addr} {u : HO} {o : Ob} (h : ρ.l[l]? = some a) (r : ∀ H', Ext ρ H ρ H' → H' a = some u → ObR K cA ρ H' a o) :
    Ext ρ H ρ (upd H a u) ∧ StR K cA ρ (upd H a u) (S.set l o) := by
  have ha : a ∈ ρ.l := List.mem_of_getElem? h
  have e : Ext ρ H ρ (upd H a u) := by
    refine ⟨⟨[], by simp⟩, fun _ h => h, fun _ h => .inl h, fun b o n q => ?_, fun b q => ?_, rfl⟩
    · rw [upd_ne (fun z => n (by rw [z]; exact ha))]; exact q
    · by_cases z : b = a
      · rw [z, upd_same] at q; cases q
      · rw [upd_ne z] at q; exact q
  refine ⟨e, by simp [s.len], s.nd, fun l' o' q => ?_, fun b q => ⟨fun z => (s.bl b q).1 (e.tr b z), (s.bl b q).2⟩, s.pin⟩
  by_cases hl : l' = l
  · subst hl
    have hs : l' < S.length := by
      have := (List.getElem?_eq_some_iff.mp q).1
      simpa using this
    rw [List.getElem?_set_self hs] at q
    cases q
    exact ⟨a, h, r _ e upd_same⟩
  · rw [List.getElem?_set_ne (fun z => hl z.symm)] at q
    obtain ⟨b, f, r'⟩ := s.ob l' o' q
    refine ⟨b, f, r'.ext e fun v z => ?_⟩
    rw [upd_ne]; exact z
    intro w
    rw [w] at f
    obtain ⟨h1, e1⟩ := List.getElem?_eq_some_iff.mp f
    obtain ⟨h2, e2⟩ := List.getElem?_eq_some_iff.mp h
    exact hl ((List.getElem_inj s.nd).mp (e1.trans e2.symm))
/-! a place that is being written at -/
mutual
theorem Rep.turn {f : Hp → Hp} (k : ∀ a u, ¬ ρ.has a → Rd H a u → Rd (f H) a u) : ∀ {d : D} {v : V}, Rep K ρ H d v → Rep K ρ (f H) d v
  | _, _, .non => .non
  | _, _, .bl b => .bl b
  | _, _, .int i => .int i
  | _, _, .str x => .str x
  | _, _, .tup (.inl ⟨h, n⟩) r => .tup (.inl ⟨k _ _ n h, n⟩) (Reps.turn k r)
  | _, _, .tup (.inr h) r => .tup (.inr h) (Reps.turn k r)
  | _, _, .lst (.inl ⟨h, n⟩) r => .lst (.inl ⟨k _ _ n h, n⟩) (Reps.turn k r)
  | _, _, .lst (.inr h) r => .lst (.inr h) (Reps.turn k r)
  | _, _, .ref h => .ref h
theorem Reps.turn {f : Hp → Hp} (k : ∀ a u, ¬ ρ.has a → Rd H a u → Rd (f H) a u) : ∀ {ds : List D} {vs : List V}, Reps K ρ H ds vs → Reps K ρ (f H) ds vs
  | _, _, .nil => .nil
  | _, _, .cons r t => .cons (Rep.turn k r) (Reps.turn k t)
end
mutual
theorem Rep.pl {σ : Pl} (hl : ∀ (i : Nat) (a : Addr), ρ.l[i]? = some a → σ.l[i]? = some a) (hb : ∀ a, σ.has a → ρ.has a ∨ H a = none) : ∀ {d : D} {v : V}, Rep K ρ H d v → Rep K σ H d v
  | _, _, .non => .non
  | _, _, .bl b => .bl b
  | _, _, .int i => .int i
  | _, _, .str x => .str x
  | _, _, .tup (.inl ⟨h, n⟩) r => .tup (.inl ⟨h, fun z => (hb _ z).elim n fun z => Rd.ne h z⟩) (Reps.pl hl hb r)
  | _, _, .tup (.inr h) r => .tup (.inr h) (Reps.pl hl hb r)
  | _, _, .lst (.inl ⟨h, n⟩) r => .lst (.inl ⟨h, fun z => (hb _ z).elim n fun z => Rd.ne h z⟩) (Reps.pl hl hb r)
  | _, _, .lst (.inr h) r => .lst (.inr h) (Reps.pl hl hb r)
  | _, _, .ref h => .ref (hl _ _ h)
theorem Reps.pl {σ : Pl} (hl : ∀ (i : Nat) (a : Addr), ρ.l[i]? = some a → σ.l[i]? = some a) (hb : ∀ a, σ.has a → ρ.has a ∨ H a = none) : ∀ {ds : List D} {vs : List V}, Reps K ρ H ds vs → Reps K σ H ds vs
  | _, _, .nil => .nil
  | _, _, .cons r t => .cons (Rep.pl hl hb r) (Reps.pl hl hb t)
end
theorem FReps.pl {κ : Type} {σ : Pl} (hl : ∀ (i : Nat) (a : Addr), ρ.l[i]? = some a → σ.l[i]? = some a) (hb : ∀ a, σ.has a → ρ.has a ∨ H a = none) : ∀ {ds : List (κ × D)} {vs : List (κ × V)}, FReps K ρ H ds vs → FReps K σ H ds vs
  | _, _, .nil => .nil
  | _, _, .cons r t => .cons (Rep.pl hl hb r) (FReps.pl hl hb t)
theorem FReps.turn {κ : Type} {f : Hp → Hp} (k : ∀ a u, ¬ ρ.has a → Rd H a u → Rd (f H) a u) : ∀ {ds : List (κ × D)} {vs : List (κ × V)}, FReps K ρ H ds vs → FReps K ρ (f H) ds vs
  | _, _, .nil => .nil
  | _, _, .cons r t => .cons (Rep.turn k r) (FReps.turn k t)
theorem ObR.pl {σ : Pl} (hl : ∀ (i : Nat) (a : Addr), ρ.l[i]? = some a → σ.l[i]? = some a) (hb : ∀ a, σ.has a → ρ.has a ∨ H a = none) {a : Addr} {o : Ob} (h : ObR K cA ρ H a o) : ObR K cA σ H a o := by
  cases o with
  | lst ds => obtain ⟨vs, q, r⟩ := h; exact ⟨vs, q, r.pl hl hb⟩
  | ins C fs => obtain ⟨dx, vs, q, r⟩ := h; exact ⟨dx, vs, q, r.pl hl hb⟩
  | dic kvs => obtain ⟨vs, q, r⟩ := h; exact ⟨vs, q, r.pl hl hb⟩
  | dead => exact h
theorem ObR.turn {f : Hp → Hp} (k : ∀ a u, ¬ ρ.has a → Rd H a u → Rd (f H) a u) {a : Addr} {o : Ob} (ha : ∀ u, H a = some u → f H a = some u) (h : ObR K cA ρ H a o) : ObR K cA ρ (f H) a o := by
  cases o with
  | lst ds => obtain ⟨vs, q, r⟩ := h; exact ⟨vs, ha _ q, r.turn k⟩
  | ins C fs => obtain ⟨dx, vs, q, r⟩ := h; exact ⟨dx, vs, ha _ q, r.turn k⟩
  | dic kvs => obtain ⟨vs, q, r⟩ := h; exact ⟨vs, ha _ q, r.turn k⟩
  | dead => obtain ⟨o, q⟩ := h; exact ⟨o, ha _ q⟩
def Pl.lock (ρ : Pl) (p : Addr) : Pl := ⟨ρ.l, p :: ρ.b, ρ.pin⟩
/-- a new place is taken for writing -/
theorem lock_new {S : Store} (s : StR K cA ρ H S) {p : Addr} {u : HO} (h : H p = none) : Ext ρ H (ρ.lock p) (upd H p u) ∧ StR K cA (ρ.lock p) (upd H p u) S := by
  obtain ⟨e0, s'⟩ := ext_new (u := u) s h
  have e : Ext ρ H (ρ.lock p) (upd H p u) := ⟨e0.pre, fun a q => List.mem_cons_of_mem _ q, fun a q => by
    rcases List.mem_cons.mp q with z | z
    · exact .inr (by rw [z]; exact h)
    · exact .inl z, e0.keep, e0.tr, e0.pn⟩
  refine ⟨e, s.len, s.nd, fun l o q => ?_, fun a q => ?_, s.pin⟩
  · obtain ⟨a, f, r⟩ := s.ob l o q
    exact ⟨a, f, r.ext e fun v z => by rw [upd_ne (ne_of_none z h)]; exact z⟩
  · rcases List.mem_cons.mp q with z | z
    · rw [z]
      exact ⟨by rw [upd_same]; simp, s.freshL h⟩
    · exact s'.bl a z
/-- what is written at such a place changes nothing else -/
theorem lock_turn {S : Store} {p : Addr} {u : HO} (s : StR K cA ρ H S) (hp : p ∈ ρ.b) : StR K cA ρ (upd H p u) S ∧ (∀ {d v}, Rep K ρ H d v → Rep K ρ (upd H p u) d v) ∧ (∀ {d v}, Reps K ρ H d v → Reps K ρ (upd H p u) d v) := by
  have k : ∀ a u', ¬ ρ.has a → Rd H a u' → Rd (upd H p u) a u' := fun a u' n q => by
    have z : a ≠ p := fun z => n (.inr (by rw [z]; exact hp))
    rcases q with q | ⟨o, q⟩
    · exact .inl (by rw [upd_ne z]; exact q)
    · exact .inr ⟨o, by rw [upd_ne z]; exact q⟩
  refine ⟨⟨s.len, s.nd, fun l o q => ?_, fun a q => ⟨fun z => ?_, (s.bl a q).2⟩, s.pin⟩, fun r => r.turn (f := fun H => upd H p u) k, fun r => r.turn (f := fun H => upd H p u) k⟩
  · obtain ⟨a, f, r⟩ := s.ob l o q
    refine ⟨a, f, r.turn (f := fun H => upd H p u) k fun v z => ?_⟩
    show upd H p u a = _
    rw [upd_ne]; exact z
    intro w
    exact (s.bl p hp).2 (by rw [← w]; exact List.mem_of_getElem? f)
  · by_cases w : a = p
    · rw [w, upd_same] at z; cases z
    · rw [upd_ne w] at z; exact (s.bl a q).1 z
/-- such a place is let go -/
def Pl.drop (ρ : Pl) (p : Addr) : Pl := ⟨ρ.l, ρ.b.filter fun a => decide (a ≠ p), ρ.pin⟩
theorem unlock {S : Store} {p : Addr} (s : StR K cA ρ H S) : StR K cA (ρ.drop p) H S ∧ (∀ {d v}, Rep K ρ H d v → Rep K (ρ.drop p) H d v) ∧ (∀ {d v}, Reps K ρ H d v → Reps K (ρ.drop p) H d v) := by
  have hb : ∀ a, (ρ.drop p).has a → ρ.has a ∨ H a = none := fun a q => .inl (q.elim .inl fun q => .inr (List.mem_filter.mp q).1)
  refine ⟨⟨s.len, s.nd, fun l o q => ?_, fun a q => s.bl a (List.mem_filter.mp q).1, s.pin⟩, fun r => Rep.pl (ρ := ρ) (σ := ρ.drop p) (fun _ _ h => h) hb r, fun r => Reps.pl (ρ := ρ) (σ := ρ.drop p) (fun _ _ h => h) hb r⟩
  obtain ⟨a, f, r⟩ := s.ob l o q
  exact ⟨a, f, ObR.pl (ρ := ρ) (σ := ρ.drop p) (fun _ _ h => h) hb r⟩
/-- .. as an object of the store -/
theorem unlock_keep {S : Store} {p : Addr} {o : Ob} (s : StR K cA ρ H S) (hp : p ∈ ρ.b) (r : ∀ ρ', (∀ {d v}, Reps K ρ H d v → Reps K ρ' H d v) → ObR K cA ρ' H p o) :
    StR K cA ((ρ.drop p).more p) H (S ++ [o]) ∧ ((ρ.drop p).more p).l[S.length]? = some p := by
  have hpl : p ∉ ρ.l := (s.bl p hp).2
  have hl : ∀ (i : Nat) (a : Addr), ρ.l[i]? = some a → ((ρ.drop p).more p).l[i]? = some a := fun i a h => by
    show (ρ.l ++ [p])[i]? = some a
    rw [List.getElem?_append_left (List.getElem?_eq_some_iff.mp h).1]; exact h
  have hb : ∀ a, ((ρ.drop p).more p).has a → ρ.has a ∨ H a = none := fun a q => .inl (by
    rcases q with q | q
    · rcases List.mem_append.mp q with z | z
      · exact .inl z
      · rw [List.mem_singleton.mp z]; exact .inr hp
    · exact .inr (List.mem_filter.mp q).1)
  have hlast : ((ρ.drop p).more p).l[S.length]? = some p := by
    show (ρ.l ++ [p])[S.length]? = some p
    rw [List.getElem?_append_right (by rw [s.len]; exact Nat.le_refl _), s.len, Nat.sub_self]; rfl
  refine ⟨⟨by show (ρ.l ++ [p]).length = _; simp [s.len], ?_, fun l o' q => ?_, fun a q => ?_, s.pin⟩, hlast⟩
  · show (ρ.l ++ [p]).Nodup
    rw [List.nodup_append]
    refine ⟨s.nd, by simp, fun a ha b hb z => ?_⟩
    rw [List.mem_singleton.mp hb] at z
    exact hpl (z ▸ ha)
  · by_cases hl' : l < S.length
    · rw [List.getElem?_append_left hl'] at q
      obtain ⟨a, f, r'⟩ := s.ob l o' q
      exact ⟨a, hl _ _ f, ObR.pl (ρ := ρ) hl hb r'⟩
    · rw [List.getElem?_append_right (Nat.le_of_not_lt hl')] at q
      have z : l - S.length = 0 := by
        have := (List.getElem?_eq_some_iff.mp q).1
        simp at this; omega
      rw [z] at q
      simp at q
      subst q
      have e : l = S.length := by omega
      rw [e]
      exact ⟨p, hlast, r _ fun r => Reps.pl (ρ := ρ) hl hb r⟩
  · have q := List.mem_filter.mp q
    refine ⟨(s.bl a q.1).1, fun z => ?_⟩
    rcases List.mem_append.mp z with z | z
    · exact (s.bl a q.1).2 z
    · exact of_decide_eq_true q.2 (List.mem_singleton.mp z)
theorem FReps.mapR {κ : Type} (f : ∀ {d v}, Rep K ρ H d v → Rep K ρ' H' d v) : ∀ {ds : List (κ × D)} {vs : List (κ × V)}, FReps K ρ H ds vs → FReps K ρ' H' ds vs
  | _, _, .nil => .nil
  | _, _, .cons r t => .cons (f r) (FReps.mapR f t)
theorem unlock_keepD {S : Store} {p : Addr} {kvs : List (L2.Key × D)} {ws : List (L2.Key × V)} (s : StR K cA ρ H S) (hp : p ∈ ρ.b) (hv : H p = some (.dK ws)) (rs : FReps K ρ H kvs ws) :
    StR K cA ((ρ.drop p).more p) H (S ++ [.dic kvs]) ∧ ((ρ.drop p).more p).l[S.length]? = some p := by
  have hpl : p ∉ ρ.l := (s.bl p hp).2
  have hl : ∀ (i : Nat) (a : Addr), ρ.l[i]? = some a → ((ρ.drop p).more p).l[i]? = some a := fun i a h => by
    show (ρ.l ++ [p])[i]? = some a
    rw [List.getElem?_append_left (List.getElem?_eq_some_iff.mp h).1]; exact h
  have hb : ∀ a, ((ρ.drop p).more p).has a → ρ.has a ∨ H a = none := fun a q => .inl (by
    rcases q with q | q
    · rcases List.mem_append.mp q with z | z
      · exact .inl z
      · rw [List.mem_singleton.mp z]; exact .inr hp
    · exact .inr (List.mem_filter.mp q).1)
  have hlast : ((ρ.drop p).more p).l[S.length]? = some p := by
    show (ρ.l ++ [p])[S.length]? = some p
    rw [List.getElem?_append_right (by rw [s.len]; exact Nat.le_refl _), s.len, Nat.sub_self]; rfl
  refine ⟨⟨by show (ρ.l ++ [p]).length = _; simp [s.len], ?_, fun l o' q => ?_, fun a q => ?_, s.pin⟩, hlast⟩
  · show (ρ.l ++ [p]).Nodup
    rw [List.nodup_append]
    refine ⟨s.nd, by simp, fun a ha b hb z => ?_⟩
    rw [List.mem_singleton.mp hb] at z
    exact hpl (z ▸ ha)
  · by_cases hl' : l < S.length
    · rw [List.getElem?_append_left hl'] at q
      obtain ⟨a, f, r'⟩ := s.ob l o' q
      exact ⟨a, hl _ _ f, ObR.pl (ρ := ρ) hl hb r'⟩
    · rw [List.getElem?_append_right (Nat.le_of_not_lt hl')] at q
      have z : l - S.length = 0 := by
        have := (List.getElem?_eq_some_iff.mp q).1
        simp at this; omega
      rw [z] at q
      simp at q
      subst q
      have e : l = S.length := by omega
      rw [e]
      exact ⟨p, hlast, ws, hv, FReps.pl (ρ := ρ) hl hb rs⟩
  · have q := List.mem_filter.mp q
    refine ⟨(s.bl a q.1).1, fun z => ?_⟩
    rcases List.mem_append.mp z with z | z
    · exact (s.bl a q.1).2 z
    · exact of_decide_eq_true q.2 (List.mem_singleton.mp z)
theorem Ext.drop {p : Addr} (e : Ext ρ H ρ' H') (h : p ∉ ρ.b) : Ext ρ H (ρ'.drop p) H' :=
  ⟨e.pre, fun a q => List.mem_filter.mpr ⟨e.lo a q, decide_eq_true fun z => h (by rw [← z]; exact q)⟩, fun a q => e.hi a (List.mem_filter.mp q).1, e.keep, e.tr, e.pn⟩
theorem Ext.turn {p : Addr} {u : HO} (e : Ext ρ H ρ' H') (h : H p = none) : Ext ρ H ρ' (upd H' p u) := by
  refine ⟨e.pre, e.lo, e.hi, fun a o n q => ?_, fun a q => ?_, e.pn⟩
  · rw [upd_ne (ne_of_none q h)]; exact e.keep a o n q
  · by_cases z : a = p
    · rw [z]; exact h
    · rw [upd_ne z] at q; exact e.tr a q

/-! ### the slots -/
variable (K) in
structure EnvR (ρ : Pl) (H : Hp) (σd : Env) (σ : L2.St) : Prop where
  len : σd.length = σ.length
  get : ∀ (i : Nat) (d : D), σd[i]? = some (some d) → ∃ v, σ[i]? = some (some v) ∧ Rep K ρ H d v
  pin : ∀ (i : Nat) (a : Addr), ρ.pin = some (i, a) → σ[i]? = some (some (.ref a))
theorem EnvR.ext {σd : Env} {σ : L2.St} (r : EnvR K ρ H σd σ) (e : Ext ρ H ρ' H') : EnvR K ρ' H' σd σ :=
  ⟨r.len, fun i d h => let ⟨v, h1, h2⟩ := r.get i d h; ⟨v, h1, h2.ext e⟩, fun i a h => r.pin i a (e.pn ▸ h)⟩
theorem EnvR.set {σd : Env} {σ : L2.St} {i : Nat} {d : D} {v : V} (r : EnvR K ρ H σd σ) (q : Rep K ρ H d v) (hp : ∀ a, ρ.pin ≠ some (i, a)) : EnvR K ρ H (σd.set i (some d)) (σ.set i (some v)) := by
  refine ⟨by simp [r.len], fun j e h => ?_, fun j a h => by rw [List.getElem?_set_ne (fun z => hp a (by rw [z]; exact h))]; exact r.pin j a h⟩
  by_cases hj : i = j
  · subst hj
    have hl : i < σd.length := by
      have := (List.getElem?_eq_some_iff.mp h).1
      simpa using this
    rw [List.getElem?_set_self hl] at h
    cases h
    exact ⟨v, by rw [List.getElem?_set_self (by rw [← r.len]; exact hl)], q⟩
  · rw [List.getElem?_set_ne hj] at h
    obtain ⟨w, h1, h2⟩ := r.get j e h
    exact ⟨w, by rw [List.getElem?_set_ne hj]; exact h1, h2⟩
theorem EnvR.setN {σd : Env} {σ : L2.St} {i : Nat} (r : EnvR K ρ H σd σ) (hp : ∀ a, ρ.pin ≠ some (i, a)) : EnvR K ρ H (σd.set i none) (σ.set i none) := by
  refine ⟨by simp [r.len], fun j e h => ?_, fun j a h => by rw [List.getElem?_set_ne (fun z => hp a (by rw [z]; exact h))]; exact r.pin j a h⟩
  by_cases hj : i = j
  · subst hj
    have hl : i < σd.length := by
      have := (List.getElem?_eq_some_iff.mp h).1
      simpa using this
    rw [List.getElem?_set_self hl] at h
    cases h
  · rw [List.getElem?_set_ne hj] at h
    obtain ⟨w, h1, h2⟩ := r.get j e h
    exact ⟨w, by rw [List.getElem?_set_ne hj]; exact h1, h2⟩
theorem EnvR.wipe {σd : Env} {σ : L2.St} (r : EnvR K ρ H σd σ) (hp : ρ.pin = none) : ∀ is : List Nat, EnvR K ρ H (wipeE σd is) (L2.wipe σ is)
  | [] => r
  | i :: is => (EnvR.wipe r hp is).setN (fun a z => by rw [hp] at z; cases z)
end

/-! ### the readings that the interpreter gives -/
section
variable (K : PySem.W.Frag) (cA : CA)
/-- what an outcome leaves to be wished -/
def tO {α β : Type} (W : WX) (σ : L2.St) (ρ : Pl) (H : Hp) (R : Pl → Hp → α → β → Prop) (r : Out α) (Q : β → Hp → Prop) : Prop := match r with
  | .ok d S' => ∀ ρ' H' v, Ext ρ H ρ' H' → StR K cA ρ' H' S' → R ρ' H' d v → Q v H'
  | .exc x S' => ∀ ρ' H', Ext ρ H ρ' H' → StR K cA ρ' H' S' → W (.ref (cA x)) none σ H'
  | .bad => False
def tX {α β : Type} (R : Pl → Hp → α → β → Prop) (W : WX) (f : Env → Store → Out α) : L2.St → Hp → (β → Hp → Prop) → Prop := fun σ H Q =>
  ∃ ρ σd S, EnvR K ρ H σd σ ∧ StR K cA ρ H S ∧ tO K cA W σ ρ H R (f σd S) Q
abbrev RB : Pl → Hp → Bool → Bool → Prop := fun _ _ a b => a = b
abbrev RI : Pl → Hp → Option Int → Option Int → Prop := fun _ _ a b => a = b
abbrev tE (W : WX) (f : Env → Store → Out D) : TE := tX K cA (Rep K) W f
abbrev tT (W : WX) (f : Env → Store → Out Bool) : TT := tX K cA RB W f
abbrev tAs (W : WX) (f : Env → Store → Out (List D)) : TA := tX K cA (Reps K) W f
abbrev tP (W : WX) (f : Env → Store → Out (Option Int)) : TO := tX K cA RI W f
end
section
variable {K : PySem.W.Frag} {cA : CA} {ρ ρ' ρ1 ρ2 : Pl} {H H' H1 H2 : Hp} {W : WX} {σ : L2.St} {α β γ δ : Type}
theorem tO.ext {R : Pl → Hp → α → β → Prop} {r : Out α} {Q : β → Hp → Prop} (e : Ext ρ H ρ' H') (h : tO K cA W σ ρ H R r Q) : tO K cA W σ ρ' H' R r Q := by
  cases r with
  | ok d S => exact fun ρ2 H2 v e2 => h ρ2 H2 v (e.trans e2)
  | exc x S => exact fun ρ2 H2 e2 => h ρ2 H2 (e.trans e2)
  | bad => exact h
theorem tO.post {R : Pl → Hp → α → β → Prop} {r : Out α} {Q Q' : β → Hp → Prop} (h : tO K cA W σ ρ H R r Q) (hq : ∀ v H, Q v H → Q' v H) : tO K cA W σ ρ H R r Q' := by
  cases r with
  | ok d S => exact fun ρ2 H2 v e2 s r => hq _ _ (h ρ2 H2 v e2 s r)
  | exc x S => exact h
  | bad => exact h
/-- one step of two -/
theorem tO.bind {R : Pl → Hp → α → β → Prop} {R1 : Pl → Hp → γ → δ → Prop} {r : Out γ} {g : γ → Store → Out α} {Q : β → Hp → Prop}
    (h : tO K cA W σ ρ H R (r.bind g) Q) :
    tO K cA W σ ρ H R1 r fun v H1 => ∃ ρ1 d S1, Ext ρ H ρ1 H1 ∧ StR K cA ρ1 H1 S1 ∧ R1 ρ1 H1 d v ∧ tO K cA W σ ρ1 H1 R (g d S1) Q := by
  cases r with
  | ok d S => exact fun ρ1 H1 v e s r => ⟨ρ1, d, S, e, s, r, h.ext e⟩
  | exc x S => exact h
  | bad => exact h
theorem tO.ofO {R : Pl → Hp → α → β → Prop} {S : Store} {o : Option α} {Q : β → Hp → Prop} (h : tO K cA W σ ρ H R (_root_.Q.ofO S o) Q) : ∃ d, o = some d ∧ ∀ ρ' H' v, Ext ρ H ρ' H' → StR K cA ρ' H' S → R ρ' H' d v → Q v H' := by
  cases o with
  | none => exact h.elim
  | some d => exact ⟨d, rfl, h⟩
theorem tO.ofP {R : Pl → Hp → α → β → Prop} {o : Option (α × Store)} {Q : β → Hp → Prop} (h : tO K cA W σ ρ H R (_root_.Q.ofP o) Q) : ∃ d S', o = some (d, S') ∧ ∀ ρ' H' v, Ext ρ H ρ' H' → StR K cA ρ' H' S' → R ρ' H' d v → Q v H' := by
  cases o with
  | none => exact h.elim
  | some p => exact ⟨p.1, p.2, rfl, h⟩
end
end Q
/-! Q3: each operation on plain data is HandS's. -/
namespace Q
open PySem PySem.Spec PyProof.Rows L2

/-! ### two rules that want a wider reading: list + list where one may be locked -/
section
variable {X : Cx} {pins : List (Addr × Obj)} {σ : L2.St} {H : Hp} {s : Shared}
def rCatR (K : PySem.W.Frag) : R2 := fun x y H Q => ∃ l b xs zs, x = .ref l ∧ y = .ref b ∧ SqL K H l xs ∧ SqL K H b zs ∧ xs.length + zs.length ≤ sizeLine ∧ ∀ p, H p = none → Q (.ref p) (upd H p (.lst (xs ++ zs)))
theorem op_catR : OpR X (binaryOp .Add) (rCatR X.K) := by
  intro pins s σ H x y v u Q I rx ry h
  obtain ⟨l, b, xs, zs, rfl, rfl, hH, hB, hz, q⟩ := h
  cases rx
  cases ry
  obtain ⟨its, r, ⟨⟨cls, dd, data, sl⟩, n, ho, hc, _, hd⟩, _⟩ := I.list hH
  obtain ⟨its2, r2, ⟨⟨cls2, dd2, data2, sl2⟩, n2, ho2, hc2, _, hd2⟩, _⟩ := I.list hB
  simp only at hc hd hc2 hd2
  subst hc hd hc2 hd2
  refine PySem.concat_meets ⟨_, ho, rfl⟩ ⟨_, ho2, rfl⟩ PySem.noFill_list_add PySem.seq_list_add PySem.F.slot_list_add PySem.F.entry_list_add (PySem.F.args_list_add_2 _ _) (list_addW l b its.toArray its2.toArray n n2 dd dd2 sl sl2 (by rw [List.size_toArray, List.size_toArray, ← r.length, ← r2.length]; exact hz)) ⟨ho, ho2, ?_⟩
  have ea : its.toArray ++ its2.toArray = (its ++ its2).toArray := by simp
  rw [ea]
  exact ⟨.ref _, _, I.lnew (t' := s.toks) (r.append r2) (by rw [List.length_append]; omega), rfl, q _ I.fresh⟩
end

section
variable {X : Cx} {cA : CA} {ρ : Pl} {H : Hp} {S : Store}
/-- what an operation may suppose: d comes out, the store is S' -/
abbrev Kon (K : PySem.W.Frag) (cA : CA) (ρ : Pl) (H : Hp) (S' : Store) (d : D) (Q : VK) : Prop := ∀ ρ' H' v, Ext ρ H ρ' H' → StR K cA ρ' H' S' → Rep K ρ' H' d v → Q v H'
variable {K : PySem.W.Frag}

theorem line_eq : (sizeLine : Nat) = 16777216 := sizeLine_eq

/-- a list or a tuple, read -/
theorem seqL_at (st : StR K cA ρ H S) {d : D} {xs : List D} {v : V} (r : Rep K ρ H d v) (h : seqL S d = some xs) : ∃ a vs, v = .ref a ∧ SqL K H a vs ∧ Reps K ρ H xs vs := by
  cases r with
  | lst at_ rs =>
    rename_i ds a vs
    have e : ds = xs := Option.some.inj h
    subst e
    exact ⟨a, vs, rfl, at_.sq, rs⟩
  | ref e =>
    rename_i l a
    have h' : (match S[l]? with | some (.lst xs) => some xs | _ => none) = some xs := h
    cases q : S[l]? with
    | none => rw [q] at h'; cases h'
    | some o =>
      rw [q] at h'
      cases o with
      | lst ys =>
        have z : ys = xs := Option.some.inj h'
        subst z
        obtain ⟨vs, e1, e2⟩ := st.at q e
        exact ⟨a, vs, rfl, .inl (.inl e1), e2⟩
      | ins => cases h'
      | dic => cases h'
      | dead => cases h'
  | non => cases h
  | bl => cases h
  | int => cases h
  | str => cases h
  | tup => cases h
theorem seqL_sq (st : StR K cA ρ H S) {d : D} {xs : List D} {v : V} (r : Rep K ρ H d v) (h : seqL S d = some xs) : ∃ a vs, v = .ref a ∧ SqL K H a vs ∧ Reps K ρ H xs vs := by
  exact seqL_at st r h
theorem seqO_sq (st : StR K cA ρ H S) {d : D} {xs : List D} {v : V} (r : Rep K ρ H d v) (h : seqO S d = some xs) : ∃ a vs, v = .ref a ∧ (SqL K H a vs ∨ SqT K H a vs) ∧ Reps K ρ H xs vs := by
  cases d with
  | tup ds =>
    cases r with
    | tup at_ rs =>
      rename_i a vs
      have e : ds = xs := Option.some.inj h
      subst e
      exact ⟨a, vs, rfl, .inr at_.sq, rs⟩
  | _ =>
    obtain ⟨a, vs, e, q, rs⟩ := seqL_sq st r (show seqL S _ = some xs from h)
    exact ⟨a, vs, e, .inl q, rs⟩
theorem reps_nil {vs : List V} (r : Reps K ρ H [] vs) : vs = [] := by cases r; rfl
theorem reps_empty {ds : List D} {vs : List V} (r : Reps K ρ H ds vs) : vs.isEmpty = ds.isEmpty := by cases r <;> rfl

theorem tru_rep (st : StR K cA ρ H S) {d : D} {v : V} {k : Bool} (r : Rep K ρ H d v) (h : truth S d = some k) : TruV K v H k := by
  cases r with
  | non => exact (Option.some.inj h).symm
  | bl b => exact (Option.some.inj h).symm
  | int i => exact (Option.some.inj h).symm
  | str x =>
    have h' : (if x.length ≤ 16777216 then some ((x.length : Int) != 0) else none) = some k := h
    split at h'
    · rename_i hl
      exact ⟨by rw [line_eq]; exact hl, (Option.some.inj h').symm⟩
    · cases h'
  | tup at_ rs =>
    rename_i ds a vs
    have e : (!ds.isEmpty) = k := Option.some.inj h
    exact .inr (.inl ⟨vs, at_.sq, by rw [reps_empty rs]; exact e.symm⟩)
  | lst at_ rs =>
    rename_i ds a vs
    have e : (!ds.isEmpty) = k := Option.some.inj h
    exact .inl ⟨vs, at_.sq, by rw [reps_empty rs]; exact e.symm⟩
  | ref e =>
    rename_i l a
    have h' : (match seqO S (.ref l) with | some xs => some (!xs.isEmpty) | none => none) = some k := h
    cases q : seqO S (.ref l) with
    | none => rw [q] at h'; cases h'
    | some xs =>
      rw [q] at h'
      have e' : (!xs.isEmpty) = k := Option.some.inj h'
      obtain ⟨b, vs, ev, sq, rs⟩ := seqL_sq st (Rep.ref e) (show seqL S (.ref l) = some xs from q)
      cases ev
      exact .inl ⟨vs, sq, by rw [reps_empty rs]; exact e'.symm⟩

/-- a new tuple, a new list as values -/
theorem kon_tup {ds : List D} {vs : List V} {Q : VK} (st : StR K cA ρ H S) (k : Kon K cA ρ H S (.tup ds) Q) (rs : Reps K ρ H ds vs) : ∀ p, H p = none → Q (.ref p) (upd H p (.tup vs)) := fun p hp => by
  obtain ⟨e, s⟩ := ext_new (u := .tup vs) st hp
  exact k _ _ _ e s (.tup (.inl ⟨.inl upd_same, st.fresh hp⟩) (rs.ext e))
theorem kon_lst {ds : List D} {vs : List V} {Q : VK} (st : StR K cA ρ H S) (k : Kon K cA ρ H S (.lst ds) Q) (rs : Reps K ρ H ds vs) : ∀ p, H p = none → Q (.ref p) (upd H p (.lst vs)) := fun p hp => by
  obtain ⟨e, s⟩ := ext_new (u := .lst vs) st hp
  exact k _ _ _ e s (.lst (.inl ⟨.inl upd_same, st.fresh hp⟩) (rs.ext e))
theorem kon_here {d : D} {v : V} {Q : VK} (st : StR K cA ρ H S) (k : Kon K cA ρ H S d Q) (r : Rep K ρ H d v) : Q v H := k _ _ _ Ext.refl st r
/-- a new list in the store -/
theorem kon_ref {ds : List D} {vs : List V} {Q : VK} (st : StR K cA ρ H S) (k : Kon K cA ρ H (S ++ [.lst ds]) (.ref S.length) Q) (rs : Reps K ρ H ds vs) : ∀ p, H p = none → Q (.ref p) (upd H p (.lst vs)) := fun p hp => by
  obtain ⟨e, s⟩ := ext_alloc (u := .lst vs) (o := .lst ds) st hp fun ρ' H' e' q => ⟨vs, q, rs.ext e'⟩
  exact k _ _ _ e s (.ref (by show (ρ.l ++ [p])[S.length]? = some p; rw [List.getElem?_append_right (by rw [st.len]; exact Nat.le_refl _), st.len, Nat.sub_self]; rfl))

theorem Reps.times {ρ : Pl} {H : Hp} {ds : List D} {vs : List V} (r : Reps K ρ H ds vs) : ∀ m : Nat, Reps K ρ H (List.replicate m ds).flatten (List.replicate m vs).flatten
  | 0 => .nil
  | m + 1 => by rw [List.replicate_succ, List.replicate_succ, List.flatten_cons, List.flatten_cons]; exact r.append (Reps.times r m)
/-! ### operators -/
def rAdd (K : PySem.W.Frag) : R2 := fun x y H Q => rI0 (fun i j => .int (i + j)) x y H Q ∨ ((∃ i j, x = .str i ∧ y = .str j ∧ i.length + j.length ≤ sizeLine ∧ Q (.str (i ++ j)) H) ∨ (rCatA K x y H Q ∨ rCatR K x y H Q))
theorem op_addAll : OpR X (binaryOp .Add) (rAdd X.K) := OpR.or op_add (OpR.or op_add_str (OpR.or op_catA op_catR))
def rMult (K : PySem.W.Frag) : R2 := fun x y H Q => rI CMulW (fun i j => .int (i * j)) x y H Q ∨ (rMulS x y H Q ∨ (rMulT K x y H Q ∨ rMulL K x y H Q))
theorem op_mulAll : OpR X (binaryOp .Mult) (rMult X.K) := OpR.or op_mulW (OpR.or op_mulS (OpR.or op_mulT op_mulL))
def rOf (K : PySem.W.Frag) : Operator → R2
  | .Add => rAdd K
  | .Sub => rI0 fun i j => .int (i - j)
  | .Mult => rMult K
  | .FloorDiv => rI CDivW fun i j => .int (i / j)
  | .Mod => rI (fun _ j => 0 < j) fun i j => .int (i % j)
  | .Pow => rI CPow fun i j => .int (i ^ j.toNat)
  | .LShift => rI CShl fun i j => .int (i * 2 ^ j.toNat)
  | .RShift => rI (fun _ j => 0 ≤ j) fun i j => .int (i / 2 ^ j.toNat)
  | .BitAnd => rI0 fun i j => .int (Builtin.bitAnd i j)
  | _ => fun _ _ _ _ => False
theorem op_of (op : Operator) : OpR X (binaryOp op) (rOf X.K op) := by
  cases op with
  | Add => exact op_addAll
  | Sub => exact op_sub
  | Mult => exact op_mulAll
  | FloorDiv => exact op_fdivW
  | Mod => exact op_mod
  | Pow => exact op_pow
  | LShift => exact op_shlW
  | RShift => exact op_shr
  | BitAnd => exact op_and
  | _ => exact fun pins s σ H x y v u Q I rx ry h => h.elim
theorem arith_of {op : Operator} {i j n : Int} {Q : VK} (h : arith op i j = some n) (q : Q (.int n) H) : rOf K op (.int i) (.int j) H Q := by
  cases op with
  | Add => cases h; exact .inl ⟨i, j, rfl, rfl, q⟩
  | Sub => cases h; exact ⟨i, j, rfl, rfl, q⟩
  | BitAnd => cases h; exact ⟨i, j, rfl, rfl, q⟩
  | Mult =>
    simp only [arith] at h
    split at h <;> cases h
    rename_i c; exact .inl ⟨i, j, rfl, rfl, c, q⟩
  | FloorDiv =>
    simp only [arith] at h
    split at h <;> cases h
    rename_i c; exact ⟨i, j, rfl, rfl, c, q⟩
  | Mod =>
    simp only [arith] at h
    split at h <;> cases h
    rename_i c; exact ⟨i, j, rfl, rfl, c, q⟩
  | Pow =>
    simp only [arith] at h
    split at h <;> cases h
    rename_i c; exact ⟨i, j, rfl, rfl, c, q⟩
  | LShift =>
    simp only [arith] at h
    split at h <;> cases h
    rename_i c; exact ⟨i, j, rfl, rfl, c, q⟩
  | RShift =>
    simp only [arith] at h
    split at h <;> cases h
    rename_i c; exact ⟨i, j, rfl, rfl, c, q⟩
  | _ => cases h
theorem bin_of (st : StR K cA ρ H S) {op : Operator} {x y d : D} {vx vy : V} {Q : VK} (rx : Rep K ρ H x vx) (ry : Rep K ρ H y vy) (h : binD S op x y = some d) (k : Kon K cA ρ H S d Q) : rOf K op vx vy H Q := by
  have lists : catD S op x y = some d → rOf K op vx vy H Q := by
    intro h
    cases op with
    | Add =>
      simp only [catD] at h
      cases e1 : seqL S x with
      | none => rw [e1] at h; cases h
      | some xs =>
        cases e2 : seqL S y with
        | none => rw [e1, e2] at h; cases h
        | some ys =>
          rw [e1, e2] at h
          simp only at h
          split at h <;> cases h
          rename_i c
          obtain ⟨a, vs, rfl, ha, ra⟩ := seqL_at st rx e1
          obtain ⟨b, ws, rfl, hb, rb⟩ := seqL_at st ry e2
          exact .inr (.inr (.inr ⟨a, b, vs, ws, rfl, rfl, ha, hb, by rw [line_eq, ← ra.length, ← rb.length]; exact c.2.2, kon_lst st k (ra.append rb)⟩))
    | Mult =>
      simp only [catD] at h
      cases e1 : seqL S x with
      | none => rw [e1] at h; cases h
      | some xs =>
        rw [e1] at h
        cases ry with
        | int n =>
          simp only at h
          split at h <;> cases h
          rename_i c
          obtain ⟨a, vs, rfl, ha, ra⟩ := seqL_at st rx e1
          exact .inr (.inr (.inr ⟨a, n, vs, rfl, rfl, ha, c.1, c.2.1, by rw [← ra.length]; exact c.2.2, kon_lst st k (ra.times n.toNat)⟩))
        | _ => cases h
    | _ => cases h
  cases rx with
  | int i =>
    cases ry with
    | int j =>
      simp only [binD] at h
      cases e : arith op i j with
      | none => rw [e] at h; cases h
      | some n =>
        rw [e] at h; cases h
        exact arith_of e (kon_here st k (.int n))
    | _ => exact lists h
  | str a =>
    cases ry with
    | str b =>
      simp only [binD] at h
      cases op with
      | Add =>
        simp only at h
        split at h <;> cases h
        rename_i c
        exact .inr (.inl ⟨a, b, rfl, rfl, by rw [line_eq]; exact c, kon_here st k (.str _)⟩)
      | _ => cases h
    | int n =>
      simp only [binD] at h
      cases op with
      | Mult =>
        simp only at h
        split at h <;> cases h
        rename_i c
        exact .inr (.inl ⟨a, n, rfl, rfl, c.1, c.2.1, c.2.2, kon_here st k (.str _)⟩)
      | _ => cases h
    | _ => exact lists h
  | tup at_ rs =>
    rename_i xs a vs
    cases ry with
    | int n =>
      simp only [binD] at h
      cases op with
      | Mult =>
        simp only at h
        split at h <;> cases h
        rename_i c
        refine .inr (.inr (.inl ⟨a, n, vs, rfl, rfl, at_.sq, c.1, c.2.1, by rw [← rs.length]; exact c.2.2, fun e => ?_, fun _ => kon_tup st k (rs.times n.toNat)⟩))
        have e2 : (List.replicate n.toNat xs).flatten = xs := by
          rcases e with e | e
          · rw [e]; simp
          · subst e
            cases rs
            simp
        rw [e2] at k
        exact kon_here st k (.tup at_ rs)
      | _ => cases h
    | tup at2 rs2 =>
      rename_i ys b ws
      simp only [binD] at h
      cases op with
      | Add =>
        simp only at h
        split at h <;> cases h
        rename_i c
        refine .inr (.inr (.inl ⟨a, b, vs, ws, rfl, rfl, at_.sq, at2.sq, by rw [line_eq, ← rs.length, ← rs2.length]; exact c, fun e => ?_, fun _ e => ?_, fun _ _ => kon_tup st k (rs.append rs2)⟩))
        · subst e
          cases rs
          exact kon_here st k (.tup at2 rs2)
        · subst e
          cases rs2
          rw [List.append_nil] at k
          exact kon_here st k (.tup at_ rs)
      | _ => cases h
    | _ => exact lists h
  | _ => exact lists h

/-! ### comparisons -/
mutual
theorem toPy_dp : ∀ {d : D} {v : V} {p : PyData}, Rep K ρ H d v → toPy d = some p → Dp K H v p
  | _, _, _, .non, h => by cases h; exact .non
  | _, _, _, .bl b, h => by cases h; exact .bl b
  | _, _, _, .int i, h => by cases h; exact .int i
  | _, _, _, .str x, h => by cases h; exact .str x
  | _, _, p, .tup (ds := ds) at_ rs, h => by
    simp only [toPy] at h
    cases e : toPys ds with
    | none => rw [e] at h; cases h
    | some ys => rw [e] at h; cases h; exact .tup at_.sq (toPys_dp rs e)
  | _, _, p, .lst (ds := ds) at_ rs, h => by
    simp only [toPy] at h
    cases e : toPys ds with
    | none => rw [e] at h; cases h
    | some ys => rw [e] at h; cases h; exact .lst at_.sq (toPys_dp rs e)
  | _, _, _, .ref _, h => by cases h
theorem toPys_dp : ∀ {ds : List D} {vs : List V} {ps : List PyData}, Reps K ρ H ds vs → toPys ds = some ps → DpAll K H vs ps
  | _, _, _, .nil, h => by cases h; exact .nil
  | _, _, ps, .cons (d := d) (ds := ds) r rs, h => by
    simp only [toPys] at h
    cases e1 : toPy d with
    | none => rw [e1] at h; cases h
    | some y =>
      cases e2 : toPys ds with
      | none => rw [e1, e2] at h; cases h
      | some ys => rw [e1, e2] at h; cases h; exact .cons (toPy_dp r e1) (toPys_dp rs e2)
end
theorem dpAll_res (n : Nat) (ih : ∀ {d : D} {v : V} {p : PyData}, Rep K ρ H d v → toPy (res n S d) = some p → Dp K H v p) : ∀ {ds : List D} {vs : List V} {ps : List PyData}, Reps K ρ H ds vs → toPys (ds.map (res n S)) = some ps → DpAll K H vs ps
  | _, _, _, .nil, h => by cases h; exact .nil
  | _, _, ps, .cons (d := d) (ds := ds) r rs, h => by
    simp only [List.map_cons, toPys] at h
    cases e1 : toPy (res n S d) with
    | none => rw [e1] at h; cases h
    | some y =>
      cases e2 : toPys (ds.map (res n S)) with
      | none => rw [e1, e2] at h; cases h
      | some ys => rw [e1, e2] at h; cases h; exact .cons (ih r e1) (dpAll_res n ih rs e2)
theorem res_dp (st : StR K cA ρ H S) : ∀ (n : Nat) {d : D} {v : V} {p : PyData}, Rep K ρ H d v → toPy (res n S d) = some p → Dp K H v p
  | 0, d, v, p, r, h => toPy_dp r h
  | n + 1, d, v, p, r, h => by
    cases r with
    | ref e =>
      rename_i l a
      cases q : S[l]? with
      | none => rw [res, q] at h; cases h
      | some o =>
        rw [res, q] at h
        cases o with
        | lst xs =>
          simp only [toPy] at h
          cases e2 : toPys (xs.map (res n S)) with
          | none => rw [e2] at h; cases h
          | some ys =>
            rw [e2] at h; cases h
            obtain ⟨vs, e3, rs⟩ := st.at q e
            exact .lst (.inl (.inl e3)) (dpAll_res n (res_dp st n) rs e2)
        | ins => cases h
        | dic => cases h
        | dead => cases h
    | tup at_ rs =>
      rename_i ds a vs
      simp only [res, toPy] at h
      cases e : toPys (ds.map (res n S)) with
      | none => rw [e] at h; cases h
      | some ys => rw [e] at h; cases h; exact .tup at_.sq (dpAll_res n (res_dp st n) rs e)
    | lst at_ rs =>
      rename_i ds a vs
      simp only [res, toPy] at h
      cases e : toPys (ds.map (res n S)) with
      | none => rw [e] at h; cases h
      | some ys => rw [e] at h; cases h; exact .lst at_.sq (dpAll_res n (res_dp st n) rs e)
    | non => exact toPy_dp (ρ := ρ) .non h
    | bl b => exact toPy_dp (ρ := ρ) (.bl b) h
    | int b => exact toPy_dp (ρ := ρ) (.int b) h
    | str b => exact toPy_dp (ρ := ρ) (.str b) h
theorem toPyS_dp (st : StR K cA ρ H S) {d : D} {v : V} {p : PyData} (r : Rep K ρ H d v) (h : toPyS S d = some p) : Dp K H v p := res_dp st 8 r h
theorem eqD_of (st : StR K cA ρ H S) {x y : D} {vx vy : V} {b : Bool} (rx : Rep K ρ H x vx) (ry : Rep K ρ H y vy) (h : eqD S x y = some b) :
    (∃ d e, Dp K H vx d ∧ Dp K H vy e ∧ SeqAt.shaped d = true ∧ SeqAt.shaped e = true ∧ b = PyData.eqv d e) ∨
    (∃ a a' xs ys, vx = .ref a ∧ vy = .ref a' ∧ SqL K H a xs ∧ SqL K H a' ys ∧ xs.length ≠ ys.length ∧ b = false) := by
  have two : (match seqL S x, seqL S y with | some xs, some ys => if xs.length = ys.length then none else some false | _, _ => none) = some b →
      (∃ a a' xs ys, vx = .ref a ∧ vy = .ref a' ∧ SqL K H a xs ∧ SqL K H a' ys ∧ xs.length ≠ ys.length ∧ b = false) := fun h => by
    cases e1 : seqL S x with
    | none => rw [e1] at h; cases h
    | some xs =>
      cases e2 : seqL S y with
      | none => rw [e1, e2] at h; cases h
      | some ys =>
        rw [e1, e2] at h
        simp only at h
        split at h <;> cases h
        rename_i c
        obtain ⟨a, vs, rfl, q1, r1⟩ := seqL_at st rx e1
        obtain ⟨a', us, rfl, q2, r2⟩ := seqL_at st ry e2
        exact ⟨a, a', vs, us, rfl, rfl, q1, q2, by rw [← r1.length, ← r2.length]; exact c, rfl⟩
  unfold eqD at h
  cases e1 : toPyS S x with
  | none => rw [e1] at h; exact .inr (two h)
  | some p =>
    cases e2 : toPyS S y with
    | none => rw [e1, e2] at h; exact .inr (two h)
    | some q =>
      rw [e1, e2] at h
      simp only at h
      split at h <;> cases h
      rename_i c
      exact .inl ⟨p, q, toPyS_dp st rx e1, toPyS_dp st ry e2, c.1, c.2, rfl⟩
/-- the comparisons' rules -/
def cOf (K : PySem.W.Frag) : CmpOp → R2
  | .Eq => fun x y H Q => rEqD K x y H Q ∨ rLnD K false x y H Q
  | .NotEq => fun x y H Q => rNeD K x y H Q ∨ rLnD K true x y H Q
  | .Lt => fun x y H Q => rI0 (fun i j => .bl (decide (i < j))) x y H Q ∨ ∃ i j, x = .str i ∧ y = .str j ∧ Q (.bl (decide (i.cps.toList < j.cps.toList))) H
  | .LtE => rI0 fun i j => .bl (decide (i ≤ j))
  | .Gt => fun x y H Q => rI0 (fun i j => .bl (decide (j < i))) x y H Q ∨ ∃ i j, x = .str i ∧ y = .str j ∧ Q (.bl (decide (j.cps.toList < i.cps.toList))) H
  | .GtE => rI0 fun i j => .bl (decide (j ≤ i))
  | .Is => fun x y H Q => rIsB x y H Q ∨ (y = .non ∧ Q (.bl (decide (x = .non))) H)
  | .IsNot => fun x y H Q => rNotB x y H Q ∨ (y = .non ∧ Q (.bl (!decide (x = .non))) H)
  | .In => fun x y H Q => (∃ i j, x = .str i ∧ y = .str j ∧ Q (.bl (!(Builtin.Str.occurrences j i 0 j.length 1).isEmpty)) H) ∨ (rInD K x y H Q ∨ (rInT K false x y H Q ∨ rInK false x y H Q))
  | .NotIn => fun x y H Q => (∃ i j, x = .str i ∧ y = .str j ∧ Q (.bl (!(!(Builtin.Str.occurrences j i 0 j.length 1).isEmpty))) H) ∨ (rNotInD K x y H Q ∨ (rInT K true x y H Q ∨ rInK true x y H Q))
theorem cmp_of (hu : X.A.units + 65 < cLine) (op : CmpOp) : OpR X (compareOp op) (cOf X.K op) := by
  cases op with
  | Eq => exact OpR.or (op_eqD (by omega)) (op_eqLn (by omega))
  | NotEq => exact OpR.or (op_neD (by omega)) (op_neLn (by omega))
  | Lt => exact OpR.or op_lt op_lt_str
  | LtE => exact op_le
  | Gt => exact OpR.or op_gt op_gt_str
  | GtE => exact op_ge
  | Is => exact OpR.or op_isBl op_isN
  | IsNot => exact OpR.or op_notBl op_notN
  | In => exact OpR.or op_in_str (OpR.or (op_inD hu) (OpR.or (op_inT hu) (op_inK hu)))
  | NotIn => exact OpR.or op_notin_str (OpR.or (op_notInD hu) (OpR.or (op_ninT hu) (op_ninK hu)))
theorem is_of {x y : D} {vx vy : V} {b : Bool} (rx : Rep K ρ H x vx) (ry : Rep K ρ H y vy) (h : isD x y = some b) : (∃ k l : Bool, vx = .bl k ∧ vy = .bl l ∧ b = decide (k = l)) ∨ (vy = .non ∧ b = decide (vx = .non)) := by
  cases ry with
  | bl l =>
    cases rx with
    | bl k => cases h; exact .inl ⟨k, l, rfl, rfl, rfl⟩
    | _ => cases h
  | non => cases rx <;> cases h <;> exact .inr ⟨rfl, by simp⟩
  | _ => cases rx <;> cases h
/-! dicts -/
theorem FReps.val {kvs : List (L2.Key × D)} {vs : List (L2.Key × V)} (r : FReps K ρ H kvs vs) (k : L2.Key) : (valG kvs k).isSome = (valV vs k).isSome ∧ ∀ d, valG kvs k = some d → ∃ v, valV vs k = some v ∧ Rep K ρ H d v := by
  induction r with
  | nil => exact ⟨rfl, fun d h => by cases h⟩
  | @cons k' d v ds vs rd rs ih =>
    by_cases c : k' = k
    · have e1 : valG ((k', d) :: ds) k = some d := by unfold valG; rw [List.find?_cons, decide_eq_true (show (k', d).1 = k from c)]; rfl
      have e2 : valV ((k', v) :: vs) k = some v := valV_pos (p := (k', v)) c
      rw [e1, e2]
      exact ⟨rfl, fun d' h => by cases h; exact ⟨v, rfl, rd⟩⟩
    · have e1 : valG ((k', d) :: ds) k = valG ds k := by unfold valG; rw [List.find?_cons, decide_eq_false (show ¬ (k', d).1 = k from c)]
      have e2 : valV ((k', v) :: vs) k = valV vs k := valV_neg (p := (k', v)) c
      rw [e1, e2]
      exact ih
theorem keyD_rep {d : D} {v : V} {k : L2.Key} (r : Rep K ρ H d v) (h : keyD d = some k) : v = kV k := by
  cases r <;> cases h <;> rfl
theorem dicOf_at (st : StR K cA ρ H S) {d : D} {v : V} {kvs : List (L2.Key × D)} (r : Rep K ρ H d v) (h : dicOf S d = some kvs) : ∃ l a vs, d = .ref l ∧ v = .ref a ∧ S[l]? = some (.dic kvs) ∧ ρ.l[l]? = some a ∧ H a = some (.dK vs) ∧ FReps K ρ H kvs vs := by
  cases r with
  | ref e =>
    rename_i l a
    have h' : (match S[l]? with | some (.dic kvs) => some kvs | _ => none) = some kvs := h
    cases q : S[l]? with
    | none => rw [q] at h'; cases h'
    | some o =>
      rw [q] at h'
      cases o with
      | dic ks =>
        cases h'
        obtain ⟨vs, e1, e2⟩ := st.at q e
        exact ⟨l, a, vs, rfl, rfl, q, e, e1, e2⟩
      | ins => cases h'
      | lst => cases h'
      | dead => cases h'
  | non => cases h
  | bl => cases h
  | int => cases h
  | str => cases h
  | tup => cases h
  | lst => cases h
def InWay (K : PySem.W.Frag) (H : Hp) (vx vy : V) (b : Bool) : Prop :=
    (∃ i j, vx = .str i ∧ vy = .str j ∧ b = !(Builtin.Str.occurrences j i 0 j.length 1).isEmpty) ∨
    (∃ d ds, Dp K H vx d ∧ Dp K H vy (.list ds) ∧ SeqAt.shaped d = true ∧ SeqAt.shaped (.list ds) = true ∧ b = ds.any fun z => PyData.eqv z d) ∨
    (∃ d ds, Dp K H vx d ∧ Dp K H vy (.tuple ds) ∧ SeqAt.shaped d = true ∧ SeqAt.shaped (.tuple ds) = true ∧ b = ds.any fun z => PyData.eqv z d) ∨
    (∃ a o, vy = .ref a ∧ DGet H a vx o ∧ b = o.isSome)
/-- what comes of x in y -/
theorem in_of (st : StR K cA ρ H S) {x y : D} {vx vy : V} {b : Bool} (rx : Rep K ρ H x vx) (ry : Rep K ρ H y vy) (h : inD S x y = some b) :
    InWay K H vx vy b := by
  have objs : inObj S x y = some b → InWay K H vx vy b := fun h => by
    unfold inObj at h
    cases e : dicOf S y with
    | some kvs =>
      rw [e] at h
      simp only at h
      cases e2 : keyD x with
      | none => rw [e2] at h; cases h
      | some k =>
        rw [e2] at h; cases h
        obtain ⟨l, a, vs, rfl, rfl, _, _, e3, r3⟩ := dicOf_at st ry e
        rw [keyD_rep rx e2]
        exact .inr (.inr (.inr ⟨a, _, rfl, DGet.k e3, (r3.val k).1⟩))
    | none =>
      rw [e] at h
      have h : inSeq S x y = some b := h
      unfold inSeq at h
      cases e1 : toPyS S x with
      | none => rw [e1] at h; cases h
      | some p =>
        cases e2 : toPyS S y with
        | none => rw [e1, e2] at h; cases h
        | some q =>
          rw [e1, e2] at h
          cases q with
          | list bs =>
            simp only at h
            split at h
            case isFalse => cases h
            rename_i c
            cases h
            exact .inr (.inl ⟨p, bs, toPyS_dp st rx e1, toPyS_dp st ry e2, c.1, c.2, rfl⟩)
          | tuple bs =>
            simp only at h
            split at h
            case isFalse => cases h
            rename_i c
            cases h
            exact .inr (.inr (.inl ⟨p, bs, toPyS_dp st rx e1, toPyS_dp st ry e2, c.1, c.2, rfl⟩))
          | _ => cases h
  cases rx with
  | str i =>
    cases ry with
    | str j => cases h; exact .inl ⟨i, j, rfl, rfl, rfl⟩
    | _ => exact objs h
  | _ => exact objs h
theorem cmpr_of (st : StR K cA ρ H S) {op : CmpOp} {x y : D} {vx vy : V} {b : Bool} {Q : VK} (rx : Rep K ρ H x vx) (ry : Rep K ρ H y vy) (h : cmpD S op x y = some b) (q : Q (.bl b) H) : cOf K op vx vy H Q := by
  cases op with
  | Eq =>
    rcases eqD_of st rx ry h with ⟨d1, d2, h1, h2, h3, h4, rfl⟩ | ⟨a, a', xs, ys, h1, h2, h3, h4, h5, rfl⟩
    · exact .inl ⟨d1, d2, h1, h2, h3, h4, q⟩
    · exact .inr ⟨a, a', xs, ys, h1, h2, h3, h4, h5, q⟩
  | NotEq =>
    simp only [cmpD] at h
    cases e : eqD S x y with
    | none => rw [e] at h; cases h
    | some b' =>
      rw [e] at h; cases h
      rcases eqD_of st rx ry e with ⟨d1, d2, h1, h2, h3, h4, rfl⟩ | ⟨a, a', xs, ys, h1, h2, h3, h4, h5, rfl⟩
      · exact .inl ⟨d1, d2, h1, h2, h3, h4, q⟩
      · exact .inr ⟨a, a', xs, ys, h1, h2, h3, h4, h5, q⟩
  | Is =>
    rcases is_of rx ry h with ⟨k, l, rfl, rfl, rfl⟩ | ⟨rfl, rfl⟩
    · exact .inl ⟨k, l, rfl, rfl, q⟩
    · exact .inr ⟨rfl, q⟩
  | IsNot =>
    simp only [cmpD] at h
    cases e : isD x y with
    | none => rw [e] at h; cases h
    | some b' =>
      rw [e] at h; cases h
      rcases is_of rx ry e with ⟨k, l, rfl, rfl, rfl⟩ | ⟨rfl, rfl⟩
      · exact .inl ⟨k, l, rfl, rfl, q⟩
      · exact .inr ⟨rfl, q⟩
  | In =>
    rcases in_of st rx ry h with ⟨i, j, rfl, rfl, rfl⟩ | ⟨d, ds, h1, h2, h3, h4, rfl⟩ | ⟨d, ds, h1, h2, h3, h4, rfl⟩ | ⟨a, o, rfl, g, rfl⟩
    · exact .inl ⟨i, j, rfl, rfl, q⟩
    · exact .inr (.inl ⟨d, ds, h1, h2, h3, h4, q⟩)
    · exact .inr (.inr (.inl ⟨d, ds, h1, h2, h3, h4, q⟩))
    · exact .inr (.inr (.inr ⟨a, o, rfl, g, q⟩))
  | NotIn =>
    simp only [cmpD] at h
    cases e : inD S x y with
    | none => rw [e] at h; cases h
    | some b' =>
      rw [e] at h; cases h
      rcases in_of st rx ry e with ⟨i, j, rfl, rfl, rfl⟩ | ⟨d, ds, h1, h2, h3, h4, rfl⟩ | ⟨d, ds, h1, h2, h3, h4, rfl⟩ | ⟨a, o, rfl, g, rfl⟩
      · exact .inl ⟨i, j, rfl, rfl, q⟩
      · exact .inr (.inl ⟨d, ds, h1, h2, h3, h4, q⟩)
      · exact .inr (.inr (.inl ⟨d, ds, h1, h2, h3, h4, q⟩))
      · exact .inr (.inr (.inr ⟨a, o, rfl, g, q⟩))
  | Lt => cases rx <;> cases ry <;> first | (cases h; first | exact .inl ⟨_, _, rfl, rfl, q⟩ | exact .inr ⟨_, _, rfl, rfl, q⟩) | (cases h)
  | Gt => cases rx <;> cases ry <;> first | (cases h; first | exact .inl ⟨_, _, rfl, rfl, q⟩ | exact .inr ⟨_, _, rfl, rfl, q⟩) | (cases h)
  | LtE => cases rx <;> cases ry <;> first | (cases h; exact ⟨_, _, rfl, rfl, q⟩) | (cases h)
  | GtE => cases rx <;> cases ry <;> first | (cases h; exact ⟨_, _, rfl, rfl, q⟩) | (cases h)
end
end Q
/-! Q4: indices, slices, built-ins, methods, stores, walks. -/
namespace Q
open PySem PySem.Spec PyProof.Rows L2
section
variable {X : Cx} {K : PySem.W.Frag} {cA : CA} {ρ : Pl} {H : Hp} {S : Store}

/-! ### x[i] -/
theorem atI_rep {xs : List D} {vs : List V} {i : Int} {d : D} (rs : Reps K ρ H xs vs) (h : L2.atI xs i = some d) : ∃ v, L2.atI vs i = some v ∧ Rep K ρ H d v := by
  unfold L2.atI at h ⊢
  rw [rs.length] at h
  cases e : L2.ixN vs.length i with
  | none => rw [e] at h; cases h
  | some j =>
    rw [e] at h
    exact rs.get h
theorem ixS_of (st : StR K cA ρ H S) {x i d : D} {vx vi : V} {Q : VK} (rx : Rep K ρ H x vx) (ri : Rep K ρ H i vi) (h : ixS S x i = some d) (k : Kon K cA ρ H S d Q) : rIx K vx vi H Q := by
  have seqs : ∀ n : Int, (match seqO S x with | some xs => L2.atI xs n | none => none) = some d → rIx K vx (.int n) H Q := by
    intro n h
    cases e : seqO S x with
    | none => rw [e] at h; cases h
    | some xs =>
      rw [e] at h
      obtain ⟨a, vs, rfl, q, rs⟩ := seqO_sq st rx e
      obtain ⟨v, h1, h2⟩ := atI_rep rs h
      rcases q with q | q
      · exact .inl ⟨a, vs, n, v, rfl, rfl, q, h1, kon_here st k h2⟩
      · exact .inr (.inl ⟨a, vs, n, v, rfl, rfl, q, h1, kon_here st k h2⟩)
  cases ri with
  | int n =>
    cases rx with
    | str z =>
      simp only [ixS] at h
      split at h
      · rename_i c
        cases e : L2.atI z.cps.toList n with
        | none => rw [e] at h; cases h
        | some y =>
          rw [e] at h; cases h
          exact .inr (.inr ⟨z, n, y, rfl, rfl, by rw [line_eq]; exact c, e, kon_here st k (.str _)⟩)
      · cases h
    | _ => exact seqs n h
  | _ => cases h

def rIxA (K : PySem.W.Frag) : R2 := fun x y H Q => rIx K x y H Q ∨ rIxK x y H Q
theorem ix_all (hu : X.A.units + 65 < cLine) : IxR X (rIxA X.K) := ix_seq.or (ix_key hu)
theorem ix_of (st : StR K cA ρ H S) {x i d : D} {vx vi : V} {Q : VK} (rx : Rep K ρ H x vx) (ri : Rep K ρ H i vi) (h : ixD S x i = some d) (k : Kon K cA ρ H S d Q) : rIxA K vx vi H Q := by
  unfold ixD at h
  cases e : dicOf S x with
  | some kvs =>
    rw [e] at h
    simp only at h
    cases e2 : keyD i with
    | none => rw [e2] at h; cases h
    | some kk =>
      rw [e2] at h
      obtain ⟨l, a, vs, rfl, rfl, _, _, e3, r3⟩ := dicOf_at st rx e
      obtain ⟨v, h1, h2⟩ := (r3.val kk).2 d h
      exact .inr ⟨a, v, rfl, by rw [keyD_rep ri e2, ← h1]; exact DGet.k e3, kon_here st k h2⟩
  | none =>
    rw [e] at h
    exact .inl (ixS_of st rx ri h k)
/-! ### x[i:j] -/
def rSlAll (K : PySem.W.Frag) : V → Option Int → Option Int → Hp → VK → Prop := fun x lo hi H Q => rSlA K x lo hi H Q ∨ (rSlL K x lo hi H Q ∨ C8.rSlX x lo hi H Q)
theorem sl_all : SlR X (rSlAll X.K) := SlR.or sl_tupA (SlR.or sl_list C8.sl_txt)
theorem cut_whole {α : Type} {xs : List α} {lo hi : Option Int} (h : HT.sIx xs.length 0 lo = 0 ∧ HT.sIx xs.length xs.length hi = xs.length) : cut xs lo hi = xs := by
  unfold cut
  rw [h.1, h.2]; simp
theorem sl_of (st : StR K cA ρ H S) {x d : D} {vx : V} {lo hi : Option Int} {Q : VK} (rx : Rep K ρ H x vx) (h : slD S x lo hi = some d) (k : Kon K cA ρ H S d Q) : rSlAll K vx lo hi H Q := by
  have lists : (match seqL S x with | some xs => some (D.lst (cut xs lo hi)) | none => none) = some d → rSlAll K vx lo hi H Q := by
    intro h
    cases e : seqL S x with
    | none => rw [e] at h; cases h
    | some xs =>
      rw [e] at h; cases h
      obtain ⟨a, vs, rfl, q, rs⟩ := seqL_sq st rx e
      exact .inr (.inl ⟨a, vs, rfl, q, kon_lst st k (rs.cut lo hi)⟩)
  cases rx with
  | str z =>
    simp only [slD] at h
    split at h <;> cases h
    rename_i c
    exact .inr (.inr ⟨z, rfl, by rw [line_eq]; exact c, kon_here st k (.str _)⟩)
  | tup at_ rs =>
    rename_i ds a vs
    cases h
    refine .inl ⟨a, vs, rfl, at_.sq, fun w => ?_, fun _ => kon_tup st k (rs.cut lo hi)⟩
    rw [← rs.length] at w
    rw [cut_whole w] at k
    exact kon_here st k (.tup at_ rs)
  | _ => exact lists h

/-! ### isinstance -/
theorem ty_cases {t : Str} (h : tyOk t = true) : t = "int" ∨ t = "bool" ∨ t = "str" ∨ t = "tuple" ∨ t = "list" ∨ t = "dict" := by
  simp only [tyOk, Bool.or_eq_true, beq_iff_eq] at h
  rcases h with ((((h | h) | h) | h) | h) | h <;> simp [h]
def tyNm (t : Str) : String := if t = "int" then "int" else if t = "bool" then "bool" else if t = "str" then "str" else if t = "tuple" then "tuple" else if t = "list" then "list" else "dict"
theorem boot_ty {t : Str} (h : tyOk t = true) : bootBuiltins t = some (.type (tyNm t)) := by
  rcases ty_cases h with rfl | rfl | rfl | rfl | rfl | rfl <;> decide +kernel
/-- a thing's type -/
theorem tyx_rep (st : StR K cA ρ H S) {x : D} {v : V} {t : Str} {b : Bool} (r : Rep K ρ H x v) (ht : tyOk t = true) (h : isTy S x t = some b) : ∃ a : String, TyX K H v (.type a) ∧ kitB a (tyNm t) = some b := by
  have tb : ∀ a : String, a = "NoneType" ∨ a = "bool" ∨ a = "int" ∨ a = "str" ∨ a = "tuple" ∨ a = "list" ∨ a = "dict" →
      kitB a (tyNm t) = some (if a = "NoneType" then false else if a = "bool" then (t == "bool" || t == "int") else if a = "int" then t == "int" else if a = "str" then t == "str" else if a = "tuple" then t == "tuple" else if a = "list" then t == "list" else t == "dict") := by
    intro a ha
    rcases ty_cases ht with rfl | rfl | rfl | rfl | rfl | rfl <;> rcases ha with rfl | rfl | rfl | rfl | rfl | rfl | rfl <;> decide +kernel
  cases r with
  | non => cases h; exact ⟨"NoneType", .base .non, tb _ (by simp)⟩
  | bl => cases h; exact ⟨"bool", .base (.bl _), tb _ (by simp)⟩
  | int => cases h; exact ⟨"int", .base (.int _), tb _ (by simp)⟩
  | str => cases h; exact ⟨"str", .base (.str _), tb _ (by simp)⟩
  | tup at_ rs =>
    cases h
    refine ⟨"tuple", ?_, tb _ (by simp)⟩
    rcases at_ with ⟨q | ⟨o, q⟩, _⟩ | ⟨o, its, n, q, c, _⟩
    · exact .base (.tup q)
    · exact .fTuple q
    · exact .kTuple q c
  | lst at_ rs =>
    cases h
    refine ⟨"list", ?_, tb _ (by simp)⟩
    rcases at_ with ⟨q | ⟨o, q⟩, _⟩ | ⟨o, its, n, q, c, _⟩
    · exact .base (.lst q)
    · exact .base (.frz q)
    · exact .kList q c
  | ref e =>
    rename_i l a
    have h' : (match S[l]? with | some (.lst _) => some (t == "list") | some (.dic _) => some (t == "dict") | _ => none) = some b := h
    cases q : S[l]? with
    | none => rw [q] at h'; cases h'
    | some o =>
      rw [q] at h'
      cases o with
      | lst xs =>
        cases h'
        obtain ⟨vs, e1, _⟩ := st.at q e
        exact ⟨"list", .base (.lst e1), tb _ (by simp)⟩
      | dic kvs =>
        cases h'
        obtain ⟨vs, e1, _⟩ := st.at q e
        exact ⟨"dict", .base (.dK e1), tb _ (by simp)⟩
      | ins => cases h'
      | dead => cases h'

/-! ### built-ins by their names -/
abbrev RC : Type := List V → Hp → VK → Prop
theorem len_of (st : StR K cA ρ H S) {x d : D} {vx : V} {Q : VK} (rx : Rep K ρ H x vx) (h : lenD S x = some d) (k : Kon K cA ρ H S d Q) : ∃ n, LenV K vx H n ∧ Q (.int n) H := by
  have seqs : (match seqO S x with | some xs => some (D.int xs.length) | none => none) = some d → ∃ n, LenV K vx H n ∧ Q (.int n) H := by
    intro h
    cases e : seqO S x with
    | none => rw [e] at h; cases h
    | some xs =>
      rw [e] at h; cases h
      obtain ⟨a, vs, rfl, q, rs⟩ := seqO_sq st rx e
      refine ⟨xs.length, ?_, kon_here st k (.int _)⟩
      rcases q with q | q
      · exact .inl ⟨vs, q, rs.length⟩
      · exact .inr ⟨vs, q, rs.length⟩
  cases rx with
  | str z =>
    simp only [lenD] at h
    split at h <;> cases h
    rename_i c
    exact ⟨z.length, ⟨by rw [line_eq]; exact c, rfl⟩, kon_here st k (.int _)⟩
  | _ => exact seqs h
theorem bls_rep : ∀ {xs : List D} {vs : List V} {bs : List Bool}, Reps K ρ H xs vs → blsOf xs = some bs → vs = bs.map V.bl
  | _, _, _, .nil, h => by cases h; rfl
  | _, _, bs, .cons (d := d) (ds := ds) r rs, h => by
    cases r with
    | bl b =>
      simp only [blsOf] at h
      cases e : blsOf ds with
      | none => rw [e] at h; cases h
      | some cs => rw [e] at h; cases h; rw [bls_rep rs e]; rfl
    | _ => cases h
theorem ints_rep : ∀ {xs : List D} {vs : List V} {bs : List Int}, Reps K ρ H xs vs → intsOf xs = some bs → vs = bs.map V.int
  | _, _, _, .nil, h => by cases h; rfl
  | _, _, bs, .cons (d := d) (ds := ds) r rs, h => by
    cases r with
    | int b =>
      simp only [intsOf] at h
      cases e : intsOf ds with
      | none => rw [e] at h; cases h
      | some cs => rw [e] at h; cases h; rw [ints_rep rs e]; rfl
    | _ => cases h
def Blt.val : Blt → Value
  | .len => .builtin "len"
  | .int => .type "int"
  | .list => .type "list"
  | .tuple => .type "tuple"
  | .all => .builtin "all"
  | .abs => .builtin "abs"
  | .min => .builtin "min"
  | .max => .builtin "max"
  | .str => .type "str"
  | .any => .builtin "any"
  | .sum => .builtin "sum"
def Blt.rule (K : PySem.W.Frag) : Blt → RC
  | .len => fun xs H Q => ∃ x n, xs = [x] ∧ LenV K x H n ∧ Q (.int n) H
  | .int => fun xs H Q => ((∃ i, xs = [.int i] ∧ Q (.int i) H) ∨ ∃ k, xs = [.bl k] ∧ Q (.int (if k then 1 else 0)) H) ∨ ∃ a n, xs = [.str a] ∧ PySem.intText? a = some n ∧ a.length ≤ 640 ∧ Q (.int n) H
  | .list => fun xs H Q => (∃ p ys, xs = [.ref p] ∧ (SqL K H p ys ∨ SqT K H p ys) ∧ ∀ l, H l = none → Q (.ref l) (upd H l (.lst ys))) ∨
      ∃ z : Str, xs = [.str z] ∧ z.length ≤ sizeLine ∧ ∀ l, H l = none → Q (.ref l) (upd H l (.lst (z.cps.toList.map fun c => .str ⟨#[c]⟩)))
  | .tuple => fun xs H Q => ∃ p ys, xs = [.ref p] ∧ ((SqL K H p ys ∧ ∀ l, H l = none → Q (.ref l) (upd H l (.tup ys))) ∨ (SqT K H p ys ∧ Q (.ref p) H))
  | .all => rAll K
  | .abs => fun xs H Q => ∃ i, xs = [.int i] ∧ Q (.int (if i < 0 then -i else i)) H
  | .min => fun xs H Q => ∃ i j, xs = [.int i, .int j] ∧ Q (.int (if j < i then j else i)) H
  | .max => fun xs H Q => ∃ i j, xs = [.int i, .int j] ∧ Q (.int (if j > i then j else i)) H
  | .str => fun xs H Q => (∃ i, xs = [.int i] ∧ i.natAbs.log2 < 1920 ∧ Q (.str (toString i)) H) ∨ ∃ a, xs = [.str a] ∧ Q (.str a) H
  | .any => rAny K
  | .sum => rSum K
theorem Blt.ok (b : Blt) (hc : b ≠ .int → X.calm = true) : CallR X b.val (b.rule X.K) := by
  cases b with
  | len => exact call_len
  | int => exact CallR.or call_int1 call_int_str
  | list => exact CallR.or call_list_of (cr_listS (hc (by simp)))
  | tuple => exact call_tuple_of
  | all => exact cr_all (hc (by simp))
  | abs => exact call_abs
  | min => exact call_min2 (hc (by simp))
  | max => exact call_max2 (hc (by simp))
  | str => exact CallR.or call_str_int SkE.call_str_str
  | any => exact cr_any (hc (by simp))
  | sum => exact cr_sum (hc (by simp))

theorem reps0 {vs : List V} (rs : Reps K ρ H [] vs) : vs = [] := by cases rs; rfl
theorem reps1 {x : D} {vs : List V} (rs : Reps K ρ H [x] vs) : ∃ v, vs = [v] ∧ Rep K ρ H x v := by
  cases rs with
  | cons r t => cases t; exact ⟨_, rfl, r⟩
theorem reps2 {x y : D} {vs : List V} (rs : Reps K ρ H [x, y] vs) : ∃ v w, vs = [v, w] ∧ Rep K ρ H x v ∧ Rep K ρ H y w := by
  cases rs with
  | cons r t =>
    obtain ⟨w, rfl, q⟩ := reps1 t
    exact ⟨_, w, rfl, r, q⟩
theorem Blt.of1 (st : StR K cA ρ H S) {b : Blt} {x : D} {v : V} {d : D} {Q : VK} (r : Rep K ρ H x v) (h : b.sem1 S x = some d) (k : Kon K cA ρ H S d Q) : b.rule K [v] H Q := by
  cases b with
  | len =>
    obtain ⟨n, h1, h2⟩ := len_of st r h k
    exact ⟨_, n, rfl, h1, h2⟩
  | int =>
    have h : intD x = some d := h
    cases r with
    | int i => cases h; exact .inl (.inl ⟨i, rfl, kon_here st k (.int _)⟩)
    | bl i => cases h; exact .inl (.inr ⟨i, rfl, kon_here st k (.int _)⟩)
    | str z =>
      simp only [intD] at h
      cases e : PySem.intText? z with
      | none => rw [e] at h; cases h
      | some n =>
        rw [e] at h
        simp only at h
        split at h
        case isFalse => cases h
        rename_i c
        cases h
        exact .inr ⟨z, n, rfl, e, c, kon_here st k (.int _)⟩
    | _ => cases h
  | list =>
    have h : listD S x = some d := h
    have seqs : (match seqO S x with | some ys => some (D.lst ys) | none => none) = some d → Blt.list.rule K [v] H Q := fun h => by
      cases e : seqO S x with
      | none => rw [e] at h; cases h
      | some ys =>
        rw [e] at h; cases h
        obtain ⟨a, ws, rfl, q, rw_⟩ := seqO_sq st r e
        exact .inl ⟨a, ws, rfl, q, kon_lst st k rw_⟩
    cases r with
    | str z =>
      simp only [listD] at h
      split at h
      case isFalse => cases h
      rename_i c
      cases h
      refine .inr ⟨z, rfl, by rw [line_eq]; exact c, kon_lst st k ?_⟩
      induction z.cps.toList with
      | nil => exact .nil
      | cons c cs ih => exact .cons (.str _) ih
    | _ => exact seqs h
  | tuple =>
    have h : tupleD S x = some d := h
    unfold tupleD at h
    cases e : seqO S x with
    | none => rw [e] at h; cases h
    | some ys =>
      rw [e] at h; cases h
      by_cases ht : ∃ ds, x = .tup ds
      · obtain ⟨ds, rfl⟩ := ht
        cases e
        cases r with
        | tup at_ rs =>
          exact ⟨_, _, rfl, .inr ⟨at_.sq, kon_here st k (.tup at_ rs)⟩⟩
      · have e' : seqL S x = some ys := by
          cases x with
          | tup ds => exact absurd ⟨ds, rfl⟩ ht
          | _ => exact e
        obtain ⟨a, ws, rfl, q, rw_⟩ := seqL_sq st r e'
        exact ⟨a, ws, rfl, .inl ⟨q, kon_tup st k rw_⟩⟩
  | all =>
    have h : allD S x = some d := h
    unfold allD at h
    cases e : seqL S x with
    | none => rw [e] at h; cases h
    | some ys =>
      rw [e] at h
      simp only at h
      cases e2 : blsOf ys with
      | none => rw [e2] at h; cases h
      | some bs =>
        rw [e2] at h; cases h
        obtain ⟨a, ws, rfl, q, rw_⟩ := seqL_sq st r e
        rw [bls_rep rw_ e2] at q
        exact ⟨a, bs, rfl, q, kon_here st k (.bl _)⟩
  | abs =>
    have h : absD x = some d := h
    cases r with
    | int i => cases h; exact ⟨i, rfl, kon_here st k (.int _)⟩
    | _ => cases h
  | min => cases h
  | max => cases h
  | any =>
    have h : anyD S x = some d := h
    unfold anyD at h
    cases e : seqL S x with
    | none => rw [e] at h; cases h
    | some ys =>
      rw [e] at h
      simp only at h
      cases e2 : blsOf ys with
      | none => rw [e2] at h; cases h
      | some bs =>
        rw [e2] at h; cases h
        obtain ⟨a, ws, rfl, q, rw_⟩ := seqL_sq st r e
        rw [bls_rep rw_ e2] at q
        exact ⟨a, bs, rfl, q, kon_here st k (.bl _)⟩
  | sum =>
    have h : sumD S x = some d := h
    unfold sumD at h
    cases e : seqL S x with
    | none => rw [e] at h; cases h
    | some ys =>
      rw [e] at h
      simp only at h
      cases e2 : intsOf ys with
      | none => rw [e2] at h; cases h
      | some bs =>
        rw [e2] at h; cases h
        obtain ⟨a, ws, rfl, q, rw_⟩ := seqL_sq st r e
        rw [ints_rep rw_ e2] at q
        exact ⟨a, bs, rfl, q, kon_here st k (.int _)⟩
  | str =>
    have h : strD x = some d := h
    cases r with
    | int i =>
      have h : (if i.natAbs.log2 < 1920 then some (D.str (toString i)) else none) = some d := h
      split at h
      · next c => cases h; exact .inl ⟨i, rfl, c, kon_here st k (.str _)⟩
      · cases h
    | str z => cases h; exact .inr ⟨z, rfl, kon_here st k (.str _)⟩
    | _ => cases h
theorem Blt.of2 (st : StR K cA ρ H S) {b : Blt} {x y : D} {v w : V} {d : D} {Q : VK} (r : Rep K ρ H x v) (r2 : Rep K ρ H y w) (h : b.sem2 x y = some d) (k : Kon K cA ρ H S d Q) : b.rule K [v, w] H Q := by
  cases b with
  | min =>
    have h : minD x y = some d := h
    cases r with
    | int i =>
      cases r2 with
      | int j => cases h; exact ⟨i, j, rfl, kon_here st k (.int _)⟩
      | _ => cases h
    | _ => cases h
  | max =>
    have h : maxD x y = some d := h
    cases r with
    | int i =>
      cases r2 with
      | int j => cases h; exact ⟨i, j, rfl, kon_here st k (.int _)⟩
      | _ => cases h
    | _ => cases h
  | _ => cases h
theorem Blt.of (st : StR K cA ρ H S) {b : Blt} {xs : List D} {vs : List V} {d : D} {Q : VK} (rs : Reps K ρ H xs vs) (h : b.sem S xs = some d) (k : Kon K cA ρ H S d Q) : b.rule K vs H Q := by
  rcases xs with _ | ⟨x, _ | ⟨y, _ | ⟨z, zs⟩⟩⟩
  · cases h
  · obtain ⟨v, rfl, r⟩ := reps1 rs
    exact Blt.of1 st r h k
  · obtain ⟨v, w, rfl, r, r2⟩ := reps2 rs
    exact Blt.of2 st r r2 h k
  · cases h
theorem bltOf_cases {f : Str} {b : Blt} (h : bltOf f = some b) : bootBuiltins f = some b.val ∧ f ≠ "__name__" := by
  unfold bltOf at h
  repeat' (split at h)
  all_goals first
    | (cases h; done)
    | (rename_i e; cases h; rw [beq_iff_eq.mp e]; exact ⟨by decide +kernel, by decide +kernel⟩)
    | (cases h; simp_all; exact ⟨by decide +kernel, by decide +kernel⟩)

/-! ### methods -/
theorem strs_rep : ∀ {xs : List D} {vs : List V} {bs : List Str}, Reps K ρ H xs vs → strsOf xs = some bs → vs = bs.map V.str
  | _, _, _, .nil, h => by cases h; rfl
  | _, _, bs, .cons (d := d) (ds := ds) r rs, h => by
    cases r with
    | str b =>
      simp only [strsOf] at h
      cases e : strsOf ds with
      | none => rw [e] at h; cases h
      | some cs => rw [e] at h; cases h; rw [strs_rep rs e]; rfl
    | _ => cases h
def MId.id : MId → String
  | .bitLength => "int.bit_length"
  | .append => "list.append"
  | .split => "str.split"
  | .join => "str.join"
  | .index => "list.index"
  | .pop => "list.pop"
  | .insert => "list.insert"
  | .clear => "list.clear"
  | .upper => "str.upper"
  | .partition => "str.partition"
  | .get => "dict.get"
  | .count => "str.count"
def MId.T : MId → String
  | .bitLength => "int"
  | .append | .index | .pop | .insert | .clear => "list"
  | .split | .join | .upper | .partition | .count => "str"
  | .get => "dict"
def MId.nm : MId → Str
  | .bitLength => "bit_length"
  | .append => "append"
  | .split => "split"
  | .join => "join"
  | .index => "index"
  | .pop => "pop"
  | .insert => "insert"
  | .clear => "clear"
  | .upper => "upper"
  | .partition => "partition"
  | .get => "get"
  | .count => "count"
def MId.rule (K : PySem.W.Frag) : MId → V → List V → Hp → VK → Prop
  | .bitLength => fun x xs H Q => ∃ i, x = .int i ∧ xs = [] ∧ Q (.int (Builtin.Int.intBits i : Nat)) H
  | .append => rAppend
  | .split => fun x xs H Q => ∃ a b, x = .str a ∧ xs = [.str b] ∧ (b.length == 0) = false ∧ a.length + 2 ≤ sizeLine ∧ rNewStrs (Txt.split a b) H Q
  | .join => fun x xs H Q => ∃ a p, ∃ ys : List Str, x = .str a ∧ xs = [.ref p] ∧ (SqL K H p (ys.map V.str) ∨ SqT K H p (ys.map V.str)) ∧ (ys.map (·.length)).sum + ys.length * a.length ≤ 16777216 ∧ Q (.str (Txt.join a ys)) H
  | .index => rIndexD K
  | .pop => fun x xs H Q => rPop x xs H Q ∨ rPopAt x xs H Q
  | .insert => fun x vs H Q => ∃ (l : Addr) (xs : List V) (i : Int) (y : V), x = .ref l ∧ vs = [.int i, y] ∧ H l = some (.lst xs) ∧ xs.length < sizeLine ∧ 0 ≤ i ∧ i < 2 ^ 63 ∧ Q .non (upd H l (.lst (xs.take i.toNat ++ [y] ++ xs.drop i.toNat)))
  | .clear => rClear
  | .upper => fun x xs H Q => ∃ a, x = .str a ∧ xs = [] ∧ a.length ≤ 5592405 ∧ Q (.str (Txt.upper a)) H
  | .partition => fun x xs H Q => ∃ a b, x = .str a ∧ xs = [.str b] ∧ (b.length == 0) = false ∧ a.length ≤ sizeLine ∧ ∀ p, H p = none → Q (.ref p) (upd H p (.tup [.str (Txt.partition a b).1, .str (Txt.partition a b).2.1, .str (Txt.partition a b).2.2]))
  | .get => rGetD
  | .count => fun x xs H Q => ∃ a b, x = .str a ∧ xs = [.str b] ∧ Q (.int (Txt.count a b)) H
theorem MId.plain (m : MId) : PlainAttrs m.T := by
  cases m <;> first | exact PySem.F.plainAttrs_int | exact PySem.F.plainAttrs_list | exact PySem.F.plainAttrs_str | exact PySem.F.plainAttrs_dict
theorem MId.slot (m : MId) : Slot m.T m.nm m.id := by
  cases m with
  | bitLength => exact PyProof.Rows.slot_int_bit_length
  | append => exact PySem.F.slot_list_append
  | split => exact PySem.F.slot_str_split
  | join => exact PySem.F.slot_str_join
  | index => exact PySem.F.slot_list_index
  | pop => exact PySem.F.slot_list_pop
  | insert => exact PySem.F.slot_list_insert
  | clear => exact PySem.F.slot_list_clear
  | upper => exact PySem.F.slot_str_upper
  | partition => exact PySem.F.slot_str_partition
  | get => exact PySem.F.slot_dict_get
  | count => exact PySem.F.slot_str_count
theorem MId.ty (m : MId) : typeOf (.builtin m.id) = pure (.type "method_descriptor") := by
  cases m with
  | bitLength => exact PyProof.Rows.type_int_bit_length
  | append => exact PySem.F.type_list_append
  | split => exact PySem.F.type_str_split
  | join => exact PySem.F.type_str_join
  | index => exact PySem.F.type_list_index
  | pop => exact PySem.F.type_list_pop
  | insert => exact PySem.F.type_list_insert
  | clear => exact PySem.F.type_list_clear
  | upper => exact PySem.F.type_str_upper
  | partition => exact PySem.F.type_str_partition
  | get => exact PySem.F.type_dict_get
  | count => exact PySem.F.type_str_count
theorem MId.ok (hu : X.A.units + 65 < cLine) (m : MId) : MtR X m.id (m.rule X.K) := by
  cases m with
  | bitLength =>
    intro pins s σ H x xs v us Q I r1 r2 h
    obtain ⟨i, rfl, rfl, q⟩ := h
    obtain ⟨t, rfl⟩ := _root_.id r1
    cases r2
    exact call_int_bit_length ⟨.int _, H, I.tok _, ⟨_, rfl⟩, q⟩
  | append => exact mt_append
  | split => exact mt_split
  | join => exact mt_join
  | index => exact mt_indexD hu
  | pop => exact MtR.or mt_pop mt_popAt
  | insert => exact mt_insert
  | clear => exact mt_clear
  | upper => exact mt_upper
  | partition => exact mt_partition
  | get => exact mt_getD hu
  | count => exact mt_count
/-- what the receiver is, where the method is found -/
theorem mId_of (st : StR K cA ρ H S) {x : D} {m : Str} {i : MId} {v : V} (r : Rep K ρ H x v) (h : mIdD S x m = some i) : m = i.nm ∧ tyV K i.T v H := by
  have lists : (match seqL S x with
    | some _ => if m == "append" then some MId.append else if m == "index" then some .index else if m == "pop" then some .pop else if m == "insert" then some .insert else if m == "clear" then some .clear else none
    | none => (match dicOf S x with
      | some _ => if m == "get" then some .get else none
      | none => none)) = some i → m = i.nm ∧ tyV K i.T v H := by
    intro h
    cases e : seqL S x with
    | none =>
      rw [e] at h
      simp only at h
      cases e2 : dicOf S x with
      | none => rw [e2] at h; cases h
      | some kvs =>
        rw [e2] at h
        simp only at h
        split at h
        case isFalse => cases h
        rename_i c
        cases h
        obtain ⟨l, a, vs, rfl, rfl, _, _, e3, _⟩ := dicOf_at st r e2
        exact ⟨beq_iff_eq.mp c, .inr (.inr (.inl ⟨rfl, .inl ⟨vs, e3⟩⟩))⟩
    | some xs =>
      rw [e] at h
      simp only at h
      obtain ⟨a, vs, rfl, q, _⟩ := seqL_sq st r e
      repeat' split at h
      all_goals first
        | (cases h; done)
        | (rename_i c; cases h; exact ⟨beq_iff_eq.mp c, .inl ⟨rfl, vs, q⟩⟩)
  cases r with
  | int n =>
    simp only [mIdD] at h
    split at h <;> cases h
    rename_i c
    exact ⟨beq_iff_eq.mp c, rfl⟩
  | str z =>
    simp only [mIdD] at h
    repeat' split at h
    all_goals first
      | (cases h; done)
      | (rename_i c; cases h; exact ⟨beq_iff_eq.mp c, rfl⟩)
  | _ => exact lists h
theorem first_ok (a : PyData) : ∀ (ds : List PyData) (i j : Nat), firstD a i ds = some j → ∃ m, j = i + m ∧ ∃ z, ds[m]? = some z ∧ PyData.eqv z a = true ∧ ∀ (m' : Nat) (z' : PyData), m' < m → ds[m']? = some z' → PyData.eqv z' a = false
  | [], i, j, h => by cases h
  | d :: ds, i, j, h => by
    unfold firstD at h
    split at h
    · rename_i c
      cases h
      exact ⟨0, rfl, d, rfl, c, fun m' z' hm => absurd hm (by omega)⟩
    · rename_i c
      obtain ⟨m, rfl, z, h1, h2, h3⟩ := first_ok a ds (i + 1) j h
      refine ⟨m + 1, by omega, z, by simpa using h1, h2, fun m' z' hm hz => ?_⟩
      cases m' with
      | zero => simp at hz; subst hz; simpa using c
      | succ m' => exact h3 m' z' (by omega) (by simpa using hz)
theorem lst_in (st : StR K cA ρ H S) {l : Nat} {a : Addr} {ys : List D} (q : S[l]? = some (.lst ys)) (e : ρ.l[l]? = some a) : ∃ ws, H a = some (.lst ws) ∧ Reps K ρ H ys ws := st.at q e
theorem mth_of (st : StR K cA ρ H S) {m : MId} {x : D} {xs : List D} {v : V} {vs : List V} {d : D} {S' : Store} {Q : VK} (r : Rep K ρ H x v) (rs : Reps K ρ H xs vs) (h : mthD S m x xs = some (d, S')) (k : Kon K cA ρ H S' d Q) : m.rule K v vs H Q := by
  cases m with
  | bitLength =>
    simp only [mthD] at h
    cases r with
    | int i =>
      cases rs with
      | nil => cases h; exact ⟨i, rfl, rfl, kon_here st k (.int _)⟩
      | cons _ _ => cases h
    | _ => cases h
  | append =>
    simp only [mthD] at h
    cases r with
    | ref e =>
      rename_i l a
      cases rs with
      | nil => cases h
      | cons ry rs2 =>
        cases rs2 with
        | cons _ _ => cases h
        | nil =>
          rename_i y vy
          simp only at h
          cases q : S[l]? with
          | none => rw [q] at h; cases h
          | some o =>
            rw [q] at h
            cases o with
            | lst ys =>
              simp only at h
              split at h <;> cases h
              rename_i c
              obtain ⟨ws, e1, rw_⟩ := st.at q e
              refine ⟨a, ws, vy, rfl, rfl, e1, by rw [line_eq, ← rw_.length]; exact c, ?_⟩
              obtain ⟨e2, s2⟩ := ext_write (u := .lst (ws ++ [vy])) (o := .lst (ys ++ [y])) st e fun H' e' z => ⟨_, z, (rw_.append (.cons ry .nil)).ext e'⟩
              exact k _ _ _ e2 s2 .non
            | ins => cases h
            | dic => cases h
            | dead => cases h
    | _ => cases h
  | split =>
    simp only [mthD] at h
    cases r with
    | str a =>
      rcases xs with _ | ⟨y, _ | ⟨y2, ys⟩⟩
      · cases h
      · obtain ⟨w, rfl, ry⟩ := reps1 rs
        cases ry with
        | str b =>
          simp only at h
          split at h
          case isFalse => cases h
          rename_i c
          cases h
          refine ⟨a, b, rfl, rfl, c.1, by rw [line_eq]; exact c.2, fun p hp => ?_⟩
          refine kon_lst st k ?_ p hp
          induction Txt.split a b with
          | nil => exact .nil
          | cons c cs ih => exact .cons (.str _) ih
        | _ => cases h
      · cases y <;> cases h
    | _ => cases h
  | join =>
    simp only [mthD] at h
    cases r with
    | str a =>
      rcases xs with _ | ⟨y, _ | ⟨y2, ys⟩⟩
      · cases h
      · obtain ⟨w, rfl, ry⟩ := reps1 rs
        simp only at h
        cases e : seqO S y with
        | none => rw [e] at h; cases h
        | some zs =>
          rw [e] at h
          simp only at h
          cases e2 : strsOf zs with
          | none => rw [e2] at h; cases h
          | some ts =>
            rw [e2] at h
            simp only at h
            split at h
            case isFalse => cases h
            rename_i c
            cases h
            obtain ⟨p, ws, rfl, q, rw_⟩ := seqO_sq st ry e
            rw [strs_rep rw_ e2] at q
            exact ⟨a, p, ts, rfl, rfl, q, c, kon_here st k (.str _)⟩
      · cases h
    | _ => cases h
  | upper =>
    simp only [mthD] at h
    cases r with
    | str a =>
      cases rs with
      | cons _ _ => cases h
      | nil =>
        simp only at h
        split at h
        case isFalse => cases h
        rename_i c
        cases h
        exact ⟨a, rfl, rfl, c, kon_here st k (.str _)⟩
    | _ => cases h
  | partition =>
    simp only [mthD] at h
    cases r with
    | str a =>
      rcases xs with _ | ⟨y, _ | ⟨y2, ys⟩⟩
      · cases h
      · obtain ⟨w, rfl, ry⟩ := reps1 rs
        cases ry with
        | str b =>
          simp only at h
          split at h
          case isFalse => cases h
          rename_i c
          cases h
          exact ⟨a, b, rfl, rfl, c.1, by rw [line_eq]; exact c.2, kon_tup st k (.cons (.str _) (.cons (.str _) (.cons (.str _) .nil)))⟩
        | _ => cases h
      · cases y <;> cases h
    | _ => cases h
  | count =>
    simp only [mthD] at h
    cases r with
    | str a =>
      rcases xs with _ | ⟨y, _ | ⟨y2, ys⟩⟩
      · cases h
      · obtain ⟨w, rfl, ry⟩ := reps1 rs
        cases ry with
        | str b => cases h; exact ⟨a, b, rfl, rfl, kon_here st k (.int _)⟩
        | _ => cases h
      · cases y <;> cases h
    | _ => cases h
  | index =>
    simp only [mthD] at h
    cases e : toPyS S x with
    | none => rw [e] at h; cases h
    | some p =>
      rw [e] at h
      cases p with
      | list ds =>
        rcases xs with _ | ⟨y, _ | ⟨y2, ys⟩⟩
        · cases h
        · obtain ⟨w, rfl, ry⟩ := reps1 rs
          simp only at h
          cases e2 : toPyS S y with
          | none => rw [e2] at h; cases h
          | some a =>
            rw [e2] at h
            simp only at h
            split at h
            case isFalse => cases h
            rename_i c
            cases e3 : firstD a 0 ds with
            | none => rw [e3] at h; cases h
            | some j =>
              rw [e3] at h
              cases h
              obtain ⟨m, hj, z, h1, h2, h3⟩ := first_ok a ds 0 j e3
              have hj : j = m := by omega
              subst hj
              have dp := toPyS_dp st r e
              cases dp with
              | lst hs ha => exact ⟨_, w, a, ds, j, z, rfl, rfl, .lst hs ha, toPyS_dp st ry e2, c.1, c.2, h1, h2, h3, kon_here st k (.int _)⟩
        · cases h
      | _ => cases h
  | pop =>
    simp only [mthD] at h
    cases r with
    | ref e =>
      rename_i l a
      rcases xs with _ | ⟨y, _ | ⟨y2, ys⟩⟩
      · obtain rfl := reps0 rs
        simp only at h
        cases q : S[l]? with
        | none => rw [q] at h; cases h
        | some o =>
          rw [q] at h
          cases o with
          | lst ys =>
            simp only at h
            cases e2 : ys[ys.length - 1]? with
            | none => rw [e2] at h; cases h
            | some y =>
              rw [e2] at h; cases h
              obtain ⟨ws, e1, rw_⟩ := st.at q e
              obtain ⟨w, h1, h2⟩ := rw_.get e2
              refine .inl ⟨a, ws, w, rfl, rfl, e1, by rw [← rw_.length]; exact h1, ?_⟩
              obtain ⟨e3, s3⟩ := ext_write (u := .lst ws.dropLast) (o := .lst ys.dropLast) st e fun H' e' z => ⟨_, z, by rw [List.dropLast_eq_take, List.dropLast_eq_take, ← rw_.length]; exact (rw_.take _).ext e'⟩
              exact k _ _ _ e3 s3 (h2.ext e3)
          | _ => cases h
      · obtain ⟨w, rfl, ry⟩ := reps1 rs
        cases ry with
        | int i =>
          simp only at h
          cases q : S[l]? with
          | none => rw [q] at h; cases h
          | some o =>
            rw [q] at h
            cases o with
            | lst ys =>
              simp only at h
              split at h
              case isFalse => cases h
              rename_i c
              cases e2 : ys[i.toNat]? with
              | none => rw [e2] at h; cases h
              | some y =>
                rw [e2] at h; cases h
                obtain ⟨ws, e1, rw_⟩ := st.at q e
                obtain ⟨w, h1, h2⟩ := rw_.get e2
                refine .inr ⟨a, ws, i, i.toNat, w, rfl, rfl, e1, by omega, by omega, seqIndex_of c.1 (by rw [← rw_.length]; exact c.2.1), h1, ?_⟩
                obtain ⟨e3, s3⟩ := ext_write (u := .lst (ws.eraseIdx i.toNat)) (o := .lst (ys.eraseIdx i.toNat)) st e fun H' e' z => ⟨_, z, by rw [List.eraseIdx_eq_take_drop_succ, List.eraseIdx_eq_take_drop_succ]; exact ((rw_.take _).append (rw_.drop _)).ext e'⟩
                exact k _ _ _ e3 s3 (h2.ext e3)
            | _ => cases h
        | _ => cases h
      · cases y <;> cases h
    | _ => rcases xs with _ | ⟨y, _ | ⟨y2, ys⟩⟩ <;> first | cases h | (cases y <;> cases h)
  | insert =>
    simp only [mthD] at h
    cases r with
    | ref e =>
      rename_i l a
      rcases xs with _ | ⟨y, _ | ⟨y2, _ | ⟨y3, ys⟩⟩⟩
      · cases h
      · cases y <;> cases h
      · obtain ⟨w, w2, rfl, ry, ry2⟩ := reps2 rs
        cases ry with
        | int i =>
          simp only at h
          cases q : S[l]? with
          | none => rw [q] at h; cases h
          | some o =>
            rw [q] at h
            cases o with
            | lst ys =>
              simp only at h
              split at h
              case isFalse => cases h
              rename_i c
              cases h
              obtain ⟨ws, e1, rw_⟩ := st.at q e
              refine ⟨a, ws, i, w2, rfl, rfl, e1, by rw [line_eq, ← rw_.length]; exact c.1, c.2.1, by omega, ?_⟩
              obtain ⟨e3, s3⟩ := ext_write (u := .lst (ws.take i.toNat ++ [w2] ++ ws.drop i.toNat)) (o := .lst (ys.take i.toNat ++ [y2] ++ ys.drop i.toNat)) st e fun H' e' z => ⟨_, z, (((rw_.take _).append (.cons ry2 .nil)).append (rw_.drop _)).ext e'⟩
              exact k _ _ _ e3 s3 .non
            | _ => cases h
        | _ => cases h
      · cases y <;> cases h
    | _ => rcases xs with _ | ⟨y, _ | ⟨y2, _ | ⟨y3, ys⟩⟩⟩ <;> first | cases h | (cases y <;> cases h)
  | clear =>
    simp only [mthD] at h
    cases r with
    | ref e =>
      rename_i l a
      cases rs with
      | cons _ _ => cases h
      | nil =>
        simp only at h
        cases q : S[l]? with
        | none => rw [q] at h; cases h
        | some o =>
          rw [q] at h
          cases o with
          | lst ys =>
            cases h
            obtain ⟨ws, e1, rw_⟩ := st.at q e
            refine ⟨a, ws, rfl, rfl, e1, ?_⟩
            obtain ⟨e3, s3⟩ := ext_write (u := .lst []) (o := .lst []) st e fun H' e' z => ⟨_, z, .nil⟩
            exact k _ _ _ e3 s3 .non
          | _ => cases h
    | _ => cases rs <;> cases h
  | get =>
    simp only [mthD] at h
    cases e : dicOf S x with
    | none => rw [e] at h; cases h
    | some kvs =>
      rw [e] at h
      obtain ⟨l, a, ws, rfl, rfl, _, _, e3, r3⟩ := dicOf_at st r e
      rcases xs with _ | ⟨y, _ | ⟨y2, _ | ⟨y3, ys⟩⟩⟩
      · cases h
      · obtain ⟨w, rfl, ry⟩ := reps1 rs
        simp only at h
        cases e2 : keyD y with
        | none => rw [e2] at h; cases h
        | some kk =>
          rw [e2] at h; cases h
          refine ⟨a, w, valV ws kk, rfl, by rw [keyD_rep ry e2]; exact DGet.k e3, .inl ⟨rfl, ?_⟩⟩
          obtain ⟨p1, p2⟩ := r3.val kk
          cases c : valG kvs kk with
          | none =>
            rw [c] at k p1
            cases c2 : valV ws kk with
            | none => exact kon_here st k .non
            | some z => rw [c2] at p1; cases p1
          | some d =>
            obtain ⟨z, q1, q2⟩ := p2 d c
            rw [c] at k
            rw [q1]
            exact kon_here st k q2
      · obtain ⟨w, w2, rfl, ry, ry2⟩ := reps2 rs
        simp only at h
        cases e2 : keyD y with
        | none => rw [e2] at h; cases h
        | some kk =>
          rw [e2] at h; cases h
          refine ⟨a, w, valV ws kk, rfl, by rw [keyD_rep ry e2]; exact DGet.k e3, .inr ⟨w2, rfl, ?_⟩⟩
          obtain ⟨p1, p2⟩ := r3.val kk
          cases c : valG kvs kk with
          | none =>
            rw [c] at k p1
            cases c2 : valV ws kk with
            | none => exact kon_here st k ry2
            | some z => rw [c2] at p1; cases p1
          | some d =>
            obtain ⟨z, q1, q2⟩ := p2 d c
            rw [c] at k
            rw [q1]
            exact kon_here st k q2
      · cases h

/-! ### dict(x), len(set(x)), x[::-1] -/
theorem FReps.put {kvs : List (L2.Key × D)} {vs : List (L2.Key × V)} (r : FReps K ρ H kvs vs) (k : L2.Key) {d : D} {v : V} (q : Rep K ρ H d v) : FReps K ρ H (putG kvs k d) (putK vs k v) := by
  have an : (kvs.any fun kv => decide (kv.1 = k)) = (vs.any fun kv => decide (kv.1 = k)) := by
    induction r with
    | nil => rfl
    | cons _ _ ih => rw [List.any_cons, List.any_cons, ih]
  have rep : FReps K ρ H (kvs.map fun kv => if kv.1 = k then (kv.1, d) else kv) (vs.map fun kv => if kv.1 = k then (kv.1, v) else kv) := by
    clear an
    induction r with
    | nil => exact .nil
    | @cons k' d' v' ds vs' rd rs ih =>
      rw [List.map_cons, List.map_cons]
      by_cases c : k' = k
      · rw [if_pos (show (k', d').1 = k from c), if_pos (show (k', v').1 = k from c)]; exact .cons q ih
      · rw [if_neg (show ¬ (k', d').1 = k from c), if_neg (show ¬ (k', v').1 = k from c)]; exact .cons rd ih
  have more : FReps K ρ H (kvs ++ [(k, d)]) (vs ++ [(k, v)]) := by
    clear an rep
    induction r with
    | nil => exact .cons q .nil
    | cons rd rs ih => exact .cons rd ih
  unfold putG putK
  rw [← an]
  split
  · exact rep
  · exact more
theorem FReps.merge : ∀ {more : List (L2.Key × D)} {mv : List (L2.Key × V)} {kvs : List (L2.Key × D)} {vs : List (L2.Key × V)}, FReps K ρ H more mv → FReps K ρ H kvs vs → FReps K ρ H (mergeG kvs more) (mergeK vs mv)
  | [], _, _, _, .nil, r => r
  | (k, d) :: more, (_, v) :: mv, _, _, .cons q t, r => FReps.merge (more := more) (mv := mv) t (r.put k q)
theorem FReps.length {kvs : List (L2.Key × D)} {vs : List (L2.Key × V)} (r : FReps K ρ H kvs vs) : kvs.length = vs.length := by
  induction r with
  | nil => rfl
  | cons _ _ ih => rw [List.length_cons, List.length_cons, ih]
/-- a new dict -/
theorem kon_dic {kvs : List (L2.Key × D)} {vs : List (L2.Key × V)} {Q : VK} (st : StR K cA ρ H S) (k : Kon K cA ρ H (S ++ [.dic kvs]) (.ref S.length) Q) (r : FReps K ρ H kvs vs) : ∀ p, H p = none → Q (.ref p) (upd H p (.dK vs)) := fun p hp => by
  obtain ⟨e, s⟩ := ext_alloc (u := .dK vs) (o := .dic kvs) st hp fun ρ' H' e' q => ⟨vs, q, r.ext e'⟩
  exact k _ _ _ e s (.ref (by show (ρ.l ++ [p])[S.length]? = some p; rw [List.getElem?_append_right (by rw [st.len]; exact Nat.le_refl _), st.len, Nat.sub_self]; rfl))
theorem pairs_rep : ∀ {xs : List D} {vs : List V} {kvs : List (L2.Key × D)}, Reps K ρ H xs vs → pairsD xs = some kvs → ∃ (ps : List Addr) (ws : List (L2.Key × V)), vs = ps.map V.ref ∧ Paired (fun p kv => SqT K H p [kV kv.1, kv.2]) ps ws ∧ FReps K ρ H kvs ws
  | [], _, kvs, .nil, h => by cases h; exact ⟨[], [], rfl, .nil, .nil⟩
  | x :: xs, _, kvs, .cons r rs, h => by
    cases r with
    | tup at_ r2 =>
      rename_i ds a vs2
      rcases ds with _ | ⟨k0, _ | ⟨d0, _ | ⟨d1, ds⟩⟩⟩
      · cases h
      · cases h
      · obtain ⟨v1, v2, rfl, q1, q2⟩ := reps2 r2
        simp only [pairsD] at h
        cases e1 : keyD k0 with
        | none => rw [e1] at h; cases h
        | some kk =>
          cases e2 : pairsD xs with
          | none => rw [e1, e2] at h; cases h
          | some more =>
            rw [e1, e2] at h; cases h
            obtain ⟨ps, ws, rfl, h1, h2⟩ := pairs_rep rs e2
            refine ⟨a :: ps, (kk, v2) :: ws, rfl, .cons ?_ h1, .cons q2 h2⟩
            rw [keyD_rep q1 e1] at at_
            exact at_.sq
      · cases h
    | _ => cases h
theorem dict_of (st : StR K cA ρ H S) {x : D} {v : V} {d : D} {S' : Store} {Q : VK} (r : Rep K ρ H x v) (h : dictD S x = some (d, S')) (k : Kon K cA ρ H S' d Q) :
    (∃ (a : Addr) (ps : List Addr) (kvs : List (L2.Key × V)), [v] = [V.ref a] ∧ SqL K H a (ps.map V.ref) ∧ Paired (fun p kv => SqT K H p [kV kv.1, kv.2]) ps kvs ∧ ∀ p, H p = none → Q (.ref p) (upd H p (.dK (mergeK [] kvs)))) ∨
    ∃ (a : Addr) (kvs : List (L2.Key × V)), [v] = [V.ref a] ∧ Rd H a (.dK kvs) ∧ ∀ p, H p = none → Q (.ref p) (upd H p (.dK kvs)) := by
  unfold dictD at h
  cases e : dicOf S x with
  | some kvs =>
    rw [e] at h; cases h
    obtain ⟨l, a, ws, rfl, rfl, _, _, e3, r3⟩ := dicOf_at st r e
    exact .inr ⟨a, ws, rfl, .inl e3, kon_dic st k r3⟩
  | none =>
    rw [e] at h
    simp only at h
    cases e1 : seqL S x with
    | none => rw [e1] at h; cases h
    | some xs =>
      rw [e1] at h
      simp only at h
      cases e2 : pairsD xs with
      | none => rw [e2] at h; cases h
      | some kvs =>
        rw [e2] at h; cases h
        obtain ⟨a, vs, rfl, q, rs⟩ := seqL_sq st r e1
        obtain ⟨ps, ws, rfl, h1, h2⟩ := pairs_rep rs e2
        exact .inl ⟨a, ps, ws, rfl, q, h1, kon_dic st k (FReps.merge h2 .nil)⟩
theorem lenSet_of (st : StR K cA ρ H S) {x : D} {v : V} {d : D} {Q : VK} (r : Rep K ρ H x v) (h : lenSetD S x = some d) (k : Kon K cA ρ H S d Q) :
    ∃ l, ∃ xs : List Str, v = .ref l ∧ (SqL K H l (xs.map V.str) ∨ SqT K H l (xs.map V.str)) ∧ xs.length ≤ 1000 ∧ Q (.int (onceS [] xs).length) H := by
  unfold lenSetD at h
  cases e : seqO S x with
  | none => rw [e] at h; cases h
  | some ys =>
    rw [e] at h
    simp only at h
    cases e2 : strsOf ys with
    | none => rw [e2] at h; cases h
    | some zs =>
      rw [e2] at h
      simp only at h
      split at h
      case isFalse => cases h
      rename_i c
      cases h
      obtain ⟨a, vs, rfl, q, rs⟩ := seqO_sq st r e
      rw [strs_rep rs e2] at q
      exact ⟨a, zs, rfl, q, c, kon_here st k (.int _)⟩
theorem Reps.rev : ∀ {ds : List D} {vs : List V}, Reps K ρ H ds vs → Reps K ρ H ds.reverse vs.reverse
  | _, _, .nil => .nil
  | _, _, .cons r t => by rw [List.reverse_cons, List.reverse_cons]; exact (Reps.rev t).append (.cons r .nil)
theorem rev_of (st : StR K cA ρ H S) {x : D} {v : V} {d : D} {Q : VK} (r : Rep K ρ H x v) (h : revD S x = some d) (k : Kon K cA ρ H S d Q) : (∃ a xs, v = .ref a ∧ SqL K H a xs ∧ ∀ p, H p = none → Q (.ref p) (upd H p (.lst xs.reverse))) ∨ ∃ a xs, v = .ref a ∧ SqT K H a xs ∧ ∀ p, H p = none → Q (.ref p) (upd H p (.tup xs.reverse)) := by
  unfold revD at h
  cases e : seqL S x with
  | none =>
    rw [e] at h
    cases e2 : seqT x with
    | none => rw [e2] at h; cases h
    | some xs =>
      rw [e2] at h; cases h
      cases x with
      | tup ys =>
        cases e2
        cases r with
        | tup at_ rs => exact .inr ⟨_, _, rfl, at_.sq, kon_tup st k rs.rev⟩
      | _ => cases e2
  | some xs =>
    rw [e] at h; cases h
    obtain ⟨a, vs, rfl, q, rs⟩ := seqL_sq st r e
    exact .inl ⟨a, vs, rfl, q, kon_lst st k rs.rev⟩

/-! ### x[i] = v -/
theorem setL_of (st : StR K cA ρ H S) {o i v : D} {vo vi vv : V} {S' : Store} {Q : Hp → Prop} (ro : Rep K ρ H o vo) (ri : Rep K ρ H i vi) (rv : Rep K ρ H v vv) (h : setL S o i v = some S')
    (k : ∀ ρ' H', Ext ρ H ρ' H' → StR K cA ρ' H' S' → Q H') : rSetL vo vi vv H Q := by
  unfold setL at h
  cases ro with
  | ref e =>
    rename_i l a
    cases ri with
    | int n =>
      simp only at h
      cases q : S[l]? with
      | none => rw [q] at h; cases h
      | some ob =>
        rw [q] at h
        cases ob with
        | lst ys =>
          simp only at h
          cases e3 : L2.ixN ys.length n with
          | none => rw [e3] at h; cases h
          | some j =>
            rw [e3] at h; cases h
            obtain ⟨ws, e1, rw_⟩ := st.at q e
            refine ⟨a, ws, n, j, rfl, rfl, e1, by rw [← rw_.length]; exact e3, ?_⟩
            obtain ⟨e2, s2⟩ := ext_write (u := .lst (ws.set j vv)) (o := .lst (ys.set j v)) st e fun H' e' z => ⟨_, z, (rw_.set rv j).ext e'⟩
            exact k _ _ e2 s2
        | ins => cases h
        | dic => cases h
        | dead => cases h
    | _ => cases h
  | _ => cases h

def rSetA : V → V → V → Hp → (Hp → Prop) → Prop := fun o i v H Q => rSetL o i v H Q ∨ rSetK o i v H Q
theorem set_all (hu : X.A.units + 65 < cLine) : PSet X rSetA := by
  intro pins s σ H o i v ov iv u Q I ro ri rv h
  rcases h with h | h
  · exact set_list pins s σ H o i v ov iv u Q I ro ri rv h
  · exact set_key hu pins s σ H o i v ov iv u Q I ro ri rv h
theorem set_of (st : StR K cA ρ H S) {o i v : D} {vo vi vv : V} {S' : Store} {Q : Hp → Prop} (ro : Rep K ρ H o vo) (ri : Rep K ρ H i vi) (rv : Rep K ρ H v vv) (h : setD S o i v = some S')
    (k : ∀ ρ' H', Ext ρ H ρ' H' → StR K cA ρ' H' S' → Q H') : rSetA vo vi vv H Q := by
  cases e : dicOf S o with
  | none =>
    have : setL S o i v = some S' := by
      unfold setD at h
      rw [e] at h
      cases o <;> exact h
    exact .inl (setL_of st ro ri rv this k)
  | some kvs =>
    obtain ⟨l, a, ws, rfl, rfl, q, e2, e3, r3⟩ := dicOf_at st ro e
    cases e4 : keyD i with
    | none =>
      have : setL S (.ref l) i v = some S' := by
        unfold setD at h
        rw [e, e4] at h
        exact h
      exact .inl (setL_of st ro ri rv this k)
    | some kk =>
      unfold setD at h
      rw [e, e4] at h
      simp only at h
      split at h
      case isFalse => cases h
      rename_i c
      cases h
      obtain ⟨e5, s5⟩ := ext_write (u := .dK (putK ws kk vv)) (o := .dic (putG kvs kk v)) st e2 fun H' e' z => ⟨_, z, (r3.put kk rv).ext e'⟩
      refine .inr ⟨a, _, rfl, ?_, k _ _ e5 s5⟩
      rw [keyD_rep ri e4]
      exact DPut.k e3 (by rw [line_eq, ← r3.length]; exact c)

/-! ### walks -/
/-- J goes through the items of it -/
def ItR (K : PySem.W.Frag) (cA : CA) (it : Items) (ρ : Pl) (H : Hp) (J : It) : Prop := ∀ ρ' H' S (i : Nat), Ext ρ H ρ' H' → StR K cA ρ' H' S →
  (it.get S i = some none → J.stop i H') ∧ ∀ d, it.get S i = some (some d) → J.go i H' ∧ ∀ x H2, J.yld i H' x H2 → ∃ ρ2, Ext ρ' H' ρ2 H2 ∧ StR K cA ρ2 H2 S ∧ Rep K ρ2 H2 d x
abbrev iX (K : PySem.W.Frag) (cA : CA) (W : WX) (f : Env → Store → Out Items) : TI := tX K cA (fun ρ H it J => ItR K cA it ρ H J) W f
theorem ItR.ext {ρ' : Pl} {H' : Hp} {it : Items} {J : It} (h : ItR K cA it ρ H J) (e : Ext ρ H ρ' H') : ItR K cA it ρ' H' J := fun ρ2 H2 S i e2 st => h ρ2 H2 S i (e.trans e2) st
theorem wrap0 {i : Nat} {o : Option D} : o.map (wrapI false i) = o := by cases o <;> rfl
theorem get_val {xs : List D} {e : Bool} {S : Store} {i : Nat} : Items.get ⟨xs, none, e⟩ S i = some (xs[i]?.map (wrapI e i)) := rfl
theorem get_val0 {xs : List D} {S : Store} {i : Nat} : Items.get ⟨xs, none, false⟩ S i = some xs[i]? := by rw [get_val, wrap0]
/-- the walk of a text, a tuple, a list -/
def rIter (K : PySem.W.Frag) (v : V) (H : Hp) (R : It → Hp → Prop) : Prop :=
  (∃ z, v = .str z ∧ R (Its z) H) ∨ (∃ a, v = .ref a ∧ (∃ xs, SqL K H a xs) ∧ R (Itl K a) H) ∨ ∃ a, v = .ref a ∧ (∃ xs, SqT K H a xs) ∧ R (Itt K a) H
theorem itl_val (st : StR K cA ρ H S) {a : Addr} {xs : List D} {vs : List V} (q : LstAt K ρ H a vs) (rs : Reps K ρ H xs vs) : ItR K cA ⟨xs, none, false⟩ ρ H (Itl K a) := by
  intro ρ' H' S' i e st'
  have q' := q.ext e
  have rs' := rs.ext e
  rw [get_val0]
  refine ⟨fun h => ?_, fun d h => ?_⟩
  · have h : xs[i]? = none := Option.some.inj h
    exact ⟨vs, q'.sq, by rw [← rs.length]; exact List.getElem?_eq_none_iff.mp h⟩
  · have h : xs[i]? = some d := Option.some.inj h
    obtain ⟨v, h1, h2⟩ := rs'.get h
    refine ⟨⟨vs, v, q'.sq, h1⟩, fun x H2 y => ?_⟩
    obtain ⟨rfl, y⟩ := y
    have z := y vs q'.sq
    rw [h1] at z; cases z
    exact ⟨ρ', Ext.refl, st', h2⟩
theorem itt_val (st : StR K cA ρ H S) {a : Addr} {xs : List D} {vs : List V} (q : TupAt K ρ H a vs) (rs : Reps K ρ H xs vs) : ItR K cA ⟨xs, none, false⟩ ρ H (Itt K a) := by
  intro ρ' H' S' i e st'
  have q' := q.ext e
  have rs' := rs.ext e
  rw [get_val0]
  refine ⟨fun h => ?_, fun d h => ?_⟩
  · have h : xs[i]? = none := Option.some.inj h
    exact ⟨vs, q'.sq, by rw [← rs.length]; exact List.getElem?_eq_none_iff.mp h⟩
  · have h : xs[i]? = some d := Option.some.inj h
    obtain ⟨v, h1, h2⟩ := rs'.get h
    refine ⟨⟨vs, v, q'.sq, h1⟩, fun x H2 y => ?_⟩
    obtain ⟨rfl, y⟩ := y
    have z := y vs q'.sq
    rw [h1] at z; cases z
    exact ⟨ρ', Ext.refl, st', h2⟩
/-- the list of the store, at a turn -/
theorem ref_get {S' : Store} {ρ' : Pl} {H' : Hp} (st' : StR K cA ρ' H' S') {l : Nat} {a : Addr} {xs : List D} {en : Bool} {i : Nat} {o : Option D} (e0 : ρ'.l[l]? = some a) (h : Items.get ⟨xs, some l, en⟩ S' i = some o) :
    ∃ ds vs, SqL K H' a vs ∧ Reps K ρ' H' ds vs ∧ ds[i]?.map (wrapI en i) = o := by
  have h : (match S'[l]? with | some (.lst xs) => some (xs[i]?.map (wrapI en i)) | _ => none) = some o := h
  cases q : S'[l]? with
  | none => rw [q] at h; cases h
  | some ob =>
    rw [q] at h
    cases ob with
    | lst ds =>
      obtain ⟨vs, e1, rs⟩ := st'.at q e0
      exact ⟨ds, vs, .of e1, rs, Option.some.inj h⟩
    | ins => cases h
    | dic => cases h
    | dead => cases h
theorem itl_ref {l : Nat} {a : Addr} {xs : List D} (e0 : ρ.l[l]? = some a) : ItR K cA ⟨xs, some l, false⟩ ρ H (Itl K a) := by
  intro ρ' H' S' i e st'
  refine ⟨fun h => ?_, fun d h => ?_⟩
  · obtain ⟨ds, vs, q, rs, hi⟩ := ref_get st' (e.get e0) h
    rw [wrap0] at hi
    exact ⟨vs, q, by rw [← rs.length]; exact List.getElem?_eq_none_iff.mp hi⟩
  · obtain ⟨ds, vs, q, rs, hi⟩ := ref_get st' (e.get e0) h
    rw [wrap0] at hi
    obtain ⟨v, h1, h2⟩ := rs.get hi
    refine ⟨⟨vs, v, q, h1⟩, fun x H2 y => ?_⟩
    obtain ⟨rfl, y⟩ := y
    have z := y vs q
    rw [h1] at z; cases z
    exact ⟨ρ', Ext.refl, st', h2⟩
/-- a turn's new pair -/
theorem pair_new {ρ' : Pl} {H' : Hp} {S' : Store} (st' : StR K cA ρ' H' S') {x y : D} {v w : V} {T : Addr} (hT : H' T = none) (r1 : Rep K ρ' H' x v) (r2 : Rep K ρ' H' y w) :
    ∃ ρ2, Ext ρ' H' ρ2 (upd H' T (.tup [v, w])) ∧ StR K cA ρ2 (upd H' T (.tup [v, w])) S' ∧ Rep K ρ2 (upd H' T (.tup [v, w])) (.tup [x, y]) (.ref T) := by
  obtain ⟨e, s⟩ := ext_new (u := .tup [v, w]) st' hT
  exact ⟨ρ', e, s, .tup (.inl ⟨.inl upd_same, st'.fresh hT⟩) (.cons (r1.ext e) (.cons (r2.ext e) .nil))⟩
theorem ite_of {a : Addr} {it : Items} (hen : it.enum = true) (get : ∀ ρ' H' S' i o, Ext ρ H ρ' H' → StR K cA ρ' H' S' → it.get S' i = some o → ∃ ds vs, SqL K H' a vs ∧ Reps K ρ' H' ds vs ∧ ds[i]?.map (wrapI true i) = o) : ItR K cA it ρ H (Ite K a) := by
  intro ρ' H' S' i e st'
  refine ⟨fun h => ?_, fun d h => ?_⟩
  · obtain ⟨ds, vs, q, rs, hi⟩ := get ρ' H' S' i _ e st' h
    rw [Option.map_eq_none_iff] at hi
    exact ⟨vs, q, by rw [← rs.length]; exact List.getElem?_eq_none_iff.mp hi⟩
  · obtain ⟨ds, vs, q, rs, hi⟩ := get ρ' H' S' i _ e st' h
    obtain ⟨d0, h0, rfl⟩ := Option.map_eq_some_iff.mp hi
    obtain ⟨v, h1, h2⟩ := rs.get h0
    refine ⟨⟨vs, v, q, h1⟩, fun x H2 y => ?_⟩
    obtain ⟨T, x1, rfl, hT, rfl, y⟩ := y
    have z := y vs q
    rw [h1] at z; cases z
    exact pair_new st' hT (.int _) h2
theorem itz_of {a b : Addr} {xs ys : List D} {vs ws : List V} (qa : LstAt K ρ H a vs) (qb : LstAt K ρ H b ws) (ra : Reps K ρ H xs vs) (rb : Reps K ρ H ys ws) : ItR K cA ⟨pairUp xs ys, none, false⟩ ρ H (Itz K a b) := by
  have get : ∀ (xs ys : List D) (i : Nat), (pairUp xs ys)[i]? = none ∧ (xs.length ≤ i ∨ ys.length ≤ i) ∨ ∃ x y, (pairUp xs ys)[i]? = some (.tup [x, y]) ∧ xs[i]? = some x ∧ ys[i]? = some y := by
    intro xs
    induction xs with
    | nil => intro ys i; exact .inl ⟨by cases ys <;> rfl, .inl (Nat.zero_le _)⟩
    | cons x xs ih =>
      intro ys i
      cases ys with
      | nil => exact .inl ⟨rfl, .inr (Nat.zero_le _)⟩
      | cons y ys =>
        cases i with
        | zero => exact .inr ⟨x, y, rfl, rfl, rfl⟩
        | succ i =>
          rcases ih ys i with ⟨h1, h2⟩ | ⟨x', y', h1, h2, h3⟩
          · exact .inl ⟨by simpa [pairUp] using h1, h2.imp (fun h => by simpa using h) (fun h => by simpa using h)⟩
          · exact .inr ⟨x', y', by simpa [pairUp] using h1, by simpa using h2, by simpa using h3⟩
  intro ρ' H' S' i e st'
  rw [get_val0]
  rcases get xs ys i with ⟨h1, h2⟩ | ⟨x, y, h1, h2, h3⟩
  · refine ⟨fun _ => ⟨vs, ws, (qa.ext e).sq, (qb.ext e).sq, by rw [← ra.length, ← rb.length]; exact h2⟩, fun d h => by rw [h1] at h; cases h⟩
  · refine ⟨fun h => (by rw [h1] at h; cases h), fun d h => ?_⟩
    rw [h1] at h; cases h
    obtain ⟨v, p1, p2⟩ := (ra.ext e).get h2
    obtain ⟨w, q1, q2⟩ := (rb.ext e).get h3
    refine ⟨⟨vs, ws, v, w, (qa.ext e).sq, (qb.ext e).sq, p1, q1⟩, fun u H2 g => ?_⟩
    obtain ⟨T, x1, y1, rfl, hT, rfl, g1, g2⟩ := g
    have z := g1 vs (qa.ext e).sq
    rw [p1] at z; cases z
    have z := g2 ws (qb.ext e).sq
    rw [q1] at z; cases z
    exact pair_new st' hT p2 q2
theorem itzT_of {a b : Addr} {xs ys : List D} {vs ws : List V} (qa : TupAt K ρ H a vs) (qb : TupAt K ρ H b ws) (ra : Reps K ρ H xs vs) (rb : Reps K ρ H ys ws) : ItR K cA ⟨pairUp xs ys, none, false⟩ ρ H (RZ.ItzT K a b) := by
  have get : ∀ (xs ys : List D) (i : Nat), (pairUp xs ys)[i]? = none ∧ (xs.length ≤ i ∨ ys.length ≤ i) ∨ ∃ x y, (pairUp xs ys)[i]? = some (.tup [x, y]) ∧ xs[i]? = some x ∧ ys[i]? = some y := by
    intro xs
    induction xs with
    | nil => intro ys i; exact .inl ⟨by cases ys <;> rfl, .inl (Nat.zero_le _)⟩
    | cons x xs ih =>
      intro ys i
      cases ys with
      | nil => exact .inl ⟨rfl, .inr (Nat.zero_le _)⟩
      | cons y ys =>
        cases i with
        | zero => exact .inr ⟨x, y, rfl, rfl, rfl⟩
        | succ i =>
          rcases ih ys i with ⟨h1, h2⟩ | ⟨x', y', h1, h2, h3⟩
          · exact .inl ⟨by simpa [pairUp] using h1, h2.imp (fun h => by simpa using h) (fun h => by simpa using h)⟩
          · exact .inr ⟨x', y', by simpa [pairUp] using h1, by simpa using h2, by simpa using h3⟩
  intro ρ' H' S' i e st'
  rw [get_val0]
  rcases get xs ys i with ⟨h1, h2⟩ | ⟨x, y, h1, h2, h3⟩
  · refine ⟨fun _ => ⟨vs, ws, (qa.ext e).sq, (qb.ext e).sq, by rw [← ra.length, ← rb.length]; exact h2⟩, fun d h => by rw [h1] at h; cases h⟩
  · refine ⟨fun h => (by rw [h1] at h; cases h), fun d h => ?_⟩
    rw [h1] at h; cases h
    obtain ⟨v, p1, p2⟩ := (ra.ext e).get h2
    obtain ⟨w, q1, q2⟩ := (rb.ext e).get h3
    refine ⟨⟨vs, ws, v, w, (qa.ext e).sq, (qb.ext e).sq, p1, q1⟩, fun u H2 g => ?_⟩
    obtain ⟨T, x1, y1, rfl, hT, rfl, g1, g2⟩ := g
    have z := g1 vs (qa.ext e).sq
    rw [p1] at z; cases z
    have z := g2 ws (qb.ext e).sq
    rw [q1] at z; cases z
    exact pair_new st' hT p2 q2
theorem its_val {z : Str} : ItR K cA ⟨z.cps.toList.map fun c => .str ⟨#[c]⟩, none, false⟩ ρ H (Its z) := by
  intro ρ' H' S' i e st'
  rw [get_val0]
  have sz : z.cps.toList.length = z.cps.size := by simp
  refine ⟨fun h => ?_, fun d h => ?_⟩
  · have h := List.getElem?_eq_none_iff.mp (Option.some.inj h)
    rw [List.length_map, sz] at h
    exact h
  · have h := Option.some.inj h
    rw [List.getElem?_map] at h
    cases e1 : z.cps.toList[i]? with
    | none => rw [e1] at h; cases h
    | some c =>
      rw [e1] at h; cases h
      have hl := (List.getElem?_eq_some_iff.mp e1).1
      refine ⟨by show i < z.cps.size; rw [← sz]; exact hl, fun x H2 y => ?_⟩
      obtain ⟨rfl, c', hc, rfl⟩ := y
      have : c' = c := by
        rw [← Array.getElem?_toList] at hc
        rw [e1] at hc; exact (Option.some.inj hc).symm
      subst this
      exact ⟨ρ', Ext.refl, st', .str _⟩
theorem itr_val {lo : Int} {n : Nat} : ItR K cA ⟨(List.range n).map fun (k : Nat) => .int (lo + k), none, false⟩ ρ H (Itr lo n) := by
  intro ρ' H' S' i e st'
  rw [get_val0]
  refine ⟨fun h => ?_, fun d h => ?_⟩
  · have h := List.getElem?_eq_none_iff.mp (Option.some.inj h)
    rw [List.length_map, List.length_range] at h
    exact h
  · have h := Option.some.inj h
    rw [List.getElem?_map] at h
    cases e1 : (List.range n)[i]? with
    | none => rw [e1] at h; cases h
    | some c =>
      rw [e1] at h; cases h
      have hl := (List.getElem?_eq_some_iff.mp e1).1
      rw [List.length_range] at hl
      have : c = i := by
        rw [List.getElem?_range hl] at e1
        exact (Option.some.inj e1).symm
      subst this
      refine ⟨hl, fun x H2 y => ?_⟩
      obtain ⟨rfl, rfl⟩ := y
      exact ⟨ρ', Ext.refl, st', .int _⟩
theorem iter_of (st : StR K cA ρ H S) {x : D} {v : V} {it : Items} {R : It → Hp → Prop} (r : Rep K ρ H x v) (h : itersD S x = some it) (k : ∀ J, ItR K cA it ρ H J → R J H) : rIter K v H R := by
  cases r with
  | tup at_ rs => cases h; exact .inr (.inr ⟨_, rfl, ⟨_, at_.sq⟩, k _ (itt_val st at_ rs)⟩)
  | lst at_ rs => cases h; exact .inr (.inl ⟨_, rfl, ⟨_, at_.sq⟩, k _ (itl_val st at_ rs)⟩)
  | str z => cases h; exact .inl ⟨z, rfl, k _ its_val⟩
  | ref e =>
    rename_i l a
    simp only [itersD] at h
    cases q : S[l]? with
    | none => rw [q] at h; cases h
    | some o =>
      rw [q] at h
      cases o with
      | lst xs =>
        cases h
        obtain ⟨vs, e1, rs⟩ := st.at q e
        exact .inr (.inl ⟨a, rfl, ⟨vs, .of e1⟩, k _ (itl_ref e)⟩)
      | ins => cases h
      | dic => cases h
      | dead => cases h
  | _ => cases h
theorem enum_of (st : StR K cA ρ H S) {x : D} {v : V} {it : Items} {R : It → Hp → Prop} (r : Rep K ρ H x v) (h : enumD S x = some it) (k : ∀ J, ItR K cA it ρ H J → R J H) : ∃ a xs, [v] = [V.ref a] ∧ SqL K H a xs ∧ R (Ite K a) H := by
  cases r with
  | lst at_ rs =>
    cases h
    rename_i ds a vs
    refine ⟨a, vs, rfl, at_.sq, k _ (ite_of rfl fun ρ' H' S' i o e st' g => ⟨ds, vs, (at_.ext e).sq, rs.ext e, ?_⟩)⟩
    rw [get_val] at g
    exact Option.some.inj g
  | ref e =>
    rename_i l a
    simp only [enumD] at h
    cases q : S[l]? with
    | none => rw [q] at h; cases h
    | some o =>
      rw [q] at h
      cases o with
      | lst xs =>
        cases h
        obtain ⟨vs, e1, rs⟩ := st.at q e
        exact ⟨a, vs, rfl, .of e1, k _ (ite_of rfl fun ρ' H' S' i o e2 st' g => ref_get st' (e2.get e) g)⟩
      | ins => cases h
      | dic => cases h
      | dead => cases h
  | _ => cases h
theorem zip_of (st : StR K cA ρ H S) {x y : D} {v w : V} {it : Items} {R : It → Hp → Prop} (r : Rep K ρ H x v) (r2 : Rep K ρ H y w) (h : zipD x y = some it) (k : ∀ J, ItR K cA it ρ H J → R J H) :
    ∃ a b xs ys, [v, w] = [V.ref a, V.ref b] ∧ ((SqL K H a xs ∧ SqL K H b ys ∧ R (Itz K a b) H) ∨ (SqT K H a xs ∧ SqT K H b ys ∧ R (RZ.ItzT K a b) H)) := by
  cases r with
  | lst at_ rs =>
    cases r2 with
    | lst at2 rs2 => cases h; exact ⟨_, _, _, _, rfl, .inl ⟨at_.sq, at2.sq, k _ (itz_of at_ at2 rs rs2)⟩⟩
    | _ => cases h
  | tup at_ rs =>
    cases r2 with
    | tup at2 rs2 => cases h; exact ⟨_, _, _, _, rfl, .inr ⟨at_.sq, at2.sq, k _ (itzT_of at_ at2 rs rs2)⟩⟩
    | _ => cases h
  | _ => cases h
end
end Q
/-! Q5: the interpreter's expressions are read by HandS. -/
namespace Q
open PySem PySem.Spec PyProof.Rows L2

/-- the promise of a function of plain data -/
def spOf (K : PySem.W.Frag) (cA : CA) (φ : Fn) : Sp := fun vs H Q E => ∃ ρ ds S, Reps K ρ H ds vs ∧ StR K cA ρ H S ∧ tO K cA (fun cls d _ H' => E cls d H') [] ρ H (Rep K) (φ ds S) Q

/-- isinstance(e, (c1, ..)), e the error that the suite holds -/
def rIsET (K : PySem.W.Frag) (D a : Addr) : List V → Hp → VK → Prop := fun xs H Q => ∃ (tp : Addr) (cs : List V) (us : List Value) (b : Bool), xs = [.ref a, .ref tp] ∧ H tp = some (.tup cs) ∧ Paired ClsV cs us ∧ PySem.W.kitAny K (.ref D) us = some b ∧ Q (.bl b) H
theorem call_isET {X : Cx} {a D : Addr} {oe : Obj} {pn : List (Addr × Obj)} (C : ExcC X.K D) (hz : Zc (.ref D) none oe) (hf : ∃ vs, oe.data = .fields vs) : CallR (X.suite a ((a, oe) :: pn)) (.builtin "isinstance") (rIsET X.K D a) := by
  intro pins s σ H xs us Q I r h
  obtain ⟨tp, cs, ws, b, rfl, hT, k, e, q⟩ := h
  cases r with
  | cons rx rr =>
    cases rr with
    | cons rt rr =>
      cases rr
      cases rx
      cases rt
      obtain ⟨hget, _⟩ := I.pin (a, oe) (List.mem_append.mpr (.inl List.mem_cons_self))
      obtain ⟨vs, hv⟩ := hf
      have J : PySem.W.InstAt s.heap a oe D none := by
        obtain ⟨oc, od, oda, osl⟩ := oe
        obtain ⟨h1, h2⟩ := hz
        dsimp only at h1 h2 hv
        subst h1 h2 hv
        exact ⟨hget, rfl, rfl, trivial⟩
      obtain ⟨_, its, rv, o, h1, h2, n, h3⟩ := (show ObjOk X.prog X.w H s.heap tp (.tup cs) from I.hok tp _ hT)
      have e3 := ClsV.all k rv
      subst e3
      obtain ⟨oc, od, dt, sl⟩ := o
      simp only at h2 h3
      subst h2 h3
      exact PySem.W.kia_tup (PySem.W.handS_kitx_exc C.hg C.hk C.hs C.hd C.ha C.hn C.ht C.hm) I.kIn J h1 e (fun z => nomatch z) fun tk => ⟨.bl b, H, I.tok tk, rfl, q⟩
structure CfgOk (P : Program) (w : World) (K : PySem.W.Frag) (mg : Str → Option Value) (base : Heap) (cA : CA) (k : Nat) (c : Cfg) : Prop where
  fn : ∀ x φ, c.funs x = some φ → ∃ f fd ps ds dvs dds φ0, FnOk P w K mg base (L2.CX P w) k f fd ps (spOf K cA φ0) ∧ mg x = some (.ref f) ∧ PySem.W.keepIn K (.ref f) = true ∧ Binds K fd ps ds ∧ Vals dvs ds ∧ (∀ ρ H, Reps K ρ H dds dvs) ∧ φ = fun xs S => φ0 (xs ++ dds) S
  var : ∀ x d, c.vars x = some d → ∃ u v, mg x = some u ∧ RelV v u ∧ ∀ ρ H, Rep K ρ H d v
  free : ∀ x, c.free x = true → mg x = none
  exc : ∀ x, c.excs x = true → mg x = some (.ref (cA x)) ∧ PySem.W.excIn K (cA x) He.veBase "ValueError.__new__" = true ∧ PySem.W.keepIn K (.ref (cA x)) = true ∧
    PySem.W.subIn K (.ref (cA x)) (.type "BaseException") = some true ∧ PySem.W.typeIn K (.ref (cA x)) = some (.type "type")
  kit : ∀ x y b, c.kits x y = some b → ∃ v u, (mg y = some u ∧ RelV v u ∨ mg y = none ∧ bootBuiltins y = some u ∧ RelV v u) ∧ ClsV v u ∧ PySem.W.kitOne K (.ref (cA x)) u = some b ∧ PySem.W.exmOne K (.ref (cA x)) u = some b ∧ ExcC K (cA x)

/-- isinstance of the error that is held -/
structure HeldOk (X : Cx) (cA : CA) (i : Nat) (x : Str) : Prop where
  out : ∃ a, cA.pin = some (i, a) ∧ CallR X (.builtin "isinstance") (rIsE X.K (cA x) a) ∧ CallR X (.builtin "isinstance") (rIsET X.K (cA x) a)
structure XOk (cA : CA) (k : Nat) (c : Cfg) (N : List Str) (X : Cx) (sc : Scope) : Prop where
  cfg : CfgOk X.prog X.w X.K X.mg X.base cA k c
  calm : c.hot = none → X.calm = true
  room : c.hot = none → Room k X.A
  un : X.A.units + 200 < cLine
  pinAt : ∀ i a, cA.pin = some (i, a) → ∃ x, c.hot = some (i, x)
  tame : c.hot = none ∨ ((∀ f, c.funs f = none) ∧ (∀ f, c.free f = true → f = "isinstance" ∨ f = "int") ∧ ∀ x, c.excs x = false)
  held : ∀ i x, c.hot = some (i, x) → i < N.length → HeldOk X cA i x
  names : X.N = N
  nd : N.Nodup
  vis : ∀ x kd, sc.names.lookup x = some kd → (kd = .local ∨ kd = .cell ∨ kd = .free → Vis X.env.scope x) ∧ (kd = .globalImplicit → Gl X x)
  loc : ∀ x kd, sc.names.lookup x = some kd → kd = .local ∨ kd = .cell → Loc X.env.scope x ∧ (X.fn x = true ∨ X.env.scope.names.lookup x = some .local)
  cf : ∀ x, sc.names.lookup x = some .cell ∨ sc.names.lookup x = some .free → X.env.scope.names.lookup x = some .cell ∨ X.env.scope.names.lookup x = some .free

theorem calm_none {c : Cfg} (h : c.calm = true) : c.hot = none := Option.isNone_iff_eq_none.mp h
section
variable {cA : CA} {k : Nat} {c : Cfg} {N : List Str} {X : Cx} {sc : Scope}
theorem XOk.pin (x : XOk cA k c N X sc) (h : c.hot = none) : cA.pin = none := by
  cases e : cA.pin with
  | none => rfl
  | some ia =>
    obtain ⟨y, z⟩ := x.pinAt ia.1 ia.2 e
    rw [h] at z; cases z
theorem XOk.free_at (x : XOk cA k c N X sc) {i : Nat} (h : c.hotAt i = false) (a : Addr) : cA.pin ≠ some (i, a) := fun e => by
  obtain ⟨y, z⟩ := x.pinAt i a e
  unfold Cfg.hotAt at h
  rw [z] at h
  simp at h
theorem XOk.of_fun (x : XOk cA k c N X sc) {f : Str} {φ : Fn} (h : c.funs f = some φ) : c.hot = none := x.tame.elim id fun z => by rw [z.1] at h; cases h
theorem XOk.of_free (x : XOk cA k c N X sc) {f : Str} (h : c.free f = true) (h1 : f ≠ "isinstance") (h2 : f ≠ "int") : c.hot = none := x.tame.elim id fun z => (z.2.1 f h).elim (fun q => absurd q h1) fun q => absurd q h2
theorem XOk.of_exc (x : XOk cA k c N X sc) {y : Str} (h : c.excs y = true) : c.hot = none := x.tame.elim id fun z => by rw [z.2.2] at h; cases h
end
section
variable {X : Cx}
theorem PE.weak {e : Expr} {t t' : TE} (h : PE X e t) (w : ∀ σ H Q, t' σ H Q → t σ H Q) : PE X e t' := ⟨fun pins s σ H Q I q => h.run pins s σ H Q I (w σ H Q q)⟩
theorem PT.weak {e : Expr} {t t' : TT} (h : PT X e t) (w : ∀ σ H Q, t' σ H Q → t σ H Q) : PT X e t' := ⟨fun pins s σ H Q I q => h.run pins s σ H Q I (w σ H Q q)⟩
theorem PW.weak {e : Expr} {t t' : TT} (h : PW X e t) (w : ∀ σ H Q, t' σ H Q → t σ H Q) : PW X e t' := ⟨fun wh pins s σ H Q I q => h.run wh pins s σ H Q I (w σ H Q q)⟩
theorem PA.weak {es : List Expr} {t t' : TA} (h : PA X es t) (w : ∀ σ H Q, t' σ H Q → t σ H Q) : PA X es t' := ⟨fun pos pins s σ H Q I q => h.run pos pins s σ H Q I (w σ H Q q)⟩
theorem PO.weak {e : Option Expr} {t t' : TO} (h : PO X e t) (w : ∀ σ H Q, t' σ H Q → t σ H Q) : PO X e t' := ⟨fun pins s σ H Q I q => h.run pins s σ H Q I (w σ H Q q)⟩
theorem PI.weak {tg e : Expr} {t t' : TI} (h : PI X tg e t) (w : ∀ σ H R, t' σ H R → t σ H R) : PI X tg e t' := ⟨fun pins s σ H Q I q => h.run pins s σ H Q I (w σ H Q q)⟩
theorem PE.none {e : Expr} {t : TE} (w : ∀ σ H Q, ¬ t σ H Q) : PE X e t := ⟨fun pins s σ H Q I q => (w σ H Q q).elim⟩
theorem PT.none {e : Expr} {t : TT} (w : ∀ σ H Q, ¬ t σ H Q) : PT X e t := ⟨fun pins s σ H Q I q => (w σ H Q q).elim⟩
theorem PA.none {e : List Expr} {t : TA} (w : ∀ σ H Q, ¬ t σ H Q) : PA X e t := ⟨fun _ pins s σ H Q I q => (w σ H Q q).elim⟩
theorem PI.none {tg e : Expr} {t : TI} (w : ∀ σ H Q, ¬ t σ H Q) : PI X tg e t := ⟨fun pins s σ H Q I q => (w σ H Q q).elim⟩
end
section
variable {K : PySem.W.Frag} {cA : CA} {W : WX} {α β : Type}
theorem tX_bad {R : Pl → Hp → α → β → Prop} {f : Env → Store → Out α} (h : ∀ σ S, f σ S = .bad) : ∀ σ H Q, ¬ tX K cA R W f σ H Q := by
  rintro σ H Q ⟨ρ, σd, S, _, _, q⟩
  rw [h] at q; exact q
end

/-! ### side conditions of the syntax -/
theorem star_one {e : Expr} (h : isStar e = false) (env : PySem.Env) (es : List Expr) : starEach (e :: es) env = (false, eval e env) :: starEach es env := by
  cases e <;> first | rfl | cases h
theorem star_any {env : PySem.Env} {pos : Pos} : ∀ {es : List Expr}, es.any isStar = false → (backTo pos (starEach es env)).any (·.1) = false
  | [], _ => rfl
  | e :: es, h => by
    rw [List.any_cons, Bool.or_eq_false_iff] at h
    rw [star_one h.1]
    show (false || (backTo pos (starEach es env)).any (·.1)) = false
    rw [star_any h.2]; rfl
theorem star_all {env : PySem.Env} {pos : Pos} : ∀ {es : List Expr}, es.any isStar = false → (backTo pos (starEach es env)).all (fun x => !x.1) = true
  | [], _ => rfl
  | e :: es, h => by
    rw [List.any_cons, Bool.or_eq_false_iff] at h
    rw [star_one h.1]
    show (true && (backTo pos (starEach es env)).all (fun x => !x.1)) = true
    rw [star_all h.2]; rfl
theorem base_ok {e : Expr} (h : okBase e = true) (nm : Str) (env : PySem.Env) : attributeBase e nm env (eval e env) = eval e env := by
  unfold attributeBase
  cases e <;> try rfl
  rename_i f args kws pos
  cases f <;> try rfl
  cases args <;> try rfl
  cases kws <;> try rfl
  cases h
theorem plain_ix {e : Expr} (h : isSlice e = false) : PlainIx e := by
  intro o i
  cases e <;> first | rfl | cases h
theorem set_ok {e : Expr} (h : isSet e = false) (env : PySem.Env) : ∀ x, foldedSetIterable e env x = pure x := by
  intro x
  cases e <;> first | rfl | cases h
theorem set_marks {e : Expr} (h : isSet e = false) (op : CmpOp) : behindInMarks op e = false := by
  cases e <;> first | rfl | cases h
theorem pn {x : Str} (h : plainName x = true) : (x == ("__debug__" : Str)) = false ∧ (x == ("__classdict__" : Str)) = false ∧ x ≠ "__name__" := by
  simp only [plainName, Bool.and_eq_true, Bool.not_eq_true'] at h
  exact ⟨h.1.1, h.1.2, fun e => by rw [e] at h; exact absurd h.2 (by decide)⟩
theorem nm_slot {sc : Scope} {N : List Str} {x : Str} {i : Nat} (h : nmOf sc N x = .slot i) : N[i]? = some x ∧ ∃ kd, sc.names.lookup x = some kd ∧ (kd = .local ∨ kd = .cell ∨ kd = .free) := by
  unfold nmOf at h
  have get : ∀ {i : Nat}, N.idxOf? x = some i → N[i]? = some x := by
    intro i e
    obtain ⟨h1, h2, _⟩ := List.idxOf?_eq_some_iff.mp e
    rw [List.getElem?_eq_getElem h1, h2]
  cases e : sc.names.lookup x with
  | none => rw [e] at h; cases h
  | some kd =>
    rw [e] at h
    cases kd <;> simp only at h
    all_goals first
      | (cases h; done)
      | (split at h <;> first | (cases h; rename_i j; exact ⟨get j, _, rfl, by simp⟩) | (cases h))
theorem nm_glob {sc : Scope} {N : List Str} {x : Str} (h : nmOf sc N x = .glob) : sc.names.lookup x = some .globalImplicit := by
  unfold nmOf at h
  cases e : sc.names.lookup x with
  | none => rw [e] at h; cases h
  | some kd =>
    rw [e] at h
    cases kd <;> simp only at h
    all_goals first
      | rfl
      | (cases h; done)
      | (split at h <;> cases h)

/-! ### rules of ours: a walk of anything; methods; calls -/
section
variable {X : Cx}
theorem pi_any {tg e : Expr} {te : TE} (he : PE X e te) : PI X tg e (fun σ H R => te σ H fun v H1 => rIter X.K v H1 R) := by
  refine ⟨fun pins s σ H R I h => ?_⟩
  refine thn (he.run pins s σ H _ I h) fun v s1 ⟨x, H1, I1, r1, q1⟩ => ?_
  rcases q1 with ⟨z, rfl, q⟩ | ⟨a, rfl, ⟨xs, hq⟩, q⟩ | ⟨a, rfl, ⟨xs, hq⟩, q⟩
  · obtain ⟨t, rfl⟩ := r1
    cases ha : z.cps.all (· < 128)
    · exact wpAny_pyIter_wide ha (pi_one (tk := s1.toks) I1 _ (turn_str _ z t "str_iterator" (.inr rfl)) ⟨_, Heap.get?_push_size _ rfl, rfl, rfl⟩ q)
    · exact wpAny_pyIter_ascii ha (pi_one (tk := s1.toks) I1 _ (turn_str _ z t "str_ascii_iterator" (.inl rfl)) ⟨_, Heap.get?_push_size _ rfl, rfl, rfl⟩ q)
  · cases r1
    obtain ⟨its, rv, p, hz⟩ := I1.list hq
    refine wpAny_pyIter_list p.isList ?_
    refine ⟨s1.heap.objs.size, [s1.heap.objs.size], _, _, H1, rfl, I1.kept (t' := s1.toks) fun b o e => Heap.get?_push_of_some _ e, turn_list a _, ⟨_, Heap.get?_push_size _ rfl, rfl, rfl⟩, fun b hb => ?_, q⟩
    have e : b = s1.heap.objs.size := by simpa using hb
    subst e
    exact I1.fpOk (Nat.le_refl _) (I1.hok.fresh (Nat.le_refl _))
  · cases r1
    obtain ⟨its, rv, p, hz⟩ := I1.tuple hq
    refine wpAny_pyIter_tuple (show s1.heap.IsTuple a its.toArray from p) ?_
    refine ⟨s1.heap.objs.size, [s1.heap.objs.size], _, _, H1, rfl, I1.kept (t' := s1.toks) fun b o e => Heap.get?_push_of_some _ e, turn_tuple a _, ⟨_, Heap.get?_push_size _ rfl, rfl, rfl⟩, fun b hb => ?_, q⟩
    have e : b = s1.heap.objs.size := by simpa using hb
    subst e
    exact I1.fpOk (Nat.le_refl _) (I1.hok.fresh (Nat.le_refl _))
/-- a method of a built-in type, found by what the receiver is -/
def tMth (K : PySem.W.Frag) (name : Str) (to : TE) (t : TA) : TE := fun σ H Q => to σ H fun x H1 => ∃ m : MId, name = m.nm ∧ tyV K m.T x H1 ∧ t σ H1 fun xs H2 => m.rule K x xs H2 Q
theorem pe_mth {o : Expr} {to : TE} {e : Expr} {es : List Expr} {t : TA} {name : Str} {apos cpos : Pos} (hu : X.A.units + 65 < cLine) (ho : PE X o to) (ha : PA X (e :: es) t) (hb : okBase o = true) (hline : (apos.endLine == cpos.line) = true) (hs : (e :: es).any isStar = false) (hl : (e :: es).length < 20) :
    PE X (.Call (.Attribute o name apos) (e :: es) [] cpos) (tMth X.K name to t) := by
  have hs' := hs
  rw [List.any_cons, Bool.or_eq_false_iff] at hs'
  refine ⟨fun pins s σ H Q I h => ?_⟩
  refine wpAny_Call_method_late (base_ok hb name X.env) ?_ hline rfl (thn (ho.run pins s σ H _ I h) fun v s1 ⟨x, H1, I1, r1, m, hm, ty, q1⟩ => ?_)
  · rw [star_all hs]
    show (true && true && decide ((e :: es).length + 0 + 0 < 30)) = true
    rw [decide_eq_true (by omega)]; rfl
  · subst hm
    obtain ⟨h1, h2⟩ := tyV_is I1 r1 ty
    refine ⟨m.T, m.id, m.plain, m.slot, m.ty, h1, h2, ?_⟩
    have hA := ha.run cpos pins s1 σ H1 _ I1 q1
    rw [star_one hs'.1] at hA ⊢
    refine Calls.callWith_builtin (by show (false || (backTo cpos (starEach es X.env)).any (·.1)) = false; rw [star_any hs'.2] <;> rfl) (Calls.evalArgs_plain ?_)
    exact thn hA fun us s2 ⟨vs, H2, I2, r2, q2⟩ => m.ok hu pins s2 σ H2 x vs v us Q I2 r1 r2 q2
theorem pe_mth0 {o : Expr} {to : TE} {name : Str} {apos cpos : Pos} (hu : X.A.units + 65 < cLine) (ho : PE X o to) (hb : okBase o = true) (hline : (apos.endLine == cpos.line) = true) :
    PE X (.Call (.Attribute o name apos) [] [] cpos) (tMth X.K name to tNil) := by
  refine ⟨fun pins s σ H Q I h => ?_⟩
  refine wpAny_Call_method0_late (base_ok hb name X.env) hline (thn (ho.run pins s σ H _ I h) fun v s1 ⟨x, H1, I1, r1, m, hm, ty, q1⟩ => ?_)
  subst hm
  obtain ⟨h1, h2⟩ := tyV_is I1 r1 ty
  exact ⟨m.T, m.id, m.plain, m.slot, m.ty, h1, h2, Calls.callWith_builtin rfl (PySem.evalArgs_none (m.ok hu pins s1 σ H1 x [] v [] Q I1 r1 .nil q1))⟩
/-- f(), f a def -/
theorem pe_call0S {CX : CXT} {k : Nat} {f : Addr} {fd : FuncData} {ps : List Str} {sp : Sp} {dvs : List V} {ds : List Value} {E : L2.St → XK} {x : Str} {p pos : Pos}
    (F : FnOk X.prog X.w X.K X.mg X.base CX k f fd ps sp) (hr : Room k X.A) (hg : Gl X x) (hm : X.mg x = some (.ref f)) (hk : PySem.W.keepIn X.K (.ref f) = true) (hb : Binds X.K fd ps ds) (hd : Vals dvs ds) (hx : ∀ σ, PassesAt CX X σ (E σ))
    (hdb : (x == ("__debug__" : Str)) = false) : PE X (.Call (.Name x p) [] [] pos) (tCallSD sp dvs E tNil) := by
  refine ⟨fun pins s σ H Q I h => ?_⟩
  refine wpAny_Call_Name_kw (ld_glob I hg hm ?_ hdb)
  exact PySem.W.callWith_K0 I.kIn hk (run_fnSD (us := []) F hr hb hd (hx σ) I .nil h)
end

/-! ### the cases -/
section
variable {X : Cx} {cA : CA} {k : Nat} {c : Cfg} {N : List Str} {sc : Scope} {W : WX} {n : Nat}
abbrev SE (cA : CA) (c : Cfg) (N : List Str) (n : Nat) (X : Cx) (sc : Scope) (W : WX) : Prop := ∀ e, PE X e (tE X.K cA W (ev c N n sc e))
abbrev ST (cA : CA) (c : Cfg) (N : List Str) (n : Nat) (X : Cx) (sc : Scope) (W : WX) : Prop := ∀ e, PT X e (tT X.K cA W (evT c N n sc e))
abbrev SB (cA : CA) (c : Cfg) (N : List Str) (n : Nat) (X : Cx) (sc : Scope) (W : WX) : Prop := ∀ op es pos, PE X (.BoolOp op es pos) (tE X.K cA W (evB c N n sc op es))
abbrev STs (cA : CA) (c : Cfg) (N : List Str) (n : Nat) (X : Cx) (sc : Scope) (W : WX) : Prop := ∀ op es pos, PW X (.BoolOp op es pos) (tT X.K cA W (evTs c N n sc op es))
abbrev SA (cA : CA) (c : Cfg) (N : List Str) (n : Nat) (X : Cx) (sc : Scope) (W : WX) : Prop := ∀ es, PA X es (tAs X.K cA W (evA c N n sc es))
abbrev SP' (cA : CA) (c : Cfg) (N : List Str) (n : Nat) (X : Cx) (sc : Scope) (W : WX) : Prop := ∀ e, PO X e (tP X.K cA W (evP c N n sc e))
abbrev SI (cA : CA) (c : Cfg) (N : List Str) (n : Nat) (X : Cx) (sc : Scope) (W : WX) : Prop := ∀ tg e, PI X tg e (iX X.K cA W (evI c N n (isTup tg) sc e))

/-- two operands -/
theorem two_w {fa fb : Env → Store → Out D} {r : R2} {g : Store → D → D → Out D}
    (hr : ∀ σ ρ H S x y v u Q, StR X.K cA ρ H S → Rep X.K ρ H x v → Rep X.K ρ H y u → tO X.K cA W σ ρ H (Rep X.K) (g S x y) Q → r v u H Q) :
    ∀ σ H Q, tE X.K cA W (fun σ S => (fa σ S).bind fun x S1 => (fb σ S1).bind fun y S2 => g S2 x y) σ H Q → tOp r (tE X.K cA W fa) (tE X.K cA W fb) σ H Q := by
  rintro σ H Q ⟨ρ, σd, S, env, st, h⟩
  refine ⟨ρ, σd, S, env, st, (tO.bind (R1 := Rep X.K) h).post ?_⟩
  rintro v H1 ⟨ρ1, x, S1, e1, st1, r1, h1⟩
  refine ⟨ρ1, σd, S1, env.ext e1, st1, (tO.bind (R1 := Rep X.K) h1).post ?_⟩
  rintro u H2 ⟨ρ2, y, S2, e2, st2, r2, h2⟩
  exact hr σ ρ2 H2 S2 x y v u Q st2 (r1.ext e2) r2 h2
/-- one operand -/
theorem one_w {fa : Env → Store → Out D} {r : V → Hp → VK → Prop} {g : Store → D → Out D}
    (hr : ∀ σ ρ H S x v Q, StR X.K cA ρ H S → Rep X.K ρ H x v → tO X.K cA W σ ρ H (Rep X.K) (g S x) Q → r v H Q) :
    ∀ σ H Q, tE X.K cA W (fun σ S => (fa σ S).bind fun x S1 => g S1 x) σ H Q → tE X.K cA W fa σ H (fun v H1 => r v H1 Q) := by
  rintro σ H Q ⟨ρ, σd, S, env, st, h⟩
  refine ⟨ρ, σd, S, env, st, (tO.bind (R1 := Rep X.K) h).post ?_⟩
  rintro v H1 ⟨ρ1, x, S1, e1, st1, r1, h1⟩
  exact hr σ ρ1 H1 S1 x v Q st1 r1 h1

theorem c_const {k : Const} {j pos} : PE X (.Constant k j pos) (tE X.K cA W (fun _ S => ofO S (litD k))) := by
  cases k with
  | none => exact PE.weak pe_non fun σ H Q ⟨ρ, σd, S, env, st, h⟩ => h ρ H _ Ext.refl st .non
  | bool b => exact PE.weak pe_bl fun σ H Q ⟨ρ, σd, S, env, st, h⟩ => h ρ H _ Ext.refl st (.bl b)
  | int i => exact PE.weak pe_int fun σ H Q ⟨ρ, σd, S, env, st, h⟩ => h ρ H _ Ext.refl st (.int i)
  | str x => exact PE.weak pe_str fun σ H Q ⟨ρ, σd, S, env, st, h⟩ => h ρ H _ Ext.refl st (.str x)
  | _ => exact PE.none fun σ H Q ⟨ρ, σd, S, env, st, h⟩ => h
theorem c_name (x : XOk cA k c N X sc) {y : Str} {pos} : PE X (.Name y pos) (tE X.K cA W (ev c N (n + 1) sc (.Name y pos))) := by
  have key : ∀ σ S, ev c N (n + 1) sc (.Name y pos) σ S = if plainName y then (match nmOf sc N y with
      | .slot i => (match σ[i]? with
        | some (some d) => .ok d S
        | _ => .bad)
      | .glob => ofO S (c.vars y)
      | .no => .bad) else .bad := fun _ _ => rfl
  cases hp : plainName y with
  | false => exact PE.none (tX_bad fun σ S => by rw [key, hp]; rfl)
  | true =>
    obtain ⟨p1, p2, p3⟩ := pn hp
    cases hn : nmOf sc N y with
    | no => exact PE.none (tX_bad fun σ S => by rw [key, hp, hn]; rfl)
    | slot i =>
      obtain ⟨h1, kd, h2, h3⟩ := nm_slot hn
      refine PE.weak (pe_var (i := i) (by rw [x.names]; exact h1) ((x.vis _ _ h2).1 h3) p1 p2) ?_
      rintro σ H Q ⟨ρ, σd, S, env, st, h⟩
      rw [key, hp, hn] at h
      simp only [if_true] at h
      cases e : σd[i]? with
      | none => rw [e] at h; exact h.elim
      | some o =>
        rw [e] at h
        cases o with
        | none => exact h.elim
        | some d =>
          obtain ⟨v, e1, r⟩ := env.get i d e
          exact ⟨v, e1, h ρ H v Ext.refl st r⟩
    | glob =>
      cases hv : c.vars y with
      | none => exact PE.none (tX_bad fun σ S => by rw [key, hp, hn]; simp only [hv]; rfl)
      | some d =>
        obtain ⟨u, v, e1, r1, r2⟩ := x.cfg.var y d hv
        refine PE.weak (pe_glob ((x.vis _ _ (nm_glob hn)).2 rfl) e1 r1 p1) ?_
        rintro σ H Q ⟨ρ, σd, S, env, st, h⟩
        rw [key, hp, hn] at h
        simp only [hv, if_true] at h
        exact h ρ H v Ext.refl st (r2 ρ H)
theorem c_bin (ih : SE cA c N n X sc W) {a b : Expr} {op pos} : PE X (.BinOp a op b pos) (tE X.K cA W (ev c N (n + 1) sc (.BinOp a op b pos))) :=
  PE.weak (pe_op (op_of op) (ih a) (ih b)) (two_w (r := rOf X.K op) (g := fun S x y => ofO S (binD S op x y)) fun σ ρ H S x y v u Q st rx ry h => by
    obtain ⟨d, e, k⟩ := tO.ofO h
    exact bin_of st rx ry e k)
theorem c_not (ih : SE cA c N n X sc W) {a : Expr} {pos} : PE X (.UnaryOp .Not a pos) (tE X.K cA W (ev c N (n + 1) sc (.UnaryOp .Not a pos))) :=
  PE.weak (pe_notT (ih a)) (one_w (r := fun v H Q => ∃ k, TruV X.K v H k ∧ Q (.bl (!k)) H) (g := fun S x => ofO S ((truth S x).map fun b => .bl (!b))) fun σ ρ H S x v Q st rx h => by
    obtain ⟨d, e, k⟩ := tO.ofO h
    cases e2 : truth S x with
    | none => rw [e2] at e; cases e
    | some b => rw [e2] at e; cases e; exact ⟨b, tru_rep st rx e2, kon_here st k (.bl _)⟩)
theorem c_neg (ih : SE cA c N n X sc W) {a : Expr} {pos} : PE X (.UnaryOp .USub a pos) (tE X.K cA W (ev c N (n + 1) sc (.UnaryOp .USub a pos))) :=
  PE.weak (pe_un un_neg (ih a)) (one_w (r := rU fun i => .int (-i)) (g := fun S x => match x with
        | .int i => .ok (.int (-i)) S
        | _ => .bad) fun σ ρ H S x v Q st rx h => by
    cases rx with
    | int i => exact ⟨i, rfl, h ρ H _ Ext.refl st (.int _)⟩
    | _ => exact h.elim)
theorem c_cmp (x : XOk cA k c N X sc) (ih : SE cA c N n X sc W) {a b : Expr} {op pos} : PE X (.Compare a [op] [b] pos) (tE X.K cA W (ev c N (n + 1) sc (.Compare a [op] [b] pos))) := by
  cases hs : isSet b with
  | true => exact PE.none (tX_bad fun σ S => by show (if isSet b = true then _ else _) = _; rw [hs]; rfl)
  | false =>
  refine PE.weak (pe_cmpR (cmp_of (by have := x.un; omega) op) (ih a) (ih b) (set_marks hs op)) fun σ H Q h => ?_
  have h : tE X.K cA W (fun σ S => (ev c N n sc a σ S).bind fun x S1 => (ev c N n sc b σ S1).bind fun y S2 => ofO S2 ((cmpD S2 op x y).map D.bl)) σ H Q := by
    obtain ⟨ρ, σd, S, env, st, h⟩ := h
    have e : ev c N (n + 1) sc (.Compare a [op] [b] pos) σd S = if isSet b = true then .bad else (ev c N n sc a σd S).bind fun x S1 => (ev c N n sc b σd S1).bind fun y S2 => ofO S2 ((cmpD S2 op x y).map D.bl) := rfl
    rw [e, hs] at h
    exact ⟨ρ, σd, S, env, st, h⟩
  exact (two_w (r := cOf X.K op) (g := fun S x y => ofO S ((cmpD S op x y).map D.bl)) fun σ ρ H S x y v u Q st rx ry h => by
    obtain ⟨d, e, k⟩ := tO.ofO h
    cases e2 : cmpD S op x y with
    | none => rw [e2] at e; cases e
    | some b => rw [e2] at e; cases e; exact cmpr_of st rx ry e2 (kon_here st k (.bl _))) σ H Q h
theorem c_chain (x : XOk cA k c N X sc) (ih : SE cA c N n X sc W) {a b b' : Expr} {op op' pos} :
    PE X (.Compare a [op, op'] [b, b'] pos) (tE X.K cA W (ev c N (n + 1) sc (.Compare a [op, op'] [b, b'] pos))) := by
  cases hs : isSet b || isSet b' with
  | true => exact PE.none (tX_bad fun σ S => by show (if (isSet b || isSet b') = true then _ else _) = _; rw [hs]; rfl)
  | false =>
  have hm : lastMarks [op, op'] [b, b'] = false := set_marks (Bool.or_eq_false_iff.mp hs).2 op'
  have hu : X.A.units + 65 < cLine := by have := x.un; omega
  refine PE.weak (pe_chain (cmp_of hu op) (cmp_of hu op') (ih a) (ih b) (ih b') hm) ?_
  rintro σ H Q ⟨ρ, σd, S, env, st, h⟩
  have e0 : ev c N (n + 1) sc (.Compare a [op, op'] [b, b'] pos) σd S = if (isSet b || isSet b') = true then .bad else (ev c N n sc a σd S).bind fun x S1 => (ev c N n sc b σd S1).bind fun y S2 => (match cmpD S2 op x y with
      | some true => (ev c N n sc b' σd S2).bind fun z S3 => ofO S3 ((cmpD S3 op' y z).map D.bl)
      | some false => .ok (.bl false) S2
      | none => .bad) := rfl
  rw [e0, hs] at h
  refine ⟨ρ, σd, S, env, st, (tO.bind (R1 := Rep X.K) h).post ?_⟩
  rintro v H1 ⟨ρ1, x, S1, e1, st1, r1, h1⟩
  refine ⟨ρ1, σd, S1, env.ext e1, st1, (tO.bind (R1 := Rep X.K) h1).post ?_⟩
  rintro u H2 ⟨ρ2, y, S2, e2, st2, r2, h2⟩
  cases e : cmpD S2 op x y with
  | none => rw [e] at h2; exact h2.elim
  | some bb =>
    rw [e] at h2
    refine cmpr_of st2 (r1.ext e2) r2 e ⟨bb, rfl, ?_⟩
    cases bb with
    | false => exact h2 ρ2 H2 _ Ext.refl st2 (.bl _)
    | true =>
      refine ⟨ρ2, σd, S2, (env.ext e1).ext e2, st2, (tO.bind (R1 := Rep X.K) h2).post ?_⟩
      rintro w H3 ⟨ρ3, z, S3, e3, st3, r3, h3⟩
      obtain ⟨d, e4, k⟩ := tO.ofO h3
      cases e5 : cmpD S3 op' y z with
      | none => rw [e5] at e4; cases e4
      | some b3 => rw [e5] at e4; cases e4; exact cmpr_of st3 (r2.ext e3) r3 e5 (kon_here st3 k (.bl _))
theorem c_ite (ih : SE cA c N n X sc W) (iht : ST cA c N n X sc W) {t a b : Expr} {pos} : PE X (.IfExp t a b pos) (tE X.K cA W (ev c N (n + 1) sc (.IfExp t a b pos))) := by
  refine PE.weak (pe_ifExp (iht t) (ih a) (ih b)) ?_
  rintro σ H Q ⟨ρ, σd, S, env, st, h⟩
  refine ⟨ρ, σd, S, env, st, (tO.bind (R1 := RB) h).post ?_⟩
  rintro b H1 ⟨ρ1, bb, S1, e1, st1, rfl, h1⟩
  cases bb with
  | true => exact ⟨ρ1, σd, S1, env.ext e1, st1, h1⟩
  | false => exact ⟨ρ1, σd, S1, env.ext e1, st1, h1⟩
theorem c_sub (x : XOk cA k c N X sc) (ih : SE cA c N n X sc W) {a i : Expr} {pos} (hs : isSlice i = false) : PE X (.Subscript a i pos) (tE X.K cA W (ev c N (n + 1) sc (.Subscript a i pos))) := by
  have key : ∀ σ S, ev c N (n + 1) sc (.Subscript a i pos) σ S = (ev c N n sc a σ S).bind fun x S1 => (ev c N n sc i σ S1).bind fun y S2 => ofO S2 (ixD S2 x y) := by
    intro σ S
    cases i <;> first | rfl | (cases hs)
  refine PE.weak (pe_ix (ix_all (by have := x.un; omega)) (ih a) (ih i) (plain_ix hs)) fun σ H Q h => ?_
  refine two_w (r := rIxA X.K) (g := fun S x y => ofO S (ixD S x y)) (fun σ ρ H S x y v u Q st rx ry h => ?_) σ H Q ?_
  · obtain ⟨d, e, k⟩ := tO.ofO h
    exact ix_of st rx ry e k
  · obtain ⟨ρ, σd, S, env, st, h⟩ := h
    rw [key] at h
    exact ⟨ρ, σd, S, env, st, h⟩
theorem c_slice (ih : SE cA c N n X sc W) (ihp : SP' cA c N n X sc W) {a : Expr} {lo hi : Option Expr} {p2 pos} : PE X (.Subscript a (.Slice lo hi none p2) pos) (tE X.K cA W (ev c N (n + 1) sc (.Subscript a (.Slice lo hi none p2) pos))) := by
  refine PE.weak (pe_slice sl_all (ih a) (ihp lo) (ihp hi)) ?_
  rintro σ H Q ⟨ρ, σd, S, env, st, h⟩
  refine ⟨ρ, σd, S, env, st, (tO.bind (R1 := Rep X.K) h).post ?_⟩
  rintro v H1 ⟨ρ1, x, S1, e1, st1, r1, h1⟩
  refine ⟨ρ1, σd, S1, env.ext e1, st1, (tO.bind (R1 := RI) h1).post ?_⟩
  rintro l H2 ⟨ρ2, l2, S2, e2, st2, rfl, h2⟩
  refine ⟨ρ2, σd, S2, (env.ext e1).ext e2, st2, (tO.bind (R1 := RI) h2).post ?_⟩
  rintro u H3 ⟨ρ3, u2, S3, e3, st3, rfl, h3⟩
  obtain ⟨d, e, k⟩ := tO.ofO h3
  exact sl_of st3 ((r1.ext e2).ext e3) e k
theorem c_tup (iha : SA cA c N n X sc W) {es : List Expr} {j pos} : PE X (.Tuple es j pos) (tE X.K cA W (ev c N (n + 1) sc (.Tuple es j pos))) := by
  refine PE.weak (pe_tup (iha es)) ?_
  rintro σ H Q ⟨ρ, σd, S, env, st, h⟩
  refine ⟨ρ, σd, S, env, st, (tO.bind (R1 := Reps X.K) h).post ?_⟩
  rintro vs H1 ⟨ρ1, xs, S1, e1, st1, r1, h1⟩
  by_cases c : xs.length ≤ 16777216
  · rw [if_pos c] at h1
    exact ⟨by rw [line_eq, ← r1.length]; exact c, kon_tup st1 h1 r1⟩
  · rw [if_neg c] at h1; exact h1.elim
theorem newL_of {pos : Pos} {ρ : Pl} {H : Hp} {S : Store} {σ : L2.St} {xs : List D} {vs : List V} {Q : VK} (st : StR X.K cA ρ H S) (r : Reps X.K ρ H xs vs) (h : tO X.K cA W σ ρ H (Rep X.K) (newL c pos xs S) Q) :
    ∀ p, H p = none → Q (.ref p) (upd H p (.lst vs)) := by
  unfold newL at h
  split at h
  · exact kon_ref st h r
  · exact kon_lst st h r
theorem c_list (iha : SA cA c N n X sc W) {es : List Expr} {pos} : PE X (.List es pos) (tE X.K cA W (ev c N (n + 1) sc (.List es pos))) := by
  refine PE.weak (pe_lst (iha es)) ?_
  rintro σ H Q ⟨ρ, σd, S, env, st, h⟩
  refine ⟨ρ, σd, S, env, st, (tO.bind (R1 := Reps X.K) h).post ?_⟩
  rintro vs H1 ⟨ρ1, xs, S1, e1, st1, r1, h1⟩
  by_cases c : xs.length ≤ 16777216
  · rw [if_pos c] at h1
    exact ⟨by rw [line_eq, ← r1.length]; exact c, newL_of st1 r1 h1⟩
  · rw [if_neg c] at h1; exact h1.elim
theorem c_dict0 {pos} : PE X (.Dict [] [] pos) (tE X.K cA W (ev c N (n + 1) sc (.Dict [] [] pos))) := by
  refine PE.weak pe_dnewK ?_
  rintro σ H Q ⟨ρ, σd, S, env, st, h⟩ p hp
  obtain ⟨e, s⟩ := ext_alloc (u := .dK []) (o := .dic []) st hp fun ρ' H' e' q => ⟨[], q, .nil⟩
  exact h _ _ _ e s (.ref (by show (ρ.l ++ [p])[S.length]? = some p; rw [List.getElem?_append_right (by rw [st.len]; exact Nat.le_refl _), st.len, Nat.sub_self]; rfl))
section
variable {prog : Program} {w : World} {A : Around} {E : Value → Shared → Prop} {s : Shared}
theorem applied_rev {sl : Addr} {t : Tok} {n : Nat} {Q : Int × Int × Nat → Shared → Prop} (hs : s.heap.IsSliceOf sl .none .none (.int (-1) t))
    (h : Q ((n : Int) - 1, -1, n) s) : wpAny (model prog w) A (Builtin.Slice.sliceApplied (.ref sl) (pure (n : Int))) Q E s := by
  obtain ⟨os, hos, hcs, hds⟩ := id hs
  unfold Builtin.Slice.sliceApplied Builtin.Slice.sliceFields
  refine wpAny_bind (wpAny_bind (wpAny_field hos hds (x := .none) rfl (wpAny_bind (wpAny_field hos hds (x := .none) rfl (wpAny_bind (wpAny_field hos hds (x := .int (-1) t) rfl (wpAny_pure ?_)))))))
  refine wpAny_bind (HT.slicePart_ (.int _ _) ?_)
  show wpAny _ _ (if ((-1 : Int) == 0) = true then _ else _) _ _ s
  rw [if_neg (by decide)]
  refine wpAny_bind (HT.slicePart_ .none (wpAny_bind (HT.slicePart_ .none (wpAny_bind (wpAny_pure ?_)))))
  show wpAny _ _ (pure ((n : Int) - 1, (-1 : Int), Builtin.Slice.slicePlaces ((n : Int) - 1) (-1) (-1))) _ _ s
  have e : Builtin.Slice.slicePlaces ((n : Int) - 1) (-1) (-1) = n := by
    unfold Builtin.Slice.slicePlaces
    rw [if_neg (by decide)]
    have e1 : (-(-1) : Int) = 1 := by decide
    rw [e1, Int.ediv_one]
    split <;> omega
  rw [e]
  exact wpAny_pure h
theorem pick_rev (xs : Array Value) : ((List.range xs.size).filterMap fun (m : Nat) => xs[(((xs.size : Int) - 1) + (m : Int) * (-1)).toNat]?).toArray = xs.toList.reverse.toArray := by
  have e : (fun (m : Nat) => xs[(((xs.size : Int) - 1) + (m : Int) * (-1)).toNat]?) = (fun i => xs[i]?) ∘ fun k => xs.size - 1 - k := by
    funext m
    have : (((xs.size : Int) - 1) + (m : Int) * (-1)).toNat = xs.size - 1 - m := by omega
    rw [this]; rfl
  rw [e, ← List.filterMap_map, PySem.W.krv_range, List.filterMap_reverse, PySem.W.krv_all]
theorem getItem_tuple_rev {t sl : Addr} {items : Array Value} {u : Tok} {Q : Value → Shared → Prop} (ht : IsTup s.heap t items) (hs : s.heap.IsSliceOf sl .none .none (.int (-1) u))
    (h : Q (.ref s.heap.objs.size) { s with heap := s.heap.push { cls := .type "tuple", data := .seq items.toList.reverse.toArray } })
    (hsz : items.size ≤ sizeLine) : wpAny (model prog w) A (getItem (.ref t) (.ref sl)) Q E s := by
  have htake : sizeOk (.seq items.toList.reverse.toArray) := by
    show items.toList.reverse.toArray.size ≤ sizeLine
    rw [List.size_toArray, List.length_reverse, Array.length_toList]
    exact hsz
  obtain ⟨os, hos, hcs, hds⟩ := id hs
  have hTs : s.TypeIs (.ref sl) "slice" := ⟨os, hos, hcs⟩
  unfold getItem
  try with_reducible refine wpAny_holding ?_
  first | refine wpAny_bind (wpAny_pure ?_) | skip
  refine wpAny_bind (wpAny_sequenceKey ht.typeIs (by decide) ?_)
  refine wpAny_bind (wpAny_callSpecial?_slot (name := Str.ofString "__getitem__") ht.typeIs PyProof.Rows.slot_tuple_getitem
    (wpAny_call_entry PyProof.Rows.slot_tuple_getitem ht.typeIs entry_tuple_getitem ?_ (args_tuple_getitem _ _)))
  show wpAny _ _ (Builtin.Tuple.tupleItemsOf (.ref t) >>= _) _ _ s
  refine wpAny_bind (tupleItemsOf_ ht ?_)
  refine wpAny_bind (wpAny_typeOf hTs ?_)
  rw [if_pos (by decide)]
  refine wpAny_bind (applied_rev hs ?_)
  have hno : ¬ ((((items.size : Int) - 1) == 0 && (-1 : Int) == 1 && items.size == items.size) = true) := by simp
  show wpAny _ _ (if (((items.size : Int) - 1) == 0 && (-1 : Int) == 1 && items.size == items.size) = true then _ else _) _ _ s
  rw [if_neg hno, pick_rev]
  first
    | exact wpAny_bind (m := Builtin.Tuple.tupleExact _) (wpAny_newObj_type (wpAny_pure ⟨_, rfl, wpAny_pure h⟩) htake)
    | exact wpAny_bind (m := Builtin.Tuple.tupleExact _) (wpAny_newObj_type (wpAny_bind (wpAny_pure (wpAny_pure ⟨_, rfl, wpAny_pure h⟩))) htake)
    | exact wpAny_bind (wpAny_bind (m := Builtin.Tuple.tupleExact _) (wpAny_newObj_type (wpAny_pure (wpAny_pure ⟨_, rfl, wpAny_pure h⟩)) htake))
    | exact wpAny_bind (wpAny_bind (m := Builtin.Tuple.tupleExact _) (wpAny_newObj_type (wpAny_pure ⟨_, rfl, wpAny_pure h⟩) htake))
end
/-- x[::-1] of a list or a tuple -/
theorem pe_revA {e : Expr} {te : TE} {p2 p3 p4 pos : Pos} {j : Nat} (he : PE X e te) (hp : PE X (.UnaryOp .USub (.Constant (.int 1) j p3) p4) (tC (.int (-1)))) :
    PE X (.Subscript e (.Slice none none (some (.UnaryOp .USub (.Constant (.int 1) j p3) p4)) p2) pos) (fun σ H Q => te σ H fun x H1 => (∃ a xs, x = .ref a ∧ SqL X.K H1 a xs ∧ ∀ p, H1 p = none → Q (.ref p) (upd H1 p (.lst xs.reverse))) ∨ ∃ a xs, x = .ref a ∧ SqT X.K H1 a xs ∧ ∀ p, H1 p = none → Q (.ref p) (upd H1 p (.tup xs.reverse))) := by
  refine ⟨fun pins s σ H Q I h => ?_⟩
  refine Subscript_ (thn (he.run pins s σ H _ I h) fun v s1 ⟨x, H1, I1, r1, q1⟩ => ?_)
  refine wpAny_Slice ?_
  rw [evalPart_none]
  refine wpAny_pure ?_
  refine wpAny_pure ?_
  show wpAny (model X.prog X.w) X.A (eval (.UnaryOp .USub (.Constant (.int 1) j p3) p4) X.env) _ _ _
  refine thn (hp.run pins s1 σ H1 (fun y H' => y = .int (-1) ∧ H' = H1) I1 ⟨rfl, rfl⟩) fun vs s2 ⟨y, H2, I2, ry, ey, eH⟩ => ?_
  subst ey eH
  obtain ⟨t, rfl⟩ := ry
  have I4 : Inv X pins σ H2 { s2 with heap := s2.heap.push { cls := .type "slice", data := .fields #[.none, .none, .int (-1) t] } } := I2.kept (t' := s2.toks) fun b ob q => Heap.get?_push_of_some _ q
  rcases q1 with ⟨a, xs, rfl, hx, q⟩ | ⟨a, xs, rfl, hx, q⟩
  · cases r1
    obtain ⟨its, r, ht, hz⟩ := I4.list hx
    have hlen := r.length
    show wpAny (model X.prog X.w) X.A (subscriptTail e (.Slice none none (some (.UnaryOp .USub (.Constant (.int 1) j p3) p4)) p2) (.ref a) (.ref s2.heap.objs.size)) (EP X pins σ Q) X.xe { s2 with heap := s2.heap.push { cls := .type "slice", data := .fields #[.none, .none, .int (-1) t] } }
    refine tail_any ht.isList.typeIs slot_list_getitem.lookup ?_ (by with_unfolding_all rfl)
    refine wpAny_getItem_list_slice ht.isList (Heap.IsSliceOf.new ..) .none .none (.int _ _) (by decide) ?_ (by rw [List.size_toArray] <;> omega)
    rw [W.krv_pick]
    refine ⟨.ref (s2.heap.push { cls := .type "slice", data := .fields #[.none, .none, .int (-1) t] }).objs.size, _, I4.laid (t' := s2.toks) (o := .lst xs.reverse) (fun b ob q => Heap.get?_push_of_some _ q) (Nat.le_refl _) ?_, rfl, q _ (I4.hok.fresh (Nat.le_refl _))⟩
    refine ⟨by rw [List.length_reverse]; exact hz, its.reverse, 0, r.reverse, ?_⟩
    have := Heap.get?_push_size (s2.heap.push { cls := .type "slice", data := .fields #[.none, .none, .int (-1) t] }) (o := { cls := .type "list", data := .seq its.reverse.toArray 0 }) rfl
    exact this
  · cases r1
    obtain ⟨its, r, ht, hz⟩ := I4.tuple hx
    have hlen := r.length
    show wpAny (model X.prog X.w) X.A (subscriptTail e (.Slice none none (some (.UnaryOp .USub (.Constant (.int 1) j p3) p4)) p2) (.ref a) (.ref s2.heap.objs.size)) (EP X pins σ Q) X.xe { s2 with heap := s2.heap.push { cls := .type "slice", data := .fields #[.none, .none, .int (-1) t] } }
    refine tail_any ht.typeIs PyProof.Rows.slot_tuple_getitem.lookup ?_ (by with_unfolding_all rfl)
    refine getItem_tuple_rev ht (Heap.IsSliceOf.new ..) ?_ (by rw [List.size_toArray] <;> omega)
    refine ⟨.ref (s2.heap.push { cls := .type "slice", data := .fields #[.none, .none, .int (-1) t] }).objs.size, _, I4.laid (t' := s2.toks) (o := .tup xs.reverse) (fun b ob q => Heap.get?_push_of_some _ q) (Nat.le_refl _) ?_, rfl, q _ (I4.hok.fresh (Nat.le_refl _))⟩
    refine ⟨by rw [List.length_reverse]; exact hz, its.reverse, r.reverse, _, Heap.get?_push_size (s2.heap.push { cls := .type "slice", data := .fields #[.none, .none, .int (-1) t] }) (o := { cls := .type "tuple", data := .seq its.reverse.toArray 0 }) rfl, rfl, 0, rfl⟩
theorem c_rev (ih : SE cA c N n X sc W) {a : Expr} {j p2 p3 p4 pos} : PE X (.Subscript a (.Slice none none (some (.UnaryOp .USub (.Constant (.int 1) j p3) p4)) p2) pos)
    (tE X.K cA W (ev c N (n + 1) sc (.Subscript a (.Slice none none (some (.UnaryOp .USub (.Constant (.int 1) j p3) p4)) p2) pos))) := by
  have minus : PE X (.UnaryOp .USub (.Constant (.int 1) j p3) p4) (tC (.int (-1))) := PE.weak (pe_un un_neg pe_int) fun σ H Q q => ⟨1, rfl, q⟩
  refine PE.weak (pe_revA (ih a) minus) ?_
  rintro σ H Q ⟨ρ, σd, S, env, st, h⟩
  refine ⟨ρ, σd, S, env, st, (tO.bind (R1 := Rep X.K) h).post ?_⟩
  rintro v H1 ⟨ρ1, x, S1, e1, st1, r1, h1⟩
  obtain ⟨d, e, k⟩ := tO.ofO h1
  exact rev_of st1 r1 e k
/-! a display of a dict -/
abbrev RKV (K : PySem.W.Frag) : Pl → Hp → List (L2.Key × D) → List (V × V) → Prop := fun ρ H r ps => ∃ ws : List (L2.Key × V), ps = ws.map (fun kv => (kV kv.1, kv.2)) ∧ FReps K ρ H r ws
def trsOf (K : PySem.W.Frag) (cA : CA) (W : WX) (c : Cfg) (N : List Str) (sc : Scope) : Nat → List (Option Expr) → List Expr → List (TE × TE)
  | n, some k :: ks, v :: vs => (tE K cA W (ev c N (n - 1) sc k), tE K cA W (ev c N (n - 1) sc v)) :: trsOf K cA W c N sc (n - 1) ks vs
  | _, _, _ => []
theorem disp_pps {pos : Pos} : ∀ (ks : List (Option Expr)) (vs : List Expr) (n : Nat), (∀ m, m ≤ n → SE cA c N m X sc W) → ks.all (·.isSome) = true → ks.length = vs.length → PPs X pos ks vs (trsOf X.K cA W c N sc n ks vs)
  | [], [], _, _, _, _ => pps_nil
  | [], _ :: _, _, _, _, h => by cases h
  | _ :: _, [], _, _, _, h => by cases h
  | none :: _, _ :: _, _, _, h, _ => by cases h
  | some k :: ks, v :: vs, n, ih, hs, hl => pps_cons (ih (n - 1) (Nat.sub_le _ _) k) (ih (n - 1) (Nat.sub_le _ _) v) (disp_pps ks vs (n - 1) (fun m hm => ih m (Nat.le_trans hm (Nat.sub_le _ _))) hs (by simpa using hl))
theorem disp_w : ∀ (n : Nat) (ks : List (Option Expr)) (vs : List Expr) (σ : L2.St) (H : Hp) (Q : List (V × V) → Hp → Prop), tX X.K cA (RKV X.K) W (evD c N n sc ks vs) σ H Q → tPairs (trsOf X.K cA W c N sc n ks vs) σ H Q
  | 0, ks, vs, σ, H, Q, h => (tX_bad (f := evD c N 0 sc ks vs) (fun _ _ => rfl) σ H Q h).elim
  | n + 1, [], [], σ, H, Q, ⟨ρ, σd, S, env, st, h⟩ => h ρ H [] Ext.refl st ⟨[], rfl, .nil⟩
  | n + 1, [], _ :: _, σ, H, Q, ⟨ρ, σd, S, env, st, h⟩ => h.elim
  | n + 1, none :: _, [], σ, H, Q, ⟨ρ, σd, S, env, st, h⟩ => h.elim
  | n + 1, some _ :: _, [], σ, H, Q, ⟨ρ, σd, S, env, st, h⟩ => h.elim
  | n + 1, none :: _, _ :: _, σ, H, Q, ⟨ρ, σd, S, env, st, h⟩ => h.elim
  | n + 1, some k :: ks, v :: vs, σ, H, Q, ⟨ρ, σd, S, env, st, h⟩ => by
    have h : tO X.K cA W σ ρ H (RKV X.K) ((ev c N n sc k σd S).bind fun x S1 => (ev c N n sc v σd S1).bind fun y S2 => (evD c N n sc ks vs σd S2).bind fun r S3 => (match keyD x with
      | some k => .ok ((k, y) :: r) S3
      | none => .bad)) Q := h
    refine ⟨ρ, σd, S, env, st, (tO.bind (R1 := Rep X.K) h).post ?_⟩
    rintro u H1 ⟨ρ1, x, S1, e1, st1, r1, h1⟩
    refine ⟨ρ1, σd, S1, env.ext e1, st1, (tO.bind (R1 := Rep X.K) h1).post ?_⟩
    rintro w H2 ⟨ρ2, y, S2, e2, st2, r2, h2⟩
    refine disp_w n ks vs σ H2 _ ⟨ρ2, σd, S2, (env.ext e1).ext e2, st2, (tO.bind (R1 := RKV X.K) h2).post ?_⟩
    rintro ps H3 ⟨ρ3, r, S3, e3, st3, ⟨ws, rfl, r3⟩, h3⟩
    cases e : keyD x with
    | none => rw [e] at h3; exact h3.elim
    | some kk =>
      rw [e] at h3
      have : u = kV kk := keyD_rep r1 e
      subst this
      exact h3 ρ3 H3 _ Ext.refl st3 ⟨(kk, w) :: ws, rfl, .cons (r2.ext e3) r3⟩
theorem evD_len : ∀ (n : Nat) (ks : List (Option Expr)) (vs : List Expr) (σ : Env) (S : Store) (r : List (L2.Key × D)) (S' : Store), evD c N n sc ks vs σ S = .ok r S' → r.length = ks.length
  | 0, _, _, _, _, _, _, h => by cases h
  | n + 1, [], [], _, _, _, _, h => by cases h; rfl
  | n + 1, [], _ :: _, _, _, _, _, h => by cases h
  | n + 1, none :: _, [], _, _, _, _, h => by cases h
  | n + 1, some _ :: _, [], _, _, _, _, h => by cases h
  | n + 1, none :: _, _ :: _, _, _, _, _, h => by cases h
  | n + 1, some k :: ks, v :: vs, σ, S, r, S', h => by
    have h : ((ev c N n sc k σ S).bind fun x S1 => (ev c N n sc v σ S1).bind fun y S2 => (evD c N n sc ks vs σ S2).bind fun r S3 => (match keyD x with
      | some k => Out.ok ((k, y) :: r) S3
      | none => .bad)) = .ok r S' := h
    cases e1 : ev c N n sc k σ S with
    | exc => rw [e1] at h; cases h
    | bad => rw [e1] at h; cases h
    | ok x S1 =>
      rw [e1] at h
      have h : ((ev c N n sc v σ S1).bind fun y S2 => (evD c N n sc ks vs σ S2).bind fun r S3 => (match keyD x with
        | some k => Out.ok ((k, y) :: r) S3
        | none => .bad)) = .ok r S' := h
      cases e2 : ev c N n sc v σ S1 with
      | exc => rw [e2] at h; cases h
      | bad => rw [e2] at h; cases h
      | ok y S2 =>
        rw [e2] at h
        have h : ((evD c N n sc ks vs σ S2).bind fun r S3 => (match keyD x with
          | some k => Out.ok ((k, y) :: r) S3
          | none => .bad)) = .ok r S' := h
        cases e3 : evD c N n sc ks vs σ S2 with
        | exc => rw [e3] at h; cases h
        | bad => rw [e3] at h; cases h
        | ok r3 S3 =>
          rw [e3] at h
          have h : (match keyD x with
            | some k => Out.ok ((k, y) :: r3) S3
            | none => .bad) = .ok r S' := h
          cases e4 : keyD x with
          | none => rw [e4] at h; cases h
          | some kk =>
            rw [e4] at h; cases h
            rw [List.length_cons, List.length_cons, evD_len n ks vs σ S2 r3 _ e3]
theorem c_disp (ih : ∀ m, m ≤ n → SE cA c N m X sc W) {ks : List (Option Expr)} {vs : List Expr} {pos} (h0 : ks ≠ []) : PE X (.Dict ks vs pos) (tE X.K cA W (ev c N (n + 1) sc (.Dict ks vs pos))) := by
  have e0 : ∀ σ S, ev c N (n + 1) sc (.Dict ks vs pos) σ S = if ks.all (·.isSome) = true ∧ ks.length = vs.length ∧ ks.length ≤ 15 then (evD c N n sc ks vs σ S).bind fun kvs S1 => .ok (.ref S1.length) (S1 ++ [.dic (mergeG [] kvs)]) else .bad := fun σ S => by
    cases ks with
    | nil => exact absurd rfl h0
    | cons _ _ => rfl
  by_cases hc : ks.all (·.isSome) = true ∧ ks.length = vs.length ∧ ks.length ≤ 15
  case neg => exact PE.none (tX_bad fun σ S => by rw [e0, if_neg hc])
  obtain ⟨hs, hc⟩ := hc
  refine PE.weak (pe_disp (disp_pps ks vs n ih hs hc.1) hs hc.1 h0 hc.2) ?_
  rintro σ H Q ⟨ρ, σd, S, env, st, h⟩ p hp
  rw [e0, if_pos ⟨hs, hc⟩] at h
  have hpb : p ∉ ρ.b := fun z => (st.bl p z).1 hp
  obtain ⟨el, sl⟩ := lock_new (u := .dK []) st hp
  refine disp_w n ks vs σ _ _ ⟨ρ.lock p, σd, S, env.ext el, sl, ?_⟩
  cases er : evD c N n sc ks vs σd S with
  | bad => rw [er] at h; exact h.elim
  | exc x S1 => rw [er] at h; exact fun ρ1 H1 e1 s1 => h ρ1 H1 (el.trans e1) s1
  | ok kvs S1 =>
    rw [er] at h
    have hlen := evD_len n ks vs σd S kvs S1 er
    rintro ρ1 H1 ps e1 s1 ⟨ws, rfl, r1⟩
    have hb : p ∈ ρ1.b := e1.lo p List.mem_cons_self
    have hl : p ∉ ρ1.l := (s1.bl p hb).2
    have h1 : H1 p = some (.dK []) := e1.keep p _ (fun z => (sl.bl p List.mem_cons_self).2 z) upd_same
    refine ⟨h1, ws, rfl, by rw [← r1.length, hlen]; exact hc.2, ?_⟩
    obtain ⟨s2, k1, k2⟩ := lock_turn (u := .dK (mergeK [] ws)) s1 hb
    have r2 : FReps X.K ρ1 (upd H1 p (.dK (mergeK [] ws))) (mergeG [] kvs) (mergeK [] ws) := FReps.merge (FReps.mapR (fun r => k1 r) r1) .nil
    obtain ⟨s3, hlast⟩ := unlock_keepD s2 hb upd_same r2
    have ed : Ext ρ H (ρ1.drop p) (upd H1 p (.dK (mergeK [] ws))) := ((el.trans e1).turn hp).drop hpb
    have e3 : Ext ρ H ((ρ1.drop p).more p) (upd H1 p (.dK (mergeK [] ws))) := by
      obtain ⟨τ, t1, t2⟩ := ed.pre
      refine ⟨⟨τ ++ [p], ?_, fun a ha => ?_⟩, ed.lo, ed.hi, ed.keep, ed.tr, ed.pn⟩
      · show (ρ1.drop p).l ++ [p] = _
        rw [t1, List.append_assoc]
      · rcases List.mem_append.mp ha with z | z
        · exact t2 a z
        · rw [List.mem_singleton.mp z]; exact hp
    exact h _ _ _ e3 s3 (.ref hlast)
end
end Q
/-! Q6: the further cases, and all of them. -/
namespace Q
open PySem PySem.Spec PyProof.Rows L2
section
variable {X : Cx} {cA : CA} {k : Nat} {c : Cfg} {N : List Str} {sc : Scope} {W : WX} {n : Nat}

theorem c_boolE (ihb : SB cA c N n X sc W) {op es pos} : PE X (.BoolOp op es pos) (tE X.K cA W (ev c N (n + 1) sc (.BoolOp op es pos))) := ihb op es pos
theorem c_boolV (ih : SE cA c N n X sc W) (ihb : SB cA c N n X sc W) : SB cA c N (n + 1) X sc W := by
  intro op es pos
  rcases es with _ | ⟨a, _ | ⟨b, rest⟩⟩
  · exact PE.none (tX_bad fun σ S => rfl)
  · exact PE.weak (pe_one (ih a)) fun σ H Q ⟨ρ, σd, S, env, st, h⟩ => ⟨ρ, σd, S, env, st, h⟩
  · cases op with
    | And =>
      refine PE.weak (pe_andT (ih a) (ihb .And (b :: rest) pos)) ?_
      rintro σ H Q ⟨ρ, σd, S, env, st, h⟩
      refine ⟨ρ, σd, S, env, st, (tO.bind (R1 := Rep X.K) h).post ?_⟩
      rintro v H1 ⟨ρ1, x, S1, e1, st1, r1, h1⟩
      cases e : truth S1 x with
      | none => rw [e] at h1; exact h1.elim
      | some kk =>
        rw [e] at h1
        refine ⟨kk, tru_rep st1 r1 e, ?_⟩
        cases kk with
        | true => exact ⟨ρ1, σd, S1, env.ext e1, st1, h1⟩
        | false => exact h1 ρ1 H1 v Ext.refl st1 r1
    | Or =>
      refine PE.weak (pe_orT (ih a) (ihb .Or (b :: rest) pos)) ?_
      rintro σ H Q ⟨ρ, σd, S, env, st, h⟩
      refine ⟨ρ, σd, S, env, st, (tO.bind (R1 := Rep X.K) h).post ?_⟩
      rintro v H1 ⟨ρ1, x, S1, e1, st1, r1, h1⟩
      cases e : truth S1 x with
      | none => rw [e] at h1; exact h1.elim
      | some kk =>
        rw [e] at h1
        refine ⟨kk, tru_rep st1 r1 e, ?_⟩
        cases kk with
        | true => exact h1 ρ1 H1 v Ext.refl st1 r1
        | false => exact ⟨ρ1, σd, S1, env.ext e1, st1, h1⟩
theorem c_tests (iht : ST cA c N n X sc W) (ihs : STs cA c N n X sc W) : STs cA c N (n + 1) X sc W := by
  intro op es pos
  rcases es with _ | ⟨a, _ | ⟨b, rest⟩⟩
  · exact ⟨fun _ pins s σ H Q I q => (tX_bad (fun σ S => rfl) σ H Q q).elim⟩
  · cases op with
    | And => exact PW.weak (pw_and1 (iht a)) fun σ H Q ⟨ρ, σd, S, env, st, h⟩ => ⟨ρ, σd, S, env, st, h⟩
    | Or => exact PW.weak (pw_or1 (iht a)) fun σ H Q ⟨ρ, σd, S, env, st, h⟩ => ⟨ρ, σd, S, env, st, h⟩
  · cases op with
    | And =>
      refine PW.weak (pw_and (iht a) (ihs .And (b :: rest) pos)) ?_
      rintro σ H Q ⟨ρ, σd, S, env, st, h⟩
      refine ⟨ρ, σd, S, env, st, (tO.bind (R1 := RB) h).post ?_⟩
      rintro b H1 ⟨ρ1, bb, S1, e1, st1, rfl, h1⟩
      cases bb with
      | true => exact ⟨ρ1, σd, S1, env.ext e1, st1, h1⟩
      | false => exact h1 ρ1 H1 _ Ext.refl st1 rfl
    | Or =>
      refine PW.weak (pw_or (iht a) (ihs .Or (b :: rest) pos)) ?_
      rintro σ H Q ⟨ρ, σd, S, env, st, h⟩
      refine ⟨ρ, σd, S, env, st, (tO.bind (R1 := RB) h).post ?_⟩
      rintro b H1 ⟨ρ1, bb, S1, e1, st1, rfl, h1⟩
      cases bb with
      | true => exact h1 ρ1 H1 _ Ext.refl st1 rfl
      | false => exact ⟨ρ1, σd, S1, env.ext e1, st1, h1⟩
/-- a value, as a test -/
theorem t_val (ih : SE cA c N n X sc W) {e : Expr} (he : ∀ whole, isTrue e X.env whole = (do let v ← whole; standAt e.pos; holding [v] (truthy v))) :
    PT X e (tT X.K cA W (fun σ S => (ev c N n sc e σ S).bind fun x S1 => ofO S1 (truth S1 x))) := by
  refine PT.weak (pt_truth (ih e) he) ?_
  rintro σ H Q ⟨ρ, σd, S, env, st, h⟩
  refine ⟨ρ, σd, S, env, st, (tO.bind (R1 := Rep X.K) h).post ?_⟩
  rintro v H1 ⟨ρ1, x, S1, e1, st1, r1, h1⟩
  obtain ⟨b, e, kq⟩ := tO.ofO h1
  exact ⟨b, tru_rep st1 r1 e, kq ρ1 H1 b Ext.refl st1 rfl⟩
theorem t_cmp (x : XOk cA k c N X sc) (ih : ∀ m, m < n → SE cA c N m X sc W) {a : Expr} {ops : List CmpOp} {bs : List Expr} {pos} :
    PT X (.Compare a ops bs pos) (tT X.K cA W (fun σ S => (ev c N n sc (.Compare a ops bs pos) σ S).bind fun x S1 => (match x with
      | .bl k => .ok k S1
      | _ => .bad))) := by
  have bad : (∀ σ S, ev c N n sc (.Compare a ops bs pos) σ S = .bad) → PT X (.Compare a ops bs pos) (tT X.K cA W (fun σ S => (ev c N n sc (.Compare a ops bs pos) σ S).bind fun x S1 => (match x with
      | .bl k => .ok k S1
      | _ => .bad))) := fun h => PT.none (tX_bad fun σ S => by rw [h]; rfl)
  cases n with
  | zero => exact bad fun _ _ => rfl
  | succ n =>
    have ih := ih n (Nat.lt_succ_self n)
    have hu : X.A.units + 65 < cLine := by have := x.un; omega
    rcases ops with _ | ⟨op, _ | ⟨op', _ | ⟨op'', ops⟩⟩⟩
    · exact bad fun _ _ => rfl
    · rcases bs with _ | ⟨b, _ | ⟨b', bs⟩⟩
      · exact bad fun _ _ => rfl
      · cases hs : isSet b with
        | true => exact bad fun σ S => by show (if isSet b = true then _ else _) = _; rw [hs]; rfl
        | false =>
          refine PT.weak (pt_cmpR (cmp_of hu op) (ih a) (ih b) (set_marks hs op)) ?_
          rintro σ H Q ⟨ρ, σd, S, env, st, h⟩
          have e0 : ev c N (n + 1) sc (.Compare a [op] [b] pos) σd S = if isSet b = true then .bad else (ev c N n sc a σd S).bind fun x S1 => (ev c N n sc b σd S1).bind fun y S2 => ofO S2 ((cmpD S2 op x y).map D.bl) := rfl
          dsimp only at h
          rw [e0, hs] at h
          have h' := tO.bind (R1 := Rep X.K) h
          have h' : tO X.K cA W σ ρ H (Rep X.K) ((ev c N n sc a σd S).bind fun x S1 => (ev c N n sc b σd S1).bind fun y S2 => ofO S2 ((cmpD S2 op x y).map D.bl)) _ := h'
          refine ⟨ρ, σd, S, env, st, (tO.bind (R1 := Rep X.K) h').post ?_⟩
          rintro v H1 ⟨ρ1, x, S1, e1, st1, r1, h1⟩
          refine ⟨ρ1, σd, S1, env.ext e1, st1, (tO.bind (R1 := Rep X.K) h1).post ?_⟩
          rintro u H2 ⟨ρ2, y, S2, e2, st2, r2, h2⟩
          obtain ⟨d, e3, kq⟩ := tO.ofO h2
          cases e : cmpD S2 op x y with
          | none => rw [e] at e3; cases e3
          | some bb =>
            rw [e] at e3; cases e3
            refine cmpr_of st2 (r1.ext e2) r2 e ⟨bb, rfl, ?_⟩
            obtain ⟨ρ4, d4, S4, e4, st4, r4, h4⟩ := kq ρ2 H2 _ Ext.refl st2 (.bl _)
            cases r4
            exact h4 ρ4 H2 _ Ext.refl st4 rfl
      · exact bad fun _ _ => rfl
    · rcases bs with _ | ⟨b, _ | ⟨b', _ | ⟨b'', bs⟩⟩⟩
      · exact bad fun _ _ => rfl
      · exact bad fun _ _ => rfl
      · cases hs : isSet b || isSet b' with
        | true => exact bad fun σ S => by show (if (isSet b || isSet b') = true then _ else _) = _; rw [hs]; rfl
        | false =>
          have hm : lastMarks [op, op'] [b, b'] = false := set_marks (Bool.or_eq_false_iff.mp hs).2 op'
          refine PT.weak (pt_chain (cmp_of hu op) (cmp_of hu op') (ih a) (ih b) (ih b') hm) ?_
          rintro σ H Q ⟨ρ, σd, S, env, st, h⟩
          have e0 : ev c N (n + 1) sc (.Compare a [op, op'] [b, b'] pos) σd S = if (isSet b || isSet b') = true then .bad else (ev c N n sc a σd S).bind fun x S1 => (ev c N n sc b σd S1).bind fun y S2 => (match cmpD S2 op x y with
            | some true => (ev c N n sc b' σd S2).bind fun z S3 => ofO S3 ((cmpD S3 op' y z).map D.bl)
            | some false => .ok (.bl false) S2
            | none => .bad) := rfl
          dsimp only at h
          rw [e0, hs] at h
          have h' := tO.bind (R1 := Rep X.K) h
          have h' : tO X.K cA W σ ρ H (Rep X.K) ((ev c N n sc a σd S).bind fun x S1 => (ev c N n sc b σd S1).bind fun y S2 => (match cmpD S2 op x y with
            | some true => (ev c N n sc b' σd S2).bind fun z S3 => ofO S3 ((cmpD S3 op' y z).map D.bl)
            | some false => .ok (.bl false) S2
            | none => .bad)) _ := h'
          refine ⟨ρ, σd, S, env, st, (tO.bind (R1 := Rep X.K) h').post ?_⟩
          rintro v H1 ⟨ρ1, x, S1, e1, st1, r1, h1⟩
          refine ⟨ρ1, σd, S1, env.ext e1, st1, (tO.bind (R1 := Rep X.K) h1).post ?_⟩
          rintro u H2 ⟨ρ2, y, S2, e2, st2, r2, h2⟩
          cases e : cmpD S2 op x y with
          | none => rw [e] at h2; exact h2.elim
          | some bb =>
            rw [e] at h2
            refine cmpr_of st2 (r1.ext e2) r2 e ⟨bb, rfl, ?_⟩
            cases bb with
            | false =>
              obtain ⟨ρ4, d4, S4, e4, st4, r4, h4⟩ := h2 ρ2 H2 _ Ext.refl st2 (.bl _)
              cases r4
              exact ⟨false, rfl, h4 ρ4 H2 _ Ext.refl st4 rfl⟩
            | true =>
              refine ⟨ρ2, σd, S2, (env.ext e1).ext e2, st2, (tO.bind (R1 := Rep X.K) h2).post ?_⟩
              rintro w H3 ⟨ρ3, z, S3, e3, st3, r3, h3⟩
              obtain ⟨d, e4, kq⟩ := tO.ofO h3
              cases e5 : cmpD S3 op' y z with
              | none => rw [e5] at e4; cases e4
              | some b3 =>
                rw [e5] at e4; cases e4
                refine cmpr_of st3 (r2.ext e3) r3 e5 ⟨b3, rfl, ?_⟩
                obtain ⟨ρ6, d6, S6, e6, st6, r6, h6⟩ := kq ρ3 H3 _ Ext.refl st3 (.bl _)
                cases r6
                exact h6 ρ6 H3 _ Ext.refl st6 rfl
      · exact bad fun _ _ => rfl
    · rcases bs with _ | ⟨b, _ | ⟨b', _ | ⟨b'', bs⟩⟩⟩ <;> exact bad fun _ _ => rfl
theorem c_test (x : XOk cA k c N X sc) (ihl : ∀ m, m < n → SE cA c N m X sc W) (ih : SE cA c N n X sc W) (iht : ST cA c N n X sc W) (ihs : STs cA c N n X sc W) : ST cA c N (n + 1) X sc W := by
  intro e
  cases e with
  | UnaryOp op a pos =>
    cases op with
    | Not =>
      refine PT.weak (pt_not (iht a)) ?_
      rintro σ H Q ⟨ρ, σd, S, env, st, h⟩
      refine ⟨ρ, σd, S, env, st, (tO.bind (R1 := RB) h).post ?_⟩
      rintro b H1 ⟨ρ1, bb, S1, e1, st1, rfl, h1⟩
      exact h1 ρ1 H1 _ Ext.refl st1 rfl
    | _ => exact t_val ih (fun _ => rfl)
  | BoolOp op es pos => exact (ihs op es pos).pt
  | IfExp => exact PT.none (tX_bad fun σ S => rfl)
  | Compare a ops bs pos => exact t_cmp x ihl
  | _ => exact t_val ih (fun _ => rfl)
theorem c_args (ih : SE cA c N n X sc W) (iha : SA cA c N n X sc W) : SA cA c N (n + 1) X sc W := by
  intro es
  cases es with
  | nil => exact PA.weak pa_nil fun σ H Q ⟨ρ, σd, S, env, st, h⟩ => h ρ H [] Ext.refl st .nil
  | cons a rest =>
    cases hs : isStar a with
    | true => exact PA.none (tX_bad fun σ S => by show (if isStar a = true then _ else _) = _; rw [hs]; rfl)
    | false =>
      refine PA.weak (pa_cons (ih a) (iha rest) (star_one hs _ _)) ?_
      rintro σ H Q ⟨ρ, σd, S, env, st, h⟩
      have e0 : evA c N (n + 1) sc (a :: rest) σd S = if isStar a = true then .bad else (ev c N n sc a σd S).bind fun x S1 => (evA c N n sc rest σd S1).bind fun xs S2 => .ok (x :: xs) S2 := rfl
      rw [e0, hs] at h
      have h : tO X.K cA W σ ρ H (Reps X.K) ((ev c N n sc a σd S).bind fun x S1 => (evA c N n sc rest σd S1).bind fun xs S2 => .ok (x :: xs) S2) Q := h
      refine ⟨ρ, σd, S, env, st, (tO.bind (R1 := Rep X.K) h).post ?_⟩
      rintro v H1 ⟨ρ1, x, S1, e1, st1, r1, h1⟩
      refine ⟨ρ1, σd, S1, env.ext e1, st1, (tO.bind (R1 := Reps X.K) h1).post ?_⟩
      rintro vs H2 ⟨ρ2, xs, S2, e2, st2, r2, h2⟩
      exact h2 ρ2 H2 _ Ext.refl st2 (.cons (r1.ext e2) r2)
theorem c_part (ih : SE cA c N n X sc W) : SP' cA c N (n + 1) X sc W := by
  intro e
  cases e with
  | none => exact PO.weak po_none fun σ H Q ⟨ρ, σd, S, env, st, h⟩ => h ρ H none Ext.refl st rfl
  | some a =>
    refine PO.weak (po_some (ih a)) ?_
    rintro σ H Q ⟨ρ, σd, S, env, st, h⟩
    refine ⟨ρ, σd, S, env, st, (tO.bind (R1 := Rep X.K) h).post ?_⟩
    rintro v H1 ⟨ρ1, x, S1, e1, st1, r1, h1⟩
    cases r1 with
    | int i => exact ⟨i, rfl, h1 ρ1 H1 _ Ext.refl st1 rfl⟩
    | _ => exact h1.elim
theorem i_val (ih : SE cA c N n X sc W) {tg e : Expr} : PI X tg e (iX X.K cA W (fun σ S => (ev c N n sc e σ S).bind fun x S1 => ofO S1 (itersD S1 x))) := by
  refine PI.weak (pi_any (ih e)) ?_
  rintro σ H R ⟨ρ, σd, S, env, st, h⟩
  refine ⟨ρ, σd, S, env, st, (tO.bind (R1 := Rep X.K) h).post ?_⟩
  rintro v H1 ⟨ρ1, x, S1, e1, st1, r1, h1⟩
  obtain ⟨it, e, kq⟩ := tO.ofO h1
  exact iter_of st1 r1 e fun J hJ => kq ρ1 H1 J Ext.refl st1 hJ
theorem glob_of {f : Str} (h3 : (match nmOf sc N f with | .glob => true | _ => false) = true) : nmOf sc N f = .glob := by
  cases q : nmOf sc N f with
  | glob => rfl
  | slot => rw [q] at h3; cases h3
  | no => rw [q] at h3; cases h3
theorem tup_is {e : Expr} (h : isTup e = true) : ∃ es k p, e = .Tuple es k p := by
  cases e <;> first | exact ⟨_, _, _, rfl⟩ | cases h
theorem c_iter (x : XOk cA k c N X sc) (ih : SE cA c N n X sc W) : SI cA c N (n + 1) X sc W := by
  intro tg e
  have other : (∀ σ S, evI c N (n + 1) (isTup tg) sc e σ S = (ev c N n sc e σ S).bind fun x S1 => ofO S1 (itersD S1 x)) → PI X tg e (iX X.K cA W (evI c N (n + 1) (isTup tg) sc e)) := by
    intro h
    refine PI.weak (i_val ih) ?_
    rintro σ H R ⟨ρ, σd, S, env, st, h'⟩
    rw [h] at h'
    exact ⟨ρ, σd, S, env, st, h'⟩
  cases e with
  | Call f args kws pos =>
    cases f with
    | Name f p =>
      cases kws with
      | cons _ _ => rcases args with _ | ⟨a, _ | ⟨b, _ | ⟨d, args⟩⟩⟩ <;> exact other fun _ _ => rfl
      | nil =>
        rcases args with _ | ⟨a, _ | ⟨b, _ | ⟨d, args⟩⟩⟩
        · exact other fun _ _ => rfl
        · cases ht : (f == "range" && c.free f && (match nmOf sc N f with | .glob => true | _ => false)) with
          | false =>
            have e1 : ∀ σd S, evI c N (n + 1) (isTup tg) sc (.Call (.Name f p) [a] [] pos) σd S = (if isTup tg && (f == "enumerate" && c.free f && (match nmOf sc N f with | .glob => true | _ => false)) then
        (if isStar a then .bad else (ev c N n sc a σd S).bind fun x S1 => ofO S1 (enumD S1 x))
      else (ev c N n sc (.Call (.Name f p) [a] [] pos) σd S).bind fun x S1 => ofO S1 (itersD S1 x)) := fun σd S => by show (if (f == "range" && c.free f && (match nmOf sc N f with | .glob => true | _ => false)) = true then _ else _) = _; rw [ht]; rfl
            cases hen : (isTup tg && (f == "enumerate" && c.free f && (match nmOf sc N f with | .glob => true | _ => false))) with
            | false => exact other fun σ S => by rw [e1, hen]; rfl
            | true =>
              have e2 : ∀ σd S, evI c N (n + 1) (isTup tg) sc (.Call (.Name f p) [a] [] pos) σd S = (if isStar a then .bad else (ev c N n sc a σd S).bind fun x S1 => ofO S1 (enumD S1 x)) := fun σd S => by rw [e1, hen]; rfl
              rw [Bool.and_eq_true, Bool.and_eq_true, Bool.and_eq_true] at hen
              obtain ⟨h0, ⟨h1, h2⟩, h3⟩ := hen
              have hg := glob_of h3
              have h1 : f = "enumerate" := beq_iff_eq.mp h1
              subst h1
              cases hs : isStar a with
              | true => exact PI.none (tX_bad fun σ S => by rw [e2, hs]; rfl)
              | false =>
                obtain ⟨es, kk, tp, rfl⟩ := tup_is h0
                refine PI.weak (pi_enum ((x.vis _ _ (nm_glob hg)).2 rfl) (x.cfg.free _ h2) (pa_cons (ih a) pa_nil (star_one hs _ _)) (star_one hs _ _)) ?_
                rintro σ H R ⟨ρ, σd, S, env, st, h⟩
                rw [e2, hs] at h
                refine ⟨ρ, σd, S, env, st, (tO.bind (R1 := Rep X.K) h).post ?_⟩
                rintro v H1 ⟨ρ1, x, S1, e1, st1, r1, h1⟩
                obtain ⟨it, e, kq⟩ := tO.ofO h1
                exact enum_of st1 r1 e fun J hJ => kq ρ1 H1 J Ext.refl st1 hJ
          | true =>
            have e0 : ∀ σd S, evI c N (n + 1) (isTup tg) sc (.Call (.Name f p) [a] [] pos) σd S = (if isStar a then .bad else (ev c N n sc a σd S).bind fun x S1 => (match x with
              | .int j => if small62 j then .ok (rangeD 0 j) S1 else .bad
              | _ => .bad)) := fun σd S => by show (if (f == "range" && c.free f && (match nmOf sc N f with | .glob => true | _ => false)) = true then _ else _) = _; rw [ht]; rfl
            rw [Bool.and_eq_true, Bool.and_eq_true] at ht
            obtain ⟨⟨h1, h2⟩, h3⟩ := ht
            have h1 : f = "range" := beq_iff_eq.mp h1
            have hg : nmOf sc N f = .glob := by
              cases q : nmOf sc N f with
              | glob => rfl
              | slot => rw [q] at h3; cases h3
              | no => rw [q] at h3; cases h3
            subst h1
            cases hs : isStar a with
            | true => exact PI.none (tX_bad fun σ S => by rw [e0, hs]; rfl)
            | false =>
              refine PI.weak (pi_range1 ((x.vis _ _ (nm_glob hg)).2 rfl) (x.cfg.free _ h2) (pa_cons (ih a) pa_nil (star_one hs _ _)) (star_one hs _ _)) ?_
              rintro σ H R ⟨ρ, σd, S, env, st, h⟩
              rw [e0, hs] at h
              refine ⟨ρ, σd, S, env, st, (tO.bind (R1 := Rep X.K) h).post ?_⟩
              rintro v H1 ⟨ρ1, x, S1, e1, st1, r1, h1⟩
              cases r1 with
              | int j =>
                cases hj : small62 j with
                | false => simp only [hj] at h1; exact h1.elim
                | true =>
                  simp only [hj, if_true] at h1
                  rw [small62, Bool.and_eq_true] at hj
                  refine ⟨j, rfl, of_decide_eq_true hj.1, of_decide_eq_true hj.2, h1 ρ1 H1 _ Ext.refl st1 ?_⟩
                  have : rangeD 0 j = ⟨(List.range j.toNat).map fun (k : Nat) => .int (0 + k), none, false⟩ := by unfold rangeD; rw [Int.sub_zero]
                  rw [this]
                  exact itr_val
              | _ => exact h1.elim
        · cases ht : (f == "range" && c.free f && (match nmOf sc N f with | .glob => true | _ => false)) with
          | false =>
            have e1 : ∀ σd S, evI c N (n + 1) (isTup tg) sc (.Call (.Name f p) [a, b] [] pos) σd S = (if isTup tg && (f == "zip" && c.free f && (match nmOf sc N f with | .glob => true | _ => false)) then
        (if isStar a || isStar b then .bad else (ev c N n sc a σd S).bind fun x S1 => (ev c N n sc b σd S1).bind fun y S2 => ofO S2 (zipD x y))
      else (ev c N n sc (.Call (.Name f p) [a, b] [] pos) σd S).bind fun x S1 => ofO S1 (itersD S1 x)) := fun σd S => by show (if (f == "range" && c.free f && (match nmOf sc N f with | .glob => true | _ => false)) = true then _ else _) = _; rw [ht]; rfl
            cases hen : (isTup tg && (f == "zip" && c.free f && (match nmOf sc N f with | .glob => true | _ => false))) with
            | false => exact other fun σ S => by rw [e1, hen]; rfl
            | true =>
              have e2 : ∀ σd S, evI c N (n + 1) (isTup tg) sc (.Call (.Name f p) [a, b] [] pos) σd S = (if isStar a || isStar b then .bad else (ev c N n sc a σd S).bind fun x S1 => (ev c N n sc b σd S1).bind fun y S2 => ofO S2 (zipD x y)) := fun σd S => by rw [e1, hen]; rfl
              rw [Bool.and_eq_true, Bool.and_eq_true, Bool.and_eq_true] at hen
              obtain ⟨h0, ⟨h1, h2⟩, h3⟩ := hen
              have hg := glob_of h3
              have h1 : f = "zip" := beq_iff_eq.mp h1
              subst h1
              cases hs : isStar a || isStar b with
              | true => exact PI.none (tX_bad fun σ S => by rw [e2, hs]; rfl)
              | false =>
                obtain ⟨hs1, hs2⟩ := Bool.or_eq_false_iff.mp hs
                obtain ⟨es, kk, tp, rfl⟩ := tup_is h0
                refine PI.weak (RZ.pi_zipA ((x.vis _ _ (nm_glob hg)).2 rfl) (x.cfg.free _ h2) (pa_cons (ih a) (pa_cons (ih b) pa_nil (star_one hs2 _ _)) (star_one hs1 _ _)) (star_one hs1 _ _) (by rw [star_one hs2]; rfl)) ?_
                rintro σ H R ⟨ρ, σd, S, env, st, h⟩
                rw [e2, hs] at h
                refine ⟨ρ, σd, S, env, st, (tO.bind (R1 := Rep X.K) h).post ?_⟩
                rintro v H1 ⟨ρ1, x, S1, e1, st1, r1, h1⟩
                refine ⟨ρ1, σd, S1, env.ext e1, st1, (tO.bind (R1 := Rep X.K) h1).post ?_⟩
                rintro u H2 ⟨ρ2, y, S2, e2, st2, r2, h2⟩
                obtain ⟨it, e, kq⟩ := tO.ofO h2
                exact zip_of st2 (r1.ext e2) r2 e fun J hJ => kq ρ2 H2 J Ext.refl st2 hJ
          | true =>
            have e0 : ∀ σd S, evI c N (n + 1) (isTup tg) sc (.Call (.Name f p) [a, b] [] pos) σd S = (if isStar a || isStar b then .bad else (ev c N n sc a σd S).bind fun x S1 => (ev c N n sc b σd S1).bind fun y S2 => (match x, y with
          | .int i, .int j => if small62 i && small62 j then .ok (rangeD i j) S2 else .bad
          | _, _ => .bad)) := fun σd S => by show (if (f == "range" && c.free f && (match nmOf sc N f with | .glob => true | _ => false)) = true then _ else _) = _; rw [ht]; rfl
            rw [Bool.and_eq_true, Bool.and_eq_true] at ht
            obtain ⟨⟨h1, h2⟩, h3⟩ := ht
            have h1 : f = "range" := beq_iff_eq.mp h1
            have hg : nmOf sc N f = .glob := by
              cases q : nmOf sc N f with
              | glob => rfl
              | slot => rw [q] at h3; cases h3
              | no => rw [q] at h3; cases h3
            subst h1
            cases hs : isStar a || isStar b with
            | true => exact PI.none (tX_bad fun σ S => by rw [e0, hs]; rfl)
            | false =>
              obtain ⟨hs1, hs2⟩ := Bool.or_eq_false_iff.mp hs
              refine PI.weak (pi_range2 ((x.vis _ _ (nm_glob hg)).2 rfl) (x.cfg.free _ h2) (pa_cons (ih a) (pa_cons (ih b) pa_nil (star_one hs2 _ _)) (star_one hs1 _ _)) (by rw [star_one hs1, star_one hs2]; rfl) (star_one hs2 _ _)) ?_
              rintro σ H R ⟨ρ, σd, S, env, st, h⟩
              rw [e0, hs] at h
              refine ⟨ρ, σd, S, env, st, (tO.bind (R1 := Rep X.K) h).post ?_⟩
              rintro v H1 ⟨ρ1, x, S1, e1, st1, r1, h1⟩
              refine ⟨ρ1, σd, S1, env.ext e1, st1, (tO.bind (R1 := Rep X.K) h1).post ?_⟩
              rintro u H2 ⟨ρ2, y, S2, e2, st2, r2, h2⟩
              cases r1 with
              | int i =>
                cases r2 with
                | int j =>
                  cases hj : (small62 i && small62 j) with
                  | false => simp only [hj] at h2; exact h2.elim
                  | true =>
                    simp only [hj, if_true] at h2
                    rw [Bool.and_eq_true, small62, small62, Bool.and_eq_true, Bool.and_eq_true] at hj
                    exact ⟨i, j, rfl, ⟨of_decide_eq_true hj.1.1, of_decide_eq_true hj.1.2, of_decide_eq_true hj.2.1, of_decide_eq_true hj.2.2⟩, h2 ρ2 H2 _ Ext.refl st2 itr_val⟩
                | _ => exact h2.elim
              | _ => exact h2.elim
        · exact other fun _ _ => rfl
    | _ => exact other fun _ _ => rfl
  | _ => exact other fun _ _ => rfl
end
end Q
/-! Q7: targets, comprehensions, calls; every expression is read. -/
namespace Q
open PySem PySem.Spec PyProof.Rows L2

/-! ### targets -/
def gNames : List Nat → TGs
  | [] => gNil
  | i :: is => gCons (gName i) (gNames is)
def gTg (K : PySem.W.Frag) (tg : Expr) (is : List Nat) : TG := match tg, is with
  | .Name .., [i] => gName i
  | .Tuple .., is => gTup K is.length (gNames is)
  | _, _ => fun _ _ _ _ => False
theorem st_slot {sc : Scope} {N : List Str} {x : Str} {i : Nat} (h : stOf sc N x = some i) : N[i]? = some x ∧ ∃ kd, sc.names.lookup x = some kd ∧ (kd = .local ∨ kd = .cell) := by
  unfold stOf at h
  have get : ∀ {i : Nat}, N.idxOf? x = some i → N[i]? = some x := by
    intro i e
    obtain ⟨h1, h2, _⟩ := List.idxOf?_eq_some_iff.mp e
    rw [List.getElem?_eq_getElem h1, h2]
  cases e : sc.names.lookup x with
  | none => rw [e] at h; cases h
  | some kd =>
    rw [e] at h
    cases kd <;> simp only at h
    all_goals first
      | exact ⟨get h, _, rfl, by simp⟩
      | (cases h; done)
section
variable {X : Cx} {cA : CA} {k : Nat} {c : Cfg} {N : List Str} {sc : Scope}
theorem pg_st (x : XOk cA k c N X sc) {y : Str} {pos : Pos} {i : Nat} (h : stOf sc N y = some i) : PG X (.Name y pos) (gName i) := by
  obtain ⟨h1, kd, h2, h3⟩ := st_slot h
  obtain ⟨l1, l2⟩ := x.loc _ _ h2 h3
  exact pg_name (by rw [x.names]; exact x.nd) (by rw [x.names]; exact h1) l1 l2
theorem each_names (env : PySem.Env) : ∀ {es : List Expr} {xs : List Str}, tgEach es = some xs → (assignEach es env).length = xs.length ∧ (assignEach es env).findIdx? (·.1) = none
  | [], xs, h => by cases h; exact ⟨rfl, rfl⟩
  | .Name y p :: es, xs, h => by
    simp only [tgEach] at h
    cases e : tgEach es with
    | none => rw [e] at h; cases h
    | some ys =>
      rw [e] at h; cases h
      obtain ⟨h1, h2⟩ := each_names env e
      refine ⟨congrArg (· + 1) h1, ?_⟩
      show List.findIdx? _ ((false, assign (.Name y p) env) :: assignEach es env) = none
      rw [List.findIdx?_cons, h2]; rfl
  | .BoolOp .. :: _, _, h => by cases h
  | .NamedExpr .. :: _, _, h => by cases h
  | .BinOp .. :: _, _, h => by cases h
  | .UnaryOp .. :: _, _, h => by cases h
  | .Lambda .. :: _, _, h => by cases h
  | .IfExp .. :: _, _, h => by cases h
  | .Dict .. :: _, _, h => by cases h
  | .Set .. :: _, _, h => by cases h
  | .ListComp .. :: _, _, h => by cases h
  | .SetComp .. :: _, _, h => by cases h
  | .DictComp .. :: _, _, h => by cases h
  | .GeneratorExp .. :: _, _, h => by cases h
  | .Await .. :: _, _, h => by cases h
  | .Yield .. :: _, _, h => by cases h
  | .YieldFrom .. :: _, _, h => by cases h
  | .Compare .. :: _, _, h => by cases h
  | .Call .. :: _, _, h => by cases h
  | .FormattedValue .. :: _, _, h => by cases h
  | .JoinedStr .. :: _, _, h => by cases h
  | .Constant .. :: _, _, h => by cases h
  | .Attribute .. :: _, _, h => by cases h
  | .Subscript .. :: _, _, h => by cases h
  | .Starred .. :: _, _, h => by cases h
  | .List .. :: _, _, h => by cases h
  | .Tuple .. :: _, _, h => by cases h
  | .Slice .. :: _, _, h => by cases h
theorem slots_len {sc : Scope} {N : List Str} : ∀ {xs : List Str} {is : List Nat}, slotsOf sc N xs = some is → is.length = xs.length
  | [], is, h => by cases h; rfl
  | x :: xs, is, h => by
    simp only [slotsOf] at h
    cases e1 : stOf sc N x with
    | none => rw [e1] at h; cases h
    | some i =>
      cases e2 : slotsOf sc N xs with
      | none => rw [e1, e2] at h; cases h
      | some js => rw [e1, e2] at h; cases h; exact congrArg (· + 1) (slots_len e2)
theorem pgs_names (x : XOk cA k c N X sc) : ∀ {es : List Expr} {xs : List Str} {is : List Nat}, tgEach es = some xs → slotsOf sc N xs = some is → PGs X es (gNames is)
  | es, xs, is, h, h2 => by
    cases es with
    | nil => cases h; cases h2; exact pgs_nil
    | cons e es =>
      cases e with
      | Name y p =>
        simp only [tgEach] at h
        cases e1 : tgEach es with
        | none => rw [e1] at h; cases h
        | some ys =>
          rw [e1] at h; cases h
          simp only [slotsOf] at h2
          cases e2 : stOf sc N y with
          | none => rw [e2] at h2; cases h2
          | some i =>
            cases e3 : slotsOf sc N ys with
            | none => rw [e2, e3] at h2; cases h2
            | some js =>
              rw [e2, e3] at h2; cases h2
              exact pgs_cons (pg_st x e2) (pgs_names x e1 e3)
      | _ => cases h
theorem pg_tg (x : XOk cA k c N X sc) (hn : c.hot = none) {tg : Expr} {xs : List Str} {is : List Nat} (h : tgNames tg = some xs) (h2 : slotsOf sc N xs = some is) : PG X tg (gTg X.K tg is) := by
  cases tg with
  | Name y p =>
    cases h
    simp only [slotsOf] at h2
    cases e2 : stOf sc N y with
    | none => rw [e2] at h2; cases h2
    | some i => rw [e2] at h2; cases h2; exact pg_st x e2
  | Tuple es kk p =>
    have h : tgEach es = some xs := h
    obtain ⟨h3, h4⟩ := each_names X.env h
    exact pg_tup (x.calm hn) (pgs_names x h h2) (by rw [h3, slots_len h2]) h4
  | _ => cases h
/-- the slots behind a target's store -/
def setV (σ : L2.St) : List Nat → List V → L2.St
  | i :: is, v :: vs => setV (σ.set i (some v)) is vs
  | _, _ => σ
theorem env_setAll {K : PySem.W.Frag} {ρ : Pl} {H : Hp} (hp : ρ.pin = none) : ∀ {is : List Nat} {ds : List D} {vs : List V} {σd : Env} {σ : L2.St}, EnvR K ρ H σd σ → Reps K ρ H ds vs → EnvR K ρ H (setAll σd is ds) (setV σ is vs)
  | [], ds, vs, _, _, e, r => by cases r <;> exact e
  | i :: is, _, _, _, _, e, .nil => e
  | i :: is, d :: ds, v :: vs, σd, σ, e, .cons q r => by
    show EnvR K ρ H (setAll (σd.set i (some d)) is ds) (setV (σ.set i (some v)) is vs)
    exact env_setAll hp (e.set q fun a z => by rw [hp] at z; cases z) r
theorem gNames_of : ∀ {is : List Nat} {vs : List V} {σ : L2.St} {H : Hp} {Q : L2.St → Hp → Prop}, vs.length = is.length → Q (setV σ is vs) H → gNames is vs σ H Q
  | [], [], _, _, _, _, q => ⟨rfl, q⟩
  | [], _ :: _, _, _, _, h, _ => by cases h
  | _ :: _, [], _, _, _, h, _ => by cases h
  | i :: is, v :: vs, σ, H, Q, h, q => ⟨v, vs, rfl, gNames_of (Nat.succ.inj h) q⟩
/-- an item goes to a target -/
theorem tg_of {K : PySem.W.Frag} {ρ : Pl} {H : Hp} (hp : ρ.pin = none) {tg : Expr} {xs : List Str} {is : List Nat} {σd σ' : Env} {σ : L2.St} {d : D} {v : V} {Q : L2.St → Hp → Prop} (h : tgNames tg = some xs) (h2 : slotsOf sc N xs = some is)
    (hb : bindTg tg sc N σd d = some σ') (env : EnvR K ρ H σd σ) (r : Rep K ρ H d v) (q : ∀ vs : List V, vs.length = is.length → EnvR K ρ H σ' (setV σ is vs) → Q (setV σ is vs) H) : gTg K tg is v σ H Q := by
  cases tg with
  | Name y p =>
    cases h
    simp only [slotsOf] at h2
    cases e2 : stOf sc N y with
    | none => rw [e2] at h2; cases h2
    | some i =>
      rw [e2] at h2; cases h2
      simp only [bindTg, e2] at hb
      cases hb
      exact q [v] rfl (env.set r fun a z => by rw [hp] at z; cases z)
  | Tuple es kk p =>
    have h : tgEach es = some xs := h
    simp only [bindTg, h, h2, bT] at hb
    cases d with
    | tup ds =>
      simp only [seqT] at hb
      split at hb <;> cases hb
      rename_i hl
      cases r with
      | tup at_ rs =>
        rename_i a vs
        have hl' : vs.length = is.length := by rw [← rs.length]; exact hl
        exact ⟨a, vs, rfl, at_.sq, hl', gNames_of hl' (q vs hl' (env_setAll hp env rs))⟩
    | _ => cases hb
  | _ => cases h
theorem setV_out {i : Nat} : ∀ {is : List Nat} {vs : List V} {σ : L2.St}, i ∉ is → (setV σ is vs)[i]? = σ[i]?
  | [], vs, _, _ => by cases vs <;> rfl
  | _ :: _, [], _, _ => rfl
  | j :: is, v :: vs, σ, h => by
    show (setV (σ.set j (some v)) is vs)[i]? = _
    rw [setV_out (fun z => h (List.mem_cons_of_mem _ z)), List.getElem?_set_ne (fun z => h (by rw [z]; exact List.mem_cons_self))]
theorem setV_length : ∀ {is : List Nat} {vs : List V} {σ : L2.St}, (setV σ is vs).length = σ.length
  | [], vs, _ => by cases vs <;> rfl
  | _ :: _, [], _ => rfl
  | j :: is, v :: vs, σ => by
    show (setV (σ.set j (some v)) is vs).length = _
    rw [setV_length, List.length_set]
theorem wipe_in {i : Nat} : ∀ {is : List Nat} {σ : L2.St}, i ∈ is → (L2.wipe σ is)[i]? = if i < σ.length then some none else none
  | j :: is, σ, h => by
    show ((L2.wipe σ is).set j none)[i]? = _
    by_cases hj : j = i
    · subst hj
      by_cases hl : j < σ.length
      · rw [if_pos hl, List.getElem?_set_self (by rw [L2.wipe_length]; exact hl)]
      · rw [if_neg hl, List.getElem?_eq_none (by rw [List.length_set, L2.wipe_length]; omega)]
    · rw [List.getElem?_set_ne hj]
      rcases List.mem_cons.mp h with z | z
      · exact absurd z.symm hj
      · exact wipe_in z
theorem wipe_setV {is : List Nat} {vs : List V} {σ : L2.St} : L2.wipe (setV (L2.wipe σ is) is vs) is = L2.wipe (L2.wipe σ is) is ∧ L2.wipe (setV (L2.wipe σ is) is vs) is = L2.wipe σ is := by
  have key : ∀ τ : L2.St, τ.length = σ.length → (∀ i, i ∉ is → τ[i]? = σ[i]?) → L2.wipe τ is = L2.wipe σ is := by
    intro τ hl ho
    apply List.ext_getElem?
    intro i
    by_cases hi : i ∈ is
    · rw [wipe_in hi, wipe_in hi, hl]
    · rw [L2.wipe_out hi, L2.wipe_out hi]; exact ho i hi
  have l1 : (setV (L2.wipe σ is) is vs).length = σ.length := by rw [setV_length, L2.wipe_length]
  have o1 : ∀ i, i ∉ is → (setV (L2.wipe σ is) is vs)[i]? = σ[i]? := fun i hi => by rw [setV_out hi, L2.wipe_out hi]
  have l2 : (L2.wipe σ is).length = σ.length := L2.wipe_length _ _
  have o2 : ∀ i, i ∉ is → (L2.wipe σ is)[i]? = σ[i]? := fun i hi => L2.wipe_out hi
  exact ⟨(key _ l1 o1).trans (key _ l2 o2).symm, key _ l1 o1⟩

/-! ### a comprehension's block -/
theorem look_relabel {env : PySem.Env} : ∀ {names : List (Str × NameKind)} {x : Str} {kd : NameKind}, names.lookup x = some kd →
    (names.map fun (n, k) => if (k == NameKind.free && env.scope.kind == .function && env.kindOf n == some .cell) then (n, NameKind.cell) else (n, k)).lookup x = some kd ∨ (kd = .free ∧
    (names.map fun (n, k) => if (k == NameKind.free && env.scope.kind == .function && env.kindOf n == some .cell) then (n, NameKind.cell) else (n, k)).lookup x = some .cell)
  | [], _, _, h => by simp at h
  | (n, k) :: r, x, kd, h => by
    cases hx : x == n with
    | true =>
      simp only [List.lookup_cons, hx] at h
      cases h
      cases hc : (k == NameKind.free && env.scope.kind == .function && env.kindOf n == some .cell) with
      | true =>
        refine .inr ⟨?_, ?_⟩
        · rw [Bool.and_eq_true, Bool.and_eq_true] at hc
          exact beq_iff_eq.mp hc.1.1
        · rw [List.map_cons]; simp only [hc, if_true, List.lookup_cons, hx]
      | false =>
        refine .inl ?_
        rw [List.map_cons]; simp [hc, List.lookup_cons, hx]
    | false =>
      simp only [List.lookup_cons, hx] at h
      have ih := look_relabel (env := env) h
      rw [List.map_cons]
      cases hc : (k == NameKind.free && env.scope.kind == .function && env.kindOf n == some .cell) <;> simpa [hc, List.lookup_cons, hx] using ih
theorem XOk.blk (x : XOk cA k c N X sc) (hn : c.hot = none) (scope : Scope) (s : Shared) (H : Hp) (C : Addr) (cl : List (Str × Addr)) (fp : List Addr) : XOk cA k c N (X.blk s H scope (compEnvC scope cl C X.env) fp) scope where
  cfg := x.cfg
  calm := x.calm
  room := x.room
  un := x.un
  pinAt := x.pinAt
  tame := x.tame
  held := fun i y z => by rw [hn] at z; cases z
  names := x.names
  nd := x.nd
  vis := fun y kd h => by
    have l := look_relabel (env := X.env) h
    refine ⟨fun z => ?_, fun z => ?_⟩
    · rcases l with l | ⟨_, l⟩
      · rcases z with rfl | rfl | rfl
        · exact .inl l
        · exact .inr (.inl l)
        · exact .inr (.inr l)
      · exact .inr (.inl l)
    · subst z
      rcases l with l | ⟨z, _⟩
      · exact l
      · cases z
  loc := fun y kd h z => by
    have l := look_relabel (env := X.env) h
    rcases z with rfl | rfl
    · rcases l with l | ⟨z, _⟩
      · exact ⟨.inl l, .inr l⟩
      · cases z
    · rcases l with l | ⟨z, _⟩
      · refine ⟨.inr l, .inl ?_⟩
        show (scope.names.lookup y == some .cell) = true
        rw [h]; rfl
      · cases z
  cf := fun y h => by
    rcases h with h | h
    · rcases look_relabel (env := X.env) h with l | ⟨z, _⟩
      · exact .inl l
      · cases z
    · rcases look_relabel (env := X.env) h with l | ⟨_, l⟩
      · exact .inr l
      · exact .inl l
end
end Q
/-! Q8: comprehensions, calls; every expression is read. -/
namespace Q
open PySem PySem.Spec PyProof.Rows L2
section
variable {X : Cx} {cA : CA} {k : Nat} {c : Cfg} {N : List Str} {sc : Scope} {W : WX} {n : Nat}
abbrev W0 : WX := fun _ _ _ _ => False

/-- a turn of a comprehension -/
def turnF (c : Cfg) (N : List Str) (n : Nat) (scope : Scope) (tg elt : Expr) (ifs : List Expr) (is : List Nat) (σ : Env) : D → Store → Out (Option D) := fun d S2 => match bindTg tg scope N (wipeE σ is) d with
  | some σ2 => (match ifs with
    | [] => (ev c N n scope elt σ2 S2).bind fun y S3 => .ok (some y) S3
    | [t] => (evT c N n scope t σ2 S2).bind fun k S3 => if k = true then (ev c N n scope elt σ2 S3).bind fun y S4 => .ok (some y) S4 else .ok none S3
    | _ => .bad)
  | none => .bad
def ttOf (K : PySem.W.Frag) (cA : CA) (c : Cfg) (N : List Str) (n : Nat) (scope : Scope) : List Expr → TT
  | [] => tYes
  | [t] => tT K cA W0 (evT c N n scope t)
  | _ => fun _ _ _ => False

theorem comp_read {it : Items} {f : D → Store → Out (Option D)} {J : It} {g : TG} {tt : TT} {te : TE} {is : List Nat} {σ : L2.St} {σd : Env} {ρ1 : Pl} {H1 : Hp} {S1 : Store} {pos : Pos} {Q : VK}
    (env : EnvR X.K ρ1 H1 σd σ) (st : StR X.K cA ρ1 H1 S1) (hJ : ItR X.K cA it ρ1 H1 J)
    (turn : ∀ ρ H S d v (P1 : V → Hp → Prop) (Nx : Hp → Prop), EnvR X.K ρ H σd σ → StR X.K cA ρ H S → Rep X.K ρ H d v →
      (match f d S with
        | .ok (some y) S' => ∀ ρ' H' u, Ext ρ H ρ' H' → StR X.K cA ρ' H' S' → Rep X.K ρ' H' y u → P1 u H'
        | .ok none S' => ∀ ρ' H', Ext ρ H ρ' H' → StR X.K cA ρ' H' S' → Nx H'
        | _ => False) →
      g v (L2.wipe σ is) H fun σ2 H2 => L2.wipe σ2 is = L2.wipe σ is ∧ tt σ2 H2 fun b H3 => if b = true then te σ2 H3 P1 else Nx H3)
    (h : tO X.K cA W σ ρ1 H1 (Rep X.K) ((compF it f loopMost 0 [] S1).bind fun ys S2 => newL c pos ys S2) Q) :
    ∀ D, H1 D = none → ∃ W' : Nat → Nat → Hp → Prop, (∃ m, W' 0 m (upd H1 D (.lst []))) ∧ ∀ i m H, W' i m H →
      (J.stop i H ∧ Q (.ref D) H) ∨ (J.go i H ∧ ∃ Nx : Hp → Prop, (∀ H', Nx H' → ∃ m', m' < m ∧ W' (i + 1) m' H') ∧ ∀ x H', J.yld i H x H' → g x (L2.wipe σ is) H' fun σ2 H2 => L2.wipe σ2 is = L2.wipe σ is ∧ tt σ2 H2 fun b H3 =>
        if b = true then te σ2 H3 fun y H4 => ∃ acc, H4 D = some (.lst acc) ∧ acc.length < sizeLine ∧ Nx (upd H4 D (.lst (acc ++ [y]))) else Nx H3) := by
  intro D hD
  have hDb : D ∉ ρ1.b := fun z => (st.bl D z).1 hD
  refine ⟨fun i m H => ∃ ρ S acc accV, Ext ρ1 H1 ρ H ∧ D ∈ ρ.b ∧ StR X.K cA ρ H S ∧ H D = some (.lst accV) ∧ Reps X.K ρ H acc accV ∧
    tO X.K cA W σ ρ1 H1 (Rep X.K) ((compF it f m i acc S).bind fun ys S2 => newL c pos ys S2) Q, ⟨loopMost, ?_⟩, ?_⟩
  · obtain ⟨e, s⟩ := lock_new (u := .lst []) st hD
    exact ⟨ρ1.lock D, S1, [], [], e, List.mem_cons_self, s, upd_same, .nil, h⟩
  · rintro i m H ⟨ρ, S, acc, accV, e, hb, s, hv, rs, q⟩
    have hdl : D ∉ ρ.l := (s.bl D hb).2
    cases m with
    | zero => exact q.elim
    | succ m =>
      obtain ⟨j1, j2⟩ := hJ ρ H S i e s
      have e0 : compF it f (m + 1) i acc S = (match it.get S i with
        | none => .bad
        | some none => .ok acc S
        | some (some x) => (match f x S with
          | .ok (some y) S1 => if acc.length < 16777216 then compF it f m (i + 1) (acc ++ [y]) S1 else .bad
          | .ok none S1 => compF it f m (i + 1) acc S1
          | _ => .bad)) := rfl
      rw [e0] at q
      cases g0 : it.get S i with
      | none => rw [g0] at q; exact q.elim
      | some o =>
        rw [g0] at q
        cases o with
        | none =>
          refine .inl ⟨j1 g0, ?_⟩
          have q : tO X.K cA W σ ρ1 H1 (Rep X.K) (newL c pos acc S) Q := q
          obtain ⟨s2, r2, rs2⟩ := unlock (p := D) s
          have ed := e.drop hDb
          have hnl : D ∉ (ρ.drop D).l := hdl
          have hnb : ¬ (ρ.drop D).has D := by
            rintro (z | z)
            · exact hnl z
            · exact of_decide_eq_true (List.mem_filter.mp z).2 rfl
          unfold newL at q
          split at q
          · have q : tO X.K cA W σ ρ1 H1 (Rep X.K) (.ok (.ref S.length) (S ++ [.lst acc])) Q := q
            have e3 : Ext ρ1 H1 ((ρ.drop D).more D) H := by
              obtain ⟨τ, t1, t2⟩ := ed.pre
              refine ⟨⟨τ ++ [D], ?_, fun a ha => ?_⟩, ed.lo, ed.hi, ed.keep, ed.tr, ed.pn⟩
              · show (ρ.drop D).l ++ [D] = _
                rw [t1, List.append_assoc]
              · rcases List.mem_append.mp ha with z | z
                · exact t2 a z
                · rw [List.mem_singleton.mp z]; exact hD
            obtain ⟨s3, hlast⟩ := unlock_keep (o := .lst acc) s hb fun ρ' k => ⟨accV, hv, k rs⟩
            exact q _ _ _ e3 s3 (.ref hlast)
          · have q : tO X.K cA W σ ρ1 H1 (Rep X.K) (.ok (.lst acc) S) Q := q
            exact q _ _ _ ed s2 (.lst (.inl ⟨.inl hv, hnb⟩) (rs2 rs))
        | some d =>
          have q : tO X.K cA W σ ρ1 H1 (Rep X.K) ((match f d S with
            | .ok (some y) S1 => if acc.length < 16777216 then compF it f m (i + 1) (acc ++ [y]) S1 else .bad
            | .ok none S1 => compF it f m (i + 1) acc S1
            | _ => .bad).bind fun ys S2 => newL c pos ys S2) Q := q
          obtain ⟨j3, j4⟩ := j2 d g0
          refine .inr ⟨j3, fun H' => ∃ ρ S acc accV, Ext ρ1 H1 ρ H' ∧ D ∈ ρ.b ∧ StR X.K cA ρ H' S ∧ H' D = some (.lst accV) ∧ Reps X.K ρ H' acc accV ∧
              tO X.K cA W σ ρ1 H1 (Rep X.K) ((compF it f m (i + 1) acc S).bind fun ys S2 => newL c pos ys S2) Q, fun H' z => ⟨m, Nat.lt_succ_self m, z⟩, fun v H' y => ?_⟩
          obtain ⟨ρ2, e2, s2, r2⟩ := j4 v H' y
          refine turn ρ2 H' S d v _ _ (env.ext (e.trans e2)) s2 r2 ?_
          cases fe : f d S with
          | exc => rw [fe] at q; exact q.elim
          | bad => rw [fe] at q; exact q.elim
          | ok r S' =>
          cases r with
          | some y =>
            intro ρ' H4 u e4 s4 r4
            rw [fe] at q
            by_cases hl : acc.length < 16777216
            · have q : tO X.K cA W σ ρ1 H1 (Rep X.K) ((if acc.length < 16777216 then compF it f m (i + 1) (acc ++ [y]) S' else .bad).bind fun ys S2 => newL c pos ys S2) Q := q
              rw [if_pos hl] at q
              have e24 := e2.trans e4
              have hb4 : D ∈ ρ'.b := e24.lo D hb
              have hv4 : H4 D = some (.lst accV) := e24.keep D _ hdl hv
              obtain ⟨s5, r5, rs5⟩ := lock_turn (u := .lst (accV ++ [u])) s4 hb4
              refine ⟨accV, hv4, by rw [line_eq, ← rs.length]; exact hl, ρ', S', acc ++ [y], accV ++ [u], ((e.trans e24).turn hD), hb4, s5, upd_same, ?_, q⟩
              exact (rs5 (rs.ext e24)).append (.cons (r5 r4) .nil)
            · have q : tO X.K cA W σ ρ1 H1 (Rep X.K) ((if acc.length < 16777216 then compF it f m (i + 1) (acc ++ [y]) S' else .bad).bind fun ys S2 => newL c pos ys S2) Q := q
              rw [if_neg hl] at q; exact q.elim
          | none =>
            intro ρ' H4 e4 s4
            rw [fe] at q
            have e24 := e2.trans e4
            exact ⟨ρ', S', acc, accV, e.trans e24, e24.lo D hb, s4, e24.keep D _ hdl hv, rs.ext e24, q⟩
end
end Q
/-! Q9: comprehensions, calls; every expression is read. -/
namespace Q
open PySem PySem.Spec PyProof.Rows L2
section
variable {X : Cx} {cA : CA} {k : Nat} {c : Cfg} {N : List Str} {sc : Scope} {W : WX} {n : Nat}
structure AllE (cA : CA) (c : Cfg) (N : List Str) (n : Nat) (X : Cx) (sc : Scope) (W : WX) : Prop where
  e : SE cA c N n X sc W
  t : ST cA c N n X sc W
  b : SB cA c N n X sc W
  ts : STs cA c N n X sc W
  a : SA cA c N n X sc W
  p : SP' cA c N n X sc W
  i : SI cA c N n X sc W
theorem turn_read (hp : cA.pin = none) {ρ : Pl} {H : Hp} {S : Store} {σd : Env} {σ : L2.St} {d : D} {v : V} {tg elt : Expr} {ifs : List Expr} {scope : Scope} {xs : List Str} {is : List Nat} (h : tgNames tg = some xs) (h2 : slotsOf scope N xs = some is) (hi : ifs.length < 2)
    (P1 : V → Hp → Prop) (Nx : Hp → Prop) (env : EnvR X.K ρ H σd σ) (st : StR X.K cA ρ H S) (r : Rep X.K ρ H d v)
    (hm : match turnF c N n scope tg elt ifs is σd d S with
        | .ok (some y) S' => ∀ ρ' H' u, Ext ρ H ρ' H' → StR X.K cA ρ' H' S' → Rep X.K ρ' H' y u → P1 u H'
        | .ok none S' => ∀ ρ' H', Ext ρ H ρ' H' → StR X.K cA ρ' H' S' → Nx H'
        | _ => False) :
    gTg X.K tg is v (L2.wipe σ is) H fun σ2 H2 => L2.wipe σ2 is = L2.wipe σ is ∧ ttOf X.K cA c N n scope ifs σ2 H2 fun b H3 => if b = true then tE X.K cA W0 (ev c N n scope elt) σ2 H3 P1 else Nx H3 := by
  unfold turnF at hm
  cases hb : bindTg tg scope N (wipeE σd is) d with
  | none => rw [hb] at hm; exact hm.elim
  | some σ2 =>
    rw [hb] at hm
    refine tg_of (st.pin.trans hp) h h2 hb (env.wipe (st.pin.trans hp) is) r fun vs hl env' => ⟨wipe_setV.2, ?_⟩
    rcases ifs with _ | ⟨t, _ | ⟨t2, ifs⟩⟩
    · show tE X.K cA W0 (ev c N n scope elt) _ H P1
      refine ⟨ρ, σ2, S, env', st, ?_⟩
      have hm : (match (ev c N n scope elt σ2 S).bind fun y S3 => Out.ok (some y) S3 with
        | .ok (some y) S' => ∀ ρ' H' u, Ext ρ H ρ' H' → StR X.K cA ρ' H' S' → Rep X.K ρ' H' y u → P1 u H'
        | .ok none S' => ∀ ρ' H', Ext ρ H ρ' H' → StR X.K cA ρ' H' S' → Nx H'
        | _ => False) := hm
      cases e : ev c N n scope elt σ2 S with
      | ok y S' => rw [e] at hm; exact hm
      | exc => rw [e] at hm; exact hm.elim
      | bad => rw [e] at hm; exact hm.elim
    · show tT X.K cA W0 (evT c N n scope t) _ H _
      refine ⟨ρ, σ2, S, env', st, ?_⟩
      have hm : (match (evT c N n scope t σ2 S).bind fun k S3 => if k = true then (ev c N n scope elt σ2 S3).bind fun y S4 => Out.ok (some y) S4 else Out.ok none S3 with
        | .ok (some y) S' => ∀ ρ' H' u, Ext ρ H ρ' H' → StR X.K cA ρ' H' S' → Rep X.K ρ' H' y u → P1 u H'
        | .ok none S' => ∀ ρ' H', Ext ρ H ρ' H' → StR X.K cA ρ' H' S' → Nx H'
        | _ => False) := hm
      cases e : evT c N n scope t σ2 S with
      | exc => rw [e] at hm; exact hm.elim
      | bad => rw [e] at hm; exact hm.elim
      | ok b S1 =>
        rw [e] at hm
        rintro ρ' H' b' e1 s1 rfl
        cases b with
        | false => exact hm ρ' H' e1 s1
        | true =>
          refine ⟨ρ', σ2, S1, env'.ext e1, s1, ?_⟩
          have hm : (match (ev c N n scope elt σ2 S1).bind fun y S4 => Out.ok (some y) S4 with
            | .ok (some y) S' => ∀ ρ' H' u, Ext ρ H ρ' H' → StR X.K cA ρ' H' S' → Rep X.K ρ' H' y u → P1 u H'
            | .ok none S' => ∀ ρ' H', Ext ρ H ρ' H' → StR X.K cA ρ' H' S' → Nx H'
            | _ => False) := hm
          cases e2 : ev c N n scope elt σ2 S1 with
          | ok y S' =>
            rw [e2] at hm
            exact fun ρ3 H3 u e3 s3 r3 => hm ρ3 H3 u (e1.trans e3) s3 r3
          | exc => rw [e2] at hm; exact hm.elim
          | bad => rw [e2] at hm; exact hm.elim
    · exact absurd hi (by simp)
theorem c_comp (x : XOk cA k c N X sc) (IH : ∀ X sc W, XOk cA k c N X sc → Takes X W → AllE cA c N n X sc W) (tk : Takes X W) {elt tg iter : Expr} {ifs : List Expr} {scope : Scope} {pos} :
    PE X (.ListComp elt [⟨tg, iter, ifs, 0⟩] scope pos) (tE X.K cA W (ev c N (n + 1) sc (.ListComp elt [⟨tg, iter, ifs, 0⟩] scope pos))) := by
  have e0 : ∀ σ S, ev c N (n + 1) sc (.ListComp elt [⟨tg, iter, ifs, 0⟩] scope pos) σ S = (match tgNames tg with
      | some xs => (match slotsOf scope N xs with
        | some is => if !c.calm || (isSet iter || (!L2.blkC N sc scope (xs.zip is) || decide (2 ≤ ifs.length))) then .bad else (evI c N n (isTup tg) sc iter σ S).bind fun it S1 => (compF it (turnF c N n scope tg elt ifs is σ) loopMost 0 [] S1).bind fun ys S2 => newL c pos ys S2
        | none => .bad)
      | none => .bad) := fun _ _ => rfl
  cases h : tgNames tg with
  | none => exact PE.none (tX_bad fun σ S => by rw [e0, h])
  | some xs =>
    cases h2 : slotsOf scope N xs with
    | none => exact PE.none (tX_bad fun σ S => by rw [e0, h]; simp only [h2])
    | some is =>
      cases hc : (!c.calm || (isSet iter || (!L2.blkC N sc scope (xs.zip is) || decide (2 ≤ ifs.length)))) with
      | true => exact PE.none (tX_bad fun σ S => by rw [e0, h]; simp only [h2]; rw [if_pos hc])
      | false =>
        obtain ⟨hcm, hc1⟩ := Bool.or_eq_false_iff.mp hc
        have hn : c.hot = none := calm_none (by simpa using hcm)
        obtain ⟨hs, hc2⟩ := Bool.or_eq_false_iff.mp hc1
        obtain ⟨hb, hl⟩ := Bool.or_eq_false_iff.mp hc2
        have hb : L2.blkC N sc scope (xs.zip is) = true := by simpa using hb
        have hl : ifs.length < 2 := by have := of_decide_eq_false hl; omega
        have ok := blkOk_by hb
        have ok' : BlkOk X.N X.env.scope scope (xs.zip is) := by
          rw [x.names]
          exact ⟨ok.kind, ok.uniq, ok.ix, fun y hy z => x.cf _ (ok.free y hy z), ok.own⟩
        have snd_eq : (xs.zip is).map (·.2) = is := by
          rw [List.map_snd_zip]
          exact Nat.le_of_eq (slots_len h2)
        have hT : ∀ ifs : List Expr, ifs.length < 2 → ∀ (s : Shared) (H : Hp) (C : Addr) (cl : List (Str × Addr)) (fp : List Addr), PTs (X.blk s H scope (compEnvC scope cl C X.env) fp) ifs (ttOf X.K cA c N n scope ifs) := by
          intro ifs hl s H C cl fp
          rcases ifs with _ | ⟨t, _ | ⟨t2, ifs⟩⟩
          · exact pts_nil
          · exact pts_one ((IH _ scope W0 (x.blk hn scope s H C cl fp) takes0).t t)
          · exact absurd hl (by simp)
        have L := pe_lc (X := X) (ifs := ifs) (pos := pos) (tt := ttOf X.K cA c N n scope ifs) (te := tE X.K cA W0 (ev c N n scope elt)) (g := gTg X.K tg is) (x.calm hn) (by rw [x.names]; exact x.nd) ((IH X sc W x tk).i tg iter) ok'
          (fun s H C cl fp => pg_tg (x.blk hn scope s H C cl fp) hn h h2)
          (hT ifs hl)
          (fun s H C cl fp => (IH _ scope W0 (x.blk hn scope s H C cl fp) takes0).e elt) (set_ok hs X.env)
        rw [snd_eq] at L
        refine PE.weak L ?_
        rintro σ H Q ⟨ρ, σd, S, env, st, q⟩
        rw [e0, h] at q
        simp only [h2] at q
        rw [if_neg (by rw [hc]; exact Bool.false_ne_true)] at q
        refine ⟨ρ, σd, S, env, st, (tO.bind (R1 := fun ρ H it J => ItR X.K cA it ρ H J) q).post ?_⟩
        rintro J H1 ⟨ρ1, it, S1, e1, st1, hJ, h1⟩
        exact comp_read (env.ext e1) st1 hJ (fun ρ H S d v P1 Nx env st r hm => turn_read (x.pin hn) h h2 hl P1 Nx env st r hm) h1

theorem tO_wish {α β : Type} {K : PySem.W.Frag} {σ : L2.St} {ρ : Pl} {H : Hp} {R : Pl → Hp → α → β → Prop} {r : Out α} {Q : β → Hp → Prop} (h : tO K cA W σ ρ H R r Q) : tO K cA (fun cls d _ H' => W cls d σ H') [] ρ H R r Q := by
  cases r <;> exact h
theorem blt_calm (x : XOk cA k c N X sc) {f : Str} {b : Blt} (hf : c.free f = true) (hb : bltOf f = some b) (ne : b ≠ .int) : X.calm = true := by
  refine x.calm (x.of_free hf (fun z => ?_) (fun z => ?_))
  · subst z
    have : bltOf "isinstance" = none := by decide +kernel
    rw [this] at hb; cases hb
  · subst z
    have : bltOf "int" = some .int := by kernel_rfl
    rw [this] at hb; cases hb
    exact ne rfl
/-- classes named one behind the other -/
theorem pa_kits (x : XOk cA k c N X sc) {y : Str} : ∀ {es : List Expr} {r : Bool}, kitAll c N sc y es = some r → ∃ (vs : List V) (us : List Value), PA X es (fun _ H Q => Q vs H) ∧ Paired ClsV vs us ∧ PySem.W.kitAny X.K (.ref (cA y)) us = some r ∧ vs.length = es.length
  | [], r, h => by
    cases h
    exact ⟨[], [], pa_nil, .nil, rfl, rfl⟩
  | e :: es, r, h => by
    cases e with
    | Name t tp =>
      simp only [kitAll] at h
      split at h
      · rename_i hc
        rw [Bool.and_eq_true] at hc
        obtain ⟨c0, c3⟩ := hc
        split at h
        · rename_i b r' hb hr
          cases h
          obtain ⟨vs, us, P, pr, ka, st⟩ := pa_kits x hr
          have hgt : nmOf sc N t = .glob := by
            cases q : nmOf sc N t with
            | glob => rfl
            | slot => rw [q] at c0; cases c0
            | no => rw [q] at c0; cases c0
          obtain ⟨q1, q2, q3⟩ := pn c3
          obtain ⟨v, u, hm, cl, ko, _, _⟩ := x.cfg.kit y t b hb
          have pe : PE X (.Name t tp) (tC v) := by
            rcases hm with ⟨m1, m2⟩ | ⟨m1, m2, m3⟩
            · exact pe_glob ((x.vis _ _ (nm_glob hgt)).2 rfl) m1 m2 q1
            · exact pe_bltn ((x.vis _ _ (nm_glob hgt)).2 rfl) m1 m2 m3 q3 q1
          refine ⟨v :: vs, u :: us, PA.weak (pa_cons pe P (star_one rfl _ _)) fun σ H Q q => q, .cons cl pr, kitAny_cons ko (fun z => by rw [z, Bool.false_or]; exact ka) (fun z => by rw [z, Bool.true_or]), by rw [List.length_cons, List.length_cons, st]⟩
        · cases h
      · cases h
    | _ => cases h
theorem c_held (x : XOk cA k c N X sc) {args : List Expr} {b : Bool} {p pos : Pos} (h : hotIs c N sc args = some b) (hgl : Gl X "isinstance") (hfr : c.free "isinstance" = true) (p1 : (("isinstance" : Str) == ("__debug__" : Str)) = false) :
    PE X (.Call (.Name "isinstance" p) args [] pos) (tE X.K cA W (fun _ S => .ok (.bl b) S)) := by
  have at_slot : ∀ {e : Str} {ep : Pos} {i : Nat}, ((nmOf sc N e).at_ i && plainName e) = true → PE X (.Name e ep) (tVar i) ∧ i < N.length := by
    intro e ep i hc
    rw [Bool.and_eq_true] at hc
    obtain ⟨c1, c2⟩ := hc
    obtain ⟨q1, q2, q3⟩ := pn c2
    cases hn : nmOf sc N e with
    | glob => rw [hn] at c1; cases c1
    | no => rw [hn] at c1; cases c1
    | slot j =>
      rw [hn] at c1
      have : i = j := beq_iff_eq.mp c1
      subst this
      obtain ⟨h1, kd, h2, h3⟩ := nm_slot hn
      exact ⟨pe_var (by rw [x.names]; exact h1) ((x.vis _ _ h2).1 h3) q1 q2, (List.getElem?_eq_some_iff.mp h1).1⟩
  unfold hotIs at h
  split at h
  · rename_i e ep t tp
    split at h
    · rename_i i y hh
      split at h
      · rename_i hc
        obtain ⟨a, hpin, r1, r2⟩ := (x.held i y hh (at_slot (ep := ep) hc).2).out
        obtain ⟨vs, us, P, pr, ka, sa⟩ := pa_kits x h
        cases pr with
        | nil => cases sa
        | cons cl pr =>
          cases pr with
          | cons _ _ => cases sa
          | nil =>
            rename_i v u
            have ko : PySem.W.kitOne X.K (.ref (cA y)) u = some b := by
              unfold PySem.W.kitAny at ka
              cases z : PySem.W.kitOne X.K (.ref (cA y)) u with
              | none => rw [z] at ka; cases ka
              | some t => rw [z] at ka; cases t <;> exact ka
            refine PE.weak (pe_callB r1 hgl (x.cfg.free _ hfr) (by decide +kernel) (pa_cons (at_slot hc).1 P (star_one rfl _ _)) (by decide) p1 (star_one rfl _ _) (star_any rfl)) ?_
            rintro σ H Q ⟨ρ, σd, S, env, st, q⟩
            refine ⟨.ref a, env.pin i a (st.pin.trans hpin), ?_⟩
            exact ⟨v, u, b, rfl, fun w r => cl.eq r, ko, q ρ H _ Ext.refl st (.bl b)⟩
      · cases h
    · cases h
  · rename_i e ep es ek tp
    split at h
    · rename_i i y hh
      split at h
      · rename_i hc
        rw [Bool.and_eq_true] at hc
        obtain ⟨hc, hlen⟩ := hc
        obtain ⟨a, hpin, r1, r2⟩ := (x.held i y hh (at_slot (ep := ep) hc).2).out
        have hlen := of_decide_eq_true hlen
        obtain ⟨vs, us, P, pr, ka, sa⟩ := pa_kits x h
        refine PE.weak (pe_callB r2 hgl (x.cfg.free _ hfr) (by decide +kernel) (pa_cons (at_slot hc).1 (pa_cons (pe_tup P) pa_nil (star_one rfl _ _)) (star_one rfl _ _)) (by decide) p1 (star_one rfl _ _) (star_any rfl)) ?_
        rintro σ H Q ⟨ρ, σd, S, env, st, q⟩
        refine ⟨.ref a, env.pin i a (st.pin.trans hpin), ?_⟩
        refine ⟨by rw [sa]; unfold sizeLine; omega, fun tp hp => ?_⟩
        obtain ⟨e1, s1⟩ := ext_new (u := .tup vs) st hp
        exact ⟨tp, vs, us, b, rfl, upd_same, pr, ka, q ρ _ _ e1 s1 (.bl b)⟩
      · cases h
    · cases h
  · cases h
theorem c_call (x : XOk cA k c N X sc) (IH : AllE cA c N n X sc W) (tk : Takes X W) {f : Str} {p : Pos} {args : List Expr} {pos} :
    PE X (.Call (.Name f p) args [] pos) (tE X.K cA W (ev c N (n + 1) sc (.Call (.Name f p) args [] pos))) := by
  have e0 : ∀ σ S, ev c N (n + 1) sc (.Call (.Name f p) args [] pos) σ S = if plainName f && !args.any isStar then (match nmOf sc N f with
      | .glob => (match c.funs f with
        | some φ => (evA c N n sc args σ S).bind fun xs S1 => φ xs S1
        | none => if c.free f then (if f == "isinstance" then (match hotIs c N sc args with
            | some b => .ok (.bl b) S
            | none => (match isArgs args with
              | some (a, t) => if (nmOf sc N t).isGlob && (c.free t && tyOk t && plainName t) then (ev c N n sc a σ S).bind fun x S1 => ofO S1 ((isTy S1 x t).map D.bl) else .bad
              | none => .bad))
          else if f == "dict" then (evA c N n sc args σ S).bind fun xs S1 => (match xs with
            | [x] => ofP (dictD S1 x)
            | _ => .bad)
          else (match (if f == "len" then lenSet? args else none) with
            | some (a, g) => if c.free g && (nmOf sc N g).isGlob then (ev c N n sc a σ S).bind fun x S1 => ofO S1 (lenSetD S1 x) else .bad
            | none => (match bltOf f with
              | some b => (evA c N n sc args σ S).bind fun xs S1 => ofO S1 (b.sem S1 xs)
              | none => .bad)))
          else .bad)
      | _ => .bad) else .bad := fun _ _ => rfl
  have blts : nmOf sc N f = .glob → plainName f = true → args.any isStar = false → c.free f = true → PE X (.Call (.Name f p) args [] pos) (tE X.K cA W (fun σ S => (match bltOf f with
              | some b => (evA c N n sc args σ S).bind fun xs S1 => ofO S1 (b.sem S1 xs)
              | none => .bad))) := by
    intro hg hp hs hf
    obtain ⟨p1, p2, p3⟩ := pn hp
    cases hb : bltOf f with
    | none => exact PE.none (tX_bad fun σ S => rfl)
    | some b =>
      obtain ⟨hv, hn⟩ := bltOf_cases hb
      cases args with
      | nil =>
        have bad : ∀ S, b.sem S [] = none := fun S => rfl
        refine PE.none ?_
        rintro σ H Q ⟨ρ, σd, S, env, st, q⟩
        cases n with
        | zero => exact q.elim
        | succ n => exact q.elim
      | cons e es =>
        have hs' := hs
        rw [List.any_cons, Bool.or_eq_false_iff] at hs'
        have G : PE X (.Call (.Name f p) (e :: es) [] pos) (tCB (b.rule X.K) (tAs X.K cA W (evA c N n sc (e :: es)))) := by
          have ok := b.ok (fun ne => blt_calm x hf hb ne)
          have hm := x.cfg.free f hf
          have hgl := (x.vis _ _ (nm_glob hg)).2 rfl
          cases b with
          | len => exact pe_callB ok hgl hm hv (IH.a _) hn p1 (star_one hs'.1 _ _) (star_any hs'.2)
          | int => exact pe_callTy ok hgl hm hv (IH.a _) hn p1 (star_one hs'.1 _ _) (star_any hs'.2)
          | list => exact pe_callTy ok hgl hm hv (IH.a _) hn p1 (star_one hs'.1 _ _) (star_any hs'.2)
          | tuple => exact pe_callTy ok hgl hm hv (IH.a _) hn p1 (star_one hs'.1 _ _) (star_any hs'.2)
          | all => exact pe_callB ok hgl hm hv (IH.a _) hn p1 (star_one hs'.1 _ _) (star_any hs'.2)
          | abs => exact pe_callB ok hgl hm hv (IH.a _) hn p1 (star_one hs'.1 _ _) (star_any hs'.2)
          | min => exact pe_callB ok hgl hm hv (IH.a _) hn p1 (star_one hs'.1 _ _) (star_any hs'.2)
          | max => exact pe_callB ok hgl hm hv (IH.a _) hn p1 (star_one hs'.1 _ _) (star_any hs'.2)
          | str => exact pe_callTy ok hgl hm hv (IH.a _) hn p1 (star_one hs'.1 _ _) (star_any hs'.2)
          | any => exact pe_callB ok hgl hm hv (IH.a _) hn p1 (star_one hs'.1 _ _) (star_any hs'.2)
          | sum => exact pe_callB ok hgl hm hv (IH.a _) hn p1 (star_one hs'.1 _ _) (star_any hs'.2)
        refine PE.weak G ?_
        rintro σ H Q ⟨ρ, σd, S, env, st, q⟩
        refine ⟨ρ, σd, S, env, st, (tO.bind (R1 := Reps X.K) q).post ?_⟩
        rintro vs H1 ⟨ρ1, xs, S1, e1, st1, r1, h1⟩
        obtain ⟨d, e2, kq⟩ := tO.ofO h1
        exact Blt.of st1 r1 e2 kq
  have lift : ∀ {g : Env → Store → Out D}, (∀ σ S, ev c N (n + 1) sc (.Call (.Name f p) args [] pos) σ S = g σ S) → PE X (.Call (.Name f p) args [] pos) (tE X.K cA W g) → PE X (.Call (.Name f p) args [] pos) (tE X.K cA W (ev c N (n + 1) sc (.Call (.Name f p) args [] pos))) := by
    intro g hg h
    refine PE.weak h ?_
    rintro σ H Q ⟨ρ, σd, S, env, st, q⟩
    rw [hg] at q
    exact ⟨ρ, σd, S, env, st, q⟩
  have none_ : (∀ σ S, ev c N (n + 1) sc (.Call (.Name f p) args [] pos) σ S = .bad) → PE X (.Call (.Name f p) args [] pos) (tE X.K cA W (ev c N (n + 1) sc (.Call (.Name f p) args [] pos))) := fun h => PE.none (tX_bad h)
  cases hp : plainName f with
  | false => exact none_ fun σ S => by rw [e0, hp]; rfl
  | true =>
    obtain ⟨p1, p2, p3⟩ := pn hp
    cases hs : args.any isStar with
    | true => exact none_ fun σ S => by rw [e0, hp, hs]; rfl
    | false =>
      have e1 : ∀ σ S, ev c N (n + 1) sc (.Call (.Name f p) args [] pos) σ S = (match nmOf sc N f with
      | .glob => (match c.funs f with
        | some φ => (evA c N n sc args σ S).bind fun xs S1 => φ xs S1
        | none => if c.free f then (if f == "isinstance" then (match hotIs c N sc args with
            | some b => .ok (.bl b) S
            | none => (match isArgs args with
              | some (a, t) => if (nmOf sc N t).isGlob && (c.free t && tyOk t && plainName t) then (ev c N n sc a σ S).bind fun x S1 => ofO S1 ((isTy S1 x t).map D.bl) else .bad
              | none => .bad))
          else if f == "dict" then (evA c N n sc args σ S).bind fun xs S1 => (match xs with
            | [x] => ofP (dictD S1 x)
            | _ => .bad)
          else (match (if f == "len" then lenSet? args else none) with
            | some (a, g) => if c.free g && (nmOf sc N g).isGlob then (ev c N n sc a σ S).bind fun x S1 => ofO S1 (lenSetD S1 x) else .bad
            | none => (match bltOf f with
              | some b => (evA c N n sc args σ S).bind fun xs S1 => ofO S1 (b.sem S1 xs)
              | none => .bad)))
          else .bad)
      | _ => .bad) := fun σ S => by rw [e0, hp, hs]; rfl
      cases hg : nmOf sc N f with
      | slot i => exact none_ fun σ S => by rw [e1, hg]
      | no => exact none_ fun σ S => by rw [e1, hg]
      | glob =>
        have hgl := (x.vis _ _ (nm_glob hg)).2 rfl
        cases hf : c.funs f with
        | some φ =>
          refine lift (g := fun σ S => (evA c N n sc args σ S).bind fun xs S1 => φ xs S1) (fun σ S => by rw [e1, hg]; simp only [hf]) ?_
          obtain ⟨fa, fd, ps, ds, dvs, dds, φ0, F, hm, hk, hb, hd, hr, rfl⟩ := x.cfg.fn f φ hf
          cases args with
          | nil =>
            refine PE.weak (pe_call0S (E := WE W) F (x.room (x.of_fun hf)) hgl hm hk hb hd (passAt tk) p1) ?_
            rintro σ H Q ⟨ρ, σd, S, env, st, q⟩
            cases n with
            | zero => exact q.elim
            | succ n => exact ⟨ρ, dds, S, by simpa using hr ρ H, st, tO_wish q⟩
          | cons e es =>
            have hs' := hs
            rw [List.any_cons, Bool.or_eq_false_iff] at hs'
            refine PE.weak (pe_callSD (E := WE W) F (x.room (x.of_fun hf)) hgl hm hk hb hd (passAt tk) (IH.a (e :: es)) p1 (star_one hs'.1 _ _) (star_any hs'.2)) ?_
            rintro σ H Q ⟨ρ, σd, S, env, st, q⟩
            refine ⟨ρ, σd, S, env, st, (tO.bind (R1 := Reps X.K) q).post ?_⟩
            rintro vs H1 ⟨ρ1, xs, S1, e1, st1, r1, h1⟩
            exact ⟨ρ1, xs ++ dds, S1, r1.append (hr ρ1 H1), st1, tO_wish h1⟩
        | none =>
          cases hfr : c.free f with
          | false => exact none_ fun σ S => by rw [e1, hg]; simp only [hf, hfr]; rfl
          | true =>
            have e2 : ∀ σ S, ev c N (n + 1) sc (.Call (.Name f p) args [] pos) σ S = (if f == "isinstance" then (match hotIs c N sc args with
                | some b => .ok (.bl b) S
                | none => (match isArgs args with
                  | some (a, t) => if (nmOf sc N t).isGlob && (c.free t && tyOk t && plainName t) then (ev c N n sc a σ S).bind fun x S1 => ofO S1 ((isTy S1 x t).map D.bl) else .bad
                  | none => .bad))
              else if f == "dict" then (evA c N n sc args σ S).bind fun xs S1 => (match xs with
                | [x] => ofP (dictD S1 x)
                | _ => .bad)
              else (match (if f == "len" then lenSet? args else none) with
                | some (a, g) => if c.free g && (nmOf sc N g).isGlob then (ev c N n sc a σ S).bind fun x S1 => ofO S1 (lenSetD S1 x) else .bad
                | none => (match bltOf f with
                  | some b => (evA c N n sc args σ S).bind fun xs S1 => ofO S1 (b.sem S1 xs)
                  | none => .bad))) := fun σ S => by rw [e1, hg]; simp only [hf, hfr, if_true]
            cases hi : (f == ("isinstance" : Str)) with
            | false =>
              have e4 : ∀ σ S, ev c N (n + 1) sc (.Call (.Name f p) args [] pos) σ S = (if f == "dict" then (evA c N n sc args σ S).bind fun xs S1 => (match xs with
                | [x] => ofP (dictD S1 x)
                | _ => .bad)
              else (match (if f == "len" then lenSet? args else none) with
                | some (a, g) => if c.free g && (nmOf sc N g).isGlob then (ev c N n sc a σ S).bind fun x S1 => ofO S1 (lenSetD S1 x) else .bad
                | none => (match bltOf f with
                  | some b => (evA c N n sc args σ S).bind fun xs S1 => ofO S1 (b.sem S1 xs)
                  | none => .bad))) := fun σ S => by rw [e2, hi]; rfl
              cases hdi : (f == ("dict" : Str)) with
              | true =>
                have e5 : ∀ σ S, ev c N (n + 1) sc (.Call (.Name f p) args [] pos) σ S = (evA c N n sc args σ S).bind fun xs S1 => (match xs with
                | [x] => ofP (dictD S1 x)
                | _ => .bad) := fun σ S => by rw [e4, hdi]; rfl
                have hdi := beq_iff_eq.mp hdi
                subst hdi
                cases args with
                | nil =>
                  refine none_ fun σ S => ?_
                  rw [e5]
                  cases n <;> rfl
                | cons e es =>
                  have hs' := hs
                  rw [List.any_cons, Bool.or_eq_false_iff] at hs'
                  refine PE.weak (pe_callTy (CallR.or (call_dictP (x.calm (x.of_free hfr (by decide +kernel) (by decide +kernel)))) call_dictD) hgl (x.cfg.free _ hfr) (by decide +kernel) (IH.a (e :: es)) (by decide) p1 (star_one hs'.1 _ _) (star_any hs'.2)) ?_
                  rintro σ H Q ⟨ρ, σd, S, env, st, q⟩
                  rw [e5] at q
                  refine ⟨ρ, σd, S, env, st, (tO.bind (R1 := Reps X.K) q).post ?_⟩
                  rintro vs H1 ⟨ρ1, xs, S1, e1, st1, r1, h1⟩
                  rcases xs with _ | ⟨y, _ | ⟨y2, ys⟩⟩
                  · exact h1.elim
                  · obtain ⟨v, rfl, r⟩ := reps1 r1
                    obtain ⟨d, S', e6, kq⟩ := tO.ofP h1
                    exact dict_of st1 r e6 kq
                  · exact h1.elim
              | false =>
                have e5 : ∀ σ S, ev c N (n + 1) sc (.Call (.Name f p) args [] pos) σ S = (match (if f == "len" then lenSet? args else none) with
                | some (a, g) => if c.free g && (nmOf sc N g).isGlob then (ev c N n sc a σ S).bind fun x S1 => ofO S1 (lenSetD S1 x) else .bad
                | none => (match bltOf f with
                  | some b => (evA c N n sc args σ S).bind fun xs S1 => ofO S1 (b.sem S1 xs)
                  | none => .bad)) := fun σ S => by rw [e4, hdi]; rfl
                cases hls : (if f == ("len" : Str) then lenSet? args else none) with
                | none => exact lift (g := fun σ S => (match bltOf f with
                  | some b => (evA c N n sc args σ S).bind fun xs S1 => ofO S1 (b.sem S1 xs)
                  | none => .bad)) (fun σ S => by rw [e5, hls]) (blts hg hp hs hfr)
                | some ag =>
                  obtain ⟨a, g⟩ := ag
                  have e6 : ∀ σ S, ev c N (n + 1) sc (.Call (.Name f p) args [] pos) σ S = if c.free g && (nmOf sc N g).isGlob then (ev c N n sc a σ S).bind fun x S1 => ofO S1 (lenSetD S1 x) else .bad := fun σ S => by rw [e5, hls]
                  cases hc : (c.free g && (nmOf sc N g).isGlob) with
                  | false => exact none_ fun σ S => by rw [e6, hc]; rfl
                  | true =>
                    rw [Bool.and_eq_true] at hc
                    have hgg : nmOf sc N g = .glob := by
                      cases q : nmOf sc N g with
                      | glob => rfl
                      | slot => rw [q] at hc; cases hc.2
                      | no => rw [q] at hc; cases hc.2
                    have hf2 : f = "len" := by
                      cases q : (f == ("len" : Str)) with
                      | true => exact beq_iff_eq.mp q
                      | false => rw [q] at hls; cases hls
                    subst hf2
                    have hls : lenSet? args = some (a, g) := hls
                    have shape : ∃ p2 q2, args = [.Call (.Name "set" p2) [a] [] q2] ∧ g = "set" ∧ isStar' a = false := by
                      unfold lenSet? at hls
                      split at hls
                      · split at hls
                        · rename_i c2
                          cases hls
                          rw [Bool.and_eq_true] at c2
                          have hset : g = "set" := beq_iff_eq.mp c2.1
                          subst hset
                          exact ⟨_, _, rfl, rfl, by simpa using c2.2⟩
                        · cases hls
                      · cases hls
                    obtain ⟨p2, q2, rfl, rfl, hst⟩ := shape
                    have hst : isStar a = false := by cases a <;> first | rfl | cases hst
                    refine PE.weak (pe_lenSetS (x.calm (x.of_free hfr (by decide +kernel) (by decide +kernel))) hgl (x.cfg.free _ hfr) ((x.vis _ _ (nm_glob hgg)).2 rfl) (x.cfg.free _ hc.1) (IH.e a) (star_one hst _ _)) ?_
                    rintro σ H Q ⟨ρ, σd, S, env, st, q⟩
                    rw [e6, if_pos (by rw [Bool.and_eq_true]; exact hc)] at q
                    refine ⟨ρ, σd, S, env, st, (tO.bind (R1 := Rep X.K) q).post ?_⟩
                    rintro v H1 ⟨ρ1, d, S1, e1, st1, r1, h1⟩
                    obtain ⟨d2, e7, kq⟩ := tO.ofO h1
                    exact lenSet_of st1 r1 e7 kq
            | true =>
              have e3' : ∀ σ S, ev c N (n + 1) sc (.Call (.Name f p) args [] pos) σ S = (match hotIs c N sc args with
                | some b => .ok (.bl b) S
                | none => (match isArgs args with
                  | some (a, t) => if (nmOf sc N t).isGlob && (c.free t && tyOk t && plainName t) then (ev c N n sc a σ S).bind fun x S1 => ofO S1 ((isTy S1 x t).map D.bl) else .bad
                  | none => .bad)) := fun σ S => by rw [e2, hi]; rfl
              have hi := beq_iff_eq.mp hi
              cases hho : hotIs c N sc args with
              | some b =>
                subst hi
                exact lift (g := fun σ S => .ok (.bl b) S) (fun σ S => by rw [e3', hho]) (c_held x hho hgl hfr p1)
              | none =>
              have e3 : ∀ σ S, ev c N (n + 1) sc (.Call (.Name f p) args [] pos) σ S = (match isArgs args with
                | some (a, t) => if (nmOf sc N t).isGlob && (c.free t && tyOk t && plainName t) then (ev c N n sc a σ S).bind fun x S1 => ofO S1 ((isTy S1 x t).map D.bl) else .bad
                | none => .bad) := fun σ S => by rw [e3', hho]
              cases ha : isArgs args with
              | none => exact none_ fun σ S => by rw [e3, ha]
              | some at_ =>
                obtain ⟨a, t⟩ := at_
                have : ∃ tp, args = [a, .Name t tp] := by
                  unfold isArgs at ha
                  split at ha
                  · cases ha; exact ⟨_, rfl⟩
                  · cases ha
                obtain ⟨tp, rfl⟩ := this
                cases hc : ((nmOf sc N t).isGlob && (c.free t && tyOk t && plainName t)) with
                | false => exact none_ fun σ S => by rw [e3, ha]; simp only [hc]; rfl
                | true =>
                  refine lift (g := fun σ S => (ev c N n sc a σ S).bind fun x S1 => ofO S1 ((isTy S1 x t).map D.bl)) (fun σ S => by rw [e3, ha]; simp only [hc, if_true]) ?_
                  rw [Bool.and_eq_true, Bool.and_eq_true, Bool.and_eq_true] at hc
                  obtain ⟨c0, ⟨c1, c2⟩, c3⟩ := hc
                  have hgt : nmOf sc N t = .glob := by
                    cases q : nmOf sc N t with
                    | glob => rfl
                    | slot => rw [q] at c0; cases c0
                    | no => rw [q] at c0; cases c0
                  obtain ⟨q1, q2, q3⟩ := pn c3
                  have hs' := hs
                  rw [List.any_cons, Bool.or_eq_false_iff] at hs'
                  have ty : PE X (.Name t tp) (tC (.ty (tyNm t))) := pe_bltn ((x.vis _ _ (nm_glob hgt)).2 rfl) (x.cfg.free t c1) (boot_ty c2) rfl q3 q1
                  subst hi
                  refine PE.weak (pe_callB call_isi hgl (x.cfg.free _ hfr) (by decide +kernel) (pa_cons (IH.e a) (pa_cons ty pa_nil (star_one rfl _ _)) (star_one hs'.1 _ _)) (by decide) p1 (star_one hs'.1 _ _) (star_any hs'.2)) ?_
                  rintro σ H Q ⟨ρ, σd, S, env, st, q⟩
                  refine ⟨ρ, σd, S, env, st, (tO.bind (R1 := Rep X.K) q).post ?_⟩
                  rintro v H1 ⟨ρ1, d, S1, e1, st1, r1, h1⟩
                  obtain ⟨b, e4, kq⟩ := tO.ofO h1
                  cases e5 : isTy S1 d t with
                  | none => rw [e5] at e4; cases e4
                  | some bb =>
                    rw [e5] at e4; cases e4
                    obtain ⟨ta, t1, t2⟩ := tyx_rep st1 r1 c2 e5
                    exact ⟨v, .ty (tyNm t), .type ta, .type (tyNm t), bb, rfl, .ty _, t1, kit_ty t2, kon_here st1 kq (.bl _)⟩
theorem c_meth (x : XOk cA k c N X sc) (IH : AllE cA c N n X sc W) {o : Expr} {m : Str} {apos cpos : Pos} {args : List Expr} :
    PE X (.Call (.Attribute o m apos) args [] cpos) (tE X.K cA W (ev c N (n + 1) sc (.Call (.Attribute o m apos) args [] cpos))) := by
  have e0 : ∀ σ S, ev c N (n + 1) sc (.Call (.Attribute o m apos) args [] cpos) σ S = if apos.endLine == cpos.line && (okBase o && (!args.any isStar && decide (args.length < 20))) then (ev c N n sc o σ S).bind fun x S1 => (match mIdD S1 x m with
      | some i => (evA c N n sc args σ S1).bind fun xs S2 => ofP (mthD S2 i x xs)
      | none => .bad) else .bad := fun _ _ => rfl
  cases hc : (apos.endLine == cpos.line && (okBase o && (!args.any isStar && decide (args.length < 20)))) with
  | false => exact PE.none (tX_bad fun σ S => by rw [e0, hc]; rfl)
  | true =>
    have hc' := hc
    rw [Bool.and_eq_true, Bool.and_eq_true, Bool.and_eq_true] at hc'
    obtain ⟨c1, c2, c3, c4⟩ := hc'
    have hs : args.any isStar = false := by simpa using c3
    have hl : args.length < 20 := of_decide_eq_true c4
    cases args with
    | nil =>
      refine PE.weak (pe_mth0 (by have := x.un; omega) (IH.e o) c2 c1) ?_
      rintro σ H Q ⟨ρ, σd, S, env, st, q⟩
      rw [e0, if_pos hc] at q
      refine ⟨ρ, σd, S, env, st, (tO.bind (R1 := Rep X.K) q).post ?_⟩
      rintro v H1 ⟨ρ1, d, S1, e1, st1, r1, h1⟩
      cases e : mIdD S1 d m with
      | none => rw [e] at h1; exact h1.elim
      | some i =>
        rw [e] at h1
        obtain ⟨hm, ty⟩ := mId_of st1 r1 e
        refine ⟨i, hm, ty, ?_⟩
        cases n with
        | zero => exact h1.elim
        | succ n =>
          obtain ⟨y, S', e2, kq⟩ := tO.ofP (show tO X.K cA W σ ρ1 H1 (Rep X.K) (ofP (mthD S1 i d [])) Q from h1)
          exact mth_of st1 r1 .nil e2 kq
    | cons a as =>
      refine PE.weak (pe_mth (by have := x.un; omega) (IH.e o) (IH.a (a :: as)) c2 c1 hs hl) ?_
      rintro σ H Q ⟨ρ, σd, S, env, st, q⟩
      rw [e0, if_pos hc] at q
      refine ⟨ρ, σd, S, env, st, (tO.bind (R1 := Rep X.K) q).post ?_⟩
      rintro v H1 ⟨ρ1, d, S1, e1, st1, r1, h1⟩
      cases e : mIdD S1 d m with
      | none => rw [e] at h1; exact h1.elim
      | some i =>
        rw [e] at h1
        obtain ⟨hm, ty⟩ := mId_of st1 r1 e
        refine ⟨i, hm, ty, ρ1, σd, S1, env.ext e1, st1, (tO.bind (R1 := Reps X.K) h1).post ?_⟩
        rintro vs H2 ⟨ρ2, xs, S2, e2, st2, r2, h2⟩
        obtain ⟨y, S', e3, kq⟩ := tO.ofP h2
        exact mth_of st2 (r1.ext e2) r2 e3 kq
end

/-- EVERY EXPRESSION IS READ -/
theorem all_e {cA : CA} {k : Nat} {c : Cfg} {N : List Str} : ∀ n, ∀ m, m ≤ n → ∀ X sc W, XOk cA k c N X sc → Takes X W → AllE cA c N m X sc W
  | 0, m, hm, X, sc, W, x, tk => by
    cases Nat.le_zero.mp hm
    exact ⟨fun e => PE.none (tX_bad fun _ _ => rfl), fun e => PT.none (tX_bad fun _ _ => rfl), fun op es pos => PE.none (tX_bad fun _ _ => rfl), fun op es pos => ⟨fun _ pins s σ H Q I q => (tX_bad (fun σ S => rfl) σ H Q q).elim⟩,
      fun es => PA.none (tX_bad fun _ _ => rfl), fun e => ⟨fun pins s σ H Q I q => (tX_bad (fun σ S => rfl) σ H Q q).elim⟩, fun tg e => PI.none (tX_bad fun _ _ => rfl)⟩
  | n + 1, m, hm, X, sc, W, x, tk => by
    by_cases h : m ≤ n
    · exact all_e n m h X sc W x tk
    · have e : m = n + 1 := by omega
      subst e
      have IH := all_e (cA := cA) (k := k) (c := c) (N := N) n n (Nat.le_refl n)
      have I := IH X sc W x tk
      refine ⟨fun e => ?_, c_test x (fun m' h' => (all_e n m' (Nat.le_of_lt h') X sc W x tk).e) I.e I.t I.ts, c_boolV I.e I.b, c_tests I.t I.ts, c_args I.e I.a, c_part I.e, c_iter x I.e⟩
      have none_ : (∀ σ S, ev c N (n + 1) sc e σ S = .bad) → PE X e (tE X.K cA W (ev c N (n + 1) sc e)) := fun h => PE.none (tX_bad h)
      cases e with
      | Constant kk j pos => exact c_const
      | Name y pos => exact c_name x
      | BinOp a op b pos => exact c_bin I.e
      | UnaryOp op a pos =>
        cases op with
        | Not => exact c_not I.e
        | USub => exact c_neg I.e
        | _ => exact none_ fun _ _ => rfl
      | BoolOp op es pos => exact c_boolE I.b
      | Compare a ops bs pos =>
        rcases ops with _ | ⟨op, _ | ⟨op', _ | ⟨op'', ops⟩⟩⟩
        · exact none_ fun _ _ => rfl
        · rcases bs with _ | ⟨b, _ | ⟨b', bs⟩⟩
          · exact none_ fun _ _ => rfl
          · exact c_cmp x I.e
          · exact none_ fun _ _ => rfl
        · rcases bs with _ | ⟨b, _ | ⟨b', _ | ⟨b'', bs⟩⟩⟩
          · exact none_ fun _ _ => rfl
          · exact none_ fun _ _ => rfl
          · exact c_chain x I.e
          · exact none_ fun _ _ => rfl
        · rcases bs with _ | ⟨b, _ | ⟨b', _ | ⟨b'', bs⟩⟩⟩ <;> exact none_ fun _ _ => rfl
      | IfExp t a b pos => exact c_ite I.e I.t
      | List es pos => exact c_list I.a
      | Dict ks vs pos =>
        cases ks with
        | nil =>
          cases vs with
          | nil => exact c_dict0
          | cons _ _ => exact none_ fun _ _ => rfl
        | cons k1 ks => exact c_disp (fun m' h' => (all_e n m' h' X sc W x tk).e) (by simp)
      | Tuple es j pos => exact c_tup I.a
      | Subscript a i pos =>
        cases hs : isSlice i with
        | false => exact c_sub x I.e hs
        | true =>
          cases i with
          | Slice lo hi step p2 =>
            cases step with
            | none => exact c_slice I.e I.p
            | some stp =>
              cases lo with
              | some _ => exact none_ fun _ _ => by simp only [ev]; split <;> simp_all [isSlice]
              | none =>
                cases hi with
                | some _ => exact none_ fun _ _ => by simp only [ev]; split <;> simp_all [isSlice]
                | none =>
                  cases stp <;> try exact none_ fun _ _ => rfl
                  rename_i op a2 p4
                  cases op <;> try exact none_ fun _ _ => rfl
                  cases a2 <;> try exact none_ fun _ _ => rfl
                  rename_i kk j p3
                  cases kk <;> try exact none_ fun _ _ => rfl
                  rename_i i
                  by_cases hi : i = 1
                  · subst hi; exact c_rev I.e
                  · refine none_ fun σ S => ?_
                    have : ∀ (i : Int), i ≠ 1 → ev c N (n + 1) sc (.Subscript a (.Slice none none (some (.UnaryOp .USub (.Constant (.int i) j p3) p4)) p2) pos) σ S = .bad := by
                      intro i hi
                      simp only [ev]
                      split <;> (try simp_all [isSlice]) <;> (rename_i h9; obtain ⟨rfl, rfl, rfl⟩ := h9; rfl)
                    exact this i hi
          | _ => cases hs
      | Call f args kws pos =>
        cases kws with
        | cons _ _ => cases f <;> exact none_ fun _ _ => rfl
        | nil =>
          cases f with
          | Name f p => exact c_call x I tk
          | Attribute o m apos => exact c_meth x I
          | _ => exact none_ fun _ _ => rfl
      | ListComp elt gs scope pos =>
        rcases gs with _ | ⟨⟨tg, iter, ifs, as⟩, _ | ⟨g2, gs⟩⟩
        · exact none_ fun _ _ => rfl
        · cases as with
          | ofNat z =>
            cases z with
            | zero => exact c_comp x IH tk
            | succ z => exact none_ fun _ _ => rfl
          | negSucc z => exact none_ fun _ _ => rfl
        · cases as with
          | ofNat z => cases z <;> exact none_ fun _ _ => rfl
          | negSucc z => exact none_ fun _ _ => rfl
      | _ => exact none_ fun _ _ => rfl
end Q
/-! Q10: statements. -/
namespace Q
open PySem PySem.Spec PyProof.Rows L2
section
variable (K : PySem.W.Frag) (cA : CA)
def tFl (W : WX) (ρ : Pl) (H : Hp) (r : Fl) (D : Ends) : Prop := match r with
  | .nx σ' S' => ∀ ρ' H' σv, Ext ρ H ρ' H' → StR K cA ρ' H' S' → EnvR K ρ' H' σ' σv → D.nx σv H'
  | .bk σ' S' => ∀ ρ' H' σv, Ext ρ H ρ' H' → StR K cA ρ' H' S' → EnvR K ρ' H' σ' σv → D.bk σv H'
  | .ct σ' S' => ∀ ρ' H' σv, Ext ρ H ρ' H' → StR K cA ρ' H' S' → EnvR K ρ' H' σ' σv → D.ct σv H'
  | .rt d S' => ∀ ρ' H' v, Ext ρ H ρ' H' → StR K cA ρ' H' S' → Rep K ρ' H' d v → D.rt v H'
  | .exc x σ' S' => ∀ ρ' H' σv, Ext ρ H ρ' H' → StR K cA ρ' H' S' → EnvR K ρ' H' σ' σv → W (.ref (cA x)) none σv H'
  | .bad => False
def tSt (W : WX) (f : Env → Store → Fl) : TS := fun D σ H => ∃ ρ σd S, EnvR K ρ H σd σ ∧ StR K cA ρ H S ∧ tFl K cA W ρ H (f σd S) D
end
section
variable {K : PySem.W.Frag} {cA : CA} {ρ ρ' : Pl} {H H' : Hp} {W : WX} {α β : Type} {σ : L2.St}
theorem tFl.ext {r : Fl} {D : Ends} (e : Ext ρ H ρ' H') (h : tFl K cA W ρ H r D) : tFl K cA W ρ' H' r D := by
  cases r with
  | bad => exact h
  | _ => exact fun ρ2 H2 v e2 => h ρ2 H2 v (e.trans e2)
theorem tFl.use {R : Pl → Hp → α → β → Prop} {r : Out α} {f : α → Store → Fl} {σd : Env} {D : Ends} (env : EnvR K ρ H σd σ) (h : tFl K cA W ρ H (r.use σd f) D) :
    tO K cA W σ ρ H R r fun v H1 => ∃ ρ1 d S1, Ext ρ H ρ1 H1 ∧ StR K cA ρ1 H1 S1 ∧ R ρ1 H1 d v ∧ tFl K cA W ρ1 H1 (f d S1) D := by
  cases r with
  | ok d S => exact fun ρ1 H1 v e s r => ⟨ρ1, d, S, e, s, r, h.ext e⟩
  | exc x S => exact fun ρ1 H1 e s => h ρ1 H1 σ e s (env.ext e)
  | bad => exact h
theorem tFl.ends {r : Fl} {D D' : Ends} (h : tFl K cA W ρ H r D) (h1 : ∀ σ H, D.nx σ H → D'.nx σ H) (h2 : ∀ v H, D.rt v H → D'.rt v H) (h3 : ∀ σ H, D.bk σ H → D'.bk σ H) (h4 : ∀ σ H, D.ct σ H → D'.ct σ H) : tFl K cA W ρ H r D' := by
  cases r with
  | nx => exact fun ρ1 H1 v e s r => h1 _ _ (h ρ1 H1 v e s r)
  | rt => exact fun ρ1 H1 v e s r => h2 _ _ (h ρ1 H1 v e s r)
  | bk => exact fun ρ1 H1 v e s r => h3 _ _ (h ρ1 H1 v e s r)
  | ct => exact fun ρ1 H1 v e s r => h4 _ _ (h ρ1 H1 v e s r)
  | exc => exact h
  | bad => exact h
end
section
variable {X : Cx}
theorem PS.weak {st : Stmt} {t t' : TS} (h : PS X st t) (w : ∀ D σ H, t' D σ H → t D σ H) : PS X st t' := ⟨fun pins s σ H D I q => h.run pins s σ H D I (w D σ H q)⟩
theorem PSs.weak {st : List Stmt} {t t' : TS} (h : PSs X st t) (w : ∀ D σ H, t' D σ H → t D σ H) : PSs X st t' := ⟨fun pins s σ H D I q => h.run pins s σ H D I (w D σ H q)⟩
theorem PS.none {st : Stmt} {t : TS} (w : ∀ D σ H, ¬ t D σ H) : PS X st t := ⟨fun pins s σ H D I q => (w D σ H q).elim⟩
theorem PSs.none {st : List Stmt} {t : TS} (w : ∀ D σ H, ¬ t D σ H) : PSs X st t := ⟨fun pins s σ H D I q => (w D σ H q).elim⟩
theorem tSt_bad {K : PySem.W.Frag} {cA : CA} {W : WX} {f : Env → Store → Fl} (h : ∀ σ S, f σ S = .bad) : ∀ D σ H, ¬ tSt K cA W f D σ H := by
  rintro D σ H ⟨ρ, σd, S, _, _, q⟩
  rw [h] at q; exact q
end
/-- where statements run -/
structure XSt (X : Cx) (sc : Scope) : Prop where
  scope : X.env.scope = sc
  kind : X.env.scope.kind = .function
  pass : PassesOwn (model X.prog X.w) X.A X.env X.xe
  stk : X.stack = X.env :: X.outer
  frm : X.env.frame = some X.env.locals
section
variable {X : Cx} {cA : CA} {k : Nat} {c : Cfg} {N : List Str} {sc : Scope} {W : WX} {n : Nat}
abbrev SS (cA : CA) (c : Cfg) (N : List Str) (n : Nat) (X : Cx) (sc : Scope) (W : WX) : Prop := ∀ st, PS X st (tSt X.K cA W (ex c N sc n st))
abbrev SSs (cA : CA) (c : Cfg) (N : List Str) (n : Nat) (X : Cx) (sc : Scope) (W : WX) : Prop := ∀ sts, PSs X sts (tSt X.K cA W (exs c N sc n sts))

theorem sw_no {e : Expr} (h : ∀ a b s p, e ≠ .ListComp a b s p) (h2 : ∀ a b s p, e ≠ .SetComp a b s p) (h3 : ∀ a b d s p, e ≠ .DictComp a b d s p) (t : Option Expr) (l : Nat) (env : PySem.Env) : swapsWith e t l env = pure false := by
  cases e <;> first | rfl | exact absurd rfl (h _ _ _ _) | exact absurd rfl (h2 _ _ _ _) | exact absurd rfl (h3 _ _ _ _ _)
theorem sw_cell {elt : Expr} {gs : List Comprehension} {scope : Scope} {pos py : Pos} {y : Str} {l : Nat} {env : PySem.Env} (hy : env.scope.names.lookup y = some .cell) : swapsWith (.ListComp elt gs scope pos) (some (.Name y py)) l env = pure false := by
  have ky : env.kindOf y = some .cell := hy
  unfold swapsWith
  simp only [ky]
  have : (some NameKind.cell == some NameKind.local) = false := by decide
  rw [this, Bool.and_false, Bool.false_and, Bool.false_and]
theorem s_ret (I : AllE cA c N n X sc W) {e : Option Expr} {pos} : PS X (.Return e pos) (tSt X.K cA W (ex c N sc (n + 1) (.Return e pos))) := by
  cases e with
  | none => exact PS.weak ps_retN fun D σ H ⟨ρ, σd, S, env, st, q⟩ => q ρ H .non Ext.refl st .non
  | some e =>
    refine PS.weak (ps_ret (I.e e)) ?_
    rintro D σ H ⟨ρ, σd, S, env, st, q⟩
    refine ⟨ρ, σd, S, env, st, (tFl.use (R := Rep X.K) env q).post ?_⟩
    rintro v H1 ⟨ρ1, d, S1, e1, st1, r1, h1⟩
    exact h1 ρ1 H1 v Ext.refl st1 r1
theorem s_expr (I : AllE cA c N n X sc W) {e : Expr} {pos} : PS X (.Expr e pos) (tSt X.K cA W (ex c N sc (n + 1) (.Expr e pos))) := by
  cases e with
  | Call f as ks p =>
    refine PS.weak (ps_expr (I.e (.Call f as ks p)) rfl) ?_
    rintro D σ H ⟨ρ, σd, S, env, st, q⟩
    refine ⟨ρ, σd, S, env, st, (tFl.use (R := Rep X.K) env q).post ?_⟩
    rintro v H1 ⟨ρ1, d, S1, e1, st1, r1, h1⟩
    exact h1 ρ1 H1 σ Ext.refl st1 (env.ext e1)
  | _ => exact PS.none (tSt_bad fun _ _ => rfl)
theorem s_if (I : AllE cA c N n X sc W) (IS : SSs cA c N n X sc W) {t : Expr} {a b : List Stmt} {pos} : PS X (.If t a b pos) (tSt X.K cA W (ex c N sc (n + 1) (.If t a b pos))) := by
  refine PS.weak (ps_if (I.t t) (IS a) (IS b)) ?_
  rintro D σ H ⟨ρ, σd, S, env, st, q⟩
  refine ⟨ρ, σd, S, env, st, (tFl.use (R := RB) env q).post ?_⟩
  rintro v H1 ⟨ρ1, bb, S1, e1, st1, rfl, h1⟩
  cases bb with
  | true => exact ⟨ρ1, σd, S1, env.ext e1, st1, h1⟩
  | false => exact ⟨ρ1, σd, S1, env.ext e1, st1, h1⟩
/-- a comprehension's reading out of the interpreter's -/
theorem comp_tLc (hp : cA.pin = none) (I : AllE cA c N n X sc W) {elt tg iter : Expr} {ifs : List Expr} {scope : Scope} {pos : Pos} {xs : List Str} {is : List Nat} (h : tgNames tg = some xs) (h2 : slotsOf scope N xs = some is) (hl : ifs.length < 2) :
    ∀ σ H Q, tX X.K cA (Rep X.K) W (fun σ S => (evI c N n (isTup tg) sc iter σ S).bind fun it S1 => (compF it (turnF c N n scope tg elt ifs is σ) loopMost 0 [] S1).bind fun ys S2 => newL c pos ys S2) σ H Q →
      tLc (iX X.K cA W (evI c N n (isTup tg) sc iter)) (gTg X.K tg is) (ttOf X.K cA c N n scope ifs) (tE X.K cA W0 (ev c N n scope elt)) is σ H Q := by
  rintro σ H Q ⟨ρ, σd, S, env, st, q⟩
  refine ⟨ρ, σd, S, env, st, (tO.bind (R1 := fun ρ H it J => ItR X.K cA it ρ H J) q).post ?_⟩
  rintro J H1 ⟨ρ1, it, S1, e1, st1, hJ, h1⟩
  exact comp_read (env.ext e1) st1 hJ (fun ρ H S d v P1 Nx env st r hm => turn_read hp h h2 hl P1 Nx env st r hm) h1
theorem s_set (x : XOk cA k c N X sc) (xs : XSt X sc) (tk : Takes X W) (IH : ∀ m, m ≤ n → ∀ X sc W, XOk cA k c N X sc → Takes X W → AllE cA c N m X sc W) {y : Str} {p : Pos} {e : Expr} {pos} :
    PS X (.Assign [.Name y p] e pos) (tSt X.K cA W (ex c N sc (n + 1) (.Assign [.Name y p] e pos))) := by
  have e0 : ∀ σ S, ex c N sc (n + 1) (.Assign [.Name y p] e pos) σ S = if okSet sc y p e then (match stOf sc N y with
      | some i => if c.hotAt i then .bad else (ev c N n sc e σ S).use σ fun d S1 => .nx (σ.set i (some d)) S1
      | none => .bad) else .bad := fun _ _ => rfl
  have I := IH n (Nat.le_refl n) X sc W x tk
  cases ho : okSet sc y p e with
  | false => exact PS.none (tSt_bad fun σ S => by rw [e0, ho]; rfl)
  | true =>
    cases hi : stOf sc N y with
    | none => exact PS.none (tSt_bad fun σ S => by rw [e0, hi]; simp)
    | some i =>
      cases hat : c.hotAt i with
      | true => exact PS.none (tSt_bad fun σ S => by rw [e0, hi]; simp [hat])
      | false =>
      obtain ⟨h1, kd, h2, h3⟩ := st_slot hi
      obtain ⟨l1, l2⟩ := x.loc _ _ h2 h3
      have nd : X.N.Nodup := by rw [x.names]; exact x.nd
      have hn : X.N[i]? = some y := by rw [x.names]; exact h1
      have fin : ∀ {te : TE}, (∀ σ H Q, tE X.K cA W (ev c N n sc e) σ H Q → te σ H Q) → ∀ D σ H, tSt X.K cA W (ex c N sc (n + 1) (.Assign [.Name y p] e pos)) D σ H → tAsg te (gName i) D σ H := by
        rintro te hte D σ H ⟨ρ, σd, S, env, st, q⟩
        rw [e0, ho, if_pos rfl] at q
        simp only [hi, hat, Bool.false_eq_true, if_false] at q
        refine hte σ H _ ⟨ρ, σd, S, env, st, (tFl.use (R := Rep X.K) env q).post ?_⟩
        rintro v H1 ⟨ρ1, d, S1, e1, st1, r1, h1⟩
        exact h1 ρ1 H1 _ Ext.refl st1 ((env.ext e1).set r1 fun a => by rw [st1.pin]; exact x.free_at hat a)
      by_cases hc : ∃ a b s q, e = .ListComp a b s q
      · obtain ⟨elt, gs, scope, q, rfl⟩ := hc
        by_cases hcell : sc.names.lookup y = some .cell
        · exact PS.weak (ps_set nd hn l1 (I.e _) (sw_cell (by rw [xs.scope]; exact hcell)) l2) (fin fun _ _ _ h => h)
        have ho2 : (decide (sc.names.lookup y = some .local) && (p.line == q.line && !(scope.names.any fun (n, k) => n == y && (k == .local || k == .cell)))) = true := by
          have ho : (decide (sc.names.lookup y = some .cell) || decide (sc.names.lookup y = some .local) && (p.line == q.line && !(scope.names.any fun (n, k) => n == y && (k == .local || k == .cell)))) = true := ho
          rwa [decide_eq_false hcell, Bool.false_or] at ho
        have hok : okSet sc y p (.ListComp elt gs scope q) = true := by
          show (decide (sc.names.lookup y = some .cell) || decide (sc.names.lookup y = some .local) && (p.line == q.line && !(scope.names.any fun (n, k) => n == y && (k == .local || k == .cell)))) = true
          rw [ho2, Bool.or_true]
        cases n with
        | zero => exact PS.none (tSt_bad fun σ S => by rw [e0, ho]; simp only [hi, if_true, hat]; rfl)
        | succ n =>
          have I0 := IH n (Nat.le_succ n) X sc W x tk
          have none_ : (∀ σ S, ev c N (n + 1) sc (.ListComp elt gs scope q) σ S = .bad) → PS X (.Assign [.Name y p] (.ListComp elt gs scope q) pos) (tSt X.K cA W (ex c N sc (n + 1 + 1) (.Assign [.Name y p] (.ListComp elt gs scope q) pos))) := fun h =>
            PS.none (tSt_bad fun σ S => by rw [e0, ho]; simp only [hi, if_true, hat, h]; rfl)
          rcases gs with _ | ⟨⟨tg, iter, ifs, as⟩, _ | ⟨g2, gs⟩⟩
          · exact none_ fun _ _ => rfl
          · cases as with
            | negSucc z => exact none_ fun _ _ => rfl
            | ofNat z =>
              cases z with
              | succ z => exact none_ fun _ _ => rfl
              | zero =>
                have e1 : ∀ σ S, ev c N (n + 1) sc (.ListComp elt [⟨tg, iter, ifs, 0⟩] scope q) σ S = (match tgNames tg with
                  | some xs => (match slotsOf scope N xs with
                    | some is => if !c.calm || (isSet iter || (!L2.blkC N sc scope (xs.zip is) || decide (2 ≤ ifs.length))) then .bad else (evI c N n (isTup tg) sc iter σ S).bind fun it S1 => (compF it (turnF c N n scope tg elt ifs is σ) loopMost 0 [] S1).bind fun ys S2 => newL c q ys S2
                    | none => .bad)
                  | none => .bad) := fun _ _ => rfl
                cases h : tgNames tg with
                | none => exact none_ fun σ S => by show ev c N (n + 1) sc (.ListComp elt [⟨tg, iter, ifs, 0⟩] scope q) σ S = _; rw [e1, h]
                | some xs' =>
                  cases h2' : slotsOf scope N xs' with
                  | none => exact none_ fun σ S => by show ev c N (n + 1) sc (.ListComp elt [⟨tg, iter, ifs, 0⟩] scope q) σ S = _; rw [e1, h]; simp only [h2']
                  | some is =>
                    cases hc : (!c.calm || (isSet iter || (!L2.blkC N sc scope (xs'.zip is) || decide (2 ≤ ifs.length)))) with
                    | true => exact none_ fun σ S => by show ev c N (n + 1) sc (.ListComp elt [⟨tg, iter, ifs, 0⟩] scope q) σ S = _; rw [e1, h]; simp only [h2']; rw [if_pos hc]
                    | false =>
                      obtain ⟨hcm, hc1⟩ := Bool.or_eq_false_iff.mp hc
                      have hno : c.hot = none := calm_none (by simpa using hcm)
                      obtain ⟨hs, hc2⟩ := Bool.or_eq_false_iff.mp hc1
                      obtain ⟨hb, hl⟩ := Bool.or_eq_false_iff.mp hc2
                      have hb : L2.blkC N sc scope (xs'.zip is) = true := by simpa using hb
                      have hl : ifs.length < 2 := by have := of_decide_eq_false hl; omega
                      have ok := blkOk_by hb
                      have ok' : BlkOk X.N X.env.scope scope (xs'.zip is) := by
                        rw [x.names]
                        exact ⟨ok.kind, ok.uniq, ok.ix, fun y hy z => x.cf _ (ok.free y hy z), ok.own⟩
                      have snd_eq : (xs'.zip is).map (·.2) = is := by
                        rw [List.map_snd_zip]
                        exact Nat.le_of_eq (slots_len h2')
                      have hT : ∀ ifs : List Expr, ifs.length < 2 → ∀ (s : Shared) (H : Hp) (C : Addr) (cl : List (Str × Addr)) (fp : List Addr), PTs (X.blk s H scope (compEnvC scope cl C X.env) fp) ifs (ttOf X.K cA c N n scope ifs) := by
                        intro ifs hl s H C cl fp
                        rcases ifs with _ | ⟨t, _ | ⟨t2, ifs⟩⟩
                        · exact pts_nil
                        · exact pts_one ((IH n (Nat.le_succ n) _ scope W0 (x.blk hno scope s H C cl fp) takes0).t t)
                        · exact absurd hl (by simp)
                      simp only [Bool.and_eq_true] at ho2
                      obtain ⟨o1, o2, o3⟩ := ho2
                      have hyl : X.env.scope.names.lookup y = some .local := by rw [xs.scope]; exact of_decide_eq_true o1
                      have o3 : (scope.names.any fun (n, k) => n == y && (k == .local || k == .cell)) = false := by simpa using o3
                      have L := ps_setLc (X := X) (ifs := ifs) (pos := q) (spos := pos) (py := p) (tt := ttOf X.K cA c N n scope ifs) (te := tE X.K cA W0 (ev c N n scope elt)) (g := gTg X.K tg is) (x.calm hno) nd hn hyl
                        (sw_true xs.kind hyl o2 o3) (I0.i tg iter) ok'
                        (fun s H C cl fp => pg_tg (x.blk hno scope s H C cl fp) hno h h2') (hT ifs hl)
                        (fun s H C cl fp => (IH n (Nat.le_succ n) _ scope W0 (x.blk hno scope s H C cl fp) takes0).e elt) (set_ok hs X.env)
                      rw [snd_eq] at L
                      refine PS.weak L (fin fun σ H Q hq => comp_tLc (pos := q) (x.pin hno) I0 h h2' hl σ H Q ?_)
                      obtain ⟨ρ, σd, S, env, st, hq⟩ := hq
                      have hq : tO X.K cA W σ ρ H (Rep X.K) (ev c N (n + 1) sc (.ListComp elt [⟨tg, iter, ifs, 0⟩] scope q) σd S) Q := hq
                      rw [e1, h] at hq
                      simp only [h2'] at hq
                      rw [if_neg (by rw [hc]; exact Bool.false_ne_true)] at hq
                      exact ⟨ρ, σd, S, env, st, hq⟩
          · cases as with
            | ofNat z => cases z <;> exact none_ fun _ _ => rfl
            | negSucc z => exact none_ fun _ _ => rfl
      · refine PS.weak (ps_set nd hn l1 (I.e e) (sw_no (fun a b s q z => hc ⟨a, b, s, q, z⟩) (fun a b s q z => ?_) (fun a b d s q z => ?_) _ _ _) l2) (fin fun _ _ _ h => h)
        · subst z; cases ho
        · subst z; cases ho
theorem sole_no {tg e : Expr} (ht : ∀ x p, tg ≠ .Name x p) (l : Nat) (env : PySem.Env) : swapsWithSole [tg] e l env = pure false := by
  show swapsWith e (some tg) l env = pure false
  cases e <;> first | rfl | (cases tg <;> first | rfl | exact absurd rfl (ht _ _))
theorem s_sub (x : XOk cA k c N X sc) (I : AllE cA c N n X sc W) {o i e : Expr} {p pos} : PS X (.Assign [.Subscript o i p] e pos) (tSt X.K cA W (ex c N sc (n + 1) (.Assign [.Subscript o i p] e pos))) := by
  have e0 : ∀ σ S, ex c N sc (n + 1) (.Assign [.Subscript o i p] e pos) σ S = if isSlice i then .bad else (ev c N n sc e σ S).use σ fun d S1 => (ev c N n sc o σ S1).use σ fun x S2 => (ev c N n sc i σ S2).use σ fun y S3 => (match setD S3 x y d with
      | some S4 => .nx σ S4
      | none => .bad) := fun _ _ => rfl
  cases hs : isSlice i with
  | true => exact PS.none (tSt_bad fun σ S => by rw [e0, hs]; rfl)
  | false =>
    refine PS.weak (ps_asg (I.e e) (pg_sub (I.e o) (I.e i) (set_all (by have := x.un; omega)) (by intro v; cases i <;> first | rfl | cases hs)) (sole_no (fun _ _ z => by cases z) _ _) (by cases e <;> rfl) rfl) ?_
    rintro D σ H ⟨ρ, σd, S, env, st, q⟩
    rw [e0, hs] at q
    have q : tFl X.K cA W ρ H ((ev c N n sc e σd S).use σd fun d S1 => (ev c N n sc o σd S1).use σd fun x S2 => (ev c N n sc i σd S2).use σd fun y S3 => (match setD S3 x y d with
      | some S4 => .nx σd S4
      | none => .bad)) D := q
    refine ⟨ρ, σd, S, env, st, (tFl.use (R := Rep X.K) env q).post ?_⟩
    rintro v H1 ⟨ρ1, d, S1, e1, st1, r1, h1⟩
    refine ⟨ρ1, σd, S1, env.ext e1, st1, (tFl.use (R := Rep X.K) (env.ext e1) h1).post ?_⟩
    rintro u H2 ⟨ρ2, d2, S2, e2, st2, r2, h2⟩
    have env2 := (env.ext e1).ext e2
    refine ⟨ρ2, σd, S2, env2, st2, (tFl.use (R := Rep X.K) env2 h2).post ?_⟩
    rintro w H3 ⟨ρ3, d3, S3, e3, st3, r3, h3⟩
    cases e4 : setD S3 d2 d3 d with
    | none => rw [e4] at h3; exact h3.elim
    | some S4 =>
      rw [e4] at h3
      exact set_of st3 (r2.ext e3) r3 ((r1.ext e2).ext e3) e4 fun ρ' H' e5 st5 => h3 ρ' H' σ e5 st5 ((env2.ext e3).ext e5)
theorem s_tup (x : XOk cA k c N X sc) (I : AllE cA c N n X sc W) {es : List Expr} {j : Nat} {e : Expr} {p pos} : PS X (.Assign [.Tuple es j p] e pos) (tSt X.K cA W (ex c N sc (n + 1) (.Assign [.Tuple es j p] e pos))) := by
  have e0 : ∀ σ S, ex c N sc (n + 1) (.Assign [.Tuple es j p] e pos) σ S = if !c.calm || isTup e then .bad else (match tgNames (.Tuple es j p) with
      | some xs => (match slotsOf sc N xs with
        | some _ => (ev c N n sc e σ S).use σ fun d S1 => (match bindTg (.Tuple es j p) sc N σ d with
          | some σ1 => .nx σ1 S1
          | none => .bad)
        | none => .bad)
      | none => .bad) := fun _ _ => rfl
  cases ht' : (!c.calm || isTup e) with
  | true => exact PS.none (tSt_bad fun σ S => by rw [e0, ht']; rfl)
  | false =>
    obtain ⟨hcm, ht⟩ := Bool.or_eq_false_iff.mp ht'
    have hno : c.hot = none := calm_none (by simpa using hcm)
    cases h : tgNames (.Tuple es j p) with
    | none => exact PS.none (tSt_bad fun σ S => by rw [e0, ht', h]; rfl)
    | some xs =>
      cases h2 : slotsOf sc N xs with
      | none => exact PS.none (tSt_bad fun σ S => by rw [e0, ht', h]; simp [h2])
      | some is =>
        refine PS.weak (ps_asg (I.e e) (pg_tg x hno h h2) (sole_no (fun _ _ z => by cases z) _ _) (by cases e <;> first | rfl | cases ht) rfl) ?_
        rintro D σ H ⟨ρ, σd, S, env, st, q⟩
        rw [e0, ht', h] at q
        simp only [h2, Bool.false_eq_true, if_false] at q
        refine ⟨ρ, σd, S, env, st, (tFl.use (R := Rep X.K) env q).post ?_⟩
        rintro v H1 ⟨ρ1, d, S1, e1, st1, r1, h1⟩
        cases hb : bindTg (.Tuple es j p) sc N σd d with
        | none => rw [hb] at h1; exact h1.elim
        | some σ1 =>
          rw [hb] at h1
          exact tg_of (st1.pin.trans (x.pin hno)) h h2 hb (env.ext e1) r1 fun vs hl env' => h1 ρ1 H1 _ Ext.refl st1 env'
theorem s_while (xs : XSt X sc) (I : AllE cA c N n X sc W) (IS : SSs cA c N n X sc W) {t : Expr} {body : List Stmt} {pos} : PS X (.While t body [] pos) (tSt X.K cA W (ex c N sc (n + 1) (.While t body [] pos))) := by
  refine PS.weak (ps_while xs.pass (I.t t) (IS body)) ?_
  rintro D σ H ⟨ρ, σd, S, env, st, q⟩
  have q : tFl X.K cA W ρ H (whileF (evT c N n sc t) (exs c N sc n body) loopMost σd S) D := q
  refine ⟨fun m σ' H' => ∃ ρ' σd' S', EnvR X.K ρ' H' σd' σ' ∧ StR X.K cA ρ' H' S' ∧ tFl X.K cA W ρ' H' (whileF (evT c N n sc t) (exs c N sc n body) m σd' S') D,
    ⟨loopMost, ρ, σd, S, env, st, q⟩, ?_⟩
  rintro m σ' H' ⟨ρ', σd', S', env', st', q'⟩
  cases m with
  | zero => exact q'.elim
  | succ m =>
    refine ⟨ρ', σd', S', env', st', (tFl.use (R := RB) env' q').post ?_⟩
    rintro b H1 ⟨ρ1, bb, S1, e1, st1, rfl, h1⟩
    cases bb with
    | false => exact h1 ρ1 H1 σ' Ext.refl st1 (env'.ext e1)
    | true =>
      refine ⟨_, fun σ2 H2 z => ⟨m, Nat.lt_succ_self m, z⟩, ρ1, σd', S1, env'.ext e1, st1, ?_⟩
      have h2 : tFl X.K cA W ρ1 H1 (match exs c N sc n body σd' S1 with
        | .nx σ1 S2 => whileF (evT c N n sc t) (exs c N sc n body) m σ1 S2
        | .ct σ1 S2 => whileF (evT c N n sc t) (exs c N sc n body) m σ1 S2
        | .bk σ1 S2 => .nx σ1 S2
        | r => r) D := h1
      cases hx : exs c N sc n body σd' S1 with
      | nx σ1 S2 => rw [hx] at h2; exact fun ρ3 H3 σ3 e3 st3 env3 => ⟨ρ3, σ1, S2, env3, st3, h2.ext e3⟩
      | ct σ1 S2 => rw [hx] at h2; exact fun ρ3 H3 σ3 e3 st3 env3 => ⟨ρ3, σ1, S2, env3, st3, h2.ext e3⟩
      | bk σ1 S2 => rw [hx] at h2; exact h2
      | rt d S2 => rw [hx] at h2; exact h2
      | exc y σ1 S2 => rw [hx] at h2; exact h2
      | bad => rw [hx] at h2; exact h2
def forB (c : Cfg) (N : List Str) (sc : Scope) (n : Nat) (tg : Expr) (body : List Stmt) : D → Env → Store → Fl := fun d σ1 S2 => match bindTg tg sc N σ1 d with
  | some σ2 => exs c N sc n body σ2 S2
  | none => .bad
theorem s_for (x : XOk cA k c N X sc) (xst : XSt X sc) (I : AllE cA c N n X sc W) (IS : SSs cA c N n X sc W) {tg iter : Expr} {body : List Stmt} {pos} : PS X (.For tg iter body [] pos) (tSt X.K cA W (ex c N sc (n + 1) (.For tg iter body [] pos))) := by
  have e0 : ∀ σ S, ex c N sc (n + 1) (.For tg iter body [] pos) σ S = if !c.calm || isSet iter then .bad else (match tgNames tg with
      | some xs => (match slotsOf sc N xs with
        | some _ => (evI c N n (isTup tg) sc iter σ S).use σ fun it S1 => forF it (forB c N sc n tg body) loopMost 0 σ S1
        | none => .bad)
      | none => .bad) := fun _ _ => rfl
  cases ht' : (!c.calm || isSet iter) with
  | true => exact PS.none (tSt_bad fun σ S => by rw [e0, ht']; rfl)
  | false =>
    obtain ⟨hcm, ht⟩ := Bool.or_eq_false_iff.mp ht'
    have hno : c.hot = none := calm_none (by simpa using hcm)
    cases h : tgNames tg with
    | none => exact PS.none (tSt_bad fun σ S => by rw [e0, ht', h]; rfl)
    | some xs =>
      cases h2 : slotsOf sc N xs with
      | none => exact PS.none (tSt_bad fun σ S => by rw [e0, ht', h]; simp [h2])
      | some is =>
        refine PS.weak (ps_for xst.pass (x.calm hno) (I.i tg iter) (pg_tg x hno h h2) (IS body) (set_ok ht X.env)) ?_
        rintro D σ H ⟨ρ, σd, S, env, st, q⟩
        rw [e0, ht', h] at q
        simp only [h2, Bool.false_eq_true, if_false] at q
        refine ⟨ρ, σd, S, env, st, (tFl.use (R := fun ρ H it J => ItR X.K cA it ρ H J) env q).post ?_⟩
        rintro J H1 ⟨ρ1, it, S1, e1, st1, hJ, h1⟩
        refine ⟨fun i m σ' H' => ∃ ρ' σd' S', Ext ρ1 H1 ρ' H' ∧ EnvR X.K ρ' H' σd' σ' ∧ StR X.K cA ρ' H' S' ∧ tFl X.K cA W ρ' H' (forF it (forB c N sc n tg body) m i σd' S') D,
          ⟨loopMost, ρ1, σd, S1, Ext.refl, env.ext e1, st1, h1⟩, ?_⟩
        rintro i m σ' H' ⟨ρ', σd', S', e, env', st', q'⟩
        cases m with
        | zero => exact q'.elim
        | succ m =>
          obtain ⟨j1, j2⟩ := hJ ρ' H' S' i e st'
          have q' : tFl X.K cA W ρ' H' (match it.get S' i with
            | none => .bad
            | some none => .nx σd' S'
            | some (some d) => (match forB c N sc n tg body d σd' S' with
              | .nx σ1 S1 => forF it (forB c N sc n tg body) m (i + 1) σ1 S1
              | .ct σ1 S1 => forF it (forB c N sc n tg body) m (i + 1) σ1 S1
              | .bk σ1 S1 => .nx σ1 S1
              | r => r)) D := q'
          cases g0 : it.get S' i with
          | none => rw [g0] at q'; exact q'.elim
          | some o =>
            rw [g0] at q'
            cases o with
            | none => exact .inl ⟨j1 g0, q' ρ' H' σ' Ext.refl st' env'⟩
            | some d =>
              obtain ⟨j3, j4⟩ := j2 d g0
              refine .inr ⟨j3, _, fun σ2 H2 z => ⟨m, Nat.lt_succ_self m, z⟩, fun v H2 y => ?_⟩
              obtain ⟨ρ2, e2, st2, r2⟩ := j4 v H2 y
              have h3 : tFl X.K cA W ρ2 H2 (match forB c N sc n tg body d σd' S' with
                | .nx σ1 S1 => forF it (forB c N sc n tg body) m (i + 1) σ1 S1
                | .ct σ1 S1 => forF it (forB c N sc n tg body) m (i + 1) σ1 S1
                | .bk σ1 S1 => .nx σ1 S1
                | r => r) D := tFl.ext e2 q'
              unfold forB at h3
              cases hb : bindTg tg sc N σd' d with
              | none => rw [hb] at h3; exact h3.elim
              | some σ2 =>
                rw [hb] at h3
                refine tg_of (st2.pin.trans (x.pin hno)) h h2 hb (env'.ext e2) r2 fun vs hl env2 => ?_
                refine ⟨ρ2, σ2, S', env2, st2, ?_⟩
                have h3 : tFl X.K cA W ρ2 H2 (match exs c N sc n body σ2 S' with
                  | .nx σ1 S1 => forF it (forB c N sc n tg body) m (i + 1) σ1 S1
                  | .ct σ1 S1 => forF it (forB c N sc n tg body) m (i + 1) σ1 S1
                  | .bk σ1 S1 => .nx σ1 S1
                  | r => r) D := h3
                cases hx : exs c N sc n body σ2 S' with
                | nx σ1 S2 => rw [hx] at h3; exact fun ρ3 H3 σ3 e3 st3 env3 => ⟨ρ3, σ1, S2, (e.trans e2).trans e3, env3, st3, h3.ext e3⟩
                | ct σ1 S2 => rw [hx] at h3; exact fun ρ3 H3 σ3 e3 st3 env3 => ⟨ρ3, σ1, S2, (e.trans e2).trans e3, env3, st3, h3.ext e3⟩
                | bk σ1 S2 => rw [hx] at h3; exact h3
                | rt d S2 => rw [hx] at h3; exact h3
                | exc y σ1 S2 => rw [hx] at h3; exact h3
                | bad => rw [hx] at h3; exact h3
theorem s_raise (x : XOk cA k c N X sc) (tk : Takes X W) {y m : Str} {j : Nat} {p p2 p3 pos : Pos} : PS X (.Raise (some (.Call (.Name y p) [.Constant (.str m) j p2] [] p3)) none pos) (tSt X.K cA W (ex c N sc (n + 1) (.Raise (some (.Call (.Name y p) [.Constant (.str m) j p2] [] p3)) none pos))) := by
  have e0 : ∀ σ S, ex c N sc (n + 1) (.Raise (some (.Call (.Name y p) [.Constant (.str m) j p2] [] p3)) none pos) σ S = if plainName y && c.excs y && (nmOf sc N y).isGlob then .exc y σ S else .bad := fun _ _ => rfl
  cases hc : (plainName y && c.excs y && (nmOf sc N y).isGlob) with
  | false => exact PS.none (tSt_bad fun σ S => by rw [e0, hc]; rfl)
  | true =>
    have hc' := hc
    rw [Bool.and_eq_true, Bool.and_eq_true] at hc'
    obtain ⟨⟨c1, c2⟩, c3⟩ := hc'
    obtain ⟨q1, q2, q3⟩ := pn c1
    have hg : nmOf sc N y = .glob := by
      cases q : nmOf sc N y with
      | glob => rfl
      | slot => rw [q] at c3; cases c3
      | no => rw [q] at c3; cases c3
    obtain ⟨m1, m2, m3, m4, m5⟩ := x.cfg.exc y c2
    refine PS.weak (ps_raise (x.calm (x.of_exc c2)) tk (pmk_own PySem.F.excBase_ValueError m2 m1 m3 (raises_own m4 m5) ((x.vis _ _ (nm_glob hg)).2 rfl) q1)) ?_
    rintro D σ H ⟨ρ, σd, S, env, st, q⟩
    rw [e0, if_pos hc] at q
    exact q ρ H σ Ext.refl st env
/-- the pinned slot -/
def Pl.pinned (ρ : Pl) (p : Option (Nat × Addr)) : Pl := ⟨ρ.l, ρ.b, p⟩
theorem Rep.pinned {K : PySem.W.Frag} {ρ : Pl} {H : Hp} {p : Option (Nat × Addr)} {d : D} {v : V} (r : Rep K ρ H d v) : Rep K (ρ.pinned p) H d v := Rep.pl (ρ := ρ) (σ := ρ.pinned p) (fun _ _ h => h) (fun _ h => .inl h) r
theorem StR.pinned {K : PySem.W.Frag} {ρ : Pl} {H : Hp} {S : Store} {p : Option (Nat × Addr)} (s : StR K cA ρ H S) : StR K ⟨cA.ad, p⟩ (ρ.pinned p) H S := by
  refine ⟨s.len, s.nd, fun l o h => ?_, s.bl, rfl⟩
  obtain ⟨a, h1, h2⟩ := s.ob l o h
  refine ⟨a, h1, ?_⟩
  have h3 : ObR K cA (ρ.pinned p) H a o := ObR.pl (ρ := ρ) (σ := ρ.pinned p) (fun _ _ h => h) (fun _ h => .inl h) h2
  cases o <;> exact h3
theorem Ext.pinned {ρ ρ' : Pl} {H H' : Hp} {p q : Option (Nat × Addr)} (e : Ext (ρ.pinned q) H ρ' H') (h : ρ.pin = p) : Ext ρ H (ρ'.pinned p) H' := ⟨e.pre, e.lo, e.hi, e.keep, e.tr, h.symm⟩
theorem EnvR.pinNone {K : PySem.W.Frag} {ρ : Pl} {H : Hp} {σd : Env} {σ : L2.St} (r : EnvR K ρ H σd σ) : EnvR K (ρ.pinned none) H σd σ :=
  ⟨r.len, fun i d h => let ⟨v, h1, h2⟩ := r.get i d h; ⟨v, h1, h2.pinned⟩, fun _ _ h => by cases h⟩
theorem EnvR.pinAt {K : PySem.W.Frag} {ρ : Pl} {H : Hp} {σd : Env} {σ : L2.St} (r : EnvR K ρ H σd σ) {i : Nat} (hi : i < σ.length) (a : Addr) : EnvR K (ρ.pinned (some (i, a))) H (σd.set i none) (σ.set i (some (.ref a))) := by
  refine ⟨by simp [r.len], fun j d h => ?_, fun j b h => ?_⟩
  · by_cases hj : i = j
    · subst hj
      rw [List.getElem?_set_self (by rw [r.len]; exact hi)] at h
      cases h
    · rw [List.getElem?_set_ne hj] at h
      obtain ⟨v, h1, h2⟩ := r.get j d h
      exact ⟨v, by rw [List.getElem?_set_ne hj]; exact h1, h2.pinned⟩
  · cases h
    rw [List.getElem?_set_self hi]
theorem EnvR.forget {K : PySem.W.Frag} {ρ : Pl} {H : Hp} {σd : Env} {σ : L2.St} (r : EnvR K ρ H σd σ) (i : Nat) : EnvR K ρ H (σd.set i none) σ := by
  refine ⟨by simp [r.len], fun j d h => ?_, r.pin⟩
  by_cases hj : i = j
  · subst hj
    by_cases hl : i < σd.length
    · rw [List.getElem?_set_self hl] at h
      cases h
    · rw [List.getElem?_eq_none (by rw [List.length_set]; omega)] at h
      cases h
  · rw [List.getElem?_set_ne hj] at h
    exact r.get j d h
/-- a suite that holds an error -/
theorem XOk.suite (x : XOk cA k c N X sc) {y : Str} {i : Nat} {a : Addr} {oe : Obj} {pn : List (Addr × Obj)} {p : Option (Nat × Addr)} (hp : p = none ∧ i = N.length ∨ p = some (i, a)) (hx : ExcC X.K (cA y)) (hz : Zc (.ref (cA y)) none oe) (hf : ∃ vs, oe.data = .fields vs) : XOk ⟨cA.ad, p⟩ k (c.hotC i y) N (X.suite a ((a, oe) :: pn)) sc where
  cfg := ⟨(fun _ _ h => by cases h), x.cfg.var, fun f h => x.cfg.free f (by
      have h : (c.free f && (f == "isinstance" || f == "int")) = true := h
      rw [Bool.and_eq_true] at h; exact h.1), (fun _ h => by cases h), x.cfg.kit⟩
  calm := fun h => by cases h
  room := fun h => by cases h
  un := x.un
  pinAt := fun j b h => by
    rcases hp with ⟨rfl, _⟩ | rfl
    · cases h
    · cases h; exact ⟨y, rfl⟩
  tame := .inr ⟨fun _ => rfl, fun f h => by
      have h : (c.free f && (f == "isinstance" || f == "int")) = true := h
      rw [Bool.and_eq_true, Bool.or_eq_true, beq_iff_eq, beq_iff_eq] at h; exact h.2, fun _ => rfl⟩
  held := fun j z h lt => by
    cases h
    rcases hp with ⟨_, rfl⟩ | rfl
    · omega
    · exact ⟨a, rfl, call_isE hx hz hf, call_isET hx hz hf⟩
  names := x.names
  nd := x.nd
  vis := x.vis
  loc := x.loc
  cf := x.cf
theorem s_try (x : XOk cA k c N X sc) (xst : XSt X sc) (tk : Takes X W) (IB : ∀ cA c X sc W, XOk cA k c N X sc → XSt X sc → Takes X W → SSs cA c N n X sc W) {body suite : List Stmt} {y : Str} {np hpos pos : Pos} {nm : Option Str} {b0 : Stmt} :
    PS X (.Try body [.ExceptHandler (some (.Name y np)) nm (b0 :: suite) hpos] [] [] pos) (tSt X.K cA W (ex c N sc (n + 1) (.Try body [.ExceptHandler (some (.Name y np)) nm (b0 :: suite) hpos] [] [] pos))) := by
  have e0 : ∀ σ S, ex c N sc (n + 1) (.Try body [.ExceptHandler (some (.Name y np)) nm (b0 :: suite) hpos] [] [] pos) σ S = if c.calm && (plainName y && ((nmOf sc N y).isGlob && (c.kits y y).isSome)) then (match heldAt sc N nm with
      | some i => (match exs c N sc n body σ S with
        | .exc x σ1 S1 => (match c.kits x y with
          | some true => if nm.isSome && decide (σ1.length ≤ i) then .bad else hotEnd i (exs (c.hotC i x) N sc n (b0 :: suite) (σ1.set i none) S1)
          | some false => .exc x σ1 S1
          | none => .bad)
        | r => r)
      | none => .bad) else .bad := fun _ _ => rfl
  cases hc : (c.calm && (plainName y && ((nmOf sc N y).isGlob && (c.kits y y).isSome))) with
  | false => exact PS.none (tSt_bad fun σ S => by rw [e0, hc]; rfl)
  | true =>
    have hc' := hc
    rw [Bool.and_eq_true, Bool.and_eq_true, Bool.and_eq_true] at hc'
    obtain ⟨c1, c2, c3, c4⟩ := hc'
    have hno := calm_none c1
    have hpin : cA.pin = none := x.pin hno
    obtain ⟨q1, q2, q3⟩ := pn c2
    have hg : nmOf sc N y = .glob := by
      cases q : nmOf sc N y with
      | glob => rfl
      | slot => rw [q] at c3; cases c3
      | no => rw [q] at c3; cases c3
    obtain ⟨by_, hby⟩ := Option.isSome_iff_exists.mp c4
    obtain ⟨v0, u, hm0, cl0, _, _, _⟩ := x.cfg.kit y y by_ hby
    have hN : Names X y u := ⟨(x.vis _ _ (nm_glob hg)).2 rfl, q1, hm0.imp (fun z => z.1) (fun z => ⟨z.1, z.2.1, q3⟩)⟩
    have same : ∀ {z : Str} {b : Bool}, c.kits z y = some b → PySem.W.exmOne X.K (.ref (cA z)) u = some b ∧ ExcC X.K (cA z) := by
      intro z b hz
      obtain ⟨v1, u1, hm1, _, _, em, ec⟩ := x.cfg.kit z y b hz
      refine ⟨?_, ec⟩
      have : u1 = u := by
        rcases hm0 with ⟨m1, _⟩ | ⟨m1, m2, _⟩ <;> rcases hm1 with ⟨n1, _⟩ | ⟨n1, n2, _⟩
        · rw [m1] at n1; cases n1; rfl
        · rw [m1] at n1; cases n1
        · rw [m1] at n1; cases n1
        · rw [m2] at n2; cases n2; rfl
      rw [← this]; exact em
    cases hi : heldAt sc N nm with
    | none => exact PS.none (tSt_bad fun σ S => by rw [e0, hc, hi]; rfl)
    | some i =>
      have body_ok : ∀ (W : WX) (pn : List (Addr × Obj)) (xe : Value → Shared → Prop), Takes (X.tr pn xe) W → PassesOwn (model X.prog X.w) X.A X.env xe → PSs (X.tr pn xe) body (tSt X.K cA W (exs c N sc n body)) := by
        intro W' pn xe tk' ps
        have xo : XOk cA k c N (X.tr pn xe) sc := ⟨x.cfg, x.calm, x.room, x.un, x.pinAt, x.tame, (fun j z h => by rw [hno] at h; cases h), x.names, x.nd, x.vis, x.loc, x.cf⟩
        exact IB cA c (X.tr pn xe) sc W' xo ⟨xst.scope, xst.kind, ps, xst.stk, xst.frm⟩ tk' body
      have suite_ok : ∀ (p : Addr → Option (Nat × Addr)), (∀ a, p a = none ∧ i = N.length ∨ p a = some (i, a)) → ∀ (a : Addr) (oe : Obj) (cls : Value) (d : Option Addr) (pn : List (Addr × Obj)), Zc cls d oe → (∃ vs, oe.data = .fields vs) →
          PSs (X.suite a ((a, oe) :: pn)) (b0 :: suite) (fun D σ H => ∃ z, cls = .ref (cA z) ∧ d = none ∧ c.kits z y = some true ∧ tSt X.K ⟨cA.ad, p a⟩ (fun _ _ _ _ => False) (exs (c.hotC i z) N sc n (b0 :: suite)) D σ H) := by
        intro p hp a oe cls d pn hz hf
        refine ⟨fun pins s σ H D I ⟨z, e1, e2, hk, t⟩ => ?_⟩
        subst e1 e2
        have xo := x.suite (pn := pn) (hp a) (same hk).2 hz hf
        have xs : XSt (X.suite a ((a, oe) :: pn)) sc := ⟨xst.scope, xst.kind, fun _ _ h => h.elim, xst.stk, xst.frm⟩
        exact (IB ⟨cA.ad, p a⟩ (c.hotC i z) (X.suite a ((a, oe) :: pn)) sc (fun _ _ _ _ => False) xo xs (fun u s' h => by
          obtain ⟨_, _, _, _, _, _, _, _, _, _, _, _, _, _, _, _, w⟩ := h
          exact w.elim) (b0 :: suite)).run pins s σ H D I t
      have eA : (⟨cA.ad, none⟩ : CA) = cA := by rw [← hpin]
      cases nm with
      | none =>
        have hi' : N.length = i := Option.some.inj hi
        refine PS.weak (ps_try_only xst.stk xst.frm hN tk (tb := fun W => tSt X.K cA W (exs c N sc n body)) body_ok (suite_ok (fun _ => none) fun _ => .inl ⟨rfl, hi'.symm⟩)) ?_
        rintro D σ H ⟨ρ, σd, S, env, st, q⟩
        rw [e0, if_pos hc] at q
        simp only [hi] at q
        refine ⟨ρ, σd, S, env, st, ?_⟩
        cases hx : exs c N sc n body σd S with
        | nx σ1 S1 => rw [hx] at q; exact q
        | bk σ1 S1 => rw [hx] at q; exact q
        | ct σ1 S1 => rw [hx] at q; exact q
        | rt d S1 => rw [hx] at q; exact q
        | bad => rw [hx] at q; exact q
        | exc z σ1 S1 =>
          rw [hx] at q
          intro ρ1 H1 σv e1 st1 env1
          cases hk : c.kits z y with
          | none => simp only [hk] at q; exact q.elim
          | some b =>
            obtain ⟨em, _⟩ := same hk
            refine ⟨b, em, fun hb a ha => ?_, fun hb => ?_⟩
            · subst hb
              simp only [hk, Option.isSome_none, Bool.false_and, Bool.false_eq_true, if_false] at q
              refine ⟨z, rfl, rfl, hk, ρ1.pinned none, σ1.set i none, S1, (env1.pinNone).forget i, st1.pinned, ?_⟩
              have hp1 : ρ1.pin = none := st1.pin.trans hpin
              have e2 : Ext ρ H (ρ1.pinned none) H1 := by
                have z : ρ1.pinned none = ρ1 := by
                  show Pl.mk ρ1.l ρ1.b none = ρ1
                  rw [← hp1]
                rw [z]; exact e1
              cases hs : exs (c.hotC i z) N sc n (b0 :: suite) (σ1.set i none) S1 with
              | nx σ2 S2 => rw [hs] at q; exact fun ρ3 H3 σw e3 st3 env3 => q ρ3 H3 σw (e2.trans e3) (eA ▸ st3) (env3.forget i)
              | bk σ2 S2 => rw [hs] at q; exact fun ρ3 H3 σw e3 st3 env3 => q ρ3 H3 σw (e2.trans e3) (eA ▸ st3) (env3.forget i)
              | ct σ2 S2 => rw [hs] at q; exact fun ρ3 H3 σw e3 st3 env3 => q ρ3 H3 σw (e2.trans e3) (eA ▸ st3) (env3.forget i)
              | rt d S2 => rw [hs] at q; exact fun ρ3 H3 v e3 st3 r3 => q ρ3 H3 v (e2.trans e3) (eA ▸ st3) r3
              | exc w σ2 S2 => rw [hs] at q; exact q.elim
              | bad => rw [hs] at q; exact q
            · subst hb
              simp only [hk] at q
              exact q ρ1 H1 σv e1 st1 env1
      | some nm =>
        have hl : sc.names.lookup nm = some .local ∧ N.idxOf? nm = some i := by
          unfold heldAt at hi
          simp only at hi
          split at hi
          · next h => exact ⟨h, hi⟩
          · cases hi
        have hsl : nmOf sc N nm = .slot i := by
          unfold nmOf
          rw [hl.1]
          simp only [hl.2]
        have hni : X.N[i]? = some nm := by rw [x.names]; exact (nm_slot hsl).1
        have hkd : X.env.kindOf nm = some .local := by
          show X.env.scope.names.lookup nm = _
          rw [xst.scope]; exact hl.1
        refine PS.weak (ps_try_as xst.stk xst.frm (by rw [x.names]; exact x.nd) hni hkd hN tk (tb := fun W => tSt X.K cA W (exs c N sc n body)) body_ok (suite_ok (fun a => some (i, a)) fun _ => .inr rfl)) ?_
        rintro D σ H ⟨ρ, σd, S, env, st, q⟩
        rw [e0, if_pos hc] at q
        simp only [hi] at q
        refine ⟨ρ, σd, S, env, st, ?_⟩
        cases hx : exs c N sc n body σd S with
        | nx σ1 S1 => rw [hx] at q; exact q
        | bk σ1 S1 => rw [hx] at q; exact q
        | ct σ1 S1 => rw [hx] at q; exact q
        | rt d S1 => rw [hx] at q; exact q
        | bad => rw [hx] at q; exact q
        | exc z σ1 S1 =>
          rw [hx] at q
          intro ρ1 H1 σv e1 st1 env1
          cases hk : c.kits z y with
          | none => simp only [hk] at q; exact q.elim
          | some b =>
            obtain ⟨em, _⟩ := same hk
            refine ⟨b, em, fun hb a ha => ?_, fun hb => ?_⟩
            · subst hb
              simp only [hk, Option.isSome_some, Bool.true_and] at q
              by_cases lt : σ1.length ≤ i
              · rw [if_pos (decide_eq_true lt)] at q; exact q.elim
              rw [if_neg (by rw [decide_eq_false lt]; exact Bool.false_ne_true)] at q
              refine ⟨z, rfl, rfl, hk, ρ1.pinned (some (i, a)), σ1.set i none, S1, env1.pinAt (by rw [← env1.len]; omega) a, st1.pinned, ?_⟩
              have hp1 : ρ1.pin = none := st1.pin.trans hpin
              have np : ∀ {ρ3 : Pl} (b : Addr), (ρ3.pinned none).pin ≠ some (i, b) := fun b h => by cases h
              have s3 : ∀ {ρ3 : Pl} {H3 : Hp} {S3 : Store}, StR X.K ⟨cA.ad, some (i, a)⟩ ρ3 H3 S3 → StR X.K cA (ρ3.pinned none) H3 S3 := fun h => by
                have h := h.pinned (p := none)
                have e : (⟨(⟨cA.ad, some (i, a)⟩ : CA).ad, none⟩ : CA) = cA := eA
                rw [e] at h; exact h
              have x3 : ∀ {ρ3 : Pl} {H3 : Hp}, Ext (ρ1.pinned (some (i, a))) H1 ρ3 H3 → Ext ρ H (ρ3.pinned none) H3 := fun h => e1.trans (h.pinned hp1)
              cases hs : exs (c.hotC i z) N sc n (b0 :: suite) (σ1.set i none) S1 with
              | nx σ2 S2 => rw [hs] at q; exact fun ρ3 H3 σw e3 st3 env3 => q (ρ3.pinned none) H3 (σw.set i none) (x3 e3) (s3 st3) (env3.pinNone.setN np)
              | bk σ2 S2 => rw [hs] at q; exact fun ρ3 H3 σw e3 st3 env3 => q (ρ3.pinned none) H3 (σw.set i none) (x3 e3) (s3 st3) (env3.pinNone.setN np)
              | ct σ2 S2 => rw [hs] at q; exact fun ρ3 H3 σw e3 st3 env3 => q (ρ3.pinned none) H3 (σw.set i none) (x3 e3) (s3 st3) (env3.pinNone.setN np)
              | rt d S2 => rw [hs] at q; exact fun ρ3 H3 v e3 st3 r3 => q (ρ3.pinned none) H3 v (x3 e3) (s3 st3) r3.pinned
              | exc w σ2 S2 => rw [hs] at q; exact q.elim
              | bad => rw [hs] at q; exact q
            · subst hb
              simp only [hk] at q
              exact q ρ1 H1 σv e1 st1 env1
end
/-- EVERY STATEMENT IS READ -/
theorem all_s {k : Nat} {N : List Str} : ∀ n, ∀ cA c X sc W, XOk cA k c N X sc → XSt X sc → Takes X W → SS cA c N n X sc W ∧ SSs cA c N n X sc W
  | 0, cA, c, X, sc, W, x, xs, tk => ⟨fun st => PS.none (tSt_bad fun _ _ => rfl), fun st => PSs.none (tSt_bad fun _ _ => rfl)⟩
  | n + 1, cA, c, X, sc, W, x, xs, tk => by
    obtain ⟨I1, I2⟩ := all_s n cA c X sc W x xs tk
    have IE := all_e (cA := cA) (k := k) (c := c) (N := N) n
    have I := IE n (Nat.le_refl n) X sc W x tk
    refine ⟨fun st => ?_, fun sts => ?_⟩
    · have none_ : (∀ σ S, ex c N sc (n + 1) st σ S = .bad) → PS X st (tSt X.K cA W (ex c N sc (n + 1) st)) := fun h => PS.none (tSt_bad h)
      cases st with
      | Pass pos => exact PS.weak ps_pass fun D σ H ⟨ρ, σd, S, env, st, q⟩ => q ρ H σ Ext.refl st env
      | Break pos => exact PS.weak ps_break fun D σ H ⟨ρ, σd, S, env, st, q⟩ => q ρ H σ Ext.refl st env
      | Continue pos => exact PS.weak ps_continue fun D σ H ⟨ρ, σd, S, env, st, q⟩ => q ρ H σ Ext.refl st env
      | Return e pos => exact s_ret I
      | Expr e pos => exact s_expr I
      | If t a b pos => exact s_if I I2
      | While t b o pos =>
        cases o with
        | nil => exact s_while xs I I2
        | cons _ _ => exact none_ fun _ _ => rfl
      | For tg it b o pos =>
        cases o with
        | nil => exact s_for x xs I I2
        | cons _ _ => exact none_ fun _ _ => rfl
      | Assign ts e pos =>
        rcases ts with _ | ⟨t, _ | ⟨t2, ts⟩⟩
        · exact none_ fun _ _ => rfl
        · cases t with
          | Name y p => exact s_set x xs tk IE
          | Subscript o i p => exact s_sub x I
          | Tuple es j p => exact s_tup x I
          | _ => exact none_ fun _ _ => rfl
        · cases t <;> exact none_ fun _ _ => rfl
      | Raise e ca pos =>
        cases ca with
        | some _ => 
          cases e with
          | none => exact none_ fun _ _ => rfl
          | some e =>
            refine none_ fun _ _ => ?_
            cases e <;> try rfl
            rename_i f as ks p
            cases f <;> try rfl
            rcases as with _ | ⟨a, _ | ⟨b, as⟩⟩ <;> try rfl
            · cases a <;> try rfl
              rename_i kk j p2
              cases kk <;> try rfl
              cases ks <;> rfl
            · cases a <;> try rfl
              rename_i kk j p2
              cases kk <;> rfl
        | none =>
          cases e with
          | none => exact none_ fun _ _ => rfl
          | some e =>
            cases e <;> try exact none_ fun _ _ => rfl
            rename_i f as ks p
            cases f <;> try exact none_ fun _ _ => rfl
            rcases as with _ | ⟨a, _ | ⟨b, as⟩⟩ <;> try exact none_ fun _ _ => rfl
            · cases a <;> try exact none_ fun _ _ => rfl
              rename_i kk j p2
              cases kk <;> try exact none_ fun _ _ => rfl
              cases ks <;> try exact none_ fun _ _ => rfl
              exact s_raise x tk
            · cases a <;> try exact none_ fun _ _ => rfl
              rename_i kk j p2
              cases kk <;> exact none_ fun _ _ => rfl
      | Try body hs orelse fin pos =>
        cases orelse with
        | cons _ _ =>
          refine none_ fun _ _ => ?_
          rcases hs with _ | ⟨⟨t, nm, su, hp⟩, _ | ⟨h2, hs⟩⟩
          · rfl
          · cases t <;> try rfl
            rename_i t
            cases t <;> try rfl
            cases su <;> rfl
          · cases t <;> try rfl
            rename_i t
            cases t <;> try rfl
            cases su <;> rfl
        | nil =>
          cases fin with
          | cons _ _ =>
            refine none_ fun _ _ => ?_
            rcases hs with _ | ⟨⟨t, nm, su, hp⟩, _ | ⟨h2, hs⟩⟩
            · rfl
            · cases t <;> try rfl
              rename_i t
              cases t <;> try rfl
              cases su <;> rfl
            · cases t <;> try rfl
              rename_i t
              cases t <;> try rfl
              cases su <;> rfl
          | nil =>
            rcases hs with _ | ⟨⟨t, nm, su, hp⟩, _ | ⟨h2, hs⟩⟩
            · exact none_ fun _ _ => rfl
            · cases t with
              | none => exact none_ fun _ _ => rfl
              | some t =>
                cases t <;> try exact none_ fun _ _ => rfl
                cases su with
                | nil => exact none_ fun _ _ => rfl
                | cons b0 su => exact s_try x xs tk (fun cA c X sc W x xs tk => (all_s n cA c X sc W x xs tk).2)
            · refine none_ fun _ _ => ?_
              cases t <;> try rfl
              rename_i t
              cases t <;> try rfl
              cases su <;> rfl
      | _ => exact none_ fun _ _ => rfl
    · rcases sts with _ | ⟨s1, _ | ⟨s2, rest⟩⟩
      · exact PSs.weak pss_nil fun D σ H ⟨ρ, σd, S, env, st, q⟩ => q ρ H σ Ext.refl st env
      · exact PSs.weak (pss_one (I1 s1)) fun D σ H ⟨ρ, σd, S, env, st, q⟩ => ⟨ρ, σd, S, env, st, q⟩
      · refine PSs.weak (pss_cons (I1 s1) (I2 (s2 :: rest))) ?_
        rintro D σ H ⟨ρ, σd, S, env, st, q⟩
        refine ⟨ρ, σd, S, env, st, ?_⟩
        have q : tFl X.K cA W ρ H ((ex c N sc n s1 σd S).seq (exs c N sc n (s2 :: rest))) D := q
        cases h : ex c N sc n s1 σd S with
        | nx σ1 S1 =>
          rw [h] at q
          exact fun ρ1 H1 σv e1 st1 env1 => ⟨ρ1, σ1, S1, env1, st1, tFl.ext e1 q⟩
        | rt => rw [h] at q; exact q
        | bk => rw [h] at q; exact q
        | ct => rw [h] at q; exact q
        | exc => rw [h] at q; exact q
        | bad => rw [h] at q; exact q
end Q
/-! Q11: a def keeps its promise. -/
namespace Q
open PySem PySem.Spec PyProof.Rows L2
section
variable {K : PySem.W.Frag} {cA : CA} {ρ ρ' : Pl} {H H' : Hp}
/-- fewer places, for what names none of the dropped ones -/
theorem Rep.cutl {σ : Pl} {n : Nat} (hl : ∀ (i : Nat), i < n → σ.l[i]? = ρ.l[i]?) (hs : ∀ a, σ.has a → ρ.has a) : ∀ {d : D} {v : V}, Rep K ρ H d v → _root_.Q.below n d = true → Rep K σ H d v := by
  intro d v r
  refine Rep.rec (motive_1 := fun d v _ => _root_.Q.below n d = true → Rep K σ H d v) (motive_2 := fun ds vs _ => _root_.Q.belows n ds = true → Reps K σ H ds vs) ?_ ?_ ?_ ?_ ?_ ?_ ?_ ?_ ?_ r
  · exact fun _ => .non
  · exact fun b _ => .bl b
  · exact fun i _ => .int i
  · exact fun x _ => .str x
  · exact fun {ds a vs} ha _ ih hb => .tup (ha.imp (fun h => ⟨h.1, fun z => h.2 (hs _ z)⟩) id) (ih hb)
  · exact fun {ds a vs} ha _ ih hb => .lst (ha.imp (fun h => ⟨h.1, fun z => h.2 (hs _ z)⟩) id) (ih hb)
  · exact fun {l a} ha hb => .ref ((hl l (of_decide_eq_true hb)).trans ha)
  · exact fun _ => .nil
  · intro d v ds vs _ _ ih ihs hb
    have hb : (_root_.Q.below n d && _root_.Q.belows n ds) = true := hb
    rw [Bool.and_eq_true] at hb
    exact .cons (ih hb.1) (ihs hb.2)
theorem Reps.cutl {σ : Pl} {n : Nat} (hl : ∀ (i : Nat), i < n → σ.l[i]? = ρ.l[i]?) (hs : ∀ a, σ.has a → ρ.has a) : ∀ {ds : List D} {vs : List V}, Reps K ρ H ds vs → _root_.Q.belows n ds = true → Reps K σ H ds vs
  | _, _, .nil, _ => .nil
  | d :: ds, _, .cons r t, hb => by
    have hb : (_root_.Q.below n d && _root_.Q.belows n ds) = true := hb
    rw [Bool.and_eq_true] at hb
    exact .cons (r.cutl hl hs hb.1) (t.cutl hl hs hb.2)
theorem FReps.cutl {κ : Type} {σ : Pl} {n : Nat} (hl : ∀ (i : Nat), i < n → σ.l[i]? = ρ.l[i]?) (hs : ∀ a, σ.has a → ρ.has a) : ∀ {ds : List (κ × D)} {vs : List (κ × V)}, FReps K ρ H ds vs → _root_.Q.belows n (ds.map (·.2)) = true → FReps K σ H ds vs
  | _, _, .nil, _ => .nil
  | (k, d) :: ds, _, .cons r t, hb => by
    have hb : (_root_.Q.below n d && _root_.Q.belows n (ds.map (·.2))) = true := hb
    rw [Bool.and_eq_true] at hb
    exact .cons (r.cutl hl hs hb.1) (t.cutl hl hs hb.2)
theorem ObR.cutl {σ : Pl} {n : Nat} (hl : ∀ (i : Nat), i < n → σ.l[i]? = ρ.l[i]?) (hs : ∀ a, σ.has a → ρ.has a) {a : Addr} {o : Ob} (h : ObR K cA ρ H a o) (hb : _root_.Q.obBelow n o = true) : ObR K cA σ H a o := by
  cases o with
  | lst ds => obtain ⟨vs, h1, h2⟩ := h; exact ⟨vs, h1, h2.cutl hl hs hb⟩
  | ins C fs => obtain ⟨dx, vs, h1, h2⟩ := h; exact ⟨dx, vs, h1, h2.cutl hl hs hb⟩
  | dic kvs => obtain ⟨vs, h1, h2⟩ := h; exact ⟨vs, h1, h2.cutl hl hs hb⟩
  | dead => exact h
theorem StR.cutl {S S' : Store} (s : StR K cA ρ H S) (e : Ext ρ H ρ' H') (s' : StR K cA ρ' H' S') (hb : (S'.take S.length).all (obBelow S.length) = true) :
    ∃ σ : Pl, Ext ρ H σ H' ∧ StR K cA σ H' (S'.take S.length) ∧ (∀ (i : Nat), i < S.length → σ.l[i]? = ρ'.l[i]?) ∧ (∀ a, σ.has a → ρ'.has a) ∧ σ.b = ρ'.b ∧ σ.l = ρ'.l.take S.length := by
  obtain ⟨τ, hτ, hn⟩ := e.pre
  have hl : ∀ (i : Nat), i < S.length → ρ.l[i]? = ρ'.l[i]? := fun i hi => by
    rw [hτ, List.getElem?_append_left (by rw [s.len]; exact hi)]
  have hh : ∀ a, (Pl.mk ρ.l ρ'.b ρ.pin).has a → ρ'.has a := fun a z => z.imp (fun z => by rw [hτ]; exact List.mem_append_left _ z) id
  have le : S.length ≤ S'.length := by
    rw [← s.len, ← s'.len, hτ]; simp
  refine ⟨⟨ρ.l, ρ'.b, ρ.pin⟩, ⟨⟨[], by simp, by simp⟩, e.lo, e.hi, e.keep, e.tr, rfl⟩, ⟨?_, s.nd, ?_, ?_, s.pin⟩, hl, hh, rfl, ?_⟩
  · show ρ.l.length = _
    rw [List.length_take, s.len, Nat.min_eq_left le]
  · intro l o ho
    have lt : l < S.length := by
      rcases Nat.lt_or_ge l S.length with h | h
      · exact h
      · rw [List.getElem?_eq_none (by rw [List.length_take]; omega)] at ho; cases ho
    have ho' : S'[l]? = some o := by rw [← ho, List.getElem?_take, if_pos lt]
    obtain ⟨a, h1, h2⟩ := s'.ob l o ho'
    refine ⟨a, (hl l lt).trans h1, ObR.cutl (σ := ⟨ρ.l, ρ'.b, ρ.pin⟩) hl hh h2 ?_⟩
    exact List.all_eq_true.mp hb o (List.mem_of_getElem? ho)
  · exact fun a ha => ⟨(s'.bl a ha).1, fun z => (s'.bl a ha).2 (by rw [hτ]; exact List.mem_append_left _ z)⟩
  · show ρ.l = _
    rw [hτ, ← s.len]; simp
def fz (frz : Bool) (n : Nat) (d : D) (S : Store) : D := if frz then (match d with
  | .ref l => if l < n then d else (match S[l]? with
    | some (.lst xs) => .lst xs
    | _ => d)
  | d => d) else d
theorem fin_eq {frz : Bool} {n : Nat} {d : D} {S : Store} : fin frz n d S = if S.length = n ∧ frz = false then .ok (fz frz n d S) S else if below n (fz frz n d S) && (S.take n).all (obBelow n) then .ok (fz frz n d S) (S.take n) else .ok d S := rfl
theorem fin_ok {W : WX} {τ : L2.St} {S S' : Store} {frz : Bool} {d : D} {v : V} {Q : V → Hp → Prop} (s : StR K cA ρ H S) (e : Ext ρ H ρ' H') (s' : StR K cA ρ' H' S') (r : Rep K ρ' H' d v)
    (h : tO K cA W τ ρ H (Rep K) (fin frz S.length d S') Q) : Q v H' := by
  rw [fin_eq] at h
  split at h
  · next c =>
    rw [c.2] at h
    exact h ρ' H' v e s' r
  · split at h
    · next _ c =>
      rw [Bool.and_eq_true] at c
      obtain ⟨σ, e2, s2, hl, hs, hb, hτ⟩ := s.cutl e s' c.2
      refine h σ H' v e2 s2 ?_
      have c1 := c.1
      clear h
      revert c1
      unfold fz
      cases frz with
      | false => exact fun c1 => r.cutl hl hs c1
      | true =>
        rw [if_pos rfl]
        cases r with
        | ref ra =>
          rename_i l a
          simp only
          split
          · exact fun c1 => (Rep.ref ra).cutl hl hs c1
          · next lt =>
            split
            · next _ xs hx =>
              intro c1
              obtain ⟨vs, h1, h2⟩ := s'.at hx ra
              have na : ¬ σ.has a := by
                rintro (z | z)
                · rw [hτ] at z
                  obtain ⟨i, hi⟩ := List.mem_iff_getElem?.mp z
                  have hi2 : i < S.length := by
                    rcases Nat.lt_or_ge i S.length with h | h
                    · exact h
                    · rw [List.getElem?_eq_none (by rw [List.length_take]; omega)] at hi; cases hi
                  rw [List.getElem?_take, if_pos hi2] at hi
                  obtain ⟨p1, p2⟩ := List.getElem?_eq_some_iff.mp hi
                  obtain ⟨q1, q2⟩ := List.getElem?_eq_some_iff.mp ra
                  exact List.pairwise_iff_getElem.mp s'.nd i l p1 q1 (by omega) (p2.trans q2.symm)
                · rw [hb] at z
                  exact (s'.bl a z).2 (List.mem_of_getElem? ra)
              exact .lst (.inl ⟨.inl h1, na⟩) (h2.cutl hl hs c1)
            · exact fun c1 => (Rep.ref ra).cutl hl hs c1
        | non => exact fun c1 => Rep.cutl hl hs .non c1
        | bl b => exact fun c1 => Rep.cutl hl hs (.bl b) c1
        | int b => exact fun c1 => Rep.cutl hl hs (.int b) c1
        | str b => exact fun c1 => Rep.cutl hl hs (.str b) c1
        | tup h1 h2 => exact fun c1 => Rep.cutl hl hs (.tup h1 h2) c1
        | lst h1 h2 => exact fun c1 => Rep.cutl hl hs (.lst h1 h2) c1
    · exact h ρ' H' v e s' r
theorem finX_ok {W : WX} {τ : L2.St} {S S' : Store} {x : Str} {Q : V → Hp → Prop} (s : StR K cA ρ H S) (e : Ext ρ H ρ' H') (s' : StR K cA ρ' H' S') 
    (h : tO K cA W τ ρ H (Rep K) (finX S.length x S') Q) : W (.ref (cA x)) none τ H' := by
  unfold finX at h
  split at h
  · exact h ρ' H' e s'
  · split at h
    · next _ c =>
      obtain ⟨σ, e2, s2, _⟩ := s.cutl e s' c
      exact h σ H' e2 s2
    · exact h ρ' H' e s'
theorem env_start {N : List Str} {ds : List D} {vs : List V} (hp : ρ.pin = none) (r : Reps K ρ H ds vs) : EnvR K ρ H (ds.map some ++ List.replicate (N.length - ds.length) none) (L2.start N vs) := by
  refine ⟨by simp [L2.start, r.length], fun i d h => ?_, fun i a h => by rw [hp] at h; cases h⟩
  rcases Nat.lt_or_ge i ds.length with lt | ge
  · rw [List.getElem?_append_left (by simpa using lt), List.getElem?_map] at h
    cases e : ds[i]? with
    | none => rw [e] at h; cases h
    | some d' =>
      rw [e] at h
      cases h
      obtain ⟨v, h1, h2⟩ := r.get e
      refine ⟨v, ?_, h2⟩
      unfold L2.start
      rw [List.getElem?_append_left (by rw [List.length_map, ← r.length]; exact lt), List.getElem?_map, h1]
      rfl
  · rw [List.getElem?_append_right (by simpa using ge), List.getElem?_replicate] at h
    split at h <;> cases h
end
section
variable {P : Program} {w : World} {K : PySem.W.Frag} {mg : Str → Option Value} {base : Heap} {cA : CA}
theorem fn_ok {x qual : Str} {params : Arguments} {body : List Stmt} {scope : Scope} {dvs : List V} {f : Addr} {fd : FuncData} {N ps : List Str} {k fuel : Nat} {c : Cfg} {frz : Bool}
    (F : FunD K x qual params body scope dvs [] f fd) (sc : FnScope N ps scope) (C : CfgOk P w K mg base cA k c) (hot : c.hot = none) (hp : cA.pin = none) :
    FnOk P w K mg base (L2.CX P w) (k + 1) f fd ps (spOf K cA (runF c frz ps N scope fuel body)) := by
  have key : ∀ {vs : List V} {H : Hp} {Qv : VK} {E : XK}, spOf K cA (runF c frz ps N scope fuel body) vs H Qv E → ∃ ρ ds S, Reps K ρ H ds vs ∧ StR K cA ρ H S ∧ ds.length = ps.length ∧
      tO K cA (fun cls d _ H' => E cls d H') [] ρ H (Rep K) (match exs c N scope fuel body (ds.map some ++ List.replicate (N.length - ds.length) none) S with
        | .nx _ S' => fin frz S.length .non S'
        | .rt d S' => fin frz S.length d S'
        | .exc x _ S' => finX S.length x S'
        | _ => .bad) Qv := by
    rintro vs H Qv E ⟨ρ, ds, S, r, s, h⟩
    unfold runF at h
    split at h
    · next hl => exact ⟨ρ, ds, S, r, s, hl, h⟩
    · exact h.elim
  refine F.ok sc (fun vs H Qv E h => ?_) fun cdv A outer s H vs Qv E hr h => ?_
  · obtain ⟨ρ, ds, S, r, _, hl, _⟩ := key h
    rw [← r.length, hl]
  · obtain ⟨ρ, ds, S, r, st, hl, h⟩ := key h
    have xo : XOk cA k c N (cxOf (L2.CX P w) P w K mg base N qual scope f cdv A outer s H E) scope := ⟨C, (fun _ => rfl), (fun _ => hr), Nat.lt_of_le_of_lt (Nat.add_le_add_right (Nat.le_add_right _ _) _) hr.un, (fun i a h => by rw [hp] at h; cases h), .inl hot, (fun i z h => by rw [hot] at h; cases h), rfl, sc.nd, fun x kd hx => ⟨fun hk => by
        rcases hk with rfl | rfl | rfl
        · exact .inl hx
        · exact .inr (.inl hx)
        · exact .inr (.inr hx), fun hk => by subst hk; exact hx⟩,
      fun x kd hx hk => ⟨by
        rcases hk with rfl | rfl
        · exact .inl hx
        · exact .inr hx, .inl rfl⟩, fun x hx => hx⟩
    have xs : XSt (cxOf (L2.CX P w) P w K mg base N qual scope f cdv A outer s H E) scope := ⟨rfl, sc.kind, passes_of rfl, rfl, rfl⟩
    have tk : Takes (cxOf (L2.CX P w) P w K mg base N qual scope f cdv A outer s H E) (fun cls d _ H' => E cls d H') := takes_of rfl rfl rfl rfl
    refine ⟨_, (all_s fuel _ _ _ scope _ xo xs tk).2 body, ρ, _, S, env_start (st.pin.trans hp) r, st, ?_⟩
    show tFl K cA _ ρ H (exs c N scope fuel body _ S) _
    revert h
    cases exs c N scope fuel body (ds.map some ++ List.replicate (N.length - ds.length) none) S with
    | nx σ' S' => exact fun h ρ' H' σv e s' env => fin_ok st e s' .non h
    | rt d S' => exact fun h ρ' H' v e s' r' => fin_ok st e s' r' h
    | exc x σ' S' => exact fun h ρ' H' σv e s' env => finX_ok st e s' h
    | bad => exact fun h => h.elim
    | bk _ _ => exact fun h => h.elim
    | ct _ _ => exact fun h => h.elim
end
end Q
/-! Q12: the interpreter's steps as combinators (what a def comes to once its text is read), and the chain of a program's defs. -/
namespace Q
open PySem PySem.Spec PyProof.Rows L2
/-! ### expressions -/
abbrev XE := Env → Store → Out D
abbrev XT := Env → Store → Out Bool
abbrev XA := Env → Store → Out (List D)
abbrev XO := Env → Store → Out (Option Int)
abbrev XI := Env → Store → Out Items
def kk (d : D) : XE := fun _ S => .ok d S
def vv (i : Nat) : XE := fun σ S => match σ[i]? with
  | some (some d) => .ok d S
  | _ => .bad
def bi (op : Operator) (a b : XE) : XE := fun σ S => (a σ S).bind fun x S1 => (b σ S1).bind fun y S2 => ofO S2 (binD S2 op x y)
def nt (a : XE) : XE := fun σ S => (a σ S).bind fun x S1 => ofO S1 ((truth S1 x).map fun b => .bl (!b))
def ng (a : XE) : XE := fun σ S => (a σ S).bind fun x S1 => (match x with
  | .int i => .ok (.int (-i)) S1
  | _ => .bad)
def cm (op : CmpOp) (a b : XE) : XE := fun σ S => (a σ S).bind fun x S1 => (b σ S1).bind fun y S2 => ofO S2 ((cmpD S2 op x y).map D.bl)
def cm2 (op op' : CmpOp) (a b b' : XE) : XE := fun σ S => (a σ S).bind fun x S1 => (b σ S1).bind fun y S2 => (match cmpD S2 op x y with
  | some true => (b' σ S2).bind fun z S3 => ofO S3 ((cmpD S3 op' y z).map D.bl)
  | some false => .ok (.bl false) S2
  | none => .bad)
def ie (t : XT) (a b : XE) : XE := fun σ S => (t σ S).bind fun k S1 => if k = true then a σ S1 else b σ S1
def lsv (as : XA) : XE := fun σ S => (as σ S).bind fun xs S1 => if xs.length ≤ 16777216 then .ok (.lst xs) S1 else .bad
def lsm (as : XA) : XE := fun σ S => (as σ S).bind fun xs S1 => if xs.length ≤ 16777216 then .ok (.ref S1.length) (S1 ++ [.lst xs]) else .bad
def tu (as : XA) : XE := fun σ S => (as σ S).bind fun xs S1 => if xs.length ≤ 16777216 then .ok (.tup xs) S1 else .bad
def di0 : XE := fun _ S => .ok (.ref S.length) (S ++ [.dic []])
/-- {k: v, ..} -/
abbrev XK := Env → Store → Out (List (L2.Key × D))
def k0 : XK := fun _ S => .ok [] S
def k1 (k v : XE) (r : XK) : XK := fun σ S => (k σ S).bind fun x S1 => (v σ S1).bind fun y S2 => (r σ S2).bind fun r S3 => (match keyD x with
  | some k => .ok ((k, y) :: r) S3
  | none => .bad)
def dis (r : XK) : XE := fun σ S => (r σ S).bind fun kvs S1 => .ok (.ref S1.length) (S1 ++ [.dic (mergeG [] kvs)])
def rvs (a : XE) : XE := fun σ S => (a σ S).bind fun x S1 => ofO S1 (revD S1 x)
def dct (as : XA) : XE := fun σ S => (as σ S).bind fun xs S1 => (match xs with
  | [x] => ofP (dictD S1 x)
  | _ => .bad)
def lset (a : XE) : XE := fun σ S => (a σ S).bind fun x S1 => ofO S1 (lenSetD S1 x)
def sl (a : XE) (lo hi : XO) : XE := fun σ S => (a σ S).bind fun x S1 => (lo σ S1).bind fun l S2 => (hi σ S2).bind fun h S3 => ofO S3 (slD S3 x l h)
def ix (a i : XE) : XE := fun σ S => (a σ S).bind fun x S1 => (i σ S1).bind fun y S2 => ofO S2 (ixD S2 x y)
def ca (φ : Fn) (as : XA) : XE := fun σ S => (as σ S).bind fun xs S1 => φ xs S1
def bl (b : Blt) (as : XA) : XE := fun σ S => (as σ S).bind fun xs S1 => ofO S1 (b.sem S1 xs)
def isn (a : XE) (t : Str) : XE := fun σ S => (a σ S).bind fun x S1 => ofO S1 ((isTy S1 x t).map D.bl)
def me (m : Str) (o : XE) (as : XA) : XE := fun σ S => (o σ S).bind fun x S1 => (match mIdD S1 x m with
  | some i => (as σ S1).bind fun xs S2 => ofP (mthD S2 i x xs)
  | none => .bad)
def lcv (is : List Nat) (it : XI) (bd : Env → D → Option Env) (elt : XE) : XE := fun σ S => (it σ S).bind fun it S1 => (compF it (fun d S2 => match bd (wipeE σ is) d with
  | some σ2 => (elt σ2 S2).bind fun y S3 => .ok (some y) S3
  | none => .bad) loopMost 0 [] S1).bind fun ys S2 => .ok (.lst ys) S2
def lcv1 (is : List Nat) (it : XI) (bd : Env → D → Option Env) (t : XT) (elt : XE) : XE := fun σ S => (it σ S).bind fun it S1 => (compF it (fun d S2 => match bd (wipeE σ is) d with
  | some σ2 => (t σ2 S2).bind fun k S3 => if k = true then (elt σ2 S3).bind fun y S4 => .ok (some y) S4 else .ok none S3
  | none => .bad) loopMost 0 [] S1).bind fun ys S2 => .ok (.lst ys) S2
def lcm (is : List Nat) (it : XI) (bd : Env → D → Option Env) (elt : XE) : XE := fun σ S => (it σ S).bind fun it S1 => (compF it (fun d S2 => match bd (wipeE σ is) d with
  | some σ2 => (elt σ2 S2).bind fun y S3 => .ok (some y) S3
  | none => .bad) loopMost 0 [] S1).bind fun ys S2 => .ok (.ref S2.length) (S2 ++ [.lst ys])
def lcm1 (is : List Nat) (it : XI) (bd : Env → D → Option Env) (t : XT) (elt : XE) : XE := fun σ S => (it σ S).bind fun it S1 => (compF it (fun d S2 => match bd (wipeE σ is) d with
  | some σ2 => (t σ2 S2).bind fun k S3 => if k = true then (elt σ2 S3).bind fun y S4 => .ok (some y) S4 else .ok none S3
  | none => .bad) loopMost 0 [] S1).bind fun ys S2 => .ok (.ref S2.length) (S2 ++ [.lst ys])
/-- binding one name, a tuple of names -/
def b1 (i : Nat) : Env → D → Option Env := fun σ d => some (σ.set i (some d))
/-! and, or: as values -/
def andE (a b : XE) : XE := fun σ S => (a σ S).bind fun x S1 => (match truth S1 x with
  | some k => if k = true then b σ S1 else .ok x S1
  | none => .bad)
def orE (a b : XE) : XE := fun σ S => (a σ S).bind fun x S1 => (match truth S1 x with
  | some k => if k = true then .ok x S1 else b σ S1
  | none => .bad)
/-! ### tests -/
def tNot (a : XT) : XT := fun σ S => (a σ S).bind fun k S1 => .ok (!k) S1
def tAnd (a b : XT) : XT := fun σ S => (a σ S).bind fun k S1 => if k = true then b σ S1 else .ok false S1
def tOr (a b : XT) : XT := fun σ S => (a σ S).bind fun k S1 => if k = true then .ok true S1 else b σ S1
def tCm (e : XE) : XT := fun σ S => (e σ S).bind fun x S1 => (match x with
  | .bl k => .ok k S1
  | _ => .bad)
def tTr (e : XE) : XT := fun σ S => (e σ S).bind fun x S1 => ofO S1 (truth S1 x)
/-! ### arguments, bounds, items -/
def a0 : XA := fun _ S => .ok [] S
def a1 (a : XE) (as : XA) : XA := fun σ S => (a σ S).bind fun x S1 => (as σ S1).bind fun xs S2 => .ok (x :: xs) S2
def p0 : XO := fun _ S => .ok none S
def p1 (a : XE) : XO := fun σ S => (a σ S).bind fun x S1 => (match x with
  | .int i => .ok (some i) S1
  | _ => .bad)
def iv (e : XE) : XI := fun σ S => (e σ S).bind fun x S1 => ofO S1 (itersD S1 x)
def r1 (a : XE) : XI := fun σ S => (a σ S).bind fun x S1 => (match x with
  | .int j => if small62 j then .ok (rangeD 0 j) S1 else .bad
  | _ => .bad)
def r2 (a b : XE) : XI := fun σ S => (a σ S).bind fun x S1 => (b σ S1).bind fun y S2 => (match x, y with
  | .int i, .int j => if small62 i && small62 j then .ok (rangeD i j) S2 else .bad
  | _, _ => .bad)
def zen (a : XE) : XI := fun σ S => (a σ S).bind fun x S1 => ofO S1 (enumD S1 x)
def zzp (a b : XE) : XI := fun σ S => (a σ S).bind fun x S1 => (b σ S1).bind fun y S2 => ofO S2 (zipD x y)
/-! ### statements -/
abbrev XS := Env → Store → Fl
def zPass : XS := fun σ S => .nx σ S
def zBrk : XS := fun σ S => .bk σ S
def zCnt : XS := fun σ S => .ct σ S
def zRet0 : XS := fun σ S => .rt .non S
def zRet (e : XE) : XS := fun σ S => (e σ S).use σ fun x S1 => .rt x S1
def zExp (e : XE) : XS := fun σ S => (e σ S).use σ fun _ S1 => .nx σ S1
def zIf (t : XT) (a b : XS) : XS := fun σ S => (t σ S).use σ fun k S1 => if k = true then a σ S1 else b σ S1
def zSet (i : Nat) (e : XE) : XS := fun σ S => (e σ S).use σ fun d S1 => .nx (σ.set i (some d)) S1
def zTup (is : List Nat) (e : XE) : XS := fun σ S => (e σ S).use σ fun d S1 => (match bT is σ d with
  | some σ1 => .nx σ1 S1
  | none => .bad)
def zSub (o i e : XE) : XS := fun σ S => (e σ S).use σ fun d S1 => (o σ S1).use σ fun x S2 => (i σ S2).use σ fun y S3 => (match setD S3 x y d with
  | some S4 => .nx σ S4
  | none => .bad)
def zWhile (t : XT) (b : XS) : XS := fun σ S => whileF t b loopMost σ S
def zFor (bd : Env → D → Option Env) (it : XI) (b : XS) : XS := fun σ S => (it σ S).use σ fun it S1 => forF it (fun d σ1 S2 => match bd σ1 d with
  | some σ2 => b σ2 S2
  | none => .bad) loopMost 0 σ S1
def zRaise (x : Str) : XS := fun σ S => .exc x σ S
/-- isinstance of the error that is held -/
def kitS (kt : Str → Str → Option Bool) (x : Str) : List Str → Option Bool
  | [] => some false
  | t :: ts => (match kt x t, kitS kt x ts with
    | some b, some r => some (b || r)
    | _, _ => none)
def isE (kt : Str → Str → Option Bool) (x : Str) (ts : List Str) : XE := fun _ S => match kitS kt x ts with
  | some b => .ok (.bl b) S
  | none => .bad
/-- try: b except y as the name of slot i: h -/
def zTry (i : Nat) (nd : Bool) (kt : Str → Str → Option Bool) (y : Str) (b : XS) (h : Str → XS) : XS := fun σ S => match b σ S with
  | .exc x σ1 S1 => (match kt x y with
    | some true => if nd && decide (σ1.length ≤ i) then .bad else hotEnd i (h x (σ1.set i none) S1)
    | some false => .exc x σ1 S1
    | none => .bad)
  | r => r
def zSeq (a b : XS) : XS := fun σ S => (a σ S).seq b
/-- a def -/
def dF (frz : Bool) (np nn : Nat) (b : XS) : Fn := fun args S =>
  if args.length = np then (match b (args.map some ++ List.replicate (nn - args.length) none) S with
    | .nx _ S' => fin frz S.length .non S'
    | .rt d S' => fin frz S.length d S'
    | .exc x _ S' => finX S.length x S'
    | _ => .bad) else .bad

/-! ### the chain -/
def Cfg.add (c : Cfg) (x : Str) (φ : Fn) : Cfg := { c with funs := fun y => if y == x then some φ else c.funs y }
structure DefR where
  nm : Str
  st : Stmt
  ps : List Str
  N : List Str
  frz : Bool
  φ : Fn
def argsOf : Stmt → Arguments
  | .FunctionDef _ a _ _ _ _ _ _ _ _ => a
  | _ => ⟨[], [], none, [], [], none, []⟩
def bodyOf : Stmt → List Stmt
  | .FunctionDef _ _ b _ _ _ _ _ _ _ => b
  | _ => []
def scopeOf : Stmt → Scope
  | .FunctionDef _ _ _ _ _ _ s _ _ _ => s
  | _ => ⟨.module, [], false, false, []⟩
def DefR.d (r : DefR) : He.DefD := ⟨(r.nm, none), r.nm, r.nm, argsOf r.st, bodyOf r.st, scopeOf r.st, [], []⟩
/-- what is looked at in the text of a def -/
structure DefR.Ok (r : DefR) : Prop where
  sc : C8.scC r.N r.ps (scopeOf r.st) = true
  bind : ∀ (kV doc pm : Value) (an : Option Addr) (cdv ct : Value) (us : List Value), us.length = r.ps.length → bindArgs (PySem.W.fnOf r.nm r.nm (argsOf r.st) (bodyOf r.st) (scopeOf r.st) .none kV doc pm an cdv ct) ⟨us, []⟩ = pure (r.ps.zip us)
/-- def behind def: each is what the interpreter makes of its text -/
def Steps (fuel : Nat) (c : Cfg) : List DefR → Prop
  | [] => True
  | r :: rs => (r.Ok ∧ runF c r.frz r.ps r.N (scopeOf r.st) fuel (bodyOf r.st) = r.φ) ∧ Steps fuel (c.add r.nm r.φ) rs
def allC (c : Cfg) : List DefR → Cfg
  | [] => c
  | r :: rs => allC (c.add r.nm r.φ) rs
section
variable {P : Program} {w : World} {K : PySem.W.Frag} {mg : Str → Option Value} {base : Heap} {cA : CA} {k : Nat} {c : Cfg}
theorem CfgOk.add {x : Str} {φ : Fn} {f : Addr} {fd : FuncData} {ps : List Str} (C : CfgOk P w K mg base cA k c) (F : FnOk P w K mg base (L2.CX P w) (k + 1) f fd ps (spOf K cA φ)) (hm : mg x = some (.ref f)) (hk : PySem.W.keepIn K (.ref f) = true) (hb : Binds K fd ps []) :
    CfgOk P w K mg base cA (k + 1) (c.add x φ) := by
  refine ⟨fun y ψ h => ?_, C.var, C.free, C.exc, C.kit⟩
  have h : (if (y == x) = true then some φ else c.funs y) = some ψ := h
  split at h
  · next e =>
    cases h
    have e : y = x := eq_of_beq e
    subst e
    exact ⟨f, fd, ps, [], [], [], φ, F, hm, hk, hb, .nil, fun _ _ => .nil, by simp⟩
  · obtain ⟨f, fd, ps, ds, dvs, dds, φ0, h1, h2⟩ := C.fn y ψ h
    exact ⟨f, fd, ps, ds, dvs, dds, φ0, h1.mono (Nat.le_succ k), h2⟩
theorem allC_hot : ∀ {rs : List DefR} {c : Cfg}, c.hot = none → (allC c rs).hot = none
  | [], _, h => h
  | r :: rs, c, h => allC_hot (rs := rs) (c := c.add r.nm r.φ) h
theorem chain {fuel : Nat} (hp : cA.pin = none) : ∀ {rs : List DefR} {k : Nat} {c : Cfg}, c.hot = none → Steps fuel c rs → CfgOk P w K mg base cA k c →
    (∀ r ∈ rs, mg r.nm = some (.ref (He.ga K r.nm)) ∧ ∃ fd, FunD K r.nm r.nm (argsOf r.st) (bodyOf r.st) (scopeOf r.st) [] [] (He.ga K r.nm) fd) →
    CfgOk P w K mg base cA (k + rs.length) (allC c rs)
  | [], k, c, _, _, C, _ => C
  | r :: rs, k, c, hot, st, C, h => by
    obtain ⟨⟨ok, e⟩, st⟩ := st
    obtain ⟨hm, fd, F⟩ := h r (List.mem_cons_self ..)
    have FO := fn_ok (cA := cA) (fuel := fuel) (frz := r.frz) F (C8.fnScope_by ok.sc) C hot hp
    rw [e] at FO
    have := chain hp (c := c.add r.nm r.φ) hot st (C.add FO hm F.kp (F.bindsN ok.bind)) fun r' hr => h r' (List.mem_cons_of_mem _ hr)
    have e2 : k + (r :: rs).length = k + 1 + rs.length := by rw [List.length_cons]; omega
    rw [e2]
    exact this
end
end Q
/-! Q13: the end: from the interpreter's answer to the row. -/
namespace Q
open PySem PySem.Spec PyProof.Rows L2
/-! ### what stands behind the top -/
abbrev KitT := List (Str × List (Str × Bool))
def kitOf (kt : KitT) (x y : Str) : Option Bool := match kt.lookup x with
  | some ys => ys.lookup y
  | none => none
def cfg0 (cs : List (Str × D)) (frees excs : List Str) (muts : List (Nat × Nat)) (kt : KitT) : Cfg where
  funs := fun _ => none
  vars := fun x => cs.lookup x
  free := fun x => frees.contains x
  mutl := fun p => muts.contains (p.line, p.col)
  excs := fun x => excs.contains x
  kits := kitOf kt
mutual
/-- a written value -/
def repB (K : PySem.W.Frag) : D → Value → Bool
  | .non, .none => true
  | .bl b, .bool c => b == c
  | .int i, .int j _ => decide (i = j)
  | .str x, .str y _ => decide (x = y)
  | .tup ds, .ref a => (match K.lookup a with
    | some ⟨.type c, _, .seq its _, _⟩ => decide (c = "tuple") && (decide (its.size ≤ sizeLine) && repsB K ds its.toList)
    | _ => false)
  | .lst ds, .ref a => (match K.lookup a with
    | some ⟨.type c, none, .seq its _, _⟩ => decide (c = "list") && (decide (its.size ≤ sizeLine) && repsB K ds its.toList)
    | _ => false)
  | _, _ => false
def repsB (K : PySem.W.Frag) : List D → List Value → Bool
  | [], [] => true
  | d :: ds, u :: us => repB K d u && repsB K ds us
  | _, _ => false
end
mutual
theorem repB_ok {K : PySem.W.Frag} : ∀ (d : D) (u : Value), repB K d u = true → ∃ v, RelV v u ∧ ∀ ρ H, Rep K ρ H d v
  | .non, .none, _ => ⟨.non, rfl, fun _ _ => .non⟩
  | .bl b, .bool c, h => by
    have e : b = c := eq_of_beq (by simpa [repB] using h)
    subst e
    exact ⟨.bl b, rfl, fun _ _ => .bl b⟩
  | .int i, .int j t, h => by
    have e : i = j := of_decide_eq_true (by simpa [repB] using h)
    subst e
    exact ⟨.int i, ⟨t, rfl⟩, fun _ _ => .int i⟩
  | .str i, .str j t, h => by
    have e : i = j := of_decide_eq_true (by simpa [repB] using h)
    subst e
    exact ⟨.str i, ⟨t, rfl⟩, fun _ _ => .str i⟩
  | .tup ds, .ref a, h => by
    unfold repB at h
    split at h
    · next c od its n sl q =>
      simp only [Bool.and_eq_true, decide_eq_true_eq] at h
      obtain ⟨hc, hz, hr⟩ := h
      obtain ⟨vs, h1, h2⟩ := repsB_ok ds its.toList hr
      exact ⟨.ref a, rfl, fun ρ H => .tup (.inr ⟨_, its, n, q, by rw [hc], rfl, hz, h1⟩) (h2 ρ H)⟩
    · cases h
  | .lst ds, .ref a, h => by
    unfold repB at h
    split at h
    · next c its n sl q =>
      simp only [Bool.and_eq_true, decide_eq_true_eq] at h
      obtain ⟨hc, hz, hr⟩ := h
      obtain ⟨vs, h1, h2⟩ := repsB_ok ds its.toList hr
      exact ⟨.ref a, rfl, fun ρ H => .lst (.inr ⟨_, its, n, q, by rw [hc], rfl, rfl, hz, h1⟩) (h2 ρ H)⟩
    · cases h
  | .ref _, _, h => by simp [repB] at h
  | .non, .ellipsis, h | .non, .notImplemented, h | .non, .bool _, h | .non, .int _ _, h | .non, .float _ _, h | .non, .str _ _, h | .non, .bytes _ _, h | .non, .type _, h | .non, .builtin _, h | .non, .ref _, h => by simp [repB] at h
  | .bl _, .none, h | .bl _, .ellipsis, h | .bl _, .notImplemented, h | .bl _, .int _ _, h | .bl _, .float _ _, h | .bl _, .str _ _, h | .bl _, .bytes _ _, h | .bl _, .type _, h | .bl _, .builtin _, h | .bl _, .ref _, h => by simp [repB] at h
  | .int _, .none, h | .int _, .ellipsis, h | .int _, .notImplemented, h | .int _, .bool _, h | .int _, .float _ _, h | .int _, .str _ _, h | .int _, .bytes _ _, h | .int _, .type _, h | .int _, .builtin _, h | .int _, .ref _, h => by simp [repB] at h
  | .str _, .none, h | .str _, .ellipsis, h | .str _, .notImplemented, h | .str _, .bool _, h | .str _, .int _ _, h | .str _, .float _ _, h | .str _, .bytes _ _, h | .str _, .type _, h | .str _, .builtin _, h | .str _, .ref _, h => by simp [repB] at h
  | .tup _, .none, h | .tup _, .ellipsis, h | .tup _, .notImplemented, h | .tup _, .bool _, h | .tup _, .int _ _, h | .tup _, .float _ _, h | .tup _, .str _ _, h | .tup _, .bytes _ _, h | .tup _, .type _, h | .tup _, .builtin _, h => by simp [repB] at h
  | .lst _, .none, h | .lst _, .ellipsis, h | .lst _, .notImplemented, h | .lst _, .bool _, h | .lst _, .int _ _, h | .lst _, .float _ _, h | .lst _, .str _ _, h | .lst _, .bytes _ _, h | .lst _, .type _, h | .lst _, .builtin _, h => by simp [repB] at h
theorem repsB_ok {K : PySem.W.Frag} : ∀ (ds : List D) (us : List Value), repsB K ds us = true → ∃ vs, Vals vs us ∧ ∀ ρ H, Reps K ρ H ds vs
  | [], [], _ => ⟨[], .nil, fun _ _ => .nil⟩
  | d :: ds, u :: us, h => by
    have h : (repB K d u && repsB K ds us) = true := by simpa [repsB] using h
    rw [Bool.and_eq_true] at h
    obtain ⟨v, h1, h2⟩ := repB_ok d u h.1
    obtain ⟨vs, h3, h4⟩ := repsB_ok ds us h.2
    exact ⟨v :: vs, .cons h1 h3, fun ρ H => .cons (h2 ρ H) (h4 ρ H)⟩
  | [], _ :: _, h => by simp [repsB] at h
  | _ :: _, [], h => by simp [repsB] at h
end
def conB (cs : List (Str × D)) (K : PySem.W.Frag) : Bool := cs.all fun q => match PySem.W.nsIn K mainGlobals q.1 with
  | some (some u) => repB K q.2 u
  | _ => false
/-- an exception class of the program that isinstance asks -/
def excCB (K : PySem.W.Frag) (D : Addr) : Bool :=
  (PySem.W.findIn K (.ref D) "__getattribute__" == some (some (.builtin "BaseException.__getattribute__"))) && ((PySem.W.findIn K (.ref D) "__getattr__" == some none) && ((PySem.W.subIn K (.ref D) (.type "BaseException") == some true) && (PySem.W.hasDictIn K D &&
  ((PySem.W.findIn K (.ref D) "__class__" == some (some (.builtin "object.__class__"))) && ((PySem.W.specialIn K (.builtin "object.__class__") "__get__" == some (some (.builtin "getset_descriptor.__get__"))) && ((PySem.W.takesIn K (.builtin "object.__class__") == some true) && (PySem.W.mroIn K D (.type "object") == some true)))))))
theorem excCB_ok {K : PySem.W.Frag} {D : Addr} (h : excCB K D = true) : ExcC K D := by
  unfold excCB at h
  simp only [Bool.and_eq_true, beq_iff_eq] at h
  obtain ⟨h1, h2, h3, h4, h5, h6, h7, h8⟩ := h
  exact ⟨h1, h2, h3, h4, h5, h6, h7, h8⟩
def kitB1 (frees : List Str) (K : PySem.W.Frag) (x y : Str) (b : Bool) : Bool := match PySem.W.nsIn K mainGlobals y with
  | some (some (.ref a)) => (PySem.W.kitOne K (.ref (He.ga K x)) (.ref a) == some b) && (PySem.W.exmOne K (.ref (He.ga K x)) (.ref a) == some b)
  | _ => frees.contains y && (match bootBuiltins y with
    | some (.type n) => (PySem.W.kitOne K (.ref (He.ga K x)) (.type n) == some b) && (PySem.W.exmOne K (.ref (He.ga K x)) (.type n) == some b)
    | _ => false)
def kitB (kt : KitT) (frees : List Str) (K : PySem.W.Frag) : Bool := kt.all fun q => excCB K (He.ga K q.1) && q.2.all fun r => kitB1 frees K q.1 r.1 r.2
/-! ### the Hook: the defs, the facts, the constants -/
def obsE (n : Nat) (fa : List He.Fa) (fn : List He.DefD) (cs : List (Str × D)) (kt : KitT) (frees : List Str) (g : Addr → Option Obj) : He.AlD × Bool := (He.obsDG n fa fn g, conB cs (He.frG g (He.asD g n)) && kitB kt frees (He.frG g (He.asD g n)))
def hookE (n : Nat) (fa : List He.Fa) (fn : List He.DefD) (cs : List (Str × D)) (kt : KitT) (frees : List Str) : PySem.W.Hook where
  α := He.AlD × Bool
  obs := fun s => obsE n fa fn cs kt frees s.heap.get?
  val := fun _ => (He.valD fn, true)
  says := fun _ h => ∃ K : PySem.W.Frag, K.In h ∧ He.SaysD fa fn K ∧ (conB cs K && kitB kt frees K) = true
  of := fun _ _ e => ⟨_, He.frG_in, congrArg Prod.fst e, congrArg Prod.snd e⟩
  keeps := fun _ _ _ ⟨K, hK, c⟩ k => ⟨K, PySem.W.Frag.In.keeps hK k, c⟩
theorem obsE_eq {n : Nat} {fa : List He.Fa} {fn : List He.DefD} {cs : List (Str × D)} {kt : KitT} {frees : List Str} {g : Addr → Option Obj} {s : Shared} (h : ∀ a, g a = s.heap.get? a) : obsE n fa fn cs kt frees g = (hookE n fa fn cs kt frees).obs s := by
  have e : g = s.heap.get? := funext h
  rw [e] <;> rfl
def facts (rs : List DefR) (frees excs : List Str) : List He.Fa := rs.map (fun r => .glo r.nm) ++ (frees.map .free ++ (excs.map .glo ++ excs.map .exc))
theorem lookup_mem' {β : Type} {x : Str} {d : β} : ∀ {l : List (Str × β)}, l.lookup x = some d → (x, d) ∈ l
  | [], h => by cases h
  | (b, u) :: r, h => by
    rw [List.lookup_cons] at h
    split at h
    · next q =>
      cases h
      rw [beq_iff_eq.mp q]
      exact List.mem_cons_self ..
    · exact List.mem_cons_of_mem _ (lookup_mem' h)
section
variable {P : Program} {w : World} {K : PySem.W.Frag} {mg : Str → Option Value} {base h : Heap}
theorem cfg_start {fa : List He.Fa} {fn : List He.DefD} {cs : List (Str × D)} {frees excs : List Str} {muts : List (Nat × Nat)} {kt : KitT} (X : K.In h) (G : h.Ns mainGlobals mg) (c : He.SaysD fa fn K) (cc : conB cs K = true) (ck : kitB kt frees K = true)
    (hf : ∀ x ∈ frees, He.Fa.free x ∈ fa) (he : ∀ x ∈ excs, He.Fa.glo x ∈ fa ∧ He.Fa.exc x ∈ fa) : CfgOk P w K mg base ⟨He.ga K, none⟩ 0 (cfg0 cs frees excs muts kt) where
  fn := fun x φ h => by cases h
  var := fun x d h => by
    have h : cs.lookup x = some d := h
    have hm : (x, d) ∈ cs := lookup_mem' h
    have := List.all_eq_true.mp cc _ hm
    split at this
    · next u q =>
      obtain ⟨v, h1, h2⟩ := repB_ok d u this
      exact ⟨u, v, PySem.W.mg_of X G q, h1, h2⟩
    · cases this
  free := fun x h => by
    have h : x ∈ frees := List.contains_iff_mem.mp h
    exact He.free_ok X G (c.facts (hf x h))
  exc := fun x h => by
    have h : x ∈ excs := List.contains_iff_mem.mp h
    obtain ⟨h1, h2⟩ := he x h
    obtain ⟨q1, q2, q3, q4⟩ := He.exc_ok (c.facts h2)
    exact ⟨He.glo_ok X G (c.facts h1), q1, q2, q3, q4⟩
  kit := fun x y b h => by
    have h : kitOf kt x y = some b := h
    unfold kitOf at h
    split at h
    · next ys q =>
      have h1 := List.all_eq_true.mp ck _ (lookup_mem' q)
      simp only [Bool.and_eq_true] at h1
      have h2 := List.all_eq_true.mp h1.2 _ (lookup_mem' h)
      unfold kitB1 at h2
      split at h2
      · next a z =>
        rw [Bool.and_eq_true, beq_iff_eq, beq_iff_eq] at h2
        exact ⟨.ref a, .ref a, .inl ⟨PySem.W.mg_of X G z, rfl⟩, .own a, h2.1, h2.2, excCB_ok h1.1⟩
      · rw [Bool.and_eq_true] at h2
        obtain ⟨h3, h4⟩ := h2
        split at h4
        · next n z =>
          rw [Bool.and_eq_true, beq_iff_eq, beq_iff_eq] at h4
          exact ⟨.ty n, .type n, .inr ⟨He.free_ok X G (c.facts (hf y (List.contains_iff_mem.mp h3))), z, rfl⟩, .ty n, h4.1, h4.2, excCB_ok h1.1⟩
        · cases h4
    · cases h
theorem all_ok {rs : List DefR} {r : DefR} {cs : List (Str × D)} {frees excs : List Str} {muts : List (Nat × Nat)} {kt : KitT} {fuel : Nat} (X : K.In h) (G : h.Ns mainGlobals mg) (c : He.SaysD (facts (rs ++ [r]) frees excs) ((rs ++ [r]).map DefR.d) K) (cc : conB cs K = true) (ck : kitB kt frees K = true)
    (st : Steps fuel (cfg0 cs frees excs muts kt) rs) (ok : r.Ok) (e : runF (allC (cfg0 cs frees excs muts kt) rs) r.frz r.ps r.N (scopeOf r.st) fuel (bodyOf r.st) = r.φ) :
    mg r.nm = some (.ref (He.ga K r.nm)) ∧ ∃ fd, (∀ (s : Shared) (us : List Value), us.length = r.ps.length → BindsTo s fd ⟨us, []⟩ (r.ps.zip us)) ∧
      ∀ base : Heap, FnOk P w K mg base (L2.CX P w) (rs.length + 1) (He.ga K r.nm) fd r.ps (spOf K ⟨He.ga K, none⟩ r.φ) := by
  have fa : ∀ q ∈ rs ++ [r], He.Fa.glo q.nm ∈ facts (rs ++ [r]) frees excs := fun q hq => List.mem_append_left _ (List.mem_map_of_mem hq)
  have df : ∀ q ∈ rs ++ [r], mg q.nm = some (.ref (He.ga K q.nm)) ∧ ∃ fd, FunD K q.nm q.nm (argsOf q.st) (bodyOf q.st) (scopeOf q.st) [] [] (He.ga K q.nm) fd := fun q hq => by
    obtain ⟨fd, F⟩ := c.defs (List.mem_map_of_mem (f := DefR.d) hq)
    exact ⟨He.glo_ok X G (c.facts (fa q hq)), fd, F⟩
  obtain ⟨hm, fd, F⟩ := df r (by simp)
  refine ⟨hm, fd, fun s us hl => F.bindsA ok.bind s us hl, fun base => ?_⟩
  have C0 : CfgOk P w K mg base ⟨He.ga K, none⟩ 0 (cfg0 cs frees excs muts kt) := cfg_start X G c cc ck
    (fun x hx => List.mem_append_right _ (List.mem_append_left _ (List.mem_map_of_mem hx)))
    (fun x hx => ⟨List.mem_append_right _ (List.mem_append_right _ (List.mem_append_left _ (List.mem_map_of_mem hx))), List.mem_append_right _ (List.mem_append_right _ (List.mem_append_right _ (List.mem_map_of_mem hx)))⟩)
  have C := chain rfl (c := cfg0 cs frees excs muts kt) rfl st C0 fun q hq => df q (List.mem_append_left _ hq)
  rw [Nat.zero_add] at C
  have FO := fn_ok (cA := ⟨He.ga K, none⟩) (fuel := fuel) (frz := r.frz) F (C8.fnScope_by ok.sc) C (allC_hot rfl) rfl
  rw [e] at FO
  exact FO
theorem reps_ints {ρ : Pl} {H : Hp} : ∀ ns : List Int, Reps K ρ H (ns.map D.int) (ns.map V.int)
  | [] => .nil
  | n :: ns => .cons (.int n) (reps_ints ns)
/-- the promise at the law's own list -/
theorem at_law {cA : CA} {φ : Fn} {H : Hp} {a : Addr} {ns : List Int} (hO : Only H) (hS : SqL K H a (ns.map V.int)) (hφ : ∃ S, φ [.lst (ns.map D.int)] [] = .ok (.bl true) S) :
    spOf K cA φ [.ref a] H (fun v _ => v = .bl true) fun _ _ _ => False := by
  obtain ⟨S, e⟩ := hφ
  refine ⟨⟨[], [], cA.pin⟩, [.lst (ns.map D.int)], [], .cons (.lst ?_ (reps_ints ns)) .nil, ⟨rfl, List.nodup_nil, by intro l o h; simp at h, by simp, rfl⟩, ?_⟩
  · rcases hS with h | ⟨o, its, n, h⟩
    · exact .inl ⟨h, by rintro (z | z) <;> simp at z⟩
    · exact .inr ⟨o, its, n, h⟩
  · rw [e]
    intro ρ' H' v _ _ r
    cases r
    rfl
end
def CXA (P : Program) : CXT := fun o H s E e s' => ∃ w, L2.CX P w o H s E e s'
theorem FnOk.wide {P : Program} {w : World} {K : PySem.W.Frag} {mg : Str → Option Value} {base : Heap} {k : Nat} {f : Addr} {fd : FuncData} {ps : List Str} {sp : Sp} (F : L2.FnOk P w K mg base (L2.CX P w) k f fd ps sp) : L2.FnOk P w K mg base (CXA P) k f fd ps sp :=
  ⟨F.len, fun A outer s H args us vs Q E hr he hb hv hs => codeAny_mono (F.run A outer s H args us vs Q E hr he hb hv hs) fun r s' h => by
    cases r with
    | error e => exact ⟨w, h⟩
    | ok fl => cases fl <;> exact h⟩
/-- THE END: a law whose text the interpreter answers with True -/
theorem law_walk {l : PySem.W.OpenLaw} {q : Program} {loose : List Str} {XP : (Str → Option Value) → Heap → Prop} {d : DefRec} {rs : List DefR} {r : DefR} {cs : List (Str × D)} {frees excs : List Str} {muts : List (Nat × Nat)} {kt : KitT} {fuel n k : Nat} {x : Str}
    (hn : l.most = some n) (hn2 : n ≤ sizeLine) (hdf : d.params.defaults = []) (hr : Room (rs.length + 1) callerA) (hnm : d.name = r.nm) (hp : r.ps = [x])
    (st : Steps fuel (cfg0 cs frees excs muts kt) rs) (ok : r.Ok) (e : runF (allC (cfg0 cs frees excs muts kt) rs) r.frz r.ps r.N (scopeOf r.st) fuel (bodyOf r.st) = r.φ)
    (hφ : ∀ ns : List Int, ns.length ≤ n → ∃ S, r.φ [.lst (ns.map D.int)] [] = .ok (.bl true) S) :
    PySem.W.WalkO q loose XP (hookE k (facts (rs ++ [r]) frees excs) ((rs ++ [r]).map DefR.d) cs kt frees).says l.row.toRowW d [] (fun f vs => PySem.call f vs) := by
  refine L2.walk_ofE (CX := CXA l.prog) (x := x) hn hn2 hdf hr ?_ ?_
  · intro w mg fa h Y G hmg
    obtain ⟨K, KX, c, cq⟩ := Y
    rw [Bool.and_eq_true] at cq
    obtain ⟨cc, ck⟩ := cq
    obtain ⟨hm, fd, hb, hF⟩ := all_ok (P := l.prog) (w := w) KX G c cc ck st ok e
    rw [hnm, hm] at hmg
    cases hmg
    refine ⟨K, fd, spOf K ⟨He.ga K, none⟩ r.φ, KX, fun s u => ?_, fun H a ns hl hO hS => at_law hO hS (hφ ns hl), fun base _ _ => ?_⟩
    · have := hb s [u] (by rw [hp]; rfl)
      rw [hp] at this
      exact this
    · have := FnOk.wide (hF base)
      rw [hp] at this
      exact this
  · rintro H s e s' ⟨w, a, B, H', cls, d, _, _, _, _, _, _, _, z⟩
    exact z
end Q
/-! Q14: how the combinators are walked: rules, each for one head. -/
namespace Q
open PySem L2
abbrev EX := Str → Store → Prop
abbrev noX : EX := fun _ _ => False
/-- what a piece of work gives -/
structure W {α : Type} (r : Out α) (Q : α → Store → Prop) (E : EX) : Prop where
  out : match r with
    | .ok a S => Q a S
    | .exc c S => E c S
    | .bad => False
structure G {α : Type} (f : Env → Store → Out α) (σ : Env) (S : Store) (Q : α → Store → Prop) (E : EX) : Prop where
  out : W (f σ S) Q E
structure Bn (S : Store) (op : Operator) (x y : D) (Q : D → Prop) : Prop where
  out : ∃ d, binD S op x y = some d ∧ Q d
structure Cp (S : Store) (op : CmpOp) (x y : D) (Q : Bool → Prop) : Prop where
  out : ∃ b, cmpD S op x y = some b ∧ Q b
structure Tr (S : Store) (x : D) (Q : Bool → Prop) : Prop where
  out : ∃ b, truth S x = some b ∧ Q b
structure Bl (x : D) (Q : Bool → Prop) : Prop where
  out : ∃ b, x = .bl b ∧ Q b
structure IxP (S : Store) (x i : D) (Q : D → Prop) : Prop where
  out : ∃ d, ixD S x i = some d ∧ Q d
structure SlP (S : Store) (x : D) (l h : Option Int) (Q : D → Prop) : Prop where
  out : ∃ d, slD S x l h = some d ∧ Q d
structure IsP (S : Store) (x : D) (t : Str) (Q : Bool → Prop) : Prop where
  out : ∃ b, isTy S x t = some b ∧ Q b
structure BsP (S : Store) (b : Blt) (xs : List D) (Q : D → Prop) : Prop where
  out : ∃ d, b.sem S xs = some d ∧ Q d
structure MdP (S : Store) (x : D) (m : Str) (Q : MId → Prop) : Prop where
  out : ∃ i, mIdD S x m = some i ∧ Q i
structure MtP (S : Store) (i : MId) (x : D) (xs : List D) (Q : D → Store → Prop) : Prop where
  out : ∃ d S', mthD S i x xs = some (d, S') ∧ Q d S'
structure LnP (n : Nat) (Q : Prop) : Prop where
  out : n ≤ 16777216 ∧ Q
structure IoP (x : D) (Q : Int → Prop) : Prop where
  out : ∃ i, x = .int i ∧ Q i
structure R1P (j : Int) (Q : Prop) : Prop where
  out : small62 j = true ∧ Q
structure ItP (S : Store) (x : D) (Q : Items → Prop) : Prop where
  out : ∃ it, itersD S x = some it ∧ Q it
structure EnP (S : Store) (x : D) (Q : Items → Prop) : Prop where
  out : ∃ it, enumD S x = some it ∧ Q it
structure ZpP (x y : D) (Q : Items → Prop) : Prop where
  out : ∃ it, zipD x y = some it ∧ Q it
structure RvP (S : Store) (x : D) (Q : D → Prop) : Prop where
  out : ∃ d, revD S x = some d ∧ Q d
structure LsP (S : Store) (x : D) (Q : D → Prop) : Prop where
  out : ∃ d, lenSetD S x = some d ∧ Q d
structure DcP (S : Store) (xs : List D) (Q : D → Store → Prop) : Prop where
  out : ∃ x d S', xs = [x] ∧ dictD S x = some (d, S') ∧ Q d S'
structure KyP (x : D) (Q : L2.Key → Prop) : Prop where
  out : ∃ k, keyD x = some k ∧ Q k
structure Br (k : Bool) (A B : Prop) : Prop where
  out : (k = true → A) ∧ (k = false → B)
structure StP (σ : Env) (i : Nat) (d : D) (Q : Env → Prop) : Prop where
  out : Q (σ.set i (some d))
structure BdP (bd : Env → D → Option Env) (σ : Env) (d : D) (Q : Env → Prop) : Prop where
  out : ∃ σ', bd σ d = some σ' ∧ Q σ'
structure TsP (σ : Env) (is : List Nat) (xs : List D) (Q : Env → Prop) : Prop where
  out : Q (setAll σ is xs)
structure SdP (S : Store) (o i v : D) (Q : Store → Prop) : Prop where
  out : ∃ S', setD S o i v = some S' ∧ Q S'
/-- a comprehension's turns -/
structure CfP (it : Items) (f : D → Store → Out (Option D)) (S : Store) (Q : List D → Store → Prop) : Prop where
  out : W (compF it f loopMost 0 [] S) Q noX
/-- how a statement may end -/
structure Ks where
  nx : Env → Store → Prop
  rt : D → Store → Prop
  bk : Env → Store → Prop
  ct : Env → Store → Prop
  ex : Str → Env → Store → Prop
def kOf (K : Ks) : Fl → Prop
  | .nx σ S => K.nx σ S
  | .rt d S => K.rt d S
  | .bk σ S => K.bk σ S
  | .ct σ S => K.ct σ S
  | .exc x σ S => K.ex x σ S
  | .bad => False
structure Z (z : XS) (σ : Env) (S : Store) (K : Ks) : Prop where
  out : kOf K (z σ S)
structure SnP (σ : Env) (i : Nat) (q : Env → Prop) : Prop where
  out : q (σ.set i none)
/-- an error that a try meets -/
structure TyP (i : Nat) (nd : Bool) (kt : Str → Str → Option Bool) (y : Str) (h : Str → XS) (x : Str) (σ : Env) (S : Store) (K : Ks) : Prop where
  out : kOf K (match kt x y with
    | some true => if nd && decide (σ.length ≤ i) then .bad else hotEnd i (h x (σ.set i none) S)
    | some false => .exc x σ S
    | none => .bad)
structure LpP (it : Items) (f : D → Env → Store → Fl) (σ : Env) (S : Store) (K : Ks) : Prop where
  out : kOf K (forF it f loopMost 0 σ S)
structure WhP (t : XT) (b : XS) (σ : Env) (S : Store) (K : Ks) : Prop where
  out : kOf K (whileF t b loopMost σ S)
section
variable {α β : Type} {S : Store} {σ : Env} {E : EX} {QD : D → Store → Prop} {QB : Bool → Store → Prop} {QA : List D → Store → Prop} {QO : Option Int → Store → Prop} {QI : Items → Store → Prop} {a b c d : XE} {t : XT} {as : XA} {op op' : CmpOp} {bo : Operator} {x y : D} {i j : Nat} {P : D → Prop} {PB : Bool → Prop}
theorem W.bind {r : Out α} {f : α → Store → Out β} {Q : β → Store → Prop} (h : W r (fun x S1 => W (f x S1) Q E) E) : W (r.bind f) Q E := by
  obtain ⟨h⟩ := h
  cases r with
  | ok x S => exact h
  | exc x S => exact ⟨h⟩
  | bad => exact h.elim
theorem W.ofO {o : Option α} {Q : α → Store → Prop} (h : ∃ d, o = some d ∧ Q d S) : W (_root_.Q.ofO S o) Q E := by
  obtain ⟨d, rfl, h⟩ := h
  exact ⟨h⟩
theorem W.post {r : Out α} {Q Q' : α → Store → Prop} (h : W r Q E) (hq : ∀ x S, Q x S → Q' x S) : W r Q' E := by
  obtain ⟨h⟩ := h
  refine ⟨?_⟩
  cases r with
  | ok x S => exact hq _ _ h
  | exc x S => exact h
  | bad => exact h.elim
theorem G_isE {kt : Str → Str → Option Bool} {x : Str} {ts : List Str} {k : Bool} (e : kitS kt x ts = some k) (h : QD (.bl k) S) : G (isE kt x ts) σ S QD E := by
  refine ⟨?_⟩
  unfold isE
  rw [e]
  exact ⟨h⟩
theorem G_kk (h : QD x S) : G (kk x) σ S QD E := ⟨⟨h⟩⟩
theorem G_vv0 (h : QD x S) : G (vv 0) (some x :: σ) S QD E := ⟨⟨h⟩⟩
theorem G_vvs {o : Option D} (h : G (vv i) σ S QD E) : G (vv (i + 1)) (o :: σ) S QD E := by
  obtain ⟨⟨h⟩⟩ := h
  exact ⟨⟨h⟩⟩
theorem G_vv (e : σ[i]? = some (some x)) (h : QD x S) : G (vv i) σ S QD E := by
  refine ⟨⟨?_⟩⟩
  unfold vv
  rw [e]
  exact h
theorem G_bi (h : G a σ S (fun x S1 => G b σ S1 (fun y S2 => Bn S2 bo x y fun d => QD d S2) E) E) : G (bi bo a b) σ S QD E :=
  ⟨.bind (h.out.post fun _ _ h => .bind (h.out.post fun _ _ h => .ofO h.out))⟩
theorem map_ex {o : Option α} {f : α → D} (h : ∃ b, o = some b ∧ P (f b)) : ∃ d, o.map f = some d ∧ P d := by
  obtain ⟨b, rfl, h⟩ := h
  exact ⟨_, rfl, h⟩
theorem G_nt (h : G a σ S (fun x S1 => Tr S1 x fun b => QD (.bl (!b)) S1) E) : G (nt a) σ S QD E :=
  ⟨.bind (h.out.post fun _ _ h => .ofO (map_ex (P := fun d => QD d _) h.out))⟩
theorem G_ng (h : G a σ S (fun x S1 => IoP x fun i => QD (.int (-i)) S1) E) : G (ng a) σ S QD E :=
  ⟨.bind (h.out.post fun _ _ h => by obtain ⟨i, rfl, h'⟩ := h.out; exact ⟨h'⟩)⟩
theorem G_cm (h : G a σ S (fun x S1 => G b σ S1 (fun y S2 => Cp S2 op x y fun k => QD (.bl k) S2) E) E) : G (cm op a b) σ S QD E :=
  ⟨.bind (h.out.post fun _ _ h => .bind (h.out.post fun _ _ h => .ofO (map_ex (P := fun d => QD d _) h.out)))⟩
theorem G_cm2 (h : G a σ S (fun x S1 => G b σ S1 (fun y S2 => Cp S2 op x y fun k => Br k (G d σ S2 (fun z S3 => Cp S3 op' y z fun k => QD (.bl k) S3) E) (QD (.bl false) S2)) E) E) : G (cm2 op op' a b d) σ S QD E :=
  ⟨.bind (h.out.post fun _ _ h => .bind (h.out.post fun _ _ h => by
    obtain ⟨k, e, h⟩ := h.out
    rw [e]
    cases k with
    | true => exact .bind ((h.out.1 rfl).out.post fun _ _ h => .ofO (map_ex (P := fun d => QD d _) h.out))
    | false => exact ⟨h.out.2 rfl⟩))⟩
theorem Br.w {k : Bool} {r r' : Out α} {Q : α → Store → Prop} (h : Br k (W r Q E) (W r' Q E)) : W (if k = true then r else r') Q E := by
  cases k with
  | true => exact h.out.1 rfl
  | false => exact h.out.2 rfl
theorem Br.imp {k : Bool} {A B A' B' : Prop} (h : Br k A B) (f : A → A') (g : B → B') : Br k A' B' := ⟨⟨fun e => f (h.out.1 e), fun e => g (h.out.2 e)⟩⟩
theorem G_ie (h : G t σ S (fun k S1 => Br k (G a σ S1 QD E) (G b σ S1 QD E)) E) : G (ie t a b) σ S QD E :=
  ⟨.bind (h.out.post fun _ _ h => (h.imp (fun h => h.out) fun h => h.out).w)⟩
theorem LnP.w {n : Nat} {r : Out α} {Q : α → Store → Prop} (h : LnP n (W r Q E)) : W (if n ≤ 16777216 then r else .bad) Q E := by
  rw [if_pos h.out.1]
  exact h.out.2
theorem G_lsv (h : G as σ S (fun xs S1 => LnP xs.length (QD (.lst xs) S1)) E) : G (lsv as) σ S QD E :=
  ⟨.bind (h.out.post fun _ _ h => LnP.w ⟨h.out.1, ⟨h.out.2⟩⟩)⟩
theorem G_lsm (h : G as σ S (fun xs S1 => LnP xs.length (QD (.ref S1.length) (S1 ++ [.lst xs]))) E) : G (lsm as) σ S QD E :=
  ⟨.bind (h.out.post fun _ _ h => LnP.w ⟨h.out.1, ⟨h.out.2⟩⟩)⟩
theorem G_tu (h : G as σ S (fun xs S1 => LnP xs.length (QD (.tup xs) S1)) E) : G (tu as) σ S QD E :=
  ⟨.bind (h.out.post fun _ _ h => LnP.w ⟨h.out.1, ⟨h.out.2⟩⟩)⟩
theorem G_di0 (h : QD (.ref S.length) (S ++ [.dic []])) : G di0 σ S QD E := ⟨⟨h⟩⟩
theorem G_sl {lo hi : XO} (h : G a σ S (fun x S1 => G lo σ S1 (fun l S2 => G hi σ S2 (fun u S3 => SlP S3 x l u fun d => QD d S3) E) E) E) : G (sl a lo hi) σ S QD E :=
  ⟨.bind (h.out.post fun _ _ h => .bind (h.out.post fun _ _ h => .bind (h.out.post fun _ _ h => .ofO h.out)))⟩
theorem G_ix (h : G a σ S (fun x S1 => G b σ S1 (fun y S2 => IxP S2 x y fun d => QD d S2) E) E) : G (ix a b) σ S QD E :=
  ⟨.bind (h.out.post fun _ _ h => .bind (h.out.post fun _ _ h => .ofO h.out))⟩
theorem G_ca {φ : Fn} (h : G as σ S (fun xs S1 => W (φ xs S1) QD E) E) : G (ca φ as) σ S QD E := ⟨.bind h.out⟩
theorem G_bl {bt : Blt} (h : G as σ S (fun xs S1 => BsP S1 bt xs fun d => QD d S1) E) : G (bl bt as) σ S QD E :=
  ⟨.bind (h.out.post fun _ _ h => .ofO h.out)⟩
theorem G_isn {ty : Str} (h : G a σ S (fun x S1 => IsP S1 x ty fun k => QD (.bl k) S1) E) : G (isn a ty) σ S QD E :=
  ⟨.bind (h.out.post fun _ _ h => .ofO (map_ex (P := fun d => QD d _) h.out))⟩
theorem G_me {m : Str} (h : G a σ S (fun x S1 => MdP S1 x m fun i => G as σ S1 (fun xs S2 => MtP S2 i x xs QD) E) E) : G (me m a as) σ S QD E :=
  ⟨.bind (h.out.post fun _ _ h => by
    obtain ⟨i, e, h⟩ := h.out
    rw [e]
    exact .bind (h.out.post fun _ _ h => by
      obtain ⟨d, S', e, h⟩ := h.out
      rw [e]
      exact ⟨h⟩))⟩
theorem G_andE (h : G a σ S (fun x S1 => Tr S1 x fun k => Br k (G b σ S1 QD E) (QD x S1)) E) : G (andE a b) σ S QD E :=
  ⟨.bind (h.out.post fun _ _ h => by
    obtain ⟨k, e, h⟩ := h.out
    rw [e]
    exact (h.imp (fun h => h.out) fun h => ⟨h⟩).w)⟩
theorem G_orE (h : G a σ S (fun x S1 => Tr S1 x fun k => Br k (QD x S1) (G b σ S1 QD E)) E) : G (orE a b) σ S QD E :=
  ⟨.bind (h.out.post fun _ _ h => by
    obtain ⟨k, e, h⟩ := h.out
    rw [e]
    exact (h.imp (fun h => (⟨h⟩ : W (.ok _ _) QD E)) fun h => h.out).w)⟩
theorem G_tNot (h : G t σ S (fun k S1 => QB (!k) S1) E) : G (tNot t) σ S QB E := ⟨.bind (h.out.post fun _ _ h => ⟨h⟩)⟩
theorem G_tAnd {u : XT} (h : G t σ S (fun k S1 => Br k (G u σ S1 QB E) (QB false S1)) E) : G (tAnd t u) σ S QB E :=
  ⟨.bind (h.out.post fun _ _ h => (h.imp (fun h => h.out) fun h => ⟨h⟩).w)⟩
theorem G_tOr {u : XT} (h : G t σ S (fun k S1 => Br k (QB true S1) (G u σ S1 QB E)) E) : G (tOr t u) σ S QB E :=
  ⟨.bind (h.out.post fun _ _ h => (h.imp (fun h => (⟨h⟩ : W (.ok _ _) QB E)) fun h => h.out).w)⟩
theorem G_tCm (h : G a σ S (fun x S1 => Bl x fun k => QB k S1) E) : G (tCm a) σ S QB E :=
  ⟨.bind (h.out.post fun _ _ h => by obtain ⟨k, rfl, h'⟩ := h.out; exact ⟨h'⟩)⟩
theorem G_tTr (h : G a σ S (fun x S1 => Tr S1 x fun k => QB k S1) E) : G (tTr a) σ S QB E :=
  ⟨.bind (h.out.post fun _ _ h => .ofO h.out)⟩
theorem G_a0 (h : QA [] S) : G a0 σ S QA E := ⟨⟨h⟩⟩
theorem G_a1 (h : G a σ S (fun x S1 => G as σ S1 (fun xs S2 => QA (x :: xs) S2) E) E) : G (a1 a as) σ S QA E :=
  ⟨.bind (h.out.post fun _ _ h => .bind (h.out.post fun _ _ h => ⟨h⟩))⟩
theorem G_p0 (h : QO none S) : G p0 σ S QO E := ⟨⟨h⟩⟩
theorem G_p1 (h : G a σ S (fun x S1 => IoP x fun i => QO (some i) S1) E) : G (p1 a) σ S QO E :=
  ⟨.bind (h.out.post fun _ _ h => by obtain ⟨i, rfl, h'⟩ := h.out; exact ⟨h'⟩)⟩
theorem G_iv (h : G a σ S (fun x S1 => ItP S1 x fun it => QI it S1) E) : G (iv a) σ S QI E :=
  ⟨.bind (h.out.post fun _ _ h => .ofO h.out)⟩
theorem G_zen (h : G a σ S (fun x S1 => EnP S1 x fun it => QI it S1) E) : G (zen a) σ S QI E :=
  ⟨.bind (h.out.post fun _ _ h => .ofO h.out)⟩
theorem G_zzp (h : G a σ S (fun x S1 => G b σ S1 (fun y S2 => ZpP x y fun it => QI it S2) E) E) : G (zzp a b) σ S QI E :=
  ⟨.bind (h.out.post fun _ _ h => .bind (h.out.post fun _ _ h => .ofO h.out))⟩
theorem G_rvs (h : G a σ S (fun x S1 => RvP S1 x fun d => QD d S1) E) : G (rvs a) σ S QD E :=
  ⟨.bind (h.out.post fun _ _ h => .ofO h.out)⟩
theorem G_lset (h : G a σ S (fun x S1 => LsP S1 x fun d => QD d S1) E) : G (lset a) σ S QD E :=
  ⟨.bind (h.out.post fun _ _ h => .ofO h.out)⟩
theorem G_dct (h : G as σ S (fun xs S1 => DcP S1 xs QD) E) : G (dct as) σ S QD E :=
  ⟨.bind (h.out.post fun _ _ h => by
    obtain ⟨x, d, S', rfl, e, h⟩ := h.out
    show W (ofP (dictD _ x)) _ _
    rw [e]
    exact ⟨h⟩)⟩
theorem G_k0 {QK : List (L2.Key × D) → Store → Prop} (h : QK [] S) : G k0 σ S QK E := ⟨⟨h⟩⟩
theorem G_k1 {r : XK} {QK : List (L2.Key × D) → Store → Prop} (h : G a σ S (fun x S1 => G b σ S1 (fun y S2 => G r σ S2 (fun r S3 => KyP x fun k => QK ((k, y) :: r) S3) E) E) E) : G (k1 a b r) σ S QK E :=
  ⟨.bind (h.out.post fun _ _ h => .bind (h.out.post fun _ _ h => .bind (h.out.post fun _ _ h => by
    obtain ⟨k, e, h⟩ := h.out
    rw [e]
    exact ⟨h⟩)))⟩
theorem G_dis {r : XK} (h : G r σ S (fun kvs S1 => QD (.ref S1.length) (S1 ++ [.dic (mergeG [] kvs)])) E) : G (dis r) σ S QD E :=
  ⟨.bind (h.out.post fun _ _ h => ⟨h⟩)⟩
theorem G_r1 (h : G a σ S (fun x S1 => IoP x fun i => R1P i (QI (rangeD 0 i) S1)) E) : G (r1 a) σ S QI E :=
  ⟨.bind (h.out.post fun _ _ h => by
    obtain ⟨i, rfl, h'⟩ := h.out
    show W (if small62 i = true then _ else _) _ _
    rw [if_pos h'.out.1]
    exact ⟨h'.out.2⟩)⟩
theorem G_r2 (h : G a σ S (fun x S1 => G b σ S1 (fun y S2 => IoP x fun i => IoP y fun j => R1P i (R1P j (QI (rangeD i j) S2))) E) E) : G (r2 a b) σ S QI E :=
  ⟨.bind (h.out.post fun _ _ h => .bind (h.out.post fun _ _ h => by
    obtain ⟨i, rfl, h1⟩ := h.out
    obtain ⟨j, rfl, h2⟩ := h1.out
    show W (if (small62 i && small62 j) = true then _ else _) _ _
    rw [if_pos (by rw [h2.out.1, h2.out.2.out.1]; rfl)]
    exact ⟨h2.out.2.out.2⟩))⟩
theorem W.anyE {r : Out α} {Q : α → Store → Prop} (h : W r Q noX) : W r Q E := by
  obtain ⟨h⟩ := h
  refine ⟨?_⟩
  cases r with
  | ok x S => exact h
  | exc x S => exact h.elim
  | bad => exact h.elim
theorem G_lcv {is : List Nat} {it : XI} {bd : Env → D → Option Env} (h : G it σ S (fun it S1 => CfP it (fun d S2 => match bd (wipeE σ is) d with
    | some σ2 => (a σ2 S2).bind fun y S3 => .ok (some y) S3
    | none => .bad) S1 fun ys S2 => QD (.lst ys) S2) E) : G (lcv is it bd a) σ S QD E :=
  ⟨.bind (h.out.post fun _ _ h => .bind (h.out.anyE.post fun _ _ h => ⟨h⟩))⟩
theorem G_lcv1 {is : List Nat} {it : XI} {bd : Env → D → Option Env} (h : G it σ S (fun it S1 => CfP it (fun d S2 => match bd (wipeE σ is) d with
    | some σ2 => (t σ2 S2).bind fun k S3 => if k = true then (a σ2 S3).bind fun y S4 => .ok (some y) S4 else .ok none S3
    | none => .bad) S1 fun ys S2 => QD (.lst ys) S2) E) : G (lcv1 is it bd t a) σ S QD E :=
  ⟨.bind (h.out.post fun _ _ h => .bind (h.out.anyE.post fun _ _ h => ⟨h⟩))⟩
theorem G_lcm {is : List Nat} {it : XI} {bd : Env → D → Option Env} (h : G it σ S (fun it S1 => CfP it (fun d S2 => match bd (wipeE σ is) d with
    | some σ2 => (a σ2 S2).bind fun y S3 => .ok (some y) S3
    | none => .bad) S1 fun ys S2 => QD (.ref S2.length) (S2 ++ [.lst ys])) E) : G (lcm is it bd a) σ S QD E :=
  ⟨.bind (h.out.post fun _ _ h => .bind (h.out.anyE.post fun _ _ h => ⟨h⟩))⟩
theorem G_lcm1 {is : List Nat} {it : XI} {bd : Env → D → Option Env} (h : G it σ S (fun it S1 => CfP it (fun d S2 => match bd (wipeE σ is) d with
    | some σ2 => (t σ2 S2).bind fun k S3 => if k = true then (a σ2 S3).bind fun y S4 => .ok (some y) S4 else .ok none S3
    | none => .bad) S1 fun ys S2 => QD (.ref S2.length) (S2 ++ [.lst ys])) E) : G (lcm1 is it bd t a) σ S QD E :=
  ⟨.bind (h.out.post fun _ _ h => .bind (h.out.anyE.post fun _ _ h => ⟨h⟩))⟩
/-! statements -/
variable {nx bk ct : Env → Store → Prop} {rt : D → Store → Prop} {ex : Str → Env → Store → Prop} {z z' : XS}
abbrev oX (ex : Str → Env → Store → Prop) (σ : Env) : EX := fun x S => ex x σ S
theorem use_k {r : Out α} {f : α → Store → Fl} (h : W r (fun x S1 => kOf ⟨nx, rt, bk, ct, ex⟩ (f x S1)) (oX ex σ)) : kOf ⟨nx, rt, bk, ct, ex⟩ (r.use σ f) := by
  obtain ⟨h⟩ := h
  cases r with
  | ok x S => exact h
  | exc x S => exact h
  | bad => exact h.elim
theorem Z_pass (h : nx σ S) : Z zPass σ S ⟨nx, rt, bk, ct, ex⟩ := ⟨h⟩
theorem Z_brk (h : bk σ S) : Z zBrk σ S ⟨nx, rt, bk, ct, ex⟩ := ⟨h⟩
theorem Z_cnt (h : ct σ S) : Z zCnt σ S ⟨nx, rt, bk, ct, ex⟩ := ⟨h⟩
theorem Z_ret0 (h : rt .non S) : Z zRet0 σ S ⟨nx, rt, bk, ct, ex⟩ := ⟨h⟩
theorem Z_ret (h : G a σ S rt (oX ex σ)) : Z (zRet a) σ S ⟨nx, rt, bk, ct, ex⟩ := ⟨use_k h.out⟩
theorem Z_exp (h : G a σ S (fun _ S1 => nx σ S1) (oX ex σ)) : Z (zExp a) σ S ⟨nx, rt, bk, ct, ex⟩ := ⟨use_k h.out⟩
theorem Z_if (h : G t σ S (fun k S1 => Br k (Z z σ S1 ⟨nx, rt, bk, ct, ex⟩) (Z z' σ S1 ⟨nx, rt, bk, ct, ex⟩)) (oX ex σ)) : Z (zIf t z z') σ S ⟨nx, rt, bk, ct, ex⟩ :=
  ⟨use_k (h.out.post fun k S1 h => by
    cases k with
    | true => exact (h.out.1 rfl).out
    | false => exact (h.out.2 rfl).out)⟩
theorem Z_set (h : G a σ S (fun d S1 => StP σ i d fun σ1 => nx σ1 S1) (oX ex σ)) : Z (zSet i a) σ S ⟨nx, rt, bk, ct, ex⟩ :=
  ⟨use_k (h.out.post fun _ _ h => h.out)⟩
theorem Z_tup {is : List Nat} (h : G a σ S (fun d S1 => BdP (bT is) σ d fun σ1 => nx σ1 S1) (oX ex σ)) : Z (zTup is a) σ S ⟨nx, rt, bk, ct, ex⟩ :=
  ⟨use_k (h.out.post fun _ _ h => by
    obtain ⟨σ1, e, h⟩ := h.out
    rw [e]
    exact h)⟩
theorem Z_sub (h : G c σ S (fun d S1 => G a σ S1 (fun x S2 => G b σ S2 (fun y S3 => SdP S3 x y d fun S4 => nx σ S4) (oX ex σ)) (oX ex σ)) (oX ex σ)) : Z (zSub a b c) σ S ⟨nx, rt, bk, ct, ex⟩ :=
  ⟨use_k (h.out.post fun _ _ h => use_k (h.out.post fun _ _ h => use_k (h.out.post fun _ _ h => by
    obtain ⟨S4, e, h⟩ := h.out
    rw [e]
    exact h)))⟩
theorem Z_seq (h : Z z σ S ⟨fun σ1 S1 => Z z' σ1 S1 ⟨nx, rt, bk, ct, ex⟩, rt, bk, ct, ex⟩) : Z (zSeq z z') σ S ⟨nx, rt, bk, ct, ex⟩ := by
  obtain ⟨h⟩ := h
  refine ⟨?_⟩
  show kOf ⟨nx, rt, bk, ct, ex⟩ ((z σ S).seq z')
  cases e : z σ S with
  | nx σ1 S1 => rw [e] at h; exact h.out
  | _ => rw [e] at h; exact h
/-- what holds behind an if -/
theorem Z_ifm {z1 z2 : XS} (J : Env → Store → Prop) (h : Z (zIf t z1 z2) σ S ⟨J, rt, bk, ct, ex⟩) (h2 : ∀ σ1 S1, J σ1 S1 → Z z' σ1 S1 ⟨nx, rt, bk, ct, ex⟩) : Z (zSeq (zIf t z1 z2) z') σ S ⟨nx, rt, bk, ct, ex⟩ := by
  obtain ⟨h⟩ := h
  refine ⟨?_⟩
  show kOf ⟨nx, rt, bk, ct, ex⟩ ((zIf t z1 z2 σ S).seq z')
  cases e : zIf t z1 z2 σ S with
  | nx σ1 S1 => rw [e] at h; exact (h2 _ _ h).out
  | _ => rw [e] at h; exact h
/-- try: what comes of the body; what comes of the suite -/
theorem Z_try {i : Nat} {nd : Bool} {kt : Str → Str → Option Bool} {y : Str} {b : XS} {h : Str → XS} (hb : Z b σ S ⟨nx, rt, bk, ct, fun x σ1 S1 => TyP i nd kt y h x σ1 S1 ⟨nx, rt, bk, ct, ex⟩⟩) : Z (zTry i nd kt y b h) σ S ⟨nx, rt, bk, ct, ex⟩ := by
  obtain ⟨hb⟩ := hb
  refine ⟨?_⟩
  unfold zTry
  cases e : b σ S with
  | nx σ1 S1 => rw [e] at hb; exact hb
  | rt d S1 => rw [e] at hb; exact hb
  | bk σ1 S1 => rw [e] at hb; exact hb
  | ct σ1 S1 => rw [e] at hb; exact hb
  | bad => rw [e] at hb; exact hb
  | exc x σ1 S1 => rw [e] at hb; exact hb.out
theorem Ty_yes {i : Nat} {nd : Bool} {kt : Str → Str → Option Bool} {x y : Str} {h : Str → XS} (e : kt x y = some true) (l : (nd && decide (σ.length ≤ i)) = false)
    (hh : SnP σ i fun σ0 => Z (h x) σ0 S ⟨fun σ S => SnP σ i fun σ1 => nx σ1 S, rt, fun σ S => SnP σ i fun σ1 => bk σ1 S, fun σ S => SnP σ i fun σ1 => ct σ1 S, fun _ _ _ => False⟩) : TyP i nd kt y h x σ S ⟨nx, rt, bk, ct, ex⟩ := by
  refine ⟨?_⟩
  simp only [e, l, Bool.false_eq_true, if_false]
  obtain ⟨hh⟩ := hh.out
  cases z : h x (σ.set i none) S with
  | nx σ1 S1 => rw [z] at hh; exact hh.out
  | rt d S1 => rw [z] at hh; exact hh
  | bk σ1 S1 => rw [z] at hh; exact hh.out
  | ct σ1 S1 => rw [z] at hh; exact hh.out
  | bad => rw [z] at hh; exact hh
  | exc x σ1 S1 => rw [z] at hh; exact hh.elim
theorem Ty_no {i : Nat} {nd : Bool} {kt : Str → Str → Option Bool} {x y : Str} {h : Str → XS} (e : kt x y = some false) (hh : ex x σ S) : TyP i nd kt y h x σ S ⟨nx, rt, bk, ct, ex⟩ := by
  refine ⟨?_⟩
  simp only [e]
  exact hh
theorem Z_mid (J : Env → Store → Prop) (h : Z z σ S ⟨J, rt, bk, ct, ex⟩) (h2 : ∀ σ1 S1, J σ1 S1 → Z z' σ1 S1 ⟨nx, rt, bk, ct, ex⟩) : Z (zSeq z z') σ S ⟨nx, rt, bk, ct, ex⟩ := by
  obtain ⟨h⟩ := h
  refine ⟨?_⟩
  show kOf ⟨nx, rt, bk, ct, ex⟩ ((z σ S).seq z')
  cases e : z σ S with
  | nx σ1 S1 => rw [e] at h; exact (h2 _ _ h).out
  | _ => rw [e] at h; exact h
theorem Z_while (h : WhP t z σ S ⟨nx, rt, bk, ct, ex⟩) : Z (zWhile t z) σ S ⟨nx, rt, bk, ct, ex⟩ := ⟨h.out⟩
theorem Z_for {bd : Env → D → Option Env} {it : XI} (h : G it σ S (fun it S1 => LpP it (fun d σ1 S2 => match bd σ1 d with
    | some σ2 => z σ2 S2
    | none => .bad) σ S1 ⟨nx, rt, bk, ct, ex⟩) (oX ex σ)) : Z (zFor bd it z) σ S ⟨nx, rt, bk, ct, ex⟩ := ⟨use_k (h.out.post fun _ _ h => h.out)⟩
theorem Z_raise {x : Str} (h : ex x σ S) : Z (zRaise x) σ S ⟨nx, rt, bk, ct, ex⟩ := ⟨h⟩
/-! a def -/
structure FnP (frz : Bool) (n : Nat) (d : D) (S : Store) (Q : D → Store → Prop) (E : EX) : Prop where
  out : W (fin frz n d S) Q E
abbrev kF (frz : Bool) (n : Nat) (Q : D → Store → Prop) (E : EX) : Ks where
  nx := fun _ S' => FnP frz n .non S' Q E
  rt := fun d S' => FnP frz n d S' Q E
  bk := fun _ _ => False
  ct := fun _ _ => False
  ex := fun x _ S' => W (finX n x S') Q E
theorem W_dF {frz : Bool} {np nn : Nat} {args : List D} {σ : Env} (h : Z z σ S (kF frz S.length QD E)) (hl : args.length = np := by rfl) (e : args.map some ++ List.replicate (nn - args.length) none = σ := by rfl) : W (dF frz np nn z args S) QD E := by
  subst e
  unfold dF
  rw [if_pos hl]
  obtain ⟨h⟩ := h
  cases e : z (args.map some ++ List.replicate (nn - args.length) none) S with
  | nx σ1 S1 => rw [e] at h; exact h.out
  | rt d S1 => rw [e] at h; exact h.out
  | exc x σ1 S1 => rw [e] at h; exact h
  | bk σ1 S1 => rw [e] at h; exact h.elim
  | ct σ1 S1 => rw [e] at h; exact h.elim
  | bad => rw [e] at h; exact h.elim
theorem FnP_same {n : Nat} {S' : Store} (hl : S'.length = n) (h : QD x S') : FnP false n x S' QD E := by
  refine ⟨?_⟩
  unfold fin
  simp only [hl, and_self, ↓reduceIte]
  exact ⟨h⟩
theorem FnP_self (h : QD x S) : FnP false S.length x S QD E := FnP_same rfl h
/-! ### values -/
variable {n m : Int} {Q : D → Prop} {xs ys : List D}
theorem Bn_add (h : Q (.int (n + m))) : Bn S .Add (.int n) (.int m) Q := ⟨⟨_, rfl, h⟩⟩
theorem Bn_sub (h : Q (.int (n - m))) : Bn S .Sub (.int n) (.int m) Q := ⟨⟨_, rfl, h⟩⟩
theorem Bn_mul (hb : n.natAbs.log2 + m.natAbs.log2 < 1000000) (h : Q (.int (n * m))) : Bn S .Mult (.int n) (.int m) Q := ⟨⟨_, by simp only [binD, arith, if_pos hb, Option.map_some], h⟩⟩
theorem Bn_fdiv (hb : 0 < m ∧ m.natAbs.log2 < 9000) (h : Q (.int (n / m))) : Bn S .FloorDiv (.int n) (.int m) Q := ⟨⟨_, by simp only [binD, arith, if_pos hb, Option.map_some], h⟩⟩
theorem Bn_mod (hb : 0 < m) (h : Q (.int (n % m))) : Bn S .Mod (.int n) (.int m) Q := ⟨⟨_, by simp only [binD, arith, if_pos hb, Option.map_some], h⟩⟩
theorem Bn_pow (hb : 0 ≤ m ∧ m ≤ 1000000 ∧ n.natAbs < 2 ^ 64) (h : Q (.int (n ^ m.toNat))) : Bn S .Pow (.int n) (.int m) Q := ⟨⟨_, by simp only [binD, arith, if_pos hb, Option.map_some], h⟩⟩
theorem Bn_shl (hb : 0 ≤ m ∧ (Builtin.Int.intBits n : Int) + m ≤ 2 ^ 27) (h : Q (.int (n * 2 ^ m.toNat))) : Bn S .LShift (.int n) (.int m) Q := ⟨⟨_, by simp only [binD, arith, if_pos hb, Option.map_some], h⟩⟩
theorem Bn_shr (hb : 0 ≤ m) (h : Q (.int (n / 2 ^ m.toNat))) : Bn S .RShift (.int n) (.int m) Q := ⟨⟨_, by simp only [binD, arith, if_pos hb, Option.map_some], h⟩⟩
theorem Bn_and (h : Q (.int (Builtin.bitAnd n m))) : Bn S .BitAnd (.int n) (.int m) Q := ⟨⟨_, rfl, h⟩⟩
theorem Bn_str {u v : Str} (hb : u.length + v.length ≤ 16777216) (h : Q (.str (u ++ v))) : Bn S .Add (.str u) (.str v) Q := ⟨⟨_, by simp only [binD, if_pos hb], h⟩⟩
theorem Bn_strN {u : Str} (hb : -1000000 ≤ n ∧ n ≤ 1000000 ∧ u.length * n.toNat ≤ 1000000) (h : Q (.str (timesS u n))) : Bn S .Mult (.str u) (.int n) Q := ⟨⟨_, by simp only [binD, if_pos hb], h⟩⟩
theorem Bn_tupN (hb : -1000000 ≤ n ∧ n ≤ 1000000 ∧ xs.length * n.toNat ≤ 1000000) (h : Q (.tup (List.replicate n.toNat xs).flatten)) : Bn S .Mult (.tup xs) (.int n) Q := ⟨⟨_, by simp only [binD, if_pos hb], h⟩⟩
theorem Bn_lstN (hb : -1000000 ≤ n ∧ n ≤ 1000000 ∧ xs.length * n.toNat ≤ 1000000) (h : Q (.lst (List.replicate n.toNat xs).flatten)) : Bn S .Mult (.lst xs) (.int n) Q := ⟨⟨_, by simp only [binD, catD, seqL, if_pos hb], h⟩⟩
theorem Bn_tup (hb : xs.length + ys.length ≤ 16777216) (h : Q (.tup (xs ++ ys))) : Bn S .Add (.tup xs) (.tup ys) Q := ⟨⟨_, by simp only [binD, if_pos hb], h⟩⟩
theorem Bn_lst (hb : xs.length + ys.length ≤ 16777216) (h : Q (.lst (xs ++ ys))) : Bn S .Add (.lst xs) (.lst ys) Q := ⟨⟨_, by
  have h1 : xs.length ≤ 16777216 := by omega
  have h2 : ys.length ≤ 16777216 := by omega
  simp only [binD, catD, seqL, if_pos (And.intro h1 (And.intro h2 hb))], h⟩⟩
theorem Cp_lt (h : PB (decide (n < m))) : Cp S .Lt (.int n) (.int m) PB := ⟨⟨_, rfl, h⟩⟩
theorem Cp_le (h : PB (decide (n ≤ m))) : Cp S .LtE (.int n) (.int m) PB := ⟨⟨_, rfl, h⟩⟩
theorem Cp_gt (h : PB (decide (m < n))) : Cp S .Gt (.int n) (.int m) PB := ⟨⟨_, rfl, h⟩⟩
theorem Cp_ge (h : PB (decide (m ≤ n))) : Cp S .GtE (.int n) (.int m) PB := ⟨⟨_, rfl, h⟩⟩
theorem eqD_int : eqD S (.int n) (.int m) = some (decide (n = m)) := by
  have : eqD S (.int n) (.int m) = some (PyData.eqv (.int n) (.int m)) := rfl
  rw [this, PyData.eqv]
  rfl
theorem Cp_eqi (h : PB (decide (n = m))) : Cp S .Eq (.int n) (.int m) PB := ⟨⟨_, eqD_int (S := S), h⟩⟩
theorem Cp_nei (h : PB (!decide (n = m))) : Cp S .NotEq (.int n) (.int m) PB := ⟨⟨_, (congrArg (Option.map (! ·)) (eqD_int (S := S) (n := n) (m := m)) : _), h⟩⟩
theorem Cp_is {k l : Bool} (h : PB (decide (k = l))) : Cp S .Is (.bl k) (.bl l) PB := ⟨⟨_, rfl, h⟩⟩
theorem Cp_isn {k l : Bool} (h : PB (!decide (k = l))) : Cp S .IsNot (.bl k) (.bl l) PB := ⟨⟨_, rfl, h⟩⟩
theorem Cp_eqb {k l : Bool} (h : PB (k == l)) : Cp S .Eq (.bl k) (.bl l) PB := ⟨⟨_, by cases k <;> cases l <;> rfl, h⟩⟩
theorem Cp_neb {k l : Bool} (h : PB (k != l)) : Cp S .NotEq (.bl k) (.bl l) PB := ⟨⟨_, by cases k <;> cases l <;> rfl, h⟩⟩
/-- by computing -/
theorem Cp_by {k : Bool} (e : cmpD S op x y = some k) (h : PB k) : Cp S op x y PB := ⟨⟨_, e, h⟩⟩
theorem Tr_bl {k : Bool} (h : PB k) : Tr S (.bl k) PB := ⟨⟨_, rfl, h⟩⟩
theorem Tr_int (h : PB (n != 0)) : Tr S (.int n) PB := ⟨⟨_, rfl, h⟩⟩
theorem Tr_non (h : PB false) : Tr S .non PB := ⟨⟨_, rfl, h⟩⟩
theorem Tr_lst (h : PB (!xs.isEmpty)) : Tr S (.lst xs) PB := ⟨⟨_, rfl, h⟩⟩
theorem Tr_tup (h : PB (!xs.isEmpty)) : Tr S (.tup xs) PB := ⟨⟨_, rfl, h⟩⟩
theorem Bl_bl {k : Bool} (h : PB k) : Bl (.bl k) PB := ⟨⟨_, rfl, h⟩⟩
theorem Io_int {q : Int → Prop} (h : q n) : IoP (.int n) q := ⟨⟨_, rfl, h⟩⟩
theorem R1_mk {q : Prop} (hb : -(2 ^ 62) ≤ n ∧ n < 2 ^ 62) (h : q) : R1P n q := ⟨⟨by unfold small62; simp only [Bool.and_eq_true, decide_eq_true_eq]; exact hb, h⟩⟩
theorem Ix_by (e : ixD S x y = some (x' : D)) (h : Q x') : IxP S x y Q := ⟨⟨_, e, h⟩⟩
theorem atI_nat {xs : List D} {k : Int} (h0 : 0 ≤ k) (h1 : k < xs.length) : ∃ d, L2.atI xs k = some d ∧ xs[k.toNat]? = some d := by
  unfold L2.atI L2.ixN
  rw [if_pos h0, if_pos h1]
  have : k.toNat < xs.length := by omega
  exact ⟨xs[k.toNat], by simp [this], by simp [this]⟩
theorem Ix_lst {k : Int} (h0 : 0 ≤ k) (h1 : k < xs.length) (h : ∀ d, xs[k.toNat]? = some d → Q d) : IxP S (.lst xs) (.int k) Q := by
  obtain ⟨d, e1, e2⟩ := atI_nat h0 h1
  exact ⟨⟨d, e1, h d e2⟩⟩
theorem Ix_tup {k : Int} (h0 : 0 ≤ k) (h1 : k < xs.length) (h : ∀ d, xs[k.toNat]? = some d → Q d) : IxP S (.tup xs) (.int k) Q := by
  obtain ⟨d, e1, e2⟩ := atI_nat h0 h1
  exact ⟨⟨d, e1, h d e2⟩⟩
theorem Is_by {ty : Str} {k : Bool} (e : isTy S x ty = some k) (h : PB k) : IsP S x ty PB := ⟨⟨_, e, h⟩⟩
theorem Bs_by {bt : Blt} (e : bt.sem S xs = some x) (h : Q x) : BsP S bt xs Q := ⟨⟨_, e, h⟩⟩
theorem Bs_int (h : Q (.int n)) : BsP S .int [.int n] Q := ⟨⟨_, rfl, h⟩⟩
theorem Bs_intb {k : Bool} (h : Q (.int (if k then 1 else 0))) : BsP S .int [.bl k] Q := ⟨⟨_, rfl, h⟩⟩
theorem Bs_len (h : Q (.int ys.length)) : BsP S .len [.lst ys] Q := ⟨⟨_, rfl, h⟩⟩
theorem Bs_lent (h : Q (.int ys.length)) : BsP S .len [.tup ys] Q := ⟨⟨_, rfl, h⟩⟩
theorem Bs_min (h : Q (.int (if m < n then m else n))) : BsP S .min [.int n, .int m] Q := ⟨⟨_, rfl, h⟩⟩
theorem Bs_max (h : Q (.int (if m > n then m else n))) : BsP S .max [.int n, .int m] Q := ⟨⟨_, rfl, h⟩⟩
theorem Bs_abs (h : Q (.int (if n < 0 then -n else n))) : BsP S .abs [.int n] Q := ⟨⟨_, rfl, h⟩⟩
theorem Md_bits {q : MId → Prop} (h : q .bitLength) : MdP S (.int n) "bit_length" q := ⟨⟨_, rfl, h⟩⟩
theorem Mt_bits (h : QD (.int (Builtin.Int.intBits n : Nat)) S) : MtP S .bitLength (.int n) [] QD := ⟨⟨_, _, rfl, h⟩⟩
theorem Ln_mk {l : Nat} {q : Prop} (hb : l ≤ 16777216) (h : q) : LnP l q := ⟨⟨hb, h⟩⟩
theorem It_lst {q : Items → Prop} (h : q ⟨xs, none, false⟩) : ItP S (.lst xs) q := ⟨⟨_, rfl, h⟩⟩
theorem En_lst {q : Items → Prop} (h : q ⟨xs, none, true⟩) : EnP S (.lst xs) q := ⟨⟨_, rfl, h⟩⟩
theorem Zp_tup {q : Items → Prop} (h : q ⟨pairUp xs ys, none, false⟩) : ZpP (.tup xs) (.tup ys) q := ⟨⟨_, rfl, h⟩⟩
theorem Zp_lst {q : Items → Prop} (h : q ⟨pairUp xs ys, none, false⟩) : ZpP (.lst xs) (.lst ys) q := ⟨⟨_, rfl, h⟩⟩
theorem Rv_lst (h : Q (.lst xs.reverse)) : RvP S (.lst xs) Q := ⟨⟨_, rfl, h⟩⟩
theorem Dc_mk {QD : D → Store → Prop} {S' : Store} (e : dictD S y = some (x, S')) (h : QD x S') : DcP S [y] QD := ⟨⟨_, _, _, rfl, e, h⟩⟩
theorem Ky_str {z : Str} {q : L2.Key → Prop} (h : q (.inr z)) : KyP (.str z) q := ⟨⟨_, rfl, h⟩⟩
theorem Ky_int {q : L2.Key → Prop} (h : q (.inl n)) : KyP (.int n) q := ⟨⟨_, rfl, h⟩⟩
theorem It_tup {q : Items → Prop} (h : q ⟨xs, none, false⟩) : ItP S (.tup xs) q := ⟨⟨_, rfl, h⟩⟩
theorem Br_t {k : Bool} {A B : Prop} (e : k = true) (h : A) : Br k A B := ⟨⟨fun _ => h, fun z => absurd (e.symm.trans z) (by decide)⟩⟩
theorem Br_f {k : Bool} {A B : Prop} (e : k = false) (h : B) : Br k A B := ⟨⟨fun z => absurd (e.symm.trans z) (by decide), fun _ => h⟩⟩
theorem Br_dec {p : Prop} [Decidable p] {A B : Prop} (h1 : p → A) (h2 : ¬ p → B) : Br (decide p) A B := ⟨⟨fun z => h1 (of_decide_eq_true z), fun z => h2 (of_decide_eq_false z)⟩⟩
theorem Br_not {k : Bool} {A B : Prop} (h : Br k B A) : Br (!k) A B := by
  obtain ⟨h1, h2⟩ := h.out
  exact ⟨⟨fun z => h2 (by simpa using z), fun z => h1 (by simpa using z)⟩⟩
theorem St_0 {o : Option D} {q : Env → Prop} (h : q (some x :: σ)) : StP (o :: σ) 0 x q := ⟨h⟩
theorem St_s {o : Option D} {q : Env → Prop} (h : StP σ i x fun σ1 => q (o :: σ1)) : StP (o :: σ) (i + 1) x q := ⟨h.out⟩
theorem Bd_b1 {q : Env → Prop} (h : StP σ i x q) : BdP (b1 i) σ x q := ⟨⟨_, rfl, h.out⟩⟩
theorem Bd_bT {is : List Nat} {q : Env → Prop} (hl : xs.length = is.length) (h : TsP σ is xs q) : BdP (bT is) σ (.tup xs) q := ⟨⟨_, by unfold bT; simp only [seqT, if_pos hl], h.out⟩⟩
theorem Ts_0 {q : Env → Prop} (h : q σ) : TsP σ [] [] q := ⟨h⟩
theorem Ts_s {is : List Nat} {q : Env → Prop} (h : StP σ i x fun σ1 => TsP σ1 is xs q) : TsP σ (i :: is) (x :: xs) q := ⟨h.out.out⟩
end
/-! ### loops -/
section
variable {S : Store} {σ : Env} {nx bk ct : Env → Store → Prop} {rt : D → Store → Prop} {ex : Str → Env → Store → Prop} {it : Items}
/-- one turn of a for -/
structure TnP (f : D → Env → Store → Fl) (d : D) (σ : Env) (S : Store) (K0 : Ks) : Prop where
  out : kOf K0 (f d σ S)
theorem Tn_mk {bd : Env → D → Option Env} {z : XS} {d : D} (h : BdP bd σ d fun σ1 => Z z σ1 S ⟨nx, rt, bk, ct, ex⟩) : TnP (fun d σ1 S2 => match bd σ1 d with
    | some σ2 => z σ2 S2
    | none => .bad) d σ S ⟨nx, rt, bk, ct, ex⟩ := by
  obtain ⟨σ1, e, h⟩ := h.out
  refine ⟨?_⟩
  show kOf ⟨nx, rt, bk, ct, ex⟩ (match bd σ d with | some σ2 => z σ2 S | none => .bad)
  rw [e]
  exact h.out
theorem forF_inv {f : D → Env → Store → Fl} (I : Nat → Env → Store → Prop) {xs : List D} {w : Nat → D → D} (hg : ∀ i σ S, I i σ S → it.get S i = some (xs[i]?.map (w i))) (step : ∀ i d σ S, xs[i]? = some d → I i σ S → TnP f (w i d) σ S ⟨I (i + 1), rt, nx, I (i + 1), ex⟩)
    (stop : ∀ σ S, I xs.length σ S → nx σ S) : ∀ (m i : Nat) (σ : Env) (S : Store), xs.length < i + m → i ≤ xs.length → I i σ S → kOf ⟨nx, rt, bk, ct, ex⟩ (forF it f m i σ S)
  | 0, i, σ, S, h1, h2, _ => absurd h1 (by omega)
  | m + 1, i, σ, S, h1, h2, hI => by
    have hg' := hg i σ S hI
    unfold forF
    rw [hg']
    cases e : xs[i]? with
    | none =>
      have : xs.length ≤ i := List.getElem?_eq_none_iff.mp e
      have e2 : i = xs.length := by omega
      subst e2
      exact stop _ _ hI
    | some d =>
      have lt : i < xs.length := (List.getElem?_eq_some_iff.mp e).1
      have st := (step i d σ S e hI).out
      show kOf ⟨nx, rt, bk, ct, ex⟩ (match f (w i d) σ S with
        | .nx σ1 S1 => forF it f m (i + 1) σ1 S1
        | .ct σ1 S1 => forF it f m (i + 1) σ1 S1
        | .bk σ1 S1 => .nx σ1 S1
        | r => r)
      cases q : f (w i d) σ S with
      | nx σ1 S1 => rw [q] at st; exact forF_inv I hg step stop m (i + 1) σ1 S1 (by omega) (by omega) st
      | ct σ1 S1 => rw [q] at st; exact forF_inv I hg step stop m (i + 1) σ1 S1 (by omega) (by omega) st
      | bk σ1 S1 => rw [q] at st; exact st
      | rt d S1 => rw [q] at st; exact st
      | exc x σ1 S1 => rw [q] at st; exact st
      | bad => rw [q] at st; exact st.elim
/-- any walk: what stands at each turn -/
theorem Lp_invG {f : D → Env → Store → Fl} {xs : List D} (w : Nat → D → D) (I : Nat → Env → Store → Prop) (hg : ∀ i σ S, I i σ S → it.get S i = some (xs[i]?.map (w i))) (h0 : I 0 σ S) (step : ∀ i d σ S, xs[i]? = some d → I i σ S → TnP f (w i d) σ S ⟨I (i + 1), rt, nx, I (i + 1), ex⟩)
    (stop : ∀ σ S, I xs.length σ S → nx σ S) (hl : xs.length < 100000) : LpP it f σ S ⟨nx, rt, bk, ct, ex⟩ :=
  ⟨forF_inv I hg step stop 100000 0 σ S (by omega) (Nat.zero_le _) h0⟩
/-- a list of the store, walked -/
theorem Lp_invR {f : D → Env → Store → Fl} {xs ys : List D} {l : Nat} (I : Nat → Env → Store → Prop) (hg : ∀ i σ S, I i σ S → S[l]? = some (.lst xs)) (h0 : I 0 σ S) (step : ∀ i d σ S, xs[i]? = some d → I i σ S → TnP f d σ S ⟨I (i + 1), rt, nx, I (i + 1), ex⟩)
    (stop : ∀ σ S, I xs.length σ S → nx σ S) (hl : xs.length < 100000) : LpP ⟨ys, some l, false⟩ f σ S ⟨nx, rt, bk, ct, ex⟩ :=
  Lp_invG (fun _ d => d) I (fun i σ S h => by show (match S[l]? with | some (.lst xs) => some (xs[i]?.map (wrapI false i)) | _ => none) = _; rw [hg i σ S h]; rfl) h0 step stop hl
theorem Lp_invW {f : D → Env → Store → Fl} (I : Nat → Env → Store → Prop) (h0 : I 0 σ S) (step : ∀ i d σ S, it.xs[i]? = some d → I i σ S → TnP f (wrapI it.enum i d) σ S ⟨I (i + 1), rt, nx, I (i + 1), ex⟩)
    (stop : ∀ σ S, I it.xs.length σ S → nx σ S) (hl : it.xs.length < 100000) (ha : it.at_ = none := by rfl) : LpP it f σ S ⟨nx, rt, bk, ct, ex⟩ :=
  Lp_invG (wrapI it.enum) I (fun i σ S _ => by unfold Items.get; rw [ha]) h0 step stop hl
theorem Lp_inv {f : D → Env → Store → Fl} (I : Nat → Env → Store → Prop) (h0 : I 0 σ S) (step : ∀ i d σ S, it.xs[i]? = some d → I i σ S → TnP f d σ S ⟨I (i + 1), rt, nx, I (i + 1), ex⟩)
    (stop : ∀ σ S, I it.xs.length σ S → nx σ S) (hl : it.xs.length < 100000) (ha : it.at_ = none := by rfl) (he : it.enum = false := by rfl) : LpP it f σ S ⟨nx, rt, bk, ct, ex⟩ :=
  Lp_invW I h0 (fun i d σ S h hI => by rw [he]; exact step i d σ S h hI) stop hl ha
theorem Lp_invE {f : D → Env → Store → Fl} {xs : List D} (I : Nat → Env → Store → Prop) (h0 : I 0 σ S) (step : ∀ i d σ S, xs[i]? = some d → I i σ S → TnP f (.tup [.int (i : Nat), d]) σ S ⟨I (i + 1), rt, nx, I (i + 1), ex⟩)
    (stop : ∀ σ S, I xs.length σ S → nx σ S) (hl : xs.length < 100000) : LpP ⟨xs, none, true⟩ f σ S ⟨nx, rt, bk, ct, ex⟩ := Lp_invW (it := ⟨xs, none, true⟩) I h0 step stop hl
theorem whileF_inv {t : XT} {z : XS} (I : Nat → Env → Store → Prop) (step : ∀ n σ S, I n σ S → G t σ S (fun k S1 => Br k (Z z σ S1 ⟨fun σ S => ∃ m, m < n ∧ I m σ S, rt, nx, fun σ S => ∃ m, m < n ∧ I m σ S, ex⟩) (nx σ S1)) (oX ex σ)) :
    ∀ (m n : Nat) (σ : Env) (S : Store), n < m → I n σ S → kOf ⟨nx, rt, bk, ct, ex⟩ (whileF t z m σ S)
  | 0, n, σ, S, h, _ => absurd h (by omega)
  | m + 1, n, σ, S, h, hI => by
    unfold whileF
    refine use_k ((step n σ S hI).out.post fun k S1 h1 => ?_)
    cases k with
    | false => exact h1.out.2 rfl
    | true =>
      have st := (h1.out.1 rfl).out
      rw [if_pos rfl]
      cases q : z σ S1 with
      | nx σ1 S2 =>
        rw [q] at st
        obtain ⟨n', hn, hI'⟩ := st
        exact whileF_inv I step m n' σ1 S2 (by omega) hI'
      | ct σ1 S2 =>
        rw [q] at st
        obtain ⟨n', hn, hI'⟩ := st
        exact whileF_inv I step m n' σ1 S2 (by omega) hI'
      | bk σ1 S1 => rw [q] at st; exact st
      | rt d S1 => rw [q] at st; exact st
      | exc x σ1 S1 => rw [q] at st; exact st
      | bad => rw [q] at st; exact st.elim
theorem Wh_inv {t : XT} {z : XS} (I : Nat → Env → Store → Prop) (n : Nat) (hn : n < 100000) (h0 : I n σ S)
    (step : ∀ n σ S, I n σ S → G t σ S (fun k S1 => Br k (Z z σ S1 ⟨fun σ S => ∃ m, m < n ∧ I m σ S, rt, nx, fun σ S => ∃ m, m < n ∧ I m σ S, ex⟩) (nx σ S1)) (oX ex σ)) : WhP t z σ S ⟨nx, rt, bk, ct, ex⟩ :=
  ⟨whileF_inv I step 100000 n σ S hn h0⟩
/-- a comprehension with an invariant: what has been made, how far -/
theorem compF_inv {f : D → Store → Out (Option D)} {Q : List D → Store → Prop} (I : Nat → List D → Store → Prop) {xs : List D} {w : Nat → D → D} (hg : ∀ i acc S, I i acc S → it.get S i = some (xs[i]?.map (w i))) (hl : xs.length < 100000)
    (step : ∀ i d acc S, xs[i]? = some d → I i acc S → acc.length ≤ i → W (f (w i d) S) (fun o S1 => match o with
      | some y => I (i + 1) (acc ++ [y]) S1
      | none => I (i + 1) acc S1) noX) (stop : ∀ acc S, I xs.length acc S → Q acc S) :
    ∀ (m i : Nat) (acc : List D) (S : Store), xs.length < i + m → i ≤ xs.length → acc.length ≤ i → I i acc S → W (compF it f m i acc S) Q noX
  | 0, i, acc, S, h1, h2, _, _ => absurd h1 (by omega)
  | m + 1, i, acc, S, h1, h2, h3, hI => by
    have hg' := hg i acc S hI
    unfold compF
    rw [hg']
    cases e : xs[i]? with
    | none =>
      have : xs.length ≤ i := List.getElem?_eq_none_iff.mp e
      have e2 : i = xs.length := by omega
      subst e2
      exact ⟨stop _ _ hI⟩
    | some d =>
      have lt : i < xs.length := (List.getElem?_eq_some_iff.mp e).1
      have st := (step i d acc S e hI h3).out
      show W (match f (w i d) S with
        | .ok (some y) S1 => if acc.length < 16777216 then compF it f m (i + 1) (acc ++ [y]) S1 else .bad
        | .ok none S1 => compF it f m (i + 1) acc S1
        | _ => .bad) Q noX
      cases q : f (w i d) S with
      | ok o S1 =>
        rw [q] at st
        cases o with
        | some y =>
          show W (if acc.length < 16777216 then _ else _) _ _
          rw [if_pos (by omega)]
          exact compF_inv I hg hl step stop m (i + 1) (acc ++ [y]) S1 (by omega) (by omega) (by rw [List.length_append, List.length_singleton]; omega) st
        | none => exact compF_inv I hg hl step stop m (i + 1) acc S1 (by omega) (by omega) (by omega) st
      | exc x S1 => rw [q] at st; exact st.elim
      | bad => rw [q] at st; exact st.elim
theorem Cf_invG {f : D → Store → Out (Option D)} {QL : List D → Store → Prop} {xs : List D} (w : Nat → D → D) (I : Nat → List D → Store → Prop) (hg : ∀ i acc S, I i acc S → it.get S i = some (xs[i]?.map (w i))) (hl : xs.length < 100000) (h0 : I 0 [] S)
    (step : ∀ i d acc S, xs[i]? = some d → I i acc S → acc.length ≤ i → W (f (w i d) S) (fun o S1 => match o with
      | some y => I (i + 1) (acc ++ [y]) S1
      | none => I (i + 1) acc S1) noX) (stop : ∀ acc S, I xs.length acc S → QL acc S) : CfP it f S QL :=
  ⟨compF_inv I hg hl step stop 100000 0 [] S (by omega) (Nat.zero_le _) (Nat.zero_le _) h0⟩
theorem Cf_invR {f : D → Store → Out (Option D)} {QL : List D → Store → Prop} {xs ys : List D} {l : Nat} (I : Nat → List D → Store → Prop) (hg : ∀ i acc S, I i acc S → S[l]? = some (.lst xs)) (hl : xs.length < 100000) (h0 : I 0 [] S)
    (step : ∀ i d acc S, xs[i]? = some d → I i acc S → acc.length ≤ i → W (f d S) (fun o S1 => match o with
      | some y => I (i + 1) (acc ++ [y]) S1
      | none => I (i + 1) acc S1) noX) (stop : ∀ acc S, I xs.length acc S → QL acc S) : CfP ⟨ys, some l, false⟩ f S QL :=
  Cf_invG (fun _ d => d) I (fun i acc S h => by show (match S[l]? with | some (.lst xs) => some (xs[i]?.map (wrapI false i)) | _ => none) = _; rw [hg i acc S h]; rfl) hl h0 step stop
theorem Cf_invRE {f : D → Store → Out (Option D)} {QL : List D → Store → Prop} {xs ys : List D} {l : Nat} (I : Nat → List D → Store → Prop) (hg : ∀ i acc S, I i acc S → S[l]? = some (.lst xs)) (hl : xs.length < 100000) (h0 : I 0 [] S)
    (step : ∀ i d acc S, xs[i]? = some d → I i acc S → acc.length ≤ i → W (f (.tup [.int (i : Nat), d]) S) (fun o S1 => match o with
      | some y => I (i + 1) (acc ++ [y]) S1
      | none => I (i + 1) acc S1) noX) (stop : ∀ acc S, I xs.length acc S → QL acc S) : CfP ⟨ys, some l, true⟩ f S QL :=
  Cf_invG (wrapI true) I (fun i acc S h => by show (match S[l]? with | some (.lst xs) => some (xs[i]?.map (wrapI true i)) | _ => none) = _; rw [hg i acc S h]) hl h0 step stop
theorem Cf_invW {f : D → Store → Out (Option D)} {QL : List D → Store → Prop} (I : Nat → List D → Store → Prop) (hl : it.xs.length < 100000) (h0 : I 0 [] S)
    (step : ∀ i d acc S, it.xs[i]? = some d → I i acc S → acc.length ≤ i → W (f (wrapI it.enum i d) S) (fun o S1 => match o with
      | some y => I (i + 1) (acc ++ [y]) S1
      | none => I (i + 1) acc S1) noX) (stop : ∀ acc S, I it.xs.length acc S → QL acc S) (ha : it.at_ = none := by rfl) : CfP it f S QL :=
  Cf_invG (wrapI it.enum) I (fun i acc S _ => by unfold Items.get; rw [ha]) hl h0 step stop
theorem Cf_inv {f : D → Store → Out (Option D)} {QL : List D → Store → Prop} (I : Nat → List D → Store → Prop) (hl : it.xs.length < 100000) (h0 : I 0 [] S)
    (step : ∀ i d acc S, it.xs[i]? = some d → I i acc S → acc.length ≤ i → W (f d S) (fun o S1 => match o with
      | some y => I (i + 1) (acc ++ [y]) S1
      | none => I (i + 1) acc S1) noX) (stop : ∀ acc S, I it.xs.length acc S → QL acc S) (ha : it.at_ = none := by rfl) (he : it.enum = false := by rfl) : CfP it f S QL :=
  Cf_invW I hl h0 (fun i d acc S h hI ha => by rw [he]; exact step i d acc S h hI ha) stop ha
theorem Cf_invE {f : D → Store → Out (Option D)} {QL : List D → Store → Prop} {xs : List D} (I : Nat → List D → Store → Prop) (hl : xs.length < 100000) (h0 : I 0 [] S)
    (step : ∀ i d acc S, xs[i]? = some d → I i acc S → acc.length ≤ i → W (f (.tup [.int (i : Nat), d]) S) (fun o S1 => match o with
      | some y => I (i + 1) (acc ++ [y]) S1
      | none => I (i + 1) acc S1) noX) (stop : ∀ acc S, I xs.length acc S → QL acc S) : CfP ⟨xs, none, true⟩ f S QL := Cf_invW (it := ⟨xs, none, true⟩) I hl h0 step stop
/-- names forgotten ahead of a comprehension's turn -/
structure WpP (σ : Env) (is : List Nat) (q : Env → Prop) : Prop where
  out : q (wipeE σ is)
theorem Wp_0 {q : Env → Prop} (h : q σ) : WpP σ [] q := ⟨h⟩
theorem Wp_s {i : Nat} {is : List Nat} {q : Env → Prop} (h : WpP σ is fun σ1 => SnP σ1 i q) : WpP σ (i :: is) q := ⟨h.out.out⟩
theorem Sn_0 {o : Option D} {q : Env → Prop} (h : q (none :: σ)) : SnP (o :: σ) 0 q := ⟨h⟩
theorem Sn_s {i : Nat} {o : Option D} {q : Env → Prop} (h : SnP σ i fun σ1 => q (o :: σ1)) : SnP (o :: σ) (i + 1) q := ⟨h.out⟩
/-- one turn of a comprehension -/
theorem Ct_mk {bd : Env → D → Option Env} {a : XE} {is : List Nat} {d : D} {Q : Option D → Store → Prop} (h : WpP σ is fun σ0 => BdP bd σ0 d fun σ1 => G a σ1 S (fun y S1 => Q (some y) S1) noX) : W (match bd (wipeE σ is) d with
    | some σ2 => (a σ2 S).bind fun y S3 => .ok (some y) S3
    | none => .bad) Q noX := by
  obtain ⟨σ1, e, h⟩ := h.out.out
  rw [e]
  exact .bind (h.out.post fun _ _ h => ⟨h⟩)
theorem Ct_mk1 {bd : Env → D → Option Env} {a : XE} {t : XT} {is : List Nat} {d : D} {Q : Option D → Store → Prop} (h : WpP σ is fun σ0 => BdP bd σ0 d fun σ1 => G t σ1 S (fun k S1 => Br k (G a σ1 S1 (fun y S2 => Q (some y) S2) noX) (Q none S1)) noX) : W (match bd (wipeE σ is) d with
    | some σ2 => (t σ2 S).bind fun k S3 => if k = true then (a σ2 S3).bind fun y S4 => .ok (some y) S4 else .ok none S3
    | none => .bad) Q noX := by
  obtain ⟨σ1, e, h⟩ := h.out.out
  rw [e]
  exact .bind (h.out.post fun _ _ h => (h.imp (fun h => W.bind (f := fun y S4 => Out.ok (some y) S4) (Q := Q) (h.out.post fun _ _ h => ⟨h⟩)) fun h => (⟨h⟩ : W (.ok none _) Q noX)).w)
end
/-! ### equality of plain data -/
mutual
def pln : D → Bool
  | .non => true
  | .int _ => true
  | .str _ => true
  | .tup xs => plns xs
  | .lst xs => plns xs
  | _ => false
def plns : List D → Bool
  | [] => true
  | x :: xs => pln x && plns xs
end
mutual
theorem eqv_pln : ∀ (x y : D) (a b : PyData), pln x = true → pln y = true → toPy x = some a → toPy y = some b → (PyData.eqv a b = true ↔ x = y)
  | x, y, a, b, hx, hy, ha, hb => by
    cases x with
    | bl => simp [pln] at hx
    | ref => simp [pln] at hx
    | non =>
      simp only [toPy, Option.some.injEq] at ha; subst ha
      cases y with
      | bl => simp [pln] at hy
      | ref => simp [pln] at hy
      | non => simp only [toPy, Option.some.injEq] at hb; subst hb; simp [PyData.eqv]
      | int => simp only [toPy, Option.some.injEq] at hb; subst hb; simp [PyData.eqv]
      | str => simp only [toPy, Option.some.injEq] at hb; subst hb; simp [PyData.eqv]
      | tup ys => simp only [toPy] at hb; split at hb <;> cases hb; simp [PyData.eqv]
      | lst ys => simp only [toPy] at hb; split at hb <;> cases hb; simp [PyData.eqv]
    | int i =>
      simp only [toPy, Option.some.injEq] at ha; subst ha
      cases y with
      | bl => simp [pln] at hy
      | ref => simp [pln] at hy
      | non => simp only [toPy, Option.some.injEq] at hb; subst hb; simp [PyData.eqv]
      | int => simp only [toPy, Option.some.injEq] at hb; subst hb; simp [PyData.eqv]
      | str => simp only [toPy, Option.some.injEq] at hb; subst hb; simp [PyData.eqv]
      | tup ys => simp only [toPy] at hb; split at hb <;> cases hb; simp [PyData.eqv]
      | lst ys => simp only [toPy] at hb; split at hb <;> cases hb; simp [PyData.eqv]
    | str i =>
      simp only [toPy, Option.some.injEq] at ha; subst ha
      cases y with
      | bl => simp [pln] at hy
      | ref => simp [pln] at hy
      | non => simp only [toPy, Option.some.injEq] at hb; subst hb; simp [PyData.eqv]
      | int => simp only [toPy, Option.some.injEq] at hb; subst hb; simp [PyData.eqv]
      | str => simp only [toPy, Option.some.injEq] at hb; subst hb; simp [PyData.eqv]
      | tup ys => simp only [toPy] at hb; split at hb <;> cases hb; simp [PyData.eqv]
      | lst ys => simp only [toPy] at hb; split at hb <;> cases hb; simp [PyData.eqv]
    | tup xs =>
      simp only [toPy] at ha; split at ha <;> cases ha
      rename_i as ea
      cases y with
      | bl => simp [pln] at hy
      | ref => simp [pln] at hy
      | non => simp only [toPy, Option.some.injEq] at hb; subst hb; simp [PyData.eqv]
      | int => simp only [toPy, Option.some.injEq] at hb; subst hb; simp [PyData.eqv]
      | str => simp only [toPy, Option.some.injEq] at hb; subst hb; simp [PyData.eqv]
      | tup ys =>
        simp only [toPy] at hb; split at hb <;> cases hb
        rename_i bs eb
        rw [PyData.eqv, eqvs_pln xs ys as bs (by simpa [pln] using hx) (by simpa [pln] using hy) ea eb]
        simp
      | lst ys => simp only [toPy] at hb; split at hb <;> cases hb; simp [PyData.eqv]
    | lst xs =>
      simp only [toPy] at ha; split at ha <;> cases ha
      rename_i as ea
      cases y with
      | bl => simp [pln] at hy
      | ref => simp [pln] at hy
      | non => simp only [toPy, Option.some.injEq] at hb; subst hb; simp [PyData.eqv]
      | int => simp only [toPy, Option.some.injEq] at hb; subst hb; simp [PyData.eqv]
      | str => simp only [toPy, Option.some.injEq] at hb; subst hb; simp [PyData.eqv]
      | lst ys =>
        simp only [toPy] at hb; split at hb <;> cases hb
        rename_i bs eb
        rw [PyData.eqv, eqvs_pln xs ys as bs (by simpa [pln] using hx) (by simpa [pln] using hy) ea eb]
        simp
      | tup ys => simp only [toPy] at hb; split at hb <;> cases hb; simp [PyData.eqv]
theorem eqvs_pln : ∀ (xs ys : List D) (as bs : List PyData), plns xs = true → plns ys = true → toPys xs = some as → toPys ys = some bs → (PyData.eqvAll as bs = true ↔ xs = ys)
  | [], [], as, bs, _, _, ha, hb => by
    simp only [toPys, Option.some.injEq] at ha hb
    subst ha hb
    simp [PyData.eqvAll]
  | [], y :: ys, as, bs, _, _, ha, hb => by
    simp only [toPys] at ha hb
    split at hb <;> cases hb
    cases ha
    simp [PyData.eqvAll]
  | x :: xs, [], as, bs, _, _, ha, hb => by
    simp only [toPys] at ha hb
    split at ha <;> cases ha
    cases hb
    simp [PyData.eqvAll]
  | x :: xs, y :: ys, as, bs, hx, hy, ha, hb => by
    simp only [toPys] at ha hb
    split at ha <;> cases ha
    split at hb <;> cases hb
    rename_i _ _ a as ea eas _ _ b bs eb ebs
    simp only [plns, Bool.and_eq_true] at hx hy
    rw [PyData.eqvAll, Bool.and_eq_true, eqv_pln x y a b hx.1 hy.1 ea eb, eqvs_pln xs ys as bs hx.2 hy.2 eas ebs]
    simp
end
/-- may be compared -/
def EqOk (S : Store) (x : D) : Prop := pln x = true ∧ ∃ a, toPy x = some a ∧ SeqAt.shaped a = true
mutual
/-- plain data of so much depth at most -/
def fine : Nat → D → Bool
  | _, .non => true
  | _, .int _ => true
  | _, .str x => PyData.strOk x
  | n + 1, .tup xs => fines n xs
  | n + 1, .lst xs => fines n xs
  | _, _ => false
def fines : Nat → List D → Bool
  | _, [] => true
  | n, x :: xs => fine n x && fines n xs
end
mutual
theorem fine_ok : ∀ (n : Nat) (x : D), fine n x = true → pln x = true ∧ ∃ a, toPy x = some a ∧ a.canLay0 = true ∧ a.depth ≤ n
  | n, .non, _ => ⟨rfl, _, rfl, rfl, Nat.zero_le _⟩
  | n, .int _, _ => ⟨rfl, _, rfl, rfl, Nat.zero_le _⟩
  | n, .str x, h => ⟨rfl, _, rfl, by simpa [fine, PyData.canLay0] using h, Nat.zero_le _⟩
  | n, .bl _, h => by cases n <;> simp [fine] at h
  | n, .ref _, h => by cases n <;> simp [fine] at h
  | 0, .tup _, h => by simp [fine] at h
  | 0, .lst _, h => by simp [fine] at h
  | n + 1, .tup xs, h => by
    obtain ⟨h1, as, h2, h3, h4⟩ := fines_ok n xs (by simpa [fine] using h)
    exact ⟨by simpa [pln] using h1, .tuple as, by simp [toPy, h2], by simpa [PyData.canLay0] using h3, by simp only [PyData.depth]; omega⟩
  | n + 1, .lst xs, h => by
    obtain ⟨h1, as, h2, h3, h4⟩ := fines_ok n xs (by simpa [fine] using h)
    exact ⟨by simpa [pln] using h1, .list as, by simp [toPy, h2], by simpa [PyData.canLay0] using h3, by simp only [PyData.depth]; omega⟩
theorem fines_ok : ∀ (n : Nat) (xs : List D), fines n xs = true → plns xs = true ∧ ∃ as, toPys xs = some as ∧ PyData.canLayAll0 as = true ∧ PyData.depthAll as ≤ n
  | n, [], _ => ⟨rfl, [], rfl, rfl, Nat.zero_le _⟩
  | n, x :: xs, h => by
    rw [fines, Bool.and_eq_true] at h
    obtain ⟨p1, a, p2, p3, p4⟩ := fine_ok n x h.1
    obtain ⟨q1, as, q2, q3, q4⟩ := fines_ok n xs h.2
    exact ⟨by simp [plns, p1, q1], a :: as, by simp [toPys, p2, q2], by simp [PyData.canLayAll0, p3, q3], by simp only [PyData.depthAll]; omega⟩
end
theorem fines_all {n : Nat} : ∀ {xs : List D}, (∀ x ∈ xs, fine n x = true) → fines n xs = true
  | [], _ => rfl
  | x :: xs, h => by rw [fines, h x (List.mem_cons_self ..), fines_all fun y hy => h y (List.mem_cons_of_mem _ hy)]; rfl
theorem EqOk.of {S : Store} {x : D} {n : Nat} (h : fine n x = true) (hn : n ≤ 64) : EqOk S x := by
  obtain ⟨h1, a, h2, h3, h4⟩ := fine_ok n x h
  refine ⟨h1, a, h2, ?_⟩
  unfold SeqAt.shaped
  rw [h3, decide_eq_true (by omega)]; rfl
theorem res_pln {S : Store} : ∀ (n : Nat) (x : D), pln x = true → res n S x = x
  | 0, _, _ => rfl
  | n + 1, .non, _ => rfl
  | n + 1, .int _, _ => rfl
  | n + 1, .str _, _ => rfl
  | n + 1, .bl _, _ => rfl
  | n + 1, .ref _, h => by simp [pln] at h
  | n + 1, .tup xs, h => by
    have h' : plns xs = true := by simpa [pln] using h
    clear h
    rw [res]
    congr 1
    induction xs with
    | nil => rfl
    | cons x xs ih =>
      rw [plns, Bool.and_eq_true] at h'
      rw [List.map_cons, res_pln n x h'.1, ih h'.2]
  | n + 1, .lst xs, h => by
    have h' : plns xs = true := by simpa [pln] using h
    clear h
    rw [res]
    congr 1
    induction xs with
    | nil => rfl
    | cons x xs ih =>
      rw [plns, Bool.and_eq_true] at h'
      rw [List.map_cons, res_pln n x h'.1, ih h'.2]
theorem toPyS_pln {S : Store} {x : D} (h : pln x = true) : toPyS S x = toPy x := by
  unfold toPyS
  rw [res_pln 8 x h]
theorem eqD_pln {S : Store} {x y : D} (hx : EqOk S x) (hy : EqOk S y) : ∃ b, eqD S x y = some b ∧ (b = true ↔ x = y) := by
  obtain ⟨p1, a, e1, s1⟩ := hx
  obtain ⟨p2, b, e2, s2⟩ := hy
  refine ⟨PyData.eqv a b, ?_, eqv_pln x y a b p1 p2 e1 e2⟩
  unfold eqD
  rw [toPyS_pln p1, toPyS_pln p2, e1, e2]
  simp only [s1, s2, and_self, ↓reduceIte]
theorem Cp_eq {S : Store} {x y : D} {PB : Bool → Prop} (hx : EqOk S x) (hy : EqOk S y) (h1 : x = y → PB true) (h2 : x ≠ y → PB false) : Cp S .Eq x y PB := by
  obtain ⟨b, e, h⟩ := eqD_pln hx hy
  refine ⟨⟨b, e, ?_⟩⟩
  cases b with
  | true => exact h1 (h.mp rfl)
  | false => exact h2 fun z => by cases h.mpr z
theorem Cp_ne {S : Store} {x y : D} {PB : Bool → Prop} (hx : EqOk S x) (hy : EqOk S y) (h1 : x = y → PB false) (h2 : x ≠ y → PB true) : Cp S .NotEq x y PB := by
  obtain ⟨b, e, h⟩ := eqD_pln hx hy
  refine ⟨⟨!b, by show (eqD S x y).map _ = _; rw [e]; rfl, ?_⟩⟩
  cases b with
  | true => exact h1 (h.mp rfl)
  | false => exact h2 fun z => by cases h.mpr z
section
variable {S : Store} {Q : D → Prop} {xs : List D} {l : Nat} {k : Int} {x : D}
theorem seqO_ref (e : S[l]? = some (.lst xs)) : seqO S (.ref l) = some xs := by
  show (match S[l]? with | some (.lst xs) => some xs | _ => none) = _
  rw [e]
theorem Ix_ref (e : S[l]? = some (.lst xs)) (e2 : L2.atI xs k = some x) (h : Q x) : IxP S (.ref l) (.int k) Q :=
  ⟨⟨x, by
    have e3 : dicOf S (.ref l) = none := by
      show (match S[l]? with | some (.dic kvs) => some kvs | _ => none) = _
      rw [e]
    unfold ixD
    rw [e3]
    show (match seqO S (.ref l) with | some xs => L2.atI xs k | none => none) = _
    rw [seqO_ref e]; exact e2, h⟩⟩
theorem dicOf_ref {kvs : List (L2.Key × D)} (e : S[l]? = some (.dic kvs)) : dicOf S (.ref l) = some kvs := by
  show (match S[l]? with | some (.dic kvs) => some kvs | _ => none) = _
  rw [e]
theorem dicOf_lst (e : S[l]? = some (.lst xs)) : dicOf S (.ref l) = none := by
  show (match S[l]? with | some (.dic kvs) => some kvs | _ => none) = _
  rw [e]
theorem Ix_key {kvs : List (L2.Key × D)} {y : D} {kk : L2.Key} (e : S[l]? = some (.dic kvs)) (ek : keyD y = some kk) (e2 : valG kvs kk = some x) (h : Q x) : IxP S (.ref l) y Q :=
  ⟨⟨x, by unfold ixD; rw [dicOf_ref e, ek]; exact e2, h⟩⟩
theorem Sd_key {kvs : List (L2.Key × D)} {y v : D} {kk : L2.Key} {q : Store → Prop} (e : S[l]? = some (.dic kvs)) (ek : keyD y = some kk) (hl : kvs.length < 16777216) (h : q (S.set l (.dic (putG kvs kk v)))) : SdP S (.ref l) y v q :=
  ⟨⟨_, by unfold setD; rw [dicOf_ref e, ek]; exact if_pos hl, h⟩⟩
theorem Sd_ref {j : Nat} {v : D} {q : Store → Prop} (e : S[l]? = some (.lst xs)) (e2 : L2.ixN xs.length k = some j) (h : ∀ S', S'[l]? = some (.lst (xs.set j v)) → S'.length = S.length → (∀ i, i ≠ l → S'[i]? = S[i]?) → q S') : SdP S (.ref l) (.int k) v q := by
  refine ⟨⟨S.set l (.lst (xs.set j v)), ?_, h _ ?_ (by simp) fun i hi => by rw [List.getElem?_set_ne (Ne.symm hi)]⟩⟩
  · have e3 : dicOf S (.ref l) = none := by
      show (match S[l]? with | some (.dic kvs) => some kvs | _ => none) = _
      rw [e]
    unfold setD
    rw [e3]
    show (match S[l]? with | some (.lst xs) => (match L2.ixN xs.length k with | some j => some (S.set l (.lst (xs.set j v))) | none => none) | _ => none) = _
    rw [e]
    show (match L2.ixN xs.length k with | some j => some (S.set l (.lst (xs.set j v))) | none => none) = _
    rw [e2]
  · rw [List.getElem?_set_self (List.getElem?_eq_some_iff.mp e).1]
theorem Mt_app {y : D} {QD : D → Store → Prop} (e : S[l]? = some (.lst xs)) (hl : xs.length < 16777216) (h : ∀ S', S'[l]? = some (.lst (xs ++ [y])) → S'.length = S.length → (∀ i, i ≠ l → S'[i]? = S[i]?) → QD .non S') : MtP S .append (.ref l) [y] QD := by
  refine ⟨⟨.non, S.set l (.lst (xs ++ [y])), ?_, h _ ?_ (by simp) fun i hi => by rw [List.getElem?_set_ne (Ne.symm hi)]⟩⟩
  · show (match S[l]? with | some (.lst ys) => if ys.length < 16777216 then some (D.non, S.set l (.lst (ys ++ [y]))) else none | _ => none) = _
    rw [e]
    exact if_pos hl
  · rw [List.getElem?_set_self (List.getElem?_eq_some_iff.mp e).1]
theorem seqL_ref (e : S[l]? = some (.lst xs)) : seqL S (.ref l) = some xs := by
  show (match S[l]? with | some (.lst xs) => some xs | _ => none) = _
  rw [e]
theorem seqL_dic {kvs : List (L2.Key × D)} (e : S[l]? = some (.dic kvs)) : seqL S (.ref l) = none := by
  show (match S[l]? with | some (.lst xs) => some xs | _ => none) = _
  rw [e]
theorem Md_app {q : MId → Prop} (e : S[l]? = some (.lst xs)) (h : q .append) : MdP S (.ref l) "append" q :=
  ⟨⟨.append, by simp only [mIdD, seqL_ref e]; rfl, h⟩⟩
theorem Md_pop {q : MId → Prop} (e : S[l]? = some (.lst xs)) (h : q .pop) : MdP S (.ref l) "pop" q :=
  ⟨⟨.pop, by simp only [mIdD, seqL_ref e]; rfl, h⟩⟩
theorem Md_get {kvs : List (L2.Key × D)} {q : MId → Prop} (e : S[l]? = some (.dic kvs)) (h : q .get) : MdP S (.ref l) "get" q :=
  ⟨⟨.get, by simp only [mIdD, seqL_dic e, dicOf_ref e]; rfl, h⟩⟩
theorem Md_split {z : Str} {q : MId → Prop} (h : q .split) : MdP S (.str z) "split" q := ⟨⟨_, rfl, h⟩⟩
theorem Md_join {z : Str} {q : MId → Prop} (h : q .join) : MdP S (.str z) "join" q := ⟨⟨_, rfl, h⟩⟩
theorem Md_idx {q : MId → Prop} (h : q .index) : MdP S (.lst xs) "index" q := ⟨⟨_, rfl, h⟩⟩
theorem Mt_split {a b : Str} {QD : D → Store → Prop} (hb : (b.length == 0) = false ∧ a.length + 2 ≤ 16777216) (h : QD (.lst ((Txt.split a b).map D.str)) S) : MtP S .split (.str a) [.str b] QD :=
  ⟨⟨_, _, by simp only [mthD, if_pos hb], h⟩⟩
theorem strs_map : ∀ zs : List Str, strsOf (zs.map D.str) = some zs
  | [] => rfl
  | z :: zs => by simp only [List.map_cons, strsOf, strs_map zs]
theorem Mt_join {a : Str} {zs : List Str} {QD : D → Store → Prop} (hb : (zs.map (·.length)).sum + zs.length * a.length ≤ 16777216) (h : QD (.str (Txt.join a zs)) S) : MtP S .join (.str a) [.lst (zs.map D.str)] QD :=
  ⟨⟨_, _, by simp only [mthD, seqO, seqL, strs_map, if_pos hb], h⟩⟩
theorem Is_ref {t : Str} {PB : Bool → Prop} (e : S[l]? = some (.lst xs)) (h : PB (t == "list")) : IsP S (.ref l) t PB :=
  ⟨⟨_, by show (match S[l]? with | some (.lst _) => some (t == "list") | some (.dic _) => some (t == "dict") | _ => none) = _; rw [e], h⟩⟩
theorem Bs_lenr (e : S[l]? = some (.lst xs)) (h : Q (.int xs.length)) : BsP S .len [.ref l] Q :=
  ⟨⟨_, by show (match seqO S (.ref l) with | some xs => some (D.int xs.length) | none => none) = _; rw [seqO_ref e], h⟩⟩
theorem Bs_tupr (e : S[l]? = some (.lst xs)) (h : Q (.tup xs)) : BsP S .tuple [.ref l] Q :=
  ⟨⟨_, by show (match seqO S (.ref l) with | some ys => some (D.tup ys) | none => none) = _; rw [seqO_ref e], h⟩⟩
theorem Bs_lsr (e : S[l]? = some (.lst xs)) (h : Q (.lst xs)) : BsP S .list [.ref l] Q :=
  ⟨⟨_, by show (match seqO S (.ref l) with | some ys => some (D.lst ys) | none => none) = _; rw [seqO_ref e], h⟩⟩
theorem Sl_lst {lo hi : Option Int} (h : Q (.lst (cut xs lo hi))) : SlP S (.lst xs) lo hi Q := ⟨⟨_, rfl, h⟩⟩
theorem Sl_tup {lo hi : Option Int} (h : Q (.tup (cut xs lo hi))) : SlP S (.tup xs) lo hi Q := ⟨⟨_, rfl, h⟩⟩
/-- what a def hands back of its own store -/
theorem Fn_own {n : Nat} {d : D} {S' : Store} {QD : D → Store → Prop} {E : EX} (hl : n < S'.length) (hb : (S'.take n).all (obBelow n) = true) (h1 : below n d = true → QD d (S'.take n)) (h2 : below n d = false → QD d S') : FnP false n d S' QD E := by
  refine ⟨?_⟩
  rw [fin_eq, if_neg (by omega)]
  show W (if (below n d && (S'.take n).all (obBelow n)) = true then .ok d (S'.take n) else .ok d S') QD E
  rw [hb, Bool.and_true]
  cases e : below n d with
  | true => exact ⟨h1 e⟩
  | false => exact ⟨h2 e⟩
end
theorem log_lt {n : Int} {k : Nat} (hk : 0 < k) (h : n.natAbs < 2 ^ k) : n.natAbs.log2 < k := by
  by_cases h0 : n.natAbs = 0
  · rw [h0]; simpa using hk
  · exact (Nat.log2_lt h0).mpr h
theorem mul_ok {n m : Int} {i j : Nat} (h1 : n.natAbs < 2 ^ i) (h2 : m.natAbs < 2 ^ j) (h3 : 0 < i ∧ 0 < j ∧ i + j ≤ 1000000) : n.natAbs.log2 + m.natAbs.log2 < 1000000 := by
  have := log_lt h3.1 h1
  have := log_lt h3.2.1 h2
  omega
section
variable {S : Store} {Q : D → Prop} {n m : Int}
theorem Bn_mulS (h1 : -1000000000000000000000000000000 < n ∧ n < 1000000000000000000000000000000) (h2 : -1000000000000000000000000000000 < m ∧ m < 1000000000000000000000000000000) (h : Q (.int (n * m))) : Bn S .Mult (.int n) (.int m) Q :=
  Bn_mul (mul_ok (i := 100) (j := 100) (by omega) (by omega) (by decide)) h
theorem Bn_fdivS (h1 : 0 < m) (h2 : m < 1000000000000000000000000000000) (h : Q (.int (n / m))) : Bn S .FloorDiv (.int n) (.int m) Q :=
  Bn_fdiv ⟨h1, Nat.lt_trans (log_lt (k := 100) (by decide) (by omega)) (by decide)⟩ h
end
section
variable {S : Store} {Q : D → Prop} {xs : List D} {k n m : Int}
/-- one of these, by a number that is not known -/
theorem Ix_pick (P : D → Prop) (h0 : 0 ≤ k) (h1 : k < xs.length) (ha : ∀ d ∈ xs, P d) (h : ∀ d, P d → Q d) : IxP S (.lst xs) (.int k) Q :=
  Ix_lst h0 h1 fun d e => h d (ha d (List.mem_of_getElem? e))
theorem Ix_pickT (P : D → Prop) (h0 : 0 ≤ k) (h1 : k < xs.length) (ha : ∀ d ∈ xs, P d) (h : ∀ d, P d → Q d) : IxP S (.tup xs) (.int k) Q :=
  Ix_tup h0 h1 fun d e => h d (ha d (List.mem_of_getElem? e))
theorem Bn_powC {v : Int} (hb : 0 ≤ m ∧ m ≤ 1000000 ∧ n.natAbs < 2 ^ 64) (e : n ^ m.toNat = v) (h : Q (.int v)) : Bn S .Pow (.int n) (.int m) Q := Bn_pow hb (by rw [e]; exact h)
theorem Fn_ref {l i : Nat} {S' : Store} {QD : D → Store → Prop} {E : EX} (h1 : i ≤ l) (h2 : i < S'.length) (h : QD (.ref l) S') : FnP false i (.ref l) S' QD E := by
  refine ⟨?_⟩
  rw [fin_eq, if_neg (by omega)]
  show W (if (below i (.ref l) && (S'.take i).all (obBelow i)) = true then .ok (.ref l) (S'.take i) else .ok (.ref l) S') QD E
  have : below i (.ref l) = false := decide_eq_false (by omega)
  rw [this, Bool.false_and]
  exact ⟨h⟩
theorem Fn_law {b : Bool} {S' : Store} {QD : D → Store → Prop} {E : EX} (h : ∀ S, QD (.bl b) S) : FnP false 0 (.bl b) S' QD E := by
  refine ⟨?_⟩
  rw [fin_eq]
  split
  · exact ⟨h _⟩
  · split <;> exact ⟨h _⟩
theorem law_true {φ : Fn} {ns : List Int} (h : W (φ [.lst (ns.map D.int)] []) (fun d _ => d = .bl true) noX) : ∃ S, φ [.lst (ns.map D.int)] [] = .ok (.bl true) S := by
  obtain ⟨h⟩ := h
  cases e : φ [.lst (ns.map D.int)] [] with
  | ok d S => rw [e] at h; exact ⟨S, by rw [show d = .bl true from h]⟩
  | exc => rw [e] at h; exact h.elim
  | bad => rw [e] at h; exact h.elim
theorem cut_mem {α : Type} {xs : List α} {lo hi : Option Int} {d : α} (h : d ∈ cut xs lo hi) : d ∈ xs := List.mem_of_mem_drop (List.mem_of_mem_take h)
theorem cut_len {α : Type} {xs : List α} {lo hi : Option Int} : (cut xs lo hi).length ≤ xs.length := by
  unfold cut
  rw [List.length_take, List.length_drop]
  omega
end
/-! ### lists, wherever they stand -/
section
variable {S : Store} {d x : D} {xs : List D} {Q : D → Prop} {PB : Bool → Prop} {k : Int}
theorem seqL_two (e : seqL S d = some xs) : d = .lst xs ∨ ∃ l, d = .ref l ∧ S[l]? = some (.lst xs) := by
  cases d with
  | lst ys => cases e; exact .inl rfl
  | ref l =>
    refine .inr ⟨l, rfl, ?_⟩
    have e : (match S[l]? with | some (.lst xs) => some xs | _ => none) = some xs := e
    cases q : S[l]? with
    | none => rw [q] at e; cases e
    | some o =>
      rw [q] at e
      cases o with
      | lst ys => cases e; rfl
      | _ => cases e
  | _ => cases e
theorem seqL_seqO (e : seqL S d = some xs) : seqO S d = some xs := by
  rcases seqL_two e with rfl | ⟨l, rfl, h⟩
  · rfl
  · exact seqO_ref h
theorem Bs_lenq (e : seqL S d = some xs) (h : Q (.int xs.length)) : BsP S .len [d] Q := by
  rcases seqL_two e with rfl | ⟨l, rfl, z⟩
  · exact Bs_len h
  · exact Bs_lenr z h
theorem Bs_lstq (e : seqL S d = some xs) (h : Q (.lst xs)) : BsP S .list [d] Q := by
  rcases seqL_two e with rfl | ⟨l, rfl, z⟩
  · exact Bs_by (x := .lst xs) rfl h
  · exact ⟨⟨.lst xs, by show listD S (.ref l) = _; simp only [listD, seqO_ref z], h⟩⟩
theorem Is_lstq {t : Str} (e : seqL S d = some xs) (h : PB (t == "list")) : IsP S d t PB := by
  rcases seqL_two e with rfl | ⟨l, rfl, z⟩
  · exact Is_by rfl h
  · exact Is_ref z h
theorem Rv_tup (h : Q (.tup xs.reverse)) : RvP S (.tup xs) Q := ⟨⟨_, rfl, h⟩⟩
theorem Rv_q (e : seqL S d = some xs) (h : Q (.lst xs.reverse)) : RvP S d Q := ⟨⟨_, by unfold revD; rw [e], h⟩⟩
theorem Sl_q {lo hi : Option Int} (e : seqL S d = some xs) (h : Q (.lst (cut xs lo hi))) : SlP S d lo hi Q := by
  rcases seqL_two e with rfl | ⟨l, rfl, z⟩
  · exact Sl_lst h
  · refine ⟨⟨_, ?_, h⟩⟩
    show (match seqL S (.ref l) with | some xs => some (D.lst (cut xs lo hi)) | none => none) = _
    rw [e]
theorem Ix_q (h0 : 0 ≤ k) (h1 : k < xs.length) (e : seqL S d = some xs) (h : ∀ y, xs[k.toNat]? = some y → Q y) : IxP S d (.int k) Q := by
  rcases seqL_two e with rfl | ⟨l, rfl, z⟩
  · exact Ix_lst h0 h1 h
  · obtain ⟨y, e1, e2⟩ := atI_nat h0 h1
    exact Ix_ref z e1 (h y e2)
theorem Tr_q (e : seqL S d = some xs) (h : PB (!xs.isEmpty)) : Tr S d PB := by
  rcases seqL_two e with rfl | ⟨l, rfl, z⟩
  · exact Tr_lst h
  · exact ⟨⟨_, by show (match seqO S (.ref l) with | some xs => some (!xs.isEmpty) | none => none) = _; rw [seqO_ref z], h⟩⟩
theorem res_q {n : Nat} (e : seqL S d = some xs) : res (n + 1) S d = .lst (xs.map (res n S)) := by
  rcases seqL_two e with rfl | ⟨l, rfl, z⟩
  · rfl
  · rw [res, z]
theorem map_res {n : Nat} : ∀ {xs : List D}, plns xs = true → xs.map (res n S) = xs
  | [], _ => rfl
  | x :: xs, h => by
    rw [plns, Bool.and_eq_true] at h
    rw [List.map_cons, res_pln n x h.1, map_res h.2]
/-- fine data in a list, wherever it stands: x in d -/
theorem any_mem {a : PyData} : ∀ {xs : List D} {as : List PyData}, plns xs = true → pln x = true → toPy x = some a → toPys xs = some as → (as.any (fun z => PyData.eqv z a) = true ↔ x ∈ xs)
  | [], as, _, _, _, h => by cases h; simp
  | y :: ys, as, hp, hx, ha, h => by
    rw [plns, Bool.and_eq_true] at hp
    simp only [toPys] at h
    cases e1 : toPy y with
    | none => rw [e1] at h; cases h
    | some b =>
      cases e2 : toPys ys with
      | none => rw [e1, e2] at h; cases h
      | some bs =>
        rw [e1, e2] at h; cases h
        rw [List.any_cons, Bool.or_eq_true, any_mem hp.2 hx ha e2, eqv_pln y x b a hp.1 hx e1 ha, List.mem_cons]
        constructor
        · rintro (h | h)
          · exact .inl h.symm
          · exact .inr h
        · rintro (h | h)
          · exact .inl h.symm
          · exact .inr h
theorem dicOf_q (e : seqL S d = some xs) : dicOf S d = none := by
  rcases seqL_two e with rfl | ⟨l, rfl, z⟩
  · rfl
  · exact dicOf_lst z
theorem inD_q {n m : Nat} (e : seqL S d = some xs) (hx : fine n x = true) (hn : n ≤ 64) (hs : fines m xs = true) (hm : m ≤ 63) : ∃ b, inD S x d = some b ∧ (b = true ↔ x ∈ xs) := by
  obtain ⟨p1, a, a1, a2, a3⟩ := fine_ok n x hx
  obtain ⟨q1, as, b1, b2, b3⟩ := fines_ok m xs hs
  have e1 : toPyS S x = some a := by rw [toPyS_pln p1]; exact a1
  have e2 : toPyS S d = some (.list as) := by
    unfold toPyS
    rw [res_q e, map_res q1, toPy, b1]
  have s1 : SeqAt.shaped a = true := by unfold SeqAt.shaped; rw [a2, decide_eq_true (by omega)]; rfl
  have s2 : SeqAt.shaped (.list as) = true := by
    unfold SeqAt.shaped
    rw [PyData.canLay0, b2, decide_eq_true (by simp only [PyData.depth]; omega)]; rfl
  refine ⟨as.any fun z => PyData.eqv z a, ?_, any_mem q1 p1 a1 b1⟩
  have e3 : inObj S x d = some (as.any fun z => PyData.eqv z a) := by
    unfold inObj
    rw [dicOf_q e]
    show inSeq S x d = _
    unfold inSeq
    rw [e1, e2]
    exact if_pos ⟨s1, s2⟩
  unfold inD
  rcases seqL_two e with rfl | ⟨l, rfl, z⟩ <;> cases x <;> exact e3
/-- == [] of what can't be laid out -/
theorem eqD_nil (e : seqL S d = some xs) (hn : xs ≠ [] → toPyS S d = none) : eqD S d (.lst []) = some xs.isEmpty := by
  unfold eqD
  cases xs with
  | nil =>
    have e1 : toPyS S d = some (.list []) := by
      unfold toPyS
      rcases seqL_two e with rfl | ⟨l, rfl, z⟩
      · rfl
      · show toPy (match S[l]? with | some (.lst xs) => D.lst (xs.map (res 7 S)) | _ => D.ref l) = _
        rw [z]; rfl
    have e2 : toPyS S (.lst []) = some (.list []) := rfl
    rw [e1, e2]
    rfl
  | cons x t =>
    rw [hn (by simp)]
    show (match seqL S d, seqL S (.lst []) with | some xs, some ys => if xs.length = ys.length then none else some false | _, _ => none) = _
    rw [e]
    rfl
theorem Cp_eqnil (e : seqL S d = some xs) (hn : xs ≠ [] → toPyS S d = none) (h : PB xs.isEmpty) : Cp S .Eq d (.lst []) PB := ⟨⟨_, eqD_nil e hn, h⟩⟩
theorem Cp_nenil (e : seqL S d = some xs) (hn : xs ≠ [] → toPyS S d = none) (h : PB (!xs.isEmpty)) : Cp S .NotEq d (.lst []) PB := ⟨⟨_, by show (eqD S d (.lst [])).map _ = _; rw [eqD_nil e hn]; rfl, h⟩⟩
theorem toPyS_recs {l : Nat} {t : List D} {kvs : List (L2.Key × D)} (e : seqL S d = some (.ref l :: t)) (g : S[l]? = some (.dic kvs)) : toPyS S d = none := by
  unfold toPyS
  rw [show (8 : Nat) = 7 + 1 from rfl]
  have r : res (7 + 1) S d = .lst ((D.ref l :: t).map (res 7 S)) := by
    rcases seqL_two e with rfl | ⟨j, rfl, z⟩
    · rfl
    · show (match S[j]? with | some (.lst xs) => D.lst (xs.map (res 7 S)) | _ => D.ref j) = _
      rw [z]
  have r2 : res 7 S (.ref l) = .ref l := by
    show (match S[l]? with | some (.lst xs) => D.lst (xs.map (res 6 S)) | _ => D.ref l) = _
    rw [g]
  rw [r, List.map_cons, r2]
  rfl
theorem Bn_catq {y : D} {ys : List D} (e1 : seqL S d = some xs) (e2 : seqL S y = some ys) (hb : xs.length + ys.length ≤ 16777216) (h : Q (.lst (xs ++ ys))) : Bn S .Add d y Q := by
  refine ⟨⟨.lst (xs ++ ys), ?_, h⟩⟩
  have c : catD S .Add d y = some (.lst (xs ++ ys)) := by
    unfold catD
    simp only [e1, e2]
    rw [if_pos ⟨by omega, by omega, hb⟩]
  rcases seqL_two e1 with rfl | ⟨l, rfl, _⟩ <;> exact c
theorem Cp_inq {n m : Nat} (e : seqL S d = some xs) (hx : fine n x = true) (hn : n ≤ 64) (hs : fines m xs = true) (hm : m ≤ 63) (h1 : x ∈ xs → PB true) (h2 : x ∉ xs → PB false) : Cp S .In x d PB := by
  obtain ⟨b, e1, h⟩ := inD_q e hx hn hs hm
  refine ⟨⟨b, e1, ?_⟩⟩
  cases b with
  | true => exact h1 (h.mp rfl)
  | false => exact h2 fun z => by cases h.mpr z
theorem Cp_ninq {n m : Nat} (e : seqL S d = some xs) (hx : fine n x = true) (hn : n ≤ 64) (hs : fines m xs = true) (hm : m ≤ 63) (h1 : x ∈ xs → PB false) (h2 : x ∉ xs → PB true) : Cp S .NotIn x d PB := by
  obtain ⟨b, e1, h⟩ := inD_q e hx hn hs hm
  refine ⟨⟨!b, by show (inD S x d).map _ = _; rw [e1]; rfl, ?_⟩⟩
  cases b with
  | true => exact h1 (h.mp rfl)
  | false => exact h2 fun z => by cases h.mpr z
end
end Q
/-! Q15: plain helpers that lean on no law: texts, names, works, lists wherever they stand. -/
namespace Q
open PySem L2
theorem range_get {j : Int} {i : Nat} {d : D} (h : (rangeD 0 j).xs[i]? = some d) : d = .int i ∧ (i : Int) < j := by
  unfold rangeD at h
  simp only [List.getElem?_map] at h
  cases e : (List.range (j - 0).toNat)[i]? with
  | none => rw [e] at h; cases h
  | some k =>
    rw [e] at h
    obtain ⟨h1, h2⟩ := List.getElem?_eq_some_iff.mp e
    rw [List.getElem_range] at h2
    simp at h1
    cases h
    refine ⟨by subst h2; simp, by omega⟩
theorem range_len {j : Int} : (rangeD 0 j).xs.length = j.toNat := by
  unfold rangeD
  simp
/-- no object names another -/
def Flat (S : Store) : Prop := ∀ (i : Nat) (o : Ob), S[i]? = some o → ∀ n : Nat, obBelow n o = true
theorem Flat.all {S : Store} (h : Flat S) (n : Nat) : (S.take n).all (obBelow n) = true := by
  rw [List.all_eq_true]
  intro o ho
  obtain ⟨i, hi⟩ := List.mem_iff_getElem?.mp (List.mem_of_mem_take ho)
  exact h i o hi n
theorem Flat.take {S : Store} (h : Flat S) (n : Nat) : Flat (S.take n) := fun i o e => by
  rw [List.getElem?_take] at e
  split at e
  · exact h i o e
  · cases e
theorem take_get {S : Store} {i n : Nat} (h : i < n) : (S.take n)[i]? = S[i]? := by rw [List.getElem?_take, if_pos h]
/-- what a def of its own objects hands back: nothing of them -/
theorem Fn_val {n : Nat} {d : D} {S' : Store} {QD : D → Store → Prop} {E : EX} (hl : n < S'.length) (hb : (S'.take n).all (obBelow n) = true) (hd : below n d = true) (h : QD d (S'.take n)) : FnP false n d S' QD E :=
  Fn_own hl hb (fun _ => h) (fun z => by rw [hd] at z; cases z)
mutual
theorem below_fine : ∀ (n : Nat) (x : D) (m : Nat), fine n x = true → below m x = true
  | _, .non, _, _ => rfl
  | _, .int _, _, _ => rfl
  | _, .str _, _, _ => rfl
  | n, .bl _, _, h => rfl
  | n, .ref _, _, h => by cases n <;> simp [fine] at h
  | 0, .tup _, _, h => by simp [fine] at h
  | 0, .lst _, _, h => by simp [fine] at h
  | n + 1, .tup xs, m, h => below_fines n xs m (by simpa [fine] using h)
  | n + 1, .lst xs, m, h => below_fines n xs m (by simpa [fine] using h)
theorem below_fines : ∀ (n : Nat) (xs : List D) (m : Nat), fines n xs = true → belows m xs = true
  | _, [], _, _ => rfl
  | n, x :: xs, m, h => by
    rw [fines, Bool.and_eq_true] at h
    rw [belows, below_fine n x m h.1, below_fines n xs m h.2]; rfl
end
def low26 (c : Nat) : Bool := decide (97 ≤ c) && decide (c ≤ 122)
theorem letters_mem (c : Nat) : decide (c ∈ (Str.ofString "abcdefghijklmnopqrstuvwxyz").cps.toList) = low26 c := by
  have e : (Str.ofString "abcdefghijklmnopqrstuvwxyz").cps.toList = (List.range 26).map (97 + ·) := by decide +kernel
  rw [e]
  unfold low26
  rw [Bool.eq_iff_iff, decide_eq_true_eq, Bool.and_eq_true, decide_eq_true_eq, decide_eq_true_eq, List.mem_map]
  constructor
  · rintro ⟨k, hk, rfl⟩
    rw [List.mem_range] at hk
    omega
  · intro h
    exact ⟨c - 97, List.mem_range.mpr (by omega), by omega⟩
theorem Cp_sign {S : Store} {c : Nat} {Q : Bool → Prop} (h : Q (low26 c)) : Cp S .In (.str ⟨#[c]⟩) (.str "abcdefghijklmnopqrstuvwxyz") Q := by
  refine ⟨⟨low26 c, ?_, h⟩⟩
  show some (!(Builtin.Str.occurrences (Str.ofString "abcdefghijklmnopqrstuvwxyz") ⟨#[c]⟩ 0 (Str.ofString "abcdefghijklmnopqrstuvwxyz").length 1).isEmpty) = _
  rw [StrLaws.found_one, letters_mem]
theorem Bs_lenS {S : Store} {a : List Nat} {Q : D → Prop} (hl : a.length ≤ 16777216) (h : Q (.int a.length)) : BsP S .len [.str (SX.S a)] Q := by
  refine ⟨⟨.int a.length, ?_, h⟩⟩
  show (if (SX.S a).length ≤ 16777216 then some (D.int (SX.S a).length) else none) = _
  rw [SX.S_len, if_pos hl]
theorem It_str {S : Store} {a : List Nat} {q : Items → Prop} (h : q ⟨a.map fun c => .str ⟨#[c]⟩, none, false⟩) : ItP S (.str (SX.S a)) q := ⟨⟨_, rfl, h⟩⟩
theorem bls_map : ∀ bs : List Bool, blsOf (bs.map D.bl) = some bs
  | [] => rfl
  | b :: bs => by simp only [List.map_cons, blsOf, bls_map bs]
theorem Bs_all {S : Store} {bs : List Bool} {Q : D → Prop} (h : Q (.bl (bs.all id))) : BsP S .all [.lst (bs.map D.bl)] Q :=
  ⟨⟨.bl (bs.all id), by show allD S (.lst (bs.map D.bl)) = _; simp only [allD, seqL, bls_map], h⟩⟩
def okName (a : List Nat) : Bool := decide (1 ≤ a.length) && (decide (a.length ≤ 8) && a.all low26)
/-- what is no text -/
inductive NoS (S : Store) : D → Prop
  | non : NoS S .non
  | bl (b : Bool) : NoS S (.bl b)
  | int (i : Int) : NoS S (.int i)
  | tup (xs : List D) : NoS S (.tup xs)
  | lst (xs : List D) : NoS S (.lst xs)
  | ref (l : Nat) (xs : List D) (h : S[l]? = some (.lst xs)) : NoS S (.ref l)
  | dic (l : Nat) (kvs : List (L2.Key × D)) (h : S[l]? = some (.dic kvs)) : NoS S (.ref l)
theorem Is_dic {S : Store} {l : Nat} {kvs : List (L2.Key × D)} {t : Str} {PB : Bool → Prop} (e : S[l]? = some (.dic kvs)) (h : PB (t == "dict")) : IsP S (.ref l) t PB :=
  ⟨⟨_, by show (match S[l]? with | some (.lst _) => some (t == "list") | some (.dic _) => some (t == "dict") | _ => none) = _; rw [e], h⟩⟩
theorem joinL_nil : ∀ ys : List (List Nat), TL.joinL [] ys = ys.flatten
  | [] => rfl
  | [p] => by simp [TL.joinL]
  | p :: q :: r => by rw [TL.joinL, joinL_nil (q :: r)]; rfl
theorem flat_one : ∀ a : List Nat, (a.map fun c => [c]).flatten = a
  | [] => rfl
  | c :: a => by rw [List.map_cons, List.flatten_cons, flat_one a]; rfl
theorem Mt_join1 {S : Store} {a : List Nat} {QD : D → Store → Prop} (hl : a.length ≤ 1000000) (h : QD (.str (SX.S a)) S) : MtP S .join (.str "") [.lst (a.map fun c => .str ⟨#[c]⟩)] QD := by
  have e : (a.map fun c => D.str ⟨#[c]⟩) = ((a.map fun c => [c]).map SX.S).map D.str := by
    rw [List.map_map, List.map_map]; rfl
  rw [e]
  refine Mt_join ?_ ?_
  · rw [SX.lens]
    have : ((a.map fun c => [c]).map (·.length)).sum = a.length := by
      clear h e hl
      induction a with
      | nil => rfl
      | cons c a ih => rw [List.map_cons, List.map_cons, List.sum_cons, ih, List.length_cons]; simp; omega
    rw [this]
    have z : (Str.ofString "").length = 0 := by decide +kernel
    rw [z]
    omega
  · have z : Str.ofString "" = SX.S [] := by decide +kernel
    rw [z, SX.join_S, joinL_nil, flat_one]
    exact h
theorem atI_S {a : List Nat} {n : Int} (h0 : 0 ≤ n) (h1 : n < a.length) : ∃ c, a[n.toNat]? = some c ∧ L2.atI a n = some c := by
  have lt : n.toNat < a.length := by omega
  refine ⟨a[n.toNat], List.getElem?_eq_getElem lt, ?_⟩
  unfold L2.atI L2.ixN
  rw [if_pos h0, if_pos h1]
  simp [lt]
theorem Ix_strS {S : Store} {a : List Nat} {n : Int} {Q : D → Prop} (hl : a.length ≤ 1000000) (h0 : 0 ≤ n) (h1 : n < a.length) (h : ∀ c ∈ a, Q (.str ⟨#[c]⟩)) : IxP S (.str (SX.S a)) (.int n) Q := by
  obtain ⟨c, e1, e2⟩ := atI_S h0 h1
  refine ⟨⟨.str ⟨#[c]⟩, ?_, h c (List.mem_of_getElem? e1)⟩⟩
  show (if (SX.S a).length ≤ 16777216 then (match L2.atI a n with | some c => some (D.str ⟨#[c]⟩) | none => none) else none) = _
  rw [SX.S_len, if_pos (by omega), e2]
theorem Sl_to {S : Store} {a : List Nat} {n : Int} {Q : D → Prop} (hl : a.length ≤ 1000000) (h0 : 0 ≤ n) (h : Q (.str (SX.S (a.take n.toNat)))) : SlP S (.str (SX.S a)) none (some n) Q :=
  ⟨⟨_, by show (if (SX.S a).length ≤ 16777216 then some (D.str (Txt.slice (SX.S a) none (some n))) else none) = _; rw [SX.S_len, if_pos (by omega), SX.slice_to h0], h⟩⟩
theorem Sl_from {S : Store} {a : List Nat} {n : Int} {Q : D → Prop} (hl : a.length ≤ 1000000) (h0 : 0 ≤ n) (h : Q (.str (SX.S (a.drop n.toNat)))) : SlP S (.str (SX.S a)) (some n) none Q :=
  ⟨⟨_, by show (if (SX.S a).length ≤ 16777216 then some (D.str (Txt.slice (SX.S a) (some n) none)) else none) = _; rw [SX.S_len, if_pos (by omega), SX.slice_from h0], h⟩⟩
theorem Bn_catS {S : Store} {a b : List Nat} {Q : D → Prop} (hb : a.length + b.length ≤ 1000000) (h : Q (.str (SX.S (a ++ b)))) : Bn S .Add (.str (SX.S a)) (.str (SX.S b)) Q := by
  refine Bn_str (by rw [SX.S_len, SX.S_len]; omega) ?_
  rw [SX.S_cat]; exact h
theorem alpha : Str.ofString "abcdefghijklmnopqrstuvwxyz" = SX.S ((List.range 26).map (97 + ·)) := by decide +kernel
abbrev dS (a : List Nat) : D := .str (SX.S a)
def sOk (a : List Nat) : Bool := a.all fun c => decide (c < 1114112)
theorem strOk_S {a : List Nat} (h : sOk a = true) : PyData.strOk (SX.S a) = true := by
  unfold sOk at h
  show a.toArray.all (fun c => decide (c < 0x110000)) = true
  rw [List.all_toArray]
  exact h
theorem fine_S {a : List Nat} {n : Nat} (h : sOk a = true) : fine n (dS a) = true := by cases n <;> exact strOk_S h
theorem okName_s {a : List Nat} (h : okName a = true) : sOk a = true := by
  unfold okName at h
  rw [Bool.and_eq_true, Bool.and_eq_true] at h
  unfold sOk
  rw [List.all_eq_true]
  intro c hc
  have := List.all_eq_true.mp h.2.2 c hc
  unfold low26 at this
  rw [Bool.and_eq_true, decide_eq_true_eq, decide_eq_true_eq] at this
  exact decide_eq_true (by omega)
theorem okName_len {a : List Nat} (h : okName a = true) : 1 ≤ a.length ∧ a.length ≤ 8 := by
  unfold okName at h
  rw [Bool.and_eq_true, Bool.and_eq_true, decide_eq_true_eq, decide_eq_true_eq] at h
  exact ⟨h.1, h.2.1⟩
theorem dS_inj {a b : List Nat} (h : dS a = dS b) : a = b := by
  injection h with h
  exact SX.S_inj h
theorem Cp_eqS {S : Store} {a b : List Nat} {PB : Bool → Prop} (ha : sOk a = true) (hb : sOk b = true) (h : PB (decide (a = b))) : Cp S .Eq (dS a) (dS b) PB := by
  refine Cp_eq (EqOk.of (n := 0) (fine_S ha) (by decide)) (EqOk.of (n := 0) (fine_S hb) (by decide)) (fun e => ?_) (fun e => ?_)
  · rw [decide_eq_true (dS_inj e)] at h; exact h
  · rw [decide_eq_false (fun z => e (by rw [z]))] at h; exact h
theorem fines_S {ns : List (List Nat)} {n : Nat} (h : ∀ a ∈ ns, sOk a = true) : fines n (ns.map dS) = true := by
  refine fines_all fun x hx => ?_
  obtain ⟨a, ha, rfl⟩ := List.mem_map.mp hx
  exact fine_S (h a ha)
theorem mem_dS {ns : List (List Nat)} {a : List Nat} : dS a ∈ ns.map dS ↔ a ∈ ns := by
  constructor
  · intro h
    obtain ⟨b, hb, e⟩ := List.mem_map.mp h
    rw [← dS_inj e]; exact hb
  · exact fun h => List.mem_map_of_mem h
theorem Cp_inS {S : Store} {d : D} {ns : List (List Nat)} {a : List Nat} {PB : Bool → Prop} (e : seqL S d = some (ns.map dS)) (ha : sOk a = true) (hs : ∀ b ∈ ns, sOk b = true) (h : PB (decide (a ∈ ns))) : Cp S .In (dS a) d PB :=
  Cp_inq (n := 0) (m := 0) e (fine_S ha) (by decide) (fines_S hs) (by decide) (fun z => by rw [decide_eq_true (mem_dS.mp z)] at h; exact h) (fun z => by rw [decide_eq_false (fun q => z (mem_dS.mpr q))] at h; exact h)
theorem Cp_ninS {S : Store} {d : D} {ns : List (List Nat)} {a : List Nat} {PB : Bool → Prop} (e : seqL S d = some (ns.map dS)) (ha : sOk a = true) (hs : ∀ b ∈ ns, sOk b = true) (h : PB (!decide (a ∈ ns))) : Cp S .NotIn (dS a) d PB :=
  Cp_ninq (n := 0) (m := 0) e (fine_S ha) (by decide) (fines_S hs) (by decide) (fun z => by rw [decide_eq_true (mem_dS.mp z)] at h; exact h) (fun z => by rw [decide_eq_false (fun q => z (mem_dS.mpr q))] at h; exact h)
/-- a text in a tuple of two texts -/
theorem Cp_in2 {S : Store} {a b c : List Nat} {PB : Bool → Prop} (ha : sOk a = true) (hb : sOk b = true) (hc : sOk c = true) (h : PB (decide (a = b) || decide (a = c))) : Cp S .In (dS a) (.tup [dS b, dS c]) PB := by
  obtain ⟨p1, x, a1, a2, a3⟩ := fine_ok 0 (dS a) (fine_S ha)
  have hs : fines 0 [dS b, dS c] = true := fines_S (ns := [b, c]) (by simp [hb, hc])
  obtain ⟨q1, as, b1, b2, b3⟩ := fines_ok 0 [dS b, dS c] hs
  have e1 : toPyS S (dS a) = some x := by rw [toPyS_pln p1]; exact a1
  have e2 : toPyS S (.tup [dS b, dS c]) = some (.tuple as) := by
    rw [toPyS_pln (by simpa [pln] using q1), toPy, b1]
  have s1 : SeqAt.shaped x = true := by unfold SeqAt.shaped; rw [a2, decide_eq_true (by omega)]; rfl
  have s2 : SeqAt.shaped (.tuple as) = true := by
    unfold SeqAt.shaped
    rw [PyData.canLay0, b2, decide_eq_true (by simp only [PyData.depth]; omega)]; rfl
  have m := any_mem q1 p1 a1 b1
  refine ⟨⟨as.any fun z => PyData.eqv z x, ?_, ?_⟩⟩
  · show inSeq S (dS a) (.tup [dS b, dS c]) = _
    unfold inSeq
    rw [e1, e2]
    exact if_pos ⟨s1, s2⟩
  · have : (as.any fun z => PyData.eqv z x) = (decide (a = b) || decide (a = c)) := by
      rw [Bool.eq_iff_iff, m, Bool.or_eq_true, decide_eq_true_eq, decide_eq_true_eq]
      have := mem_dS (ns := [b, c]) (a := a)
      simp only [List.map_cons, List.map_nil, List.mem_cons, List.not_mem_nil, or_false] at this
      simp only [List.mem_cons, List.not_mem_nil, or_false]
      exact this
    rw [this]
    exact h
theorem ItCf_q {S : Store} {d : D} {xs : List D} {f : D → Store → Out (Option D)} {QL : List D → Store → Prop} (I : Nat → List D → Store → Prop) (hI : ∀ i acc S', I i acc S' → seqL S' d = some xs) (hl : xs.length < 100000) (h0 : I 0 [] S)
    (step : ∀ i x acc S', xs[i]? = some x → I i acc S' → acc.length ≤ i → W (f x S') (fun o S1 => match o with
      | some y => I (i + 1) (acc ++ [y]) S1
      | none => I (i + 1) acc S1) noX) (stop : ∀ acc S', I xs.length acc S' → QL acc S') : ItP S d (fun it => CfP it f S QL) := by
  have e := hI 0 [] S h0
  rcases seqL_two e with rfl | ⟨l, rfl, z⟩
  · exact It_lst (Cf_inv (it := ⟨xs, none, false⟩) I hl h0 step stop)
  · refine ⟨⟨⟨xs, some l, false⟩, by show (match S[l]? with | some (.lst xs) => some (Items.mk xs (some l) false) | _ => none) = _; rw [z], ?_⟩⟩
    refine Cf_invR I (fun i acc S' h => ?_) hl h0 step stop
    have := hI i acc S' h
    rcases seqL_two this with q | ⟨l', q, z'⟩
    · cases q
    · cases q; exact z'
theorem replicate_snoc {α : Type} (i : Nat) (b : α) : List.replicate i b ++ [b] = List.replicate (i + 1) b := (List.replicate_succ' ..).symm
theorem all_true (n : Nat) : (List.replicate n true).all id = true := by
  induction n with
  | zero => rfl
  | succ n ih => rw [List.replicate_succ, List.all_cons, ih]; rfl
theorem onceS_nodup : ∀ (xs acc : List Str), (acc ++ xs).Nodup → onceS acc xs = acc ++ xs
  | [], acc, _ => by simp [onceS]
  | x :: xs, acc, h => by
    have hx : x ∉ acc := by
      intro z
      rw [List.nodup_append] at h
      exact h.2.2 x z x (List.mem_cons_self ..) rfl
    unfold onceS
    rw [if_neg hx, onceS_nodup xs (acc ++ [x]) (by simpa using h)]
    simp
theorem nodup_S {ns : List (List Nat)} (h : ns.Nodup) : (ns.map SX.S).Nodup := by
  unfold List.Nodup at *
  rw [List.pairwise_map]
  exact h.imp fun h e => h (SX.S_inj e)
theorem map_dS (ns : List (List Nat)) : ns.map dS = (ns.map SX.S).map D.str := by rw [List.map_map]; rfl
theorem Ls_S {S : Store} {d : D} {ns : List (List Nat)} {Q : D → Prop} (e : seqL S d = some (ns.map dS)) (hn : ns.Nodup) (hl : ns.length ≤ 1000) (h : Q (.int ns.length)) : LsP S d Q := by
  refine ⟨⟨.int ns.length, ?_, h⟩⟩
  unfold lenSetD
  rw [seqL_seqO e, map_dS]
  simp only [strs_map]
  rw [if_pos (by rw [List.length_map]; exact hl), onceS_nodup _ [] (by rw [List.nil_append]; exact nodup_S hn), List.nil_append, List.length_map]
inductive Sm where
  | own | add (i : Int) | spin (i : Int) | call (b : Bool) (h n : List Nat)
def cOwn : List Nat := [111, 119, 110]
def cAdd : List Nat := [97, 100, 100]
def cSpin : List Nat := [115, 112, 105, 110]
def cMake : List Nat := [109, 97, 107, 101]
def cAsk : List Nat := [97, 115, 107]
theorem kOwn : Str.ofString "own" = SX.S cOwn := by decide +kernel
theorem kAdd : Str.ofString "add" = SX.S cAdd := by decide +kernel
theorem kSpin : Str.ofString "spin" = SX.S cSpin := by decide +kernel
theorem kMake : Str.ofString "make" = SX.S cMake := by decide +kernel
theorem kAsk : Str.ofString "ask" = SX.S cAsk := by decide +kernel
def cCall (b : Bool) : List Nat := if b then cAsk else cMake
def dSm : Sm → D
  | .own => .tup [dS cOwn]
  | .add i => .tup [dS cAdd, .int i]
  | .spin i => .tup [dS cSpin, .int i]
  | .call b h n => .tup [dS (cCall b), dS h, dS n]
def okSm (hs ns : List (List Nat)) : Sm → Prop
  | .own => True
  | .add i => -1000 ≤ i ∧ i ≤ 1000
  | .spin i => 1 ≤ i ∧ i ≤ 4
  | .call _ h n => h ∈ hs ∧ n ∈ ns
def isCall : Sm → Bool
  | .call .. => true
  | _ => false
theorem cCall_s (b : Bool) : sOk (cCall b) = true := by cases b <;> decide
theorem nempty {S : Store} {x : D} {xs : List D} {PB : Bool → Prop} {n : Nat} (hf : fine n (.tup (x :: xs)) = true) (hn : n ≤ 64) (h : PB false) : Cp S .Eq (.tup (x :: xs)) (.tup []) PB :=
  Cp_eq (EqOk.of hf hn) (EqOk.of (n := 1) rfl (by decide)) (fun e => by injection e with e; cases e) (fun _ => h)
structure okBody (hs ns : List (List Nat)) (b : List Sm) : Prop where
  len : b.length ≤ 6
  all : ∀ m ∈ b, okSm hs ns m
  calls : (b.filter isCall).length ≤ 3
def dBody (b : List Sm) : D := .tup (b.map dSm)
theorem fst_call {S : Store} {m : Sm} {PB : Bool → Prop} (h : PB (isCall m)) : ∃ x, IxP S (dSm m) (.int 0) (fun d => d = x) ∧ Cp S .In x (.tup [dS cMake, dS cAsk]) PB := by
  cases m with
  | own => exact ⟨dS cOwn, ⟨⟨_, rfl, rfl⟩⟩, Cp_in2 (by decide) (by decide) (by decide) h⟩
  | add i => exact ⟨dS cAdd, ⟨⟨_, rfl, rfl⟩⟩, Cp_in2 (by decide) (by decide) (by decide) h⟩
  | spin i => exact ⟨dS cSpin, ⟨⟨_, rfl, rfl⟩⟩, Cp_in2 (by decide) (by decide) (by decide) h⟩
  | call b hh n => exact ⟨dS (cCall b), ⟨⟨_, rfl, rfl⟩⟩, Cp_in2 (cCall_s b) (by decide) (by decide) (by cases b <;> exact h)⟩
abbrev Wk := List Nat × List Sm
def dWork (w : Wk) : D := .tup [dS w.1, dBody w.2]
def nms (ws : List Wk) : List (List Nat) := ws.map (·.1)
theorem nms_len (ws : List Wk) : (nms ws).length = ws.length := List.length_map ..
theorem mem_nms {ws : List Wk} {w : Wk} (h : w ∈ ws) : w.1 ∈ nms ws := List.mem_map_of_mem h
structure okW (hs : List (List Nat)) (ws : List Wk) : Prop where
  h1 : 1 ≤ hs.length
  h4 : hs.length ≤ 4
  hn : hs.Nodup
  hg : ∀ a ∈ hs, okName a = true
  w1 : 1 ≤ ws.length
  w5 : ws.length ≤ 5
  wn : (nms ws).Nodup
  wg : ∀ a ∈ nms ws, okName a = true
  wb : ∀ w ∈ ws, okBody hs (nms ws) w.2
theorem ItTr_q {S : Store} {d : D} {xs : List D} {f : D → Store → Out (Option D)} {QL : List D → Store → Prop} (e : seqL S d = some xs) (hl : xs.length < 100000) (step : ∀ x ∈ xs, W (f x S) (fun o S1 => o = some (.bl true) ∧ S1 = S) noX) (stop : QL ((List.replicate xs.length true).map D.bl) S) : ItP S d (fun it => CfP it f S QL) := by
  refine ItCf_q (xs := xs) (fun i acc S' => S' = S ∧ acc = (List.replicate i true).map D.bl) (fun i acc S' h => by rw [h.1]; exact e) hl ⟨rfl, rfl⟩ ?_ ?_
  · rintro i x acc S' hx ⟨rfl, rfl⟩ _
    refine (step x (List.mem_of_getElem? hx)).post ?_
    rintro o S1 ⟨rfl, rfl⟩
    exact ⟨rfl, by rw [← replicate_snoc, List.map_append]; rfl⟩
  · rintro acc S' ⟨rfl, rfl⟩
    exact stop
theorem ItMap_q {α : Type} {S : Store} {d : D} {ws : List α} {g h : α → D} {f : D → Store → Out (Option D)} {QL : List D → Store → Prop} (e : seqL S d = some (ws.map g)) (hl : ws.length < 100000) (step : ∀ w ∈ ws, W (f (g w) S) (fun o S1 => o = some (h w) ∧ S1 = S) noX) (stop : QL (ws.map h) S) : ItP S d (fun it => CfP it f S QL) := by
  refine ItCf_q (xs := ws.map g) (fun i acc S' => S' = S ∧ acc = (ws.take i).map h) (fun i acc S' h => by rw [h.1]; exact e) (by rw [List.length_map]; exact hl) ⟨rfl, rfl⟩ ?_ ?_
  · rintro i x acc S' hx ⟨rfl, rfl⟩ _
    rw [List.getElem?_map, Option.map_eq_some_iff] at hx
    obtain ⟨w, hw, rfl⟩ := hx
    refine (step w (List.mem_of_getElem? hw)).post ?_
    rintro o S1 ⟨rfl, rfl⟩
    exact ⟨rfl, by rw [List.take_succ, hw, List.map_append]; rfl⟩
  · rintro acc S' ⟨rfl, rfl⟩
    rw [List.length_map, List.take_length]
    exact stop
theorem map_nms (ws : List Wk) : ws.map (fun w => dS w.1) = (nms ws).map dS := by unfold nms; rw [List.map_map]; rfl
/-- all but the place l stays -/
structure Kp (l : Nat) (S S' : Store) : Prop where
  len : S.length ≤ S'.length
  get : ∀ i, i ≠ l → i < S.length → S'[i]? = S[i]?
theorem Kp.refl {l : Nat} {S : Store} : Kp l S S := ⟨Nat.le_refl _, fun _ _ _ => rfl⟩
theorem Kp.trans {l : Nat} {S S1 S2 : Store} (h : Kp l S S1) (g : Kp l S1 S2) : Kp l S S2 :=
  ⟨Nat.le_trans h.len g.len, fun i hi hl => by rw [g.get i hi (Nat.lt_of_lt_of_le hl h.len), h.get i hi hl]⟩
theorem Kp.same {l : Nat} {S S' : Store} (h : S'.length = S.length) (g : ∀ i, i ≠ l → S'[i]? = S[i]?) : Kp l S S' := ⟨by omega, fun i hi _ => g i hi⟩
theorem Kp.app {l : Nat} {S T : Store} : Kp l S (S ++ T) := ⟨by rw [List.length_append]; omega, fun i _ hl => List.getElem?_append_left hl⟩
theorem Kp.take {l n : Nat} {S S' : Store} (h : Kp l S S') (hn : S.length ≤ n) : Kp l S (S'.take n) :=
  ⟨by rw [List.length_take]; have := h.len; omega, fun i hi hl => by rw [take_get (by omega), h.get i hi hl]⟩
theorem seqL_lt {S : Store} {j : Nat} {xs : List D} (e : seqL S (.ref j) = some xs) : S[j]? = some (.lst xs) ∧ j < S.length := by
  rcases seqL_two e with z | ⟨i, z, h⟩
  · cases z
  · cases z
    exact ⟨h, (List.getElem?_eq_some_iff.mp h).1⟩
theorem Kp.seq {l : Nat} {S S' : Store} {d : D} {xs : List D} (h : Kp l S S') (e : seqL S d = some xs) (hd : d ≠ .ref l) : seqL S' d = some xs := by
  rcases seqL_two e with rfl | ⟨j, rfl, z⟩
  · exact e
  · exact seqL_ref (by rw [h.get j (fun q => hd (by rw [q])) (List.getElem?_eq_some_iff.mp z).1]; exact z)
theorem Fn_any {n : Nat} {d : D} {S' : Store} {QD : D → Store → Prop} {E : EX} (h1 : QD d S') (h2 : below n d = true → QD d (S'.take n)) : FnP false n d S' QD E := by
  refine ⟨?_⟩
  rw [fin_eq]
  split
  · exact ⟨h1⟩
  · show W (if (below n d && (S'.take n).all (obBelow n)) = true then .ok d (S'.take n) else .ok d S') QD E
    split
    · rename_i z
      exact ⟨h2 (by rw [Bool.and_eq_true] at z; exact z.1)⟩
    · exact ⟨h1⟩
def letter (n : Int) : Nat := 97 + n.toNat
theorem Ix_alpha {S : Store} {n : Int} {Q : D → Prop} (h0 : 0 ≤ n) (h1 : n < 26) (h : Q (dS [letter n])) : IxP S (.str "abcdefghijklmnopqrstuvwxyz") (.int n) Q := by
  rw [alpha]
  obtain ⟨c, e1, e2⟩ := atI_S (a := (List.range 26).map (97 + ·)) h0 (by rw [List.length_map, List.length_range]; omega)
  refine ⟨⟨.str ⟨#[c]⟩, ?_, ?_⟩⟩
  · show (if (SX.S ((List.range 26).map (97 + ·))).length ≤ 16777216 then (match L2.atI ((List.range 26).map (97 + ·)) n with | some c => some (D.str ⟨#[c]⟩) | none => none) else none) = _
    rw [SX.S_len, if_pos (by rw [List.length_map, List.length_range]; omega), e2]
  · rw [List.getElem?_map, Option.map_eq_some_iff] at e1
    obtain ⟨i, hi, rfl⟩ := e1
    have : i = n.toNat := by
      obtain ⟨_, z⟩ := List.getElem?_eq_some_iff.mp hi
      rw [List.getElem_range] at z
      exact z.symm
    subst this
    exact h
theorem CfRange {S : Store} {m : Int} {f : D → Store → Out (Option D)} {QL : List D → Store → Prop} (g : Nat → D) (hm : m < 1000) (step : ∀ i : Nat, (i : Int) < m → W (f (.int i) S) (fun o S1 => o = some (g i) ∧ S1 = S) noX) (stop : QL ((List.range m.toNat).map g) S) : CfP (rangeD 0 m) f S QL := by
  refine Cf_inv (fun i acc S' => S' = S ∧ acc = (List.range i).map g) (by rw [range_len]; omega) ⟨rfl, rfl⟩ ?_ ?_
  · rintro i d acc S' hd ⟨rfl, rfl⟩ _
    obtain ⟨rfl, hi⟩ := range_get hd
    refine (step i hi).post ?_
    rintro o S1 ⟨rfl, rfl⟩
    exact ⟨rfl, by rw [List.range_succ, List.map_append]; rfl⟩
  · rintro acc S' ⟨rfl, rfl⟩
    rw [range_len]
    exact stop
theorem times_S {c : Nat} {k : Nat} : timesS (SX.S [c]) ((k : Int) + 1) = SX.S (List.replicate (k + 1) c) := by
  unfold timesS
  split
  · have : k = 0 := by omega
    subst this; rfl
  · rw [if_neg (by rw [SX.S_len, List.length_singleton]; decide)]
    have : ((k : Int) + 1).toNat = k + 1 := by omega
    rw [this]
    show Str.mk ((List.replicate (k + 1) [c]).flatten.toArray) = ⟨(List.replicate (k + 1) c).toArray⟩
    congr 2
    generalize k + 1 = n
    induction n with
    | zero => rfl
    | succ n ih => rw [List.replicate_succ, List.flatten_cons, ih]; rfl
theorem Bs_tupq {S : Store} {d : D} {xs : List D} {Q : D → Prop} (e : seqL S d = some xs) (h : Q (.tup xs)) : BsP S .tuple [d] Q :=
  ⟨⟨.tup xs, by show (match seqO S d with | some ys => some (D.tup ys) | none => none) = _; rw [seqL_seqO e], h⟩⟩
theorem filter_snoc (b : List Sm) (m : Sm) : ((b ++ [m]).filter isCall).length = (b.filter isCall).length + (if isCall m then 1 else 0) := by
  rw [List.filter_append, List.length_append]
  congr 1
  cases h : isCall m <;> simp [List.filter, h]
theorem atI_last {α : Type} {xs : List α} (h : 0 < xs.length) : ∃ x, x ∈ xs ∧ L2.atI xs (-1) = some x := by
  refine ⟨xs[xs.length - 1], List.getElem_mem .., ?_⟩
  unfold L2.atI L2.ixN
  rw [if_neg (by decide), if_pos (by omega)]
  have : ((-1 : Int) + xs.length).toNat = xs.length - 1 := by omega
  simp only [this]
  exact List.getElem?_eq_getElem (by omega)
theorem cut_to {α : Type} (xs : List α) (i : Nat) (h : i ≤ xs.length) : cut xs none (some (i : Int)) = xs.take i := by
  show List.take ((if (i : Int) < 0 then ((i : Int) + xs.length).toNat else min (i : Int).toNat xs.length) - 0) (List.drop 0 xs) = _
  rw [if_neg (by omega), List.drop_zero]
  congr 1
  omega
theorem cut_from {α : Type} (xs : List α) (i : Nat) (h : i ≤ xs.length) : cut xs (some (i : Int)) none = xs.drop i := by
  show List.take (xs.length - (if (i : Int) < 0 then ((i : Int) + xs.length).toNat else min (i : Int).toNat xs.length)) (List.drop (if (i : Int) < 0 then ((i : Int) + xs.length).toNat else min (i : Int).toNat xs.length) xs) = _
  rw [if_neg (by omega)]
  have : min (i : Int).toNat xs.length = i := by omega
  rw [this, List.take_of_length_le (by rw [List.length_drop]; omega)]
theorem En_ref {S : Store} {l : Nat} {xs : List D} {q : Items → Prop} (e : S[l]? = some (.lst xs)) (h : q ⟨xs, some l, true⟩) : EnP S (.ref l) q := by
  refine ⟨⟨_, ?_, h⟩⟩
  show (match S[l]? with | some (.lst xs) => some (Items.mk xs (some l) true) | _ => none) = _
  rw [e]
theorem It_ref {S : Store} {l : Nat} {xs : List D} {q : Items → Prop} (e : S[l]? = some (.lst xs)) (h : q ⟨xs, some l, false⟩) : ItP S (.ref l) q := by
  refine ⟨⟨_, ?_, h⟩⟩
  show (match S[l]? with | some (.lst xs) => some (Items.mk xs (some l) false) | _ => none) = _
  rw [e]
theorem putG_new {α : Type} {kvs : List (L2.Key × α)} {k : L2.Key} {v : α} (h : ∀ kv ∈ kvs, kv.1 ≠ k) : putG kvs k v = kvs ++ [(k, v)] := by
  unfold putG
  rw [if_neg]
  intro z
  obtain ⟨kv, hm, e⟩ := List.any_eq_true.mp z
  exact h kv hm (of_decide_eq_true e)
theorem mergeG_nodup {α : Type} : ∀ (kvs acc : List (L2.Key × α)), ((acc ++ kvs).map (·.1)).Nodup → mergeG acc kvs = acc ++ kvs
  | [], acc, _ => by simp [mergeG]
  | kv :: kvs, acc, h => by
    have hx : ∀ q ∈ acc, q.1 ≠ kv.1 := by
      intro q hq e
      rw [List.map_append, List.nodup_append] at h
      exact h.2.2 q.1 (List.mem_map_of_mem hq) kv.1 (List.mem_cons_self ..) e
    show mergeG (putG acc kv.1 kv.2) kvs = _
    rw [putG_new hx, mergeG_nodup kvs _ (by simpa using h)]
    simp
theorem valG_mem {α : Type} : ∀ {kvs : List (L2.Key × α)} {k : L2.Key} {v : α}, (kvs.map (·.1)).Nodup → (k, v) ∈ kvs → valG kvs k = some v
  | [], _, _, _, h => by simp at h
  | (k', v') :: kvs, k, v, nd, h => by
    rw [List.map_cons, List.nodup_cons] at nd
    unfold valG
    rw [List.find?_cons]
    rcases List.mem_cons.mp h with e | e
    · injection e with e1 e2
      subst e1 e2
      simp
    · have : k' ≠ k := fun z => nd.1 (by rw [z]; exact List.mem_map_of_mem (f := (·.1)) e)
      rw [decide_eq_false this]
      exact valG_mem nd.2 e
def kvs (ws : List Wk) : List (L2.Key × D) := ws.map fun w => (.inr (SX.S w.1), dBody w.2)
theorem pairs_kvs : ∀ ws : List Wk, pairsD (ws.map dWork) = some (kvs ws)
  | [] => rfl
  | w :: ws => by
    show (match keyD (dS w.1), pairsD (ws.map dWork) with | some k, some r => some ((k, dBody w.2) :: r) | _, _ => none) = _
    rw [pairs_kvs ws]
    rfl
theorem kvs_nodup {ws : List Wk} (h : (nms ws).Nodup) : ((kvs ws).map (·.1)).Nodup := by
  have e : (kvs ws).map (·.1) = (nms ws).map fun a => (Sum.inr (SX.S a) : L2.Key) := by unfold kvs nms; rw [List.map_map, List.map_map]; rfl
  rw [e]
  unfold List.Nodup at *
  rw [List.pairwise_map]
  exact h.imp fun h e => h (SX.S_inj (Sum.inr.inj e))
theorem seqL_app {S T : Store} {d : D} {xs : List D} (e : seqL S d = some xs) : seqL (S ++ T) d = some xs := by
  rcases seqL_two e with rfl | ⟨j, rfl, z⟩
  · exact e
  · exact seqL_ref (by rw [List.getElem?_append_left (List.getElem?_eq_some_iff.mp z).1]; exact z)
theorem Dc_q {S : Store} {d : D} {xs : List D} {kv : List (L2.Key × D)} {Q : D → Store → Prop} (e : seqL S d = some xs) (p : pairsD xs = some kv) (nd : (kv.map (·.1)).Nodup) (h : Q (.ref S.length) (S ++ [.dic kv])) : DcP S [d] Q := by
  refine ⟨⟨d, .ref S.length, S ++ [.dic kv], rfl, ?_, h⟩⟩
  have m : mergeG [] kv = kv := mergeG_nodup kv [] (by simpa using nd)
  unfold dictD
  rw [dicOf_q e, e]
  simp only [p, m]
theorem fine_Sm {hs ns : List (List Nat)} {m : Sm} (s1 : ∀ b ∈ hs, sOk b = true) (s2 : ∀ b ∈ ns, sOk b = true) (hm : okSm hs ns m) : fine 1 (dSm m) = true := by
  cases m with
  | own =>
    show (fine 0 (dS cOwn) && true) = true
    rw [fine_S (by decide)]; rfl
  | add i =>
    show (fine 0 (dS cAdd) && (fine 0 (.int i) && true)) = true
    rw [fine_S (by decide)]; rfl
  | spin i =>
    show (fine 0 (dS cSpin) && (fine 0 (.int i) && true)) = true
    rw [fine_S (by decide)]; rfl
  | call b h n =>
    show (fine 0 (dS (cCall b)) && (fine 0 (dS h) && (fine 0 (dS n) && true))) = true
    rw [fine_S (cCall_s b), fine_S (s1 h hm.1), fine_S (s2 n hm.2)]; rfl
theorem fine_body {hs ns : List (List Nat)} {b : List Sm} (s1 : ∀ b ∈ hs, sOk b = true) (s2 : ∀ b ∈ ns, sOk b = true) (hb : okBody hs ns b) : fine 2 (dBody b) = true := by
  show fines 1 (b.map dSm) = true
  refine fines_all fun x hx => ?_
  obtain ⟨m, hm, rfl⟩ := List.mem_map.mp hx
  exact fine_Sm s1 s2 (hb.all m hm)
theorem okW.s1 {hs : List (List Nat)} {ws : List Wk} (ok : okW hs ws) : ∀ b ∈ hs, sOk b = true := fun b hb => okName_s (ok.hg b hb)
theorem okW.s2 {hs : List (List Nat)} {ws : List Wk} (ok : okW hs ws) : ∀ b ∈ nms ws, sOk b = true := fun b hb => okName_s (ok.wg b hb)
theorem fine_works {hs : List (List Nat)} {ws : List Wk} (ok : okW hs ws) : fine 4 (.lst (ws.map dWork)) = true := by
  show fines 3 (ws.map dWork) = true
  refine fines_all fun x hx => ?_
  obtain ⟨w, hw, rfl⟩ := List.mem_map.mp hx
  show (fine 2 (dS w.1) && (fine 2 (dBody w.2) && true)) = true
  rw [fine_S (ok.s2 _ (mem_nms hw)), fine_body ok.s1 ok.s2 (ok.wb w hw)]; rfl
theorem fine_names {ns : List (List Nat)} {n : Nat} (h : ∀ a ∈ ns, sOk a = true) : fine (n + 1) (.lst (ns.map dS)) = true := fines_S h
theorem fine_bodies {hs : List (List Nat)} {ws : List Wk} (ok : okW hs ws) : fine 3 (.lst (ws.map fun w => dBody w.2)) = true := by
  show fines 2 _ = true
  refine fines_all fun x hx => ?_
  obtain ⟨w, hw, rfl⟩ := List.mem_map.mp hx
  exact fine_body ok.s1 ok.s2 (ok.wb w hw)
/-- comparing what names lists of the store -/
theorem Cp_neR {S : Store} {x y x' y' : D} {PB : Bool → Prop} (ex : res 8 S x = x') (ey : res 8 S y = y') (hx : EqOk S x') (hy : EqOk S y') (h1 : x' = y' → PB false) (h2 : x' ≠ y' → PB true) : Cp S .NotEq x y PB := by
  obtain ⟨p1, a, e1, t1⟩ := hx
  obtain ⟨p2, b, e2, t2⟩ := hy
  have m := eqv_pln x' y' a b p1 p2 e1 e2
  have e : eqD S x y = some (PyData.eqv a b) := by
    unfold eqD toPyS
    rw [ex, ey, e1, e2]
    simp only [t1, t2, and_self, ↓reduceIte]
  refine ⟨⟨!PyData.eqv a b, by show (eqD S x y).map _ = _; rw [e]; rfl, ?_⟩⟩
  cases z : PyData.eqv a b with
  | true => exact h1 (m.mp z)
  | false => exact h2 fun q => by rw [m.mpr q] at z; cases z
theorem nodup_rev {α : Type} {xs : List α} (h : xs.Nodup) : xs.reverse.Nodup := by
  unfold List.Nodup at *
  rw [List.pairwise_reverse]
  exact h.imp fun h e => h e.symm
theorem okW.rev {hs : List (List Nat)} {ws : List Wk} (ok : okW hs ws) : okW hs.reverse ws.reverse := by
  have en : nms ws.reverse = (nms ws).reverse := by unfold nms; rw [List.map_reverse]
  refine ⟨by rw [List.length_reverse]; exact ok.h1, by rw [List.length_reverse]; exact ok.h4, nodup_rev ok.hn, fun a ha => ok.hg a (List.mem_reverse.mp ha), by rw [List.length_reverse]; exact ok.w1, by rw [List.length_reverse]; exact ok.w5, by rw [en]; exact nodup_rev ok.wn, fun a ha => ok.wg a (by rw [en] at ha; exact List.mem_reverse.mp ha), fun w hw => ?_⟩
  have ob := ok.wb w (List.mem_reverse.mp hw)
  refine ⟨ob.len, fun m hm => ?_, ob.calls⟩
  have := ob.all m hm
  cases m with
  | call b h n => exact ⟨List.mem_reverse.mpr this.1, by rw [en]; exact List.mem_reverse.mpr this.2⟩
  | _ => exact this
theorem finX_same {S : Store} {c : Str} {Qd : D → Store → Prop} {E : EX} (h : E c S) : W (finX S.length c S) Qd E := by
  unfold finX
  rw [if_pos rfl]
  exact ⟨h⟩
/-- plain data that is no text -/
def Odd (x : D) : Prop := ∃ p, (∀ S, toPyS S x = some p) ∧ SeqAt.shaped p = true ∧ (∀ q : Str, PyData.eqv (.str q) p = false) ∧ ∀ z : Str, x ≠ .str z
theorem any_odd {p : PyData} (hp : ∀ q : Str, PyData.eqv (.str q) p = false) : ∀ {ns : List (List Nat)} {as : List PyData}, toPys (ns.map dS) = some as → (as.any fun z => PyData.eqv z p) = false
  | [], as, h => by cases h; rfl
  | n :: ns, as, h => by
    simp only [List.map_cons, toPys, toPy] at h
    cases e2 : toPys (ns.map dS) with
    | none => rw [e2] at h; cases h
    | some bs =>
      rw [e2] at h; cases h
      rw [List.any_cons, hp, any_odd hp e2]; rfl
theorem inD_odd {S : Store} {d x : D} {ns : List (List Nat)} (e : seqL S d = some (ns.map dS)) (hx : Odd x) (hs : ∀ b ∈ ns, sOk b = true) : inD S x d = some false := by
  obtain ⟨p, p1, p3, p4, p5⟩ := hx
  obtain ⟨q1, as, b1, b2, b3⟩ := fines_ok 0 _ (fines_S hs)
  have e1 : toPyS S x = some p := p1 S
  have e2 : toPyS S d = some (.list as) := by
    unfold toPyS
    rw [res_q e, map_res q1, toPy, b1]
  have s2 : SeqAt.shaped (.list as) = true := by
    unfold SeqAt.shaped
    rw [PyData.canLay0, b2, decide_eq_true (by simp only [PyData.depth]; omega)]; rfl
  have e3 : inObj S x d = some false := by
    unfold inObj
    rw [dicOf_q e]
    show inSeq S x d = _
    unfold inSeq
    rw [e1, e2]
    rw [← any_odd p4 b1]
    exact if_pos ⟨p3, s2⟩
  unfold inD
  rcases seqL_two e with rfl | ⟨l, rfl, z⟩ <;> cases x <;> first | exact e3 | exact absurd rfl (p5 _)
theorem Cp_nino {S : Store} {d x : D} {ns : List (List Nat)} {PB : Bool → Prop} (e : seqL S d = some (ns.map dS)) (hx : Odd x) (hs : ∀ b ∈ ns, sOk b = true) (h : PB true) : Cp S .NotIn x d PB := by
  refine ⟨⟨true, ?_, h⟩⟩
  show (inD S x d).map (! ·) = _
  rw [inD_odd e hx hs]; rfl
theorem odd_fine {n : Nat} {x : D} (h : fine n x = true) (hn : n ≤ 64) (hx : ∀ z, x ≠ .str z) : Odd x := by
  obtain ⟨p1, p, e, c, d⟩ := fine_ok n x h
  refine ⟨p, fun S => by rw [toPyS_pln p1]; exact e, ?_, ?_, hx⟩
  · unfold SeqAt.shaped
    rw [c, decide_eq_true (by omega)]; rfl
  · intro q
    cases x with
    | str z => exact absurd rfl (hx z)
    | bl b => simp [pln] at p1
    | ref l => simp [pln] at p1
    | non => cases e; simp [PyData.eqv]
    | int i => cases e; simp [PyData.eqv]
    | tup xs => simp only [toPy] at e; split at e <;> cases e; simp [PyData.eqv]
    | lst xs => simp only [toPy] at e; split at e <;> cases e; simp [PyData.eqv]
theorem odd_bl (b : Bool) : Odd (.bl b) := ⟨.bool b, fun _ => rfl, rfl, fun q => by simp [PyData.eqv], fun z h => by cases h⟩
theorem odd_non : Odd .non := odd_fine (n := 0) rfl (by decide) fun z h => by cases h
theorem odd_int (i : Int) : Odd (.int i) := odd_fine (n := 0) rfl (by decide) fun z h => by cases h
theorem odd_tup1 {a : List Nat} (h : sOk a = true) : Odd (.tup [dS a]) := odd_fine (n := 1) (by show (fine 0 (dS a) && true) = true; rw [fine_S h]; rfl) (by decide) fun z h => by cases h
theorem odd_lst1 {a : List Nat} (h : sOk a = true) : Odd (.lst [dS a]) := odd_fine (n := 1) (by show (fine 0 (dS a) && true) = true; rw [fine_S h]; rfl) (by decide) fun z h => by cases h
/-- by computing -/
theorem Bn_by {S : Store} {op : Operator} {x y d : D} {Q : D → Prop} (e : binD S op x y = some d) (h : Q d) : Bn S op x y Q := ⟨⟨d, e, h⟩⟩
/-- a comprehension that leaves the store as it is -/
theorem CfFM {α : Type} {S : Store} {xs : List α} {g : α → D} (q : α → Option D) {f : D → Store → Out (Option D)} {QL : List D → Store → Prop} (hl : xs.length < 100000) (step : ∀ w ∈ xs, W (f (g w) S) (fun o S1 => o = q w ∧ S1 = S) noX) (stop : QL (xs.filterMap q) S) : CfP ⟨xs.map g, none, false⟩ f S QL := by
  refine Cf_inv (fun i acc S' => S' = S ∧ acc = (xs.take i).filterMap q) (by show (xs.map g).length < 100000; rw [List.length_map]; exact hl) ⟨rfl, rfl⟩ ?_ ?_
  · rintro i d acc S' hd ⟨rfl, rfl⟩ _
    have hd : (xs.map g)[i]? = some d := hd
    rw [List.getElem?_map, Option.map_eq_some_iff] at hd
    obtain ⟨a, ha, rfl⟩ := hd
    refine (step a (List.mem_of_getElem? ha)).post ?_
    rintro o S1 ⟨rfl, rfl⟩
    have ht : xs.take (i + 1) = xs.take i ++ [a] := by rw [List.take_succ, ha]; rfl
    rw [ht, List.filterMap_append]
    cases e : q a with
    | none => exact ⟨rfl, by simp [List.filterMap, e]⟩
    | some y => exact ⟨rfl, by simp [List.filterMap, e]⟩
  · rintro acc S' ⟨rfl, rfl⟩
    have : xs.take (Items.mk (xs.map g) none false).xs.length = xs := List.take_of_length_le (by show _ ≤ (xs.map g).length; rw [List.length_map]; exact Nat.le_refl _)
    rw [this]
    exact stop
theorem Ix_alphaS {S : Store} {n : Int} {Q : D → Prop} (h0 : 0 ≤ n) (h1 : n < 26) (h : Q (dS [letter n])) : IxP S (.str (SX.S ((List.range 26).map (97 + ·)))) (.int n) Q := by
  rw [← alpha]; exact Ix_alpha h0 h1 h
theorem kNil : Str.ofString "" = SX.S [] := by decide +kernel
theorem letter_low {n : Int} (h0 : 0 ≤ n) (h1 : n < 26) : low26 (letter n) = true := by
  unfold low26 letter
  rw [Bool.and_eq_true, decide_eq_true_eq, decide_eq_true_eq]
  omega
theorem okName_mk {a : List Nat} (h1 : 1 ≤ a.length) (h8 : a.length ≤ 8) (h : ∀ c ∈ a, low26 c = true) : okName a = true := by
  unfold okName
  rw [decide_eq_true h1, decide_eq_true h8, List.all_eq_true.mpr h]; rfl
end Q

namespace QL
open PySem Q
abbrev PR : Program := PySem.Challenge.pw_allquiet_k21_whole_steps_reckoned
abbrev top (i : Nat) : Stmt := PR.main.body.getD i (.Pass ⟨0, 0, 0, 0⟩)
def kt : KitT := []
def z_body_of : XS :=
  (zRet (ix (dct (a1 (ix (vv 0) (kk (.int 1))) a0)) (vv 1)))
def m_body_of : Fn := dF false 2 2 z_body_of
theorem w_body_of {x0 x1 : D} {S : Store} {Qd : D → Store → Prop} {E : EX} (h : Z z_body_of [some x0, some x1] S (kF false S.length Qd E)) : W (m_body_of [x0, x1] S) Qd E := W_dF h rfl rfl
def z_waits : XS :=
  (zRet (cm .IsNot (ix (vv 0) (kk (.int 6))) (kk .non)))
def m_waits : Fn := dF false 1 1 z_waits
theorem w_waits {x0 : D} {S : Store} {Qd : D → Store → Prop} {E : EX} (h : Z z_waits [some x0] S (kF false S.length Qd E)) : W (m_waits [x0] S) Qd E := W_dF h rfl rfl
def z_runs : XS :=
  (zRet (nt (bl .all (a1 (lcv [1] (iv (vv 0)) (b1 1) (ca m_waits (a1 (vv 1) a0))) a0))))
def m_runs : Fn := dF false 1 2 z_runs
theorem w_runs {x0 : D} {S : Store} {Qd : D → Store → Prop} {E : EX} (h : Z z_runs [some x0, none] S (kF false S.length Qd E)) : W (m_runs [x0] S) Qd E := W_dF h rfl rfl
def z_first_running : XS :=
  (zRet (me "index" (lcv [1] (iv (vv 0)) (b1 1) (ca m_waits (a1 (vv 1) a0))) (a1 (kk (.bl false)) a0)))
def m_first_running : Fn := dF false 1 2 z_first_running
theorem w_first_running {x0 : D} {S : Store} {Qd : D → Store → Prop} {E : EX} (h : Z z_first_running [some x0, none] S (kF false S.length Qd E)) : W (m_first_running [x0] S) Qd E := W_dF h rfl rfl
def z_taken : XS :=
  (zRet (bi .Add (vv 0) (tu (a1 (tu (a1 (vv 1) (a1 (vv 2) (a1 (kk (.int 0)) (a1 (kk (.int 0)) (a1 (kk (.int 0)) (a1 (vv 3) (a1 (kk .non) a0)))))))) a0))))
def m_taken : Fn := dF false 4 4 z_taken
theorem w_taken {x0 x1 x2 x3 : D} {S : Store} {Qd : D → Store → Prop} {E : EX} (h : Z z_taken [some x0, some x1, some x2, some x3] S (kF false S.length Qd E)) : W (m_taken [x0, x1, x2, x3] S) Qd E := W_dF h rfl rfl
def z_answered : XS :=
  (zSeq (zSet 3 (lsm a0))
  (zSeq (zFor (b1 4) (iv (vv 0))
  (zSeq (zIf (tAnd (tCm (cm .IsNot (ix (vv 4) (kk (.int 6))) (kk .non))) (tCm (cm .Eq (ix (vv 4) (kk (.int 6))) (vv 1))))
    (zSeq (zTup [5, 6, 7, 8, 9, 10, 11] (vv 4))
      (zSet 4 (tu (a1 (vv 5) (a1 (vv 6) (a1 (bi .Add (vv 7) (vv 2)) (a1 (vv 8) (a1 (vv 9) (a1 (vv 10) (a1 (kk .non) a0)))))))))) zPass)
    (zExp (me "append" (vv 3) (a1 (vv 4) a0)))))
  (zRet (bl .tuple (a1 (vv 3) a0)))))
def m_answered : Fn := dF false 3 12 z_answered
theorem w_answered {x0 x1 x2 : D} {S : Store} {Qd : D → Store → Prop} {E : EX} (h : Z z_answered [some x0, some x1, some x2, none, none, none, none, none, none, none, none, none] S (kF false S.length Qd E)) : W (m_answered [x0, x1, x2] S) Qd E := W_dF h rfl rfl
def z_spun : XS :=
  (zSeq (zTup [2, 3, 4, 5, 6, 7, 8] (vv 0))
  (zSeq (zIf (tCm (cm .Eq (vv 6) (kk (.int 0))))
  (zSet 6 (vv 1)) zPass)
  (zSeq (zSet 6 (bi .Sub (vv 6) (kk (.int 1))))
  (zRet (tu (a1 (vv 2) (a1 (vv 3) (a1 (vv 4) (a1 (bi .Add (vv 5) (bl .int (a1 (cm .Eq (vv 6) (kk (.int 0))) a0))) (a1 (vv 6) (a1 (vv 7) (a1 (kk .non) a0))))))))))))
def m_spun : Fn := dF false 2 9 z_spun
theorem w_spun {x0 x1 : D} {S : Store} {Qd : D → Store → Prop} {E : EX} (h : Z z_spun [some x0, some x1, none, none, none, none, none, none, none] S (kF false S.length Qd E)) : W (m_spun [x0, x1] S) Qd E := W_dF h rfl rfl
def z_done : XS :=
  (zSeq (zTup [3, 4, 5, 6, 7, 8, 9] (vv 0))
  (zSeq (zIf (tCm (cm .Eq (ix (vv 1) (kk (.int 0))) (kk (.str "spin"))))
  (zRet (tu (a1 (ca m_spun (a1 (vv 0) (a1 (ix (vv 1) (kk (.int 1))) a0))) (a1 (kk .non) a0)))) zPass)
  (zSeq (zIf (tCm (cm .Eq (ix (vv 1) (kk (.int 0))) (kk (.str "add"))))
  (zRet (tu (a1 (tu (a1 (vv 3) (a1 (vv 4) (a1 (bi .Add (vv 5) (ix (vv 1) (kk (.int 1)))) (a1 (bi .Add (vv 6) (kk (.int 1))) (a1 (kk (.int 0)) (a1 (vv 8) (a1 (kk .non) a0)))))))) (a1 (kk .non) a0)))) zPass)
  (zSeq (zIf (tCm (cm .Eq (ix (vv 1) (kk (.int 0))) (kk (.str "own"))))
  (zRet (tu (a1 (tu (a1 (vv 3) (a1 (vv 4) (a1 (bi .Add (vv 5) (vv 4)) (a1 (bi .Add (vv 6) (kk (.int 1))) (a1 (kk (.int 0)) (a1 (vv 8) (a1 (kk .non) a0)))))))) (a1 (kk .non) a0)))) zPass)
  (zSeq (zIf (tCm (cm .Eq (vv 4) (kk (.int 0))))
  (zRet (tu (a1 (tu (a1 (vv 3) (a1 (vv 4) (a1 (vv 5) (a1 (bi .Add (vv 6) (kk (.int 1))) (a1 (kk (.int 0)) (a1 (vv 8) (a1 (kk .non) a0)))))))) (a1 (kk .non) a0)))) zPass)
  (zSeq (zIf (tCm (cm .Eq (ix (vv 1) (kk (.int 0))) (kk (.str "ask"))))
  (zSet 9 (vv 2)) zPass)
  (zRet (tu (a1 (tu (a1 (vv 3) (a1 (vv 4) (a1 (vv 5) (a1 (bi .Add (vv 6) (kk (.int 1))) (a1 (kk (.int 0)) (a1 (vv 8) (a1 (vv 9) a0)))))))) (a1 (tu (a1 (ix (vv 1) (kk (.int 0))) (a1 (ix (vv 1) (kk (.int 1))) (a1 (ix (vv 1) (kk (.int 2))) (a1 (bi .Sub (vv 4) (kk (.int 1))) a0))))) a0))))))))))
def m_done : Fn := dF false 3 10 z_done
theorem w_done {x0 x1 x2 : D} {S : Store} {Qd : D → Store → Prop} {E : EX} (h : Z z_done [some x0, some x1, some x2, none, none, none, none, none, none, none] S (kF false S.length Qd E)) : W (m_done [x0, x1, x2] S) Qd E := W_dF h rfl rfl
def z_stepped : XS :=
  (zSeq (zSet 3 (ca m_first_running (a1 (vv 1) a0)))
  (zSeq (zSet 4 (ix (vv 1) (vv 3)))
  (zSeq (zSet 5 (ca m_body_of (a1 (vv 0) (a1 (ix (vv 4) (kk (.int 0))) a0))))
  (zSeq (zIf (tCm (cm .Eq (ix (vv 4) (kk (.int 3))) (bl .len (a1 (vv 5) a0))))
  (zRet (tu (a1 (bi .Add (sl (vv 1) p0 (p1 (vv 3))) (sl (vv 1) (p1 (bi .Add (vv 3) (kk (.int 1)))) p0)) (a1 (tu (a1 (kk (.str "over")) (a1 (ix (vv 4) (kk (.int 0))) (a1 (ix (vv 4) (kk (.int 1))) (a1 (ix (vv 4) (kk (.int 2))) (a1 (ix (vv 4) (kk (.int 5))) a0)))))) a0)))) zPass)
  (zSeq (zTup [4, 6] (ca m_done (a1 (vv 4) (a1 (ix (vv 5) (ix (vv 4) (kk (.int 3)))) (a1 (vv 2) a0)))))
  (zRet (tu (a1 (bi .Add (bi .Add (sl (vv 1) p0 (p1 (vv 3))) (tu (a1 (vv 4) a0))) (sl (vv 1) (p1 (bi .Add (vv 3) (kk (.int 1)))) p0)) (a1 (vv 6) a0)))))))))
def m_stepped : Fn := dF false 3 7 z_stepped
theorem w_stepped {x0 x1 x2 : D} {S : Store} {Qd : D → Store → Prop} {E : EX} (h : Z z_stepped [some x0, some x1, some x2, none, none, none, none] S (kF false S.length Qd E)) : W (m_stepped [x0, x1, x2] S) Qd E := W_dF h rfl rfl
def z__law_cell_at : XS :=
  (zSeq (zIf (tCm (cm .Lt (vv 1) (bl .len (a1 (vv 0) a0))))
  (zRet (ix (vv 0) (vv 1))) zPass)
  (zRet (kk (.int 0))))
def m__law_cell_at : Fn := dF false 2 2 z__law_cell_at
theorem w__law_cell_at {x0 x1 : D} {S : Store} {Qd : D → Store → Prop} {E : EX} (h : Z z__law_cell_at [some x0, some x1] S (kF false S.length Qd E)) : W (m__law_cell_at [x0, x1] S) Qd E := W_dF h rfl rfl
def z__law_mixed : XS :=
  (zSeq (zIf (tAnd (tCm (cm .GtE (vv 0) (bi .LShift (kk (.int 1)) (kk (.int 90))))) (tAnd (tCm (cm .Eq (bi .Mod (bl .int (a1 (vv 0) a0)) (kk (.int 2))) (kk (.int 1)))) (tCm (cm .Gt (bi .RShift (vv 0) (bi .Add (kk (.int 1)) (bi .Mult (kk (.int 31)) (vv 1)))) (kk (.int 0))))))
  (zRet (bi .Mod (bl .int (a1 (bi .RShift (vv 0) (bi .Add (kk (.int 1)) (bi .Mult (kk (.int 31)) (vv 1)))) a0)) (kk (.int 2147483648)))) zPass)
  (zSeq (zSet 2 (bi .Mod (bl .int (a1 (bi .Mult (bi .Add (bi .Add (bi .Mod (bl .int (a1 (vv 0) a0)) (kk (.int 2147483647))) (bi .Mult (kk (.int 7919)) (vv 1))) (kk (.int 1))) (kk (.int 48271))) a0)) (kk (.int 2147483647))))
  (zSeq (zSet 2 (bi .Mod (bl .int (a1 (bi .Mult (vv 2) (bi .Add (bi .FloorDiv (vv 2) (kk (.int 1009))) (kk (.int 69621)))) a0)) (kk (.int 2147483629))))
  (zRet (bi .Mod (bl .int (a1 (bi .Mult (vv 2) (bi .Add (bi .Add (bi .FloorDiv (vv 2) (kk (.int 2003))) (kk (.int 39373))) (bi .Mult (vv 1) (vv 1)))) a0)) (kk (.int 2147483587)))))))
def m__law_mixed : Fn := dF false 2 3 z__law_mixed
theorem w__law_mixed {x0 x1 : D} {S : Store} {Qd : D → Store → Prop} {E : EX} (h : Z z__law_mixed [some x0, some x1, none] S (kF false S.length Qd E)) : W (m__law_mixed [x0, x1] S) Qd E := W_dF h rfl rfl
def z__law_draw : XS :=
  (zSeq (zSub (vv 0) (kk (.str "at")) (bi .Add (ix (vv 0) (kk (.str "at"))) (kk (.int 1))))
  (zRet (bi .Mod (bl .int (a1 (bi .FloorDiv (ca m__law_mixed (a1 (ix (vv 0) (kk (.str "cell"))) (a1 (ix (vv 0) (kk (.str "at"))) a0))) (kk (.int 3))) a0)) (vv 1))))
def m__law_draw : Fn := dF false 2 2 z__law_draw
theorem w__law_draw {x0 x1 : D} {S : Store} {Qd : D → Store → Prop} {E : EX} (h : Z z__law_draw [some x0, some x1] S (kF false S.length Qd E)) : W (m__law_draw [x0, x1] S) Qd E := W_dF h rfl rfl
def z__law_one : XS :=
  (zRet (ix (vv 1) (ca m__law_draw (a1 (vv 0) (a1 (bl .len (a1 (vv 1) a0)) a0)))))
def m__law_one : Fn := dF false 2 2 z__law_one
theorem w__law_one {x0 x1 : D} {S : Store} {Qd : D → Store → Prop} {E : EX} (h : Z z__law_one [some x0, some x1] S (kF false S.length Qd E)) : W (m__law_one [x0, x1] S) Qd E := W_dF h rfl rfl
def z__law_names : XS :=
  (zSeq (zSet 2 (kk (.str "abcdefghijklmnopqrstuvwxyz")))
  (zSeq (zSet 3 (lsv a0))
  (zSeq (zFor (b1 4) (r1 (bi .Mult (kk (.int 3)) (vv 1)))
  (zSeq (zSet 5 (kk (.str "")))
    (zSeq (zFor (b1 6) (r1 (ix (lsv (a1 (kk (.int 1)) (a1 (bi .Add (kk (.int 1)) (ca m__law_draw (a1 (vv 0) (a1 (kk (.int 8)) a0)))) a0))) (ca m__law_draw (a1 (vv 0) (a1 (kk (.int 2)) a0)))))
    (zSet 5 (bi .Add (vv 5) (ix (vv 2) (ca m__law_draw (a1 (vv 0) (a1 (kk (.int 26)) a0)))))))
    (zSet 3 (bi .Add (vv 3) (bi .Mult (lsv (a1 (vv 5) a0)) (bl .int (a1 (cm .NotIn (vv 5) (vv 3)) a0))))))))
  (zRet (sl (bi .Add (vv 3) (lcv1 [7] (iv (lcv [8] (iv (vv 2)) (b1 8) (bi .Add (kk (.str "u")) (vv 8)))) (b1 7) (tCm (cm .NotIn (vv 7) (vv 3))) (vv 7))) p0 (p1 (vv 1)))))))
def m__law_names : Fn := dF false 2 9 z__law_names
theorem w__law_names {x0 x1 : D} {S : Store} {Qd : D → Store → Prop} {E : EX} (h : Z z__law_names [some x0, some x1, none, none, none, none, none, none, none] S (kF false S.length Qd E)) : W (m__law_names [x0, x1] S) Qd E := W_dF h rfl rfl
def z__law_statement : XS :=
  (zSeq (zSet 4 (ca m__law_draw (a1 (vv 0) (a1 (kk (.int 6)) a0))))
  (zSeq (zIf (tAnd (tCm (cm .Gt (vv 4) (kk (.int 2)))) (tCm (cm .Lt (vv 3) (kk (.int 3)))))
  (zRet (tu (a1 (ix (lsv (a1 (kk (.str "make")) (a1 (kk (.str "ask")) a0))) (ca m__law_draw (a1 (vv 0) (a1 (kk (.int 2)) a0)))) (a1 (ca m__law_one (a1 (vv 0) (a1 (vv 1) a0))) (a1 (ca m__law_one (a1 (vv 0) (a1 (vv 2) a0))) a0))))) zPass)
  (zSeq (zIf (tCm (cm .Eq (vv 4) (kk (.int 0))))
  (zRet (tu (a1 (kk (.str "own")) a0))) zPass)
  (zSeq (zIf (tCm (cm .Eq (vv 4) (kk (.int 1))))
  (zRet (tu (a1 (kk (.str "spin")) (a1 (bi .Add (kk (.int 1)) (ca m__law_draw (a1 (vv 0) (a1 (kk (.int 4)) a0)))) a0)))) zPass)
  (zRet (tu (a1 (kk (.str "add")) (a1 (ix (lsv (a1 (bi .Sub (ca m__law_draw (a1 (vv 0) (a1 (kk (.int 9)) a0))) (kk (.int 4))) (a1 (bi .Sub (ca m__law_draw (a1 (vv 0) (a1 (kk (.int 2001)) a0))) (kk (.int 1000))) (a1 (kk (.int 1000)) (a1 (ng (kk (.int 1000))) a0))))) (ca m__law_draw (a1 (vv 0) (a1 (kk (.int 4)) a0)))) a0))))))))
def m__law_statement : Fn := dF false 4 5 z__law_statement
theorem w__law_statement {x0 x1 x2 x3 : D} {S : Store} {Qd : D → Store → Prop} {E : EX} (h : Z z__law_statement [some x0, some x1, some x2, some x3, none] S (kF false S.length Qd E)) : W (m__law_statement [x0, x1, x2, x3] S) Qd E := W_dF h rfl rfl
def z__law_body : XS :=
  (zSeq (zSet 3 (lsm a0))
  (zSeq (zFor (b1 4) (r1 (ca m__law_draw (a1 (vv 0) (a1 (kk (.int 7)) a0))))
  (zSeq (zSet 5 (bl .len (a1 (lcv1 [6] (iv (vv 3)) (b1 6) (tCm (cm .In (ix (vv 6) (kk (.int 0))) (tu (a1 (kk (.str "make")) (a1 (kk (.str "ask")) a0))))) (vv 6)) a0)))
    (zExp (me "append" (vv 3) (a1 (ca m__law_statement (a1 (vv 0) (a1 (vv 1) (a1 (vv 2) (a1 (vv 5) a0))))) a0)))))
  (zRet (bl .tuple (a1 (vv 3) a0)))))
def m__law_body : Fn := dF false 3 7 z__law_body
theorem w__law_body {x0 x1 x2 : D} {S : Store} {Qd : D → Store → Prop} {E : EX} (h : Z z__law_body [some x0, some x1, some x2, none, none, none, none] S (kF false S.length Qd E)) : W (m__law_body [x0, x1, x2] S) Qd E := W_dF h rfl rfl
def z__law_works : XS :=
  (zSeq (zSet 1 (ca m__law_names (a1 (vv 0) (a1 (bi .Add (kk (.int 1)) (ca m__law_draw (a1 (vv 0) (a1 (kk (.int 4)) a0)))) a0))))
  (zSeq (zSet 2 (ca m__law_names (a1 (vv 0) (a1 (bi .Add (kk (.int 1)) (ca m__law_draw (a1 (vv 0) (a1 (kk (.int 5)) a0)))) a0))))
  (zRet (tu (a1 (vv 1) (a1 (lcv [3] (iv (vv 2)) (b1 3) (tu (a1 (vv 3) (a1 (ca m__law_body (a1 (vv 0) (a1 (vv 1) (a1 (vv 2) a0)))) a0)))) a0))))))
def m__law_works : Fn := dF false 1 4 z__law_works
theorem w__law_works {x0 : D} {S : Store} {Qd : D → Store → Prop} {E : EX} (h : Z z__law_works [some x0, none, none, none] S (kF false S.length Qd E)) : W (m__law_works [x0] S) Qd E := W_dF h rfl rfl
def z__law_plain : XS :=
  (zSeq (zSet 1 (lsm a0))
  (zSeq (zFor (b1 2) (iv (vv 0))
  (zExp (me "append" (vv 1) (a1 (tu (a1 (ix (vv 2) (kk (.str "name"))) (a1 (ix (vv 2) (kk (.str "x"))) (a1 (ix (vv 2) (kk (.str "sum"))) (a1 (ix (vv 2) (kk (.str "at"))) (a1 (ix (vv 2) (kk (.str "left"))) (a1 (ix (vv 2) (kk (.str "ask"))) (a1 (ix (vv 2) (kk (.str "waits"))) a0)))))))) a0))))
  (zRet (bl .tuple (a1 (vv 1) a0)))))
def m__law_plain : Fn := dF false 1 3 z__law_plain
theorem w__law_plain {x0 : D} {S : Store} {Qd : D → Store → Prop} {E : EX} (h : Z z__law_plain [some x0, none, none] S (kF false S.length Qd E)) : W (m__law_plain [x0] S) Qd E := W_dF h rfl rfl
def z__law_called : XS :=
  (zSeq (zSub (vv 0) (kk (.str "at")) (bi .Add (ix (vv 0) (kk (.str "at"))) (kk (.int 1))))
  (zSeq (zIf (tCm (cm .Eq (ix (vv 0) (kk (.str "x"))) (kk (.int 0))))
  (zRet (kk .non)) zPass)
  (zSeq (zIf (tCm (cm .Eq (ix (vv 1) (kk (.int 0))) (kk (.str "ask"))))
  (zSub (vv 0) (kk (.str "waits")) (vv 2)) zPass)
  (zRet (tu (a1 (ix (vv 1) (kk (.int 0))) (a1 (ix (vv 1) (kk (.int 1))) (a1 (ix (vv 1) (kk (.int 2))) (a1 (bi .Sub (ix (vv 0) (kk (.str "x"))) (kk (.int 1))) a0)))))))))
def m__law_called : Fn := dF false 3 3 z__law_called
theorem w__law_called {x0 x1 x2 : D} {S : Store} {Qd : D → Store → Prop} {E : EX} (h : Z z__law_called [some x0, some x1, some x2] S (kF false S.length Qd E)) : W (m__law_called [x0, x1, x2] S) Qd E := W_dF h rfl rfl
def z__law_step : XS :=
  (zSeq (zSet 3 (me "index" (lcv [4] (iv (vv 1)) (b1 4) (cm .Is (ix (vv 4) (kk (.str "waits"))) (kk .non))) (a1 (kk (.bl true)) a0)))
  (zSeq (zSet 4 (ix (vv 1) (vv 3)))
  (zSeq (zSet 5 (ix (lcv1 [7, 5] (iv (ix (vv 0) (kk (.int 1)))) (bT [7, 5]) (tCm (cm .Eq (vv 7) (ix (vv 4) (kk (.str "name"))))) (vv 5)) (kk (.int 0))))
  (zSeq (zIf (tCm (cm .Eq (ix (vv 4) (kk (.str "at"))) (bl .len (a1 (vv 5) a0))))
  (zSeq (zExp (me "pop" (vv 1) (a1 (vv 3) a0)))
    (zRet (tu (a1 (kk (.str "over")) (a1 (ix (vv 4) (kk (.str "name"))) (a1 (ix (vv 4) (kk (.str "x"))) (a1 (ix (vv 4) (kk (.str "sum"))) (a1 (ix (vv 4) (kk (.str "ask"))) a0)))))))) zPass)
  (zSeq (zSet 6 (ix (vv 5) (ix (vv 4) (kk (.str "at")))))
  (zSeq (zIf (tCm (cm .In (ix (vv 6) (kk (.int 0))) (tu (a1 (kk (.str "make")) (a1 (kk (.str "ask")) a0)))))
  (zRet (ca m__law_called (a1 (vv 4) (a1 (vv 6) (a1 (vv 2) a0))))) zPass)
  (zSeq (zIf (tCm (cm .Eq (ix (vv 6) (kk (.int 0))) (kk (.str "spin"))))
  (zSeq (zSub (vv 4) (kk (.str "left")) (bi .Sub (ix (lsv (a1 (ix (vv 4) (kk (.str "left"))) (a1 (ix (vv 6) (kk (.int 1))) a0))) (bl .int (a1 (cm .Eq (ix (vv 4) (kk (.str "left"))) (kk (.int 0))) a0))) (kk (.int 1))))
    (zSeq (zSub (vv 4) (kk (.str "at")) (bi .Add (ix (vv 4) (kk (.str "at"))) (bl .int (a1 (cm .Eq (ix (vv 4) (kk (.str "left"))) (kk (.int 0))) a0))))
    (zRet (kk .non)))) zPass)
  (zSeq (zSub (vv 4) (kk (.str "sum")) (bi .Add (ix (vv 4) (kk (.str "sum"))) (ix (lsv (a1 (ix (vv 4) (kk (.str "x"))) (a1 (ix (vv 6) (ng (kk (.int 1)))) a0))) (bl .int (a1 (cm .Eq (ix (vv 6) (kk (.int 0))) (kk (.str "add"))) a0)))))
  (zSeq (zSub (vv 4) (kk (.str "at")) (bi .Add (ix (vv 4) (kk (.str "at"))) (kk (.int 1))))
  (zRet (kk .non)))))))))))
def m__law_step : Fn := dF false 3 8 z__law_step
theorem w__law_step {x0 x1 x2 : D} {S : Store} {Qd : D → Store → Prop} {E : EX} (h : Z z__law_step [some x0, some x1, some x2, none, none, none, none, none] S (kF false S.length Qd E)) : W (m__law_step [x0, x1, x2] S) Qd E := W_dF h rfl rfl
def z__law_taken : XS :=
  (zSeq (zSet 4 (ix (lsv (a1 (kk .non) (a1 (tu (a1 (ca m__law_one (a1 (vv 0) (a1 (ix (vv 1) (kk (.int 0))) a0))) (a1 (ca m__law_draw (a1 (vv 0) (a1 (kk (.int 50)) a0))) a0))) a0))) (ca m__law_draw (a1 (vv 0) (a1 (kk (.int 2)) a0)))))
  (zSeq (zSet 5 (ca m__law_one (a1 (vv 0) (a1 (lcv [5, 7] (iv (ix (vv 1) (kk (.int 1)))) (bT [5, 7]) (vv 5)) a0))))
  (zSeq (zSet 6 (ca m__law_draw (a1 (vv 0) (a1 (kk (.int 4)) a0))))
  (zSeq (zExp (me "append" (vv 2) (a1 (dis (k1 (kk (.str "name")) (vv 5) (k1 (kk (.str "x")) (vv 6) (k1 (kk (.str "sum")) (kk (.int 0)) (k1 (kk (.str "at")) (kk (.int 0)) (k1 (kk (.str "left")) (kk (.int 0)) (k1 (kk (.str "ask")) (vv 4) (k1 (kk (.str "waits")) (kk .non) k0)))))))) a0)))
  (zRet (ca m_taken (a1 (vv 3) (a1 (vv 5) (a1 (vv 6) (a1 (vv 4) a0))))))))))
def m__law_taken : Fn := dF false 4 8 z__law_taken
theorem w__law_taken {x0 x1 x2 x3 : D} {S : Store} {Qd : D → Store → Prop} {E : EX} (h : Z z__law_taken [some x0, some x1, some x2, some x3, none, none, none, none] S (kF false S.length Qd E)) : W (m__law_taken [x0, x1, x2, x3] S) Qd E := W_dF h rfl rfl
def z__law_answered : XS :=
  (zSeq (zSet 3 (bi .Sub (ca m__law_draw (a1 (vv 0) (a1 (kk (.int 4001)) a0))) (kk (.int 2000))))
  (zSeq (zSet 4 (lcv1 [6] (iv (vv 1)) (b1 6) (tCm (cm .IsNot (ix (vv 6) (kk (.str "waits"))) (kk .non))) (ix (vv 6) (kk (.str "waits")))))
  (zSeq (zSet 5 (tu (a1 (kk (.str "nobody")) (a1 (ca m__law_draw (a1 (vv 0) (a1 (kk (.int 9)) a0))) a0))))
  (zSeq (zIf (tAnd (tCm (cm .NotEq (vv 4) (lsv a0))) (tCm (cm .Gt (ca m__law_draw (a1 (vv 0) (a1 (kk (.int 6)) a0))) (kk (.int 0)))))
  (zSet 5 (ca m__law_one (a1 (vv 0) (a1 (vv 4) a0)))) zPass)
  (zSeq (zFor (b1 6) (iv (vv 1))
  (zIf (tCm (cm .Eq (ix (vv 6) (kk (.str "waits"))) (vv 5)))
    (zSeq (zSub (vv 6) (kk (.str "sum")) (bi .Add (ix (vv 6) (kk (.str "sum"))) (vv 3)))
      (zSub (vv 6) (kk (.str "waits")) (kk .non))) zPass))
  (zRet (ca m_answered (a1 (vv 2) (a1 (vv 5) (a1 (vv 3) a0))))))))))
def m__law_answered : Fn := dF false 3 7 z__law_answered
theorem w__law_answered {x0 x1 x2 : D} {S : Store} {Qd : D → Store → Prop} {E : EX} (h : Z z__law_answered [some x0, some x1, some x2, none, none, none, none] S (kF false S.length Qd E)) : W (m__law_answered [x0, x1, x2] S) Qd E := W_dF h rfl rfl
def z_law : XS :=
  (zSeq (zSet 1 (dis (k1 (kk (.str "cell")) (ca m__law_cell_at (a1 (vv 0) (a1 (kk (.int 0)) a0))) (k1 (kk (.str "at")) (kk (.int 0)) k0))))
  (zSeq (zSet 2 (ca m__law_works (a1 (vv 1) a0)))
  (zSeq (zSet 3 (tu (a1 (bl .list (a1 (ix (vv 2) (kk (.int 0))) a0)) (a1 (bl .list (a1 (ix (vv 2) (kk (.int 1))) a0)) a0))))
  (zSeq (zSet 4 (lsm a0))
  (zSeq (zSet 5 (tu a0))
  (zSeq (zSet 6 (kk (.int 0)))
  (zSeq (zFor (b1 7) (iv (sl (vv 0) (p1 (kk (.int 1))) (p1 (kk (.int 61)))))
  (zSeq (zSet 1 (dis (k1 (kk (.str "cell")) (vv 7) (k1 (kk (.str "at")) (kk (.int 0)) k0))))
    (zSeq (zSet 8 (ca m__law_draw (a1 (vv 1) (a1 (kk (.int 8)) a0))))
    (zSeq (zSet 9 (tu (a1 (vv 5) (a1 (ca m__law_plain (a1 (vv 4) a0)) a0))))
    (zSeq (zSet 10 (lcv1 [14] (iv (vv 4)) (b1 14) (tCm (cm .Is (ix (vv 14) (kk (.str "waits"))) (kk .non))) (vv 14)))
    (zSeq (zIf (tOr (tCm (cm .Eq (vv 8) (kk (.int 0)))) (tCm (cm .Eq (vv 4) (lsv a0))))
    (zSet 11 (ca m__law_taken (a1 (vv 1) (a1 (vv 2) (a1 (vv 4) (a1 (vv 5) a0))))))
    (zIf (tOr (tCm (cm .Eq (vv 8) (kk (.int 1)))) (tCm (cm .Eq (vv 10) (lsv a0))))
      (zSet 11 (ca m__law_answered (a1 (vv 1) (a1 (vv 4) (a1 (vv 5) a0)))))
      (zSeq (zTup [11, 12] (ca m_stepped (a1 (vv 2) (a1 (vv 5) (a1 (tu (a1 (kk (.str "here")) (a1 (vv 6) a0))) a0)))))
        (zSeq (zSet 13 (ca m__law_step (a1 (vv 2) (a1 (vv 4) (a1 (tu (a1 (kk (.str "here")) (a1 (vv 6) a0))) a0)))))
        (zSeq (zSet 6 (bi .Add (vv 6) (bl .int (a1 (andE (cm .IsNot (vv 13) (kk .non)) (cm .Eq (ix (vv 13) (kk (.int 0))) (kk (.str "ask")))) a0))))
        (zIf (tOr (tCm (cm .NotEq (vv 12) (vv 13))) (tAnd (tCm (cm .IsNot (vv 12) (kk .non))) (tNot (tTr (isn (vv 12) "tuple")))))
        (zRet (kk (.bl false))) zPass))))))
    (zSeq (zIf (tOr (tCm (cm .NotEq (ix (vv 9) (kk (.int 0))) (ix (vv 9) (kk (.int 1))))) (tOr (tNot (tTr (isn (vv 11) "tuple"))) (tCm (cm .NotEq (vv 11) (ca m__law_plain (a1 (vv 4) a0))))))
    (zRet (kk (.bl false))) zPass)
    (zSeq (zSet 5 (vv 11))
    (zSeq (zSet 13 (cm .NotEq (lcv1 [14] (iv (vv 4)) (b1 14) (tCm (cm .Is (ix (vv 14) (kk (.str "waits"))) (kk .non))) (vv 14)) (lsv a0)))
    (zIf (tOr (tNot (tTr (isn (ca m_runs (a1 (vv 5) a0)) "bool"))) (tCm (cm .NotEq (ca m_runs (a1 (vv 5) a0)) (vv 13))))
    (zRet (kk (.bl false))) zPass))))))))))
  (zRet (andE (cm .Eq (vv 2) (vv 3)) (cm .Is (ca m_runs (a1 (tu a0) a0)) (kk (.bl false))))))))))))
def m_law : Fn := dF false 1 15 z_law
theorem w_law {x0 : D} {S : Store} {Qd : D → Store → Prop} {E : EX} (h : Z z_law [some x0, none, none, none, none, none, none, none, none, none, none, none, none, none, none] S (kF false S.length Qd E)) : W (m_law [x0] S) Qd E := W_dF h rfl rfl
def cs : List (Str × D) := []
def frees : List Str := ["dict", "all", "tuple", "int", "len", "range", "isinstance", "bool", "list"]
def excs : List Str := []
def muts : List (Nat × Nat) := [(14, 12), (83, 17), (93, 17), (142, 17)]
def c0 : Cfg := cfg0 cs frees excs muts kt
def R0 : DefR := ⟨"body_of", top 1, ["works", "name"], ["works", "name"], false, m_body_of⟩
def c1 : Cfg := c0.add "body_of" m_body_of
def R1 : DefR := ⟨"waits", top 3, ["work"], ["work"], false, m_waits⟩
def c2 : Cfg := c1.add "waits" m_waits
def R2 : DefR := ⟨"runs", top 4, ["hand"], ["hand", "work"], false, m_runs⟩
def c3 : Cfg := c2.add "runs" m_runs
def R3 : DefR := ⟨"first_running", top 5, ["hand"], ["hand", "work"], false, m_first_running⟩
def c4 : Cfg := c3.add "first_running" m_first_running
def R4 : DefR := ⟨"taken", top 6, ["hand", "name", "x", "ask"], ["hand", "name", "x", "ask"], false, m_taken⟩
def c5 : Cfg := c4.add "taken" m_taken
def R5 : DefR := ⟨"answered", top 7, ["hand", "ask", "number"], ["hand", "ask", "number", "found", "work", "name", "x", "total", "at", "left", "own", "waited"], false, m_answered⟩
def c6 : Cfg := c5.add "answered" m_answered
def R6 : DefR := ⟨"spun", top 8, ["work", "many"], ["work", "many", "name", "x", "total", "at", "left", "own", "waited"], false, m_spun⟩
def c7 : Cfg := c6.add "spun" m_spun
def R7 : DefR := ⟨"done", top 9, ["work", "statement", "ask"], ["work", "statement", "ask", "name", "x", "total", "at", "left", "own", "waited"], false, m_done⟩
def c8 : Cfg := c7.add "done" m_done
def R8 : DefR := ⟨"stepped", top 10, ["works", "hand", "ask"], ["works", "hand", "ask", "place", "work", "body", "what"], false, m_stepped⟩
def c9 : Cfg := c8.add "stepped" m_stepped
def R9 : DefR := ⟨"_law_cell_at", top 12, ["_law_script", "_law_k"], ["_law_script", "_law_k"], false, m__law_cell_at⟩
def c10 : Cfg := c9.add "_law_cell_at" m__law_cell_at
def R10 : DefR := ⟨"_law_mixed", top 13, ["_law_cell", "_law_k"], ["_law_cell", "_law_k", "_law_number"], false, m__law_mixed⟩
def c11 : Cfg := c10.add "_law_mixed" m__law_mixed
def R11 : DefR := ⟨"_law_draw", top 14, ["_law_draw_here", "_law_many"], ["_law_draw_here", "_law_many"], false, m__law_draw⟩
def c12 : Cfg := c11.add "_law_draw" m__law_draw
def R12 : DefR := ⟨"_law_one", top 15, ["_law_draw_here", "_law_some"], ["_law_draw_here", "_law_some"], false, m__law_one⟩
def c13 : Cfg := c12.add "_law_one" m__law_one
def R13 : DefR := ⟨"_law_names", top 16, ["_law_draw_here", "_law_many"], ["_law_draw_here", "_law_many", "_law_letters", "_law_found", "_law_k", "_law_name", "_law_j", "_law_one_here", "_law_letter"], false, m__law_names⟩
def c14 : Cfg := c13.add "_law_names" m__law_names
def R14 : DefR := ⟨"_law_statement", top 17, ["_law_draw_here", "_law_houses", "_law_names_here", "_law_calls"], ["_law_draw_here", "_law_houses", "_law_names_here", "_law_calls", "_law_way"], false, m__law_statement⟩
def c15 : Cfg := c14.add "_law_statement" m__law_statement
def R15 : DefR := ⟨"_law_body", top 18, ["_law_draw_here", "_law_houses", "_law_names_here"], ["_law_draw_here", "_law_houses", "_law_names_here", "_law_found", "_law_k", "_law_calls", "_law_one_here"], false, m__law_body⟩
def c16 : Cfg := c15.add "_law_body" m__law_body
def R16 : DefR := ⟨"_law_works", top 19, ["_law_draw_here"], ["_law_draw_here", "_law_houses", "_law_names_here", "_law_name"], false, m__law_works⟩
def c17 : Cfg := c16.add "_law_works" m__law_works
def R17 : DefR := ⟨"_law_plain", top 20, ["_law_hand"], ["_law_hand", "_law_found", "_law_one_here"], false, m__law_plain⟩
def c18 : Cfg := c17.add "_law_plain" m__law_plain
def R18 : DefR := ⟨"_law_called", top 21, ["_law_one_here", "_law_statement_here", "_law_ask"], ["_law_one_here", "_law_statement_here", "_law_ask"], false, m__law_called⟩
def c19 : Cfg := c18.add "_law_called" m__law_called
def R19 : DefR := ⟨"_law_step", top 22, ["_law_works_here", "_law_hand", "_law_ask"], ["_law_works_here", "_law_hand", "_law_ask", "_law_place", "_law_one_here", "_law_body_here", "_law_statement_here", "_law_name"], false, m__law_step⟩
def c20 : Cfg := c19.add "_law_step" m__law_step
def R20 : DefR := ⟨"_law_taken", top 23, ["_law_draw_here", "_law_works_here", "_law_model", "_law_hand"], ["_law_draw_here", "_law_works_here", "_law_model", "_law_hand", "_law_ask", "_law_name", "_law_x", "_law_body_here"], false, m__law_taken⟩
def c21 : Cfg := c20.add "_law_taken" m__law_taken
def R21 : DefR := ⟨"_law_answered", top 24, ["_law_draw_here", "_law_model", "_law_hand"], ["_law_draw_here", "_law_model", "_law_hand", "_law_number", "_law_asks", "_law_ask", "_law_one_here"], false, m__law_answered⟩
def c22 : Cfg := c21.add "_law_answered" m__law_answered
def R22 : DefR := ⟨"law", top 25, ["_law_script"], ["_law_script", "_law_draw_here", "_law_works_here", "_law_handed", "_law_model", "_law_hand", "_law_asks", "_law_cell", "_law_way", "_law_before", "_law_running", "_law_told", "_law_what", "_law_due", "_law_one_here"], false, m_law⟩
def c23 : Cfg := c22.add "law" m_law
abbrev RL : DefR := R22
def rs : List DefR := [R0, R1, R2, R3, R4, R5, R6, R7, R8, R9, R10, R11, R12, R13, R14, R15, R16, R17, R18, R19, R20, R21]
theorem k0 : R0.Ok := ⟨by kernel_rfl, fun _ _ _ _ _ _ us hl => match us, hl with | [_, _], _ => rfl⟩
theorem e0 : runF c0 R0.frz R0.ps R0.N (scopeOf R0.st) 100 (bodyOf R0.st) = R0.φ := by kernel_rfl
theorem k1 : R1.Ok := ⟨by kernel_rfl, fun _ _ _ _ _ _ us hl => match us, hl with | [_], _ => rfl⟩
theorem e1 : runF c1 R1.frz R1.ps R1.N (scopeOf R1.st) 100 (bodyOf R1.st) = R1.φ := by kernel_rfl
theorem k2 : R2.Ok := ⟨by kernel_rfl, fun _ _ _ _ _ _ us hl => match us, hl with | [_], _ => rfl⟩
theorem e2 : runF c2 R2.frz R2.ps R2.N (scopeOf R2.st) 100 (bodyOf R2.st) = R2.φ := by kernel_rfl
theorem k3 : R3.Ok := ⟨by kernel_rfl, fun _ _ _ _ _ _ us hl => match us, hl with | [_], _ => rfl⟩
theorem e3 : runF c3 R3.frz R3.ps R3.N (scopeOf R3.st) 100 (bodyOf R3.st) = R3.φ := by kernel_rfl
theorem k4 : R4.Ok := ⟨by kernel_rfl, fun _ _ _ _ _ _ us hl => match us, hl with | [_, _, _, _], _ => rfl⟩
theorem e4 : runF c4 R4.frz R4.ps R4.N (scopeOf R4.st) 100 (bodyOf R4.st) = R4.φ := by kernel_rfl
theorem k5 : R5.Ok := ⟨by kernel_rfl, fun _ _ _ _ _ _ us hl => match us, hl with | [_, _, _], _ => rfl⟩
theorem e5 : runF c5 R5.frz R5.ps R5.N (scopeOf R5.st) 100 (bodyOf R5.st) = R5.φ := by kernel_rfl
theorem k6 : R6.Ok := ⟨by kernel_rfl, fun _ _ _ _ _ _ us hl => match us, hl with | [_, _], _ => rfl⟩
theorem e6 : runF c6 R6.frz R6.ps R6.N (scopeOf R6.st) 100 (bodyOf R6.st) = R6.φ := by kernel_rfl
theorem k7 : R7.Ok := ⟨by kernel_rfl, fun _ _ _ _ _ _ us hl => match us, hl with | [_, _, _], _ => rfl⟩
theorem e7 : runF c7 R7.frz R7.ps R7.N (scopeOf R7.st) 100 (bodyOf R7.st) = R7.φ := by kernel_rfl
theorem k8 : R8.Ok := ⟨by kernel_rfl, fun _ _ _ _ _ _ us hl => match us, hl with | [_, _, _], _ => rfl⟩
theorem e8 : runF c8 R8.frz R8.ps R8.N (scopeOf R8.st) 100 (bodyOf R8.st) = R8.φ := by kernel_rfl
theorem k9 : R9.Ok := ⟨by kernel_rfl, fun _ _ _ _ _ _ us hl => match us, hl with | [_, _], _ => rfl⟩
theorem e9 : runF c9 R9.frz R9.ps R9.N (scopeOf R9.st) 100 (bodyOf R9.st) = R9.φ := by kernel_rfl
theorem k10 : R10.Ok := ⟨by kernel_rfl, fun _ _ _ _ _ _ us hl => match us, hl with | [_, _], _ => rfl⟩
theorem e10 : runF c10 R10.frz R10.ps R10.N (scopeOf R10.st) 100 (bodyOf R10.st) = R10.φ := by kernel_rfl
theorem k11 : R11.Ok := ⟨by kernel_rfl, fun _ _ _ _ _ _ us hl => match us, hl with | [_, _], _ => rfl⟩
theorem e11 : runF c11 R11.frz R11.ps R11.N (scopeOf R11.st) 100 (bodyOf R11.st) = R11.φ := by kernel_rfl
theorem k12 : R12.Ok := ⟨by kernel_rfl, fun _ _ _ _ _ _ us hl => match us, hl with | [_, _], _ => rfl⟩
theorem e12 : runF c12 R12.frz R12.ps R12.N (scopeOf R12.st) 100 (bodyOf R12.st) = R12.φ := by kernel_rfl
theorem k13 : R13.Ok := ⟨by kernel_rfl, fun _ _ _ _ _ _ us hl => match us, hl with | [_, _], _ => rfl⟩
theorem e13 : runF c13 R13.frz R13.ps R13.N (scopeOf R13.st) 100 (bodyOf R13.st) = R13.φ := by kernel_rfl
theorem k14 : R14.Ok := ⟨by kernel_rfl, fun _ _ _ _ _ _ us hl => match us, hl with | [_, _, _, _], _ => rfl⟩
theorem e14 : runF c14 R14.frz R14.ps R14.N (scopeOf R14.st) 100 (bodyOf R14.st) = R14.φ := by kernel_rfl
theorem k15 : R15.Ok := ⟨by kernel_rfl, fun _ _ _ _ _ _ us hl => match us, hl with | [_, _, _], _ => rfl⟩
theorem e15 : runF c15 R15.frz R15.ps R15.N (scopeOf R15.st) 100 (bodyOf R15.st) = R15.φ := by kernel_rfl
theorem k16 : R16.Ok := ⟨by kernel_rfl, fun _ _ _ _ _ _ us hl => match us, hl with | [_], _ => rfl⟩
theorem e16 : runF c16 R16.frz R16.ps R16.N (scopeOf R16.st) 100 (bodyOf R16.st) = R16.φ := by kernel_rfl
theorem k17 : R17.Ok := ⟨by kernel_rfl, fun _ _ _ _ _ _ us hl => match us, hl with | [_], _ => rfl⟩
theorem e17 : runF c17 R17.frz R17.ps R17.N (scopeOf R17.st) 100 (bodyOf R17.st) = R17.φ := by kernel_rfl
theorem k18 : R18.Ok := ⟨by kernel_rfl, fun _ _ _ _ _ _ us hl => match us, hl with | [_, _, _], _ => rfl⟩
theorem e18 : runF c18 R18.frz R18.ps R18.N (scopeOf R18.st) 100 (bodyOf R18.st) = R18.φ := by kernel_rfl
theorem k19 : R19.Ok := ⟨by kernel_rfl, fun _ _ _ _ _ _ us hl => match us, hl with | [_, _, _], _ => rfl⟩
theorem e19 : runF c19 R19.frz R19.ps R19.N (scopeOf R19.st) 100 (bodyOf R19.st) = R19.φ := by kernel_rfl
theorem k20 : R20.Ok := ⟨by kernel_rfl, fun _ _ _ _ _ _ us hl => match us, hl with | [_, _, _, _], _ => rfl⟩
theorem e20 : runF c20 R20.frz R20.ps R20.N (scopeOf R20.st) 100 (bodyOf R20.st) = R20.φ := by kernel_rfl
theorem k21 : R21.Ok := ⟨by kernel_rfl, fun _ _ _ _ _ _ us hl => match us, hl with | [_, _, _], _ => rfl⟩
theorem e21 : runF c21 R21.frz R21.ps R21.N (scopeOf R21.st) 100 (bodyOf R21.st) = R21.φ := by kernel_rfl
theorem k22 : R22.Ok := ⟨by kernel_rfl, fun _ _ _ _ _ _ us hl => match us, hl with | [_], _ => rfl⟩
theorem e22 : runF c22 R22.frz R22.ps R22.N (scopeOf R22.st) 100 (bodyOf R22.st) = R22.φ := by kernel_rfl
theorem steps : Steps 100 c0 rs := ⟨⟨k0, e0⟩, ⟨k1, e1⟩, ⟨k2, e2⟩, ⟨k3, e3⟩, ⟨k4, e4⟩, ⟨k5, e5⟩, ⟨k6, e6⟩, ⟨k7, e7⟩, ⟨k8, e8⟩, ⟨k9, e9⟩, ⟨k10, e10⟩, ⟨k11, e11⟩, ⟨k12, e12⟩, ⟨k13, e13⟩, ⟨k14, e14⟩, ⟨k15, e15⟩, ⟨k16, e16⟩, ⟨k17, e17⟩, ⟨k18, e18⟩, ⟨k19, e19⟩, ⟨k20, e20⟩, ⟨k21, e21⟩, trivial⟩
end QL

namespace QL
open PySem Q
/-! ### works in hand: what the program's text does with them -/
abbrev Ak := List Nat × Int
def dA (a : Ak) : D := .tup [dS a.1, .int a.2]
def dAk : Option Ak → D
  | none => .non
  | some a => dA a
structure Wh where
  nm : List Nat
  x : Int
  tot : Int
  pl : Int
  lf : Int
  own : Option Ak
  wt : Option Ak
def dWh (w : Wh) : D := .tup [dS w.nm, .int w.x, .int w.tot, .int w.pl, .int w.lf, dAk w.own, dAk w.wt]
def dHand (h : List Wh) : D := .tup (h.map dWh)
inductive What where
  | no | call (b : Bool) (h n : List Nat) (x : Int) | over (nm : List Nat) (x tot : Int) (own : Option Ak)
def cOver : List Nat := [111, 118, 101, 114]
theorem kOver : Str.ofString "over" = SX.S cOver := by decide +kernel
def dWhat : What → D
  | .no => .non
  | .call b h n x => .tup [dS (cCall b), dS h, dS n, .int x]
  | .over nm x tot own => .tup [dS cOver, dS nm, .int x, .int tot, dAk own]
def runsH (h : List Wh) : Bool := h.any fun w => w.wt.isNone
def ansH (a : Ak) (n : Int) (h : List Wh) : List Wh := h.map fun w => if w.wt = some a then { w with tot := w.tot + n, wt := none } else w
def newW (nm : List Nat) (x : Int) (own : Option Ak) : Wh := ⟨nm, x, 0, 0, 0, own, none⟩
def leftF (l k : Int) : Int := (if l = 0 then k else l) - 1
def doneF (w : Wh) (m : Sm) (ask : Ak) : Wh × What := match m with
  | .spin k => ({ w with pl := w.pl + (if leftF w.lf k = 0 then 1 else 0), lf := leftF w.lf k, wt := none }, .no)
  | .add i => ({ w with tot := w.tot + i, pl := w.pl + 1, lf := 0, wt := none }, .no)
  | .own => ({ w with tot := w.tot + w.x, pl := w.pl + 1, lf := 0, wt := none }, .no)
  | .call b h n => if w.x = 0 then ({ w with pl := w.pl + 1, lf := 0, wt := none }, .no)
    else ({ w with pl := w.pl + 1, lf := 0, wt := if b then some ask else none }, .call b h n (w.x - 1))
def bodyOf (ws : List Wk) (nm : List Nat) : List Sm := match ws.find? (fun w => decide (w.1 = nm)) with
  | some w => w.2
  | none => []
def stepW (ws : List Wk) (w : Wh) (ask : Ak) : Option Wh × What :=
  if w.pl = (bodyOf ws w.nm).length then (none, .over w.nm w.x w.tot w.own)
  else let r := doneF w ((bodyOf ws w.nm).getD w.pl.toNat .own) ask
    (some r.1, r.2)
def stepH (ws : List Wk) (ask : Ak) : List Wh → List Wh × What
  | [] => ([], .no)
  | w :: t => if w.wt = none then ((stepW ws w ask).1.toList ++ t, (stepW ws w ask).2)
    else (w :: (stepH ws ask t).1, (stepH ws ask t).2)
theorem stepH_at {ws : List Wk} {ask : Ak} {w : Wh} {post : List Wh} (hw : w.wt = none) : ∀ {pre : List Wh}, (∀ v ∈ pre, v.wt ≠ none) → stepH ws ask (pre ++ w :: post) = (pre ++ ((stepW ws w ask).1.toList ++ post), (stepW ws w ask).2)
  | [], _ => by simp [stepH, hw]
  | v :: pre, h => by
    have hv := h v (List.mem_cons_self ..)
    rw [List.cons_append, stepH, if_neg hv, stepH_at hw fun u hu => h u (List.mem_cons_of_mem _ hu)]
    rfl
theorem runs_split : ∀ {h : List Wh}, runsH h = true → ∃ pre w post, h = pre ++ w :: post ∧ (∀ v ∈ pre, v.wt ≠ none) ∧ w.wt = none
  | [], h => by cases h
  | w :: t, h => by
    by_cases c : w.wt = none
    · exact ⟨[], w, t, rfl, fun v hv => (by simp at hv), c⟩
    · unfold runsH at h
      rw [List.any_cons, Bool.or_eq_true] at h
      rcases h with h | h
      · exact absurd (Option.isNone_iff_eq_none.mp h) c
      · obtain ⟨pre, v, post, e, h1, h2⟩ := runs_split (h := t) h
        subst e
        refine ⟨w :: pre, v, post, rfl, fun u hu => ?_, h2⟩
        rcases List.mem_cons.mp hu with rfl | hu
        · exact c
        · exact h1 u hu
theorem runs_app (a b : List Wh) : runsH (a ++ b) = (runsH a || runsH b) := by unfold runsH; rw [List.any_append]
theorem runs_all {h : List Wh} (e : runsH h = false) : ∀ v ∈ h, v.wt ≠ none := fun v hv z => by
  unfold runsH at e
  have := List.any_eq_false.mp e v hv
  rw [z] at this
  exact this rfl
theorem stepH_left {ws : List Wk} {ask : Ak} {a b : List Wh} (e : runsH a = true) : stepH ws ask (a ++ b) = ((stepH ws ask a).1 ++ b, (stepH ws ask a).2) := by
  obtain ⟨pre, w, post, rfl, h1, h2⟩ := runs_split e
  rw [stepH_at h2 h1, List.append_assoc, List.cons_append, stepH_at h2 h1]
  simp
theorem stepH_right {ws : List Wk} {ask : Ak} {a b : List Wh} (e : runsH a = false) (e2 : runsH b = true) : stepH ws ask (a ++ b) = (a ++ (stepH ws ask b).1, (stepH ws ask b).2) := by
  obtain ⟨pre, w, post, rfl, h1, h2⟩ := runs_split e2
  rw [stepH_at h2 h1, ← List.append_assoc, stepH_at h2 (pre := a ++ pre) (fun v hv => (List.mem_append.mp hv).elim (runs_all e v) (h1 v))]
  simp
theorem ansH_app (a : Ak) (n : Int) (h g : List Wh) : ansH a n (h ++ g) = ansH a n h ++ ansH a n g := List.map_append ..
/-! what may stand in a hand -/
def okA (o : Option Ak) : Prop := ∀ a, o = some a → sOk a.1 = true
structure okWh (ws : List Wk) (w : Wh) : Prop where
  nm : w.nm ∈ nms ws
  p0 : 0 ≤ w.pl
  p1 : w.pl ≤ (bodyOf ws w.nm).length
  own : okA w.own
  wt : okA w.wt
structure okWs (hs : List (List Nat)) (ws : List Wk) : Prop where
  w5 : ws.length ≤ 5
  wn : (nms ws).Nodup
  sh : ∀ a ∈ hs, sOk a = true
  sn : ∀ a ∈ nms ws, sOk a = true
  wb : ∀ w ∈ ws, okBody hs (nms ws) w.2
def okHd (ws : List Wk) (h : List Wh) : Prop := ∀ w ∈ h, okWh ws w
theorem bodyOf_mem {ws : List Wk} (hn : (nms ws).Nodup) {w : Wk} (hw : w ∈ ws) : bodyOf ws w.1 = w.2 := by
  unfold bodyOf
  induction ws with
  | nil => cases hw
  | cons v t ih =>
    rw [nms, List.map_cons, List.nodup_cons] at hn
    rw [List.find?_cons]
    rcases List.mem_cons.mp hw with rfl | hw
    · simp
    · have : v.1 ≠ w.1 := fun z => hn.1 (by rw [z]; exact List.mem_map_of_mem (f := (·.1)) hw)
      rw [decide_eq_false this]
      exact ih hn.2 hw
theorem bodyOf_get {ws : List Wk} (hn : (nms ws).Nodup) {nm : List Nat} (h : nm ∈ nms ws) : ∃ w ∈ ws, w.1 = nm ∧ bodyOf ws nm = w.2 := by
  obtain ⟨w, hw, rfl⟩ := List.mem_map.mp h
  exact ⟨w, hw, rfl, bodyOf_mem hn hw⟩
theorem okA_none : okA none := fun a h => by cases h
theorem okA_some {a : Ak} (h : sOk a.1 = true) : okA (some a) := fun b e => by cases e; exact h
theorem newW_ok {hs : List (List Nat)} {ws : List Wk} {nm : List Nat} {x : Int} {own : Option Ak} (hm : nm ∈ nms ws) (ho : okA own) : okWh ws (newW nm x own) := ⟨hm, Int.le_refl _, Int.natCast_nonneg _, ho, okA_none⟩
theorem taken_ok {ws : List Wk} {h : List Wh} {nm : List Nat} {x : Int} {own : Option Ak} (hh : okHd ws h) (hm : nm ∈ nms ws) (ho : okA own) : okHd ws (h ++ [newW nm x own]) := fun w hw => by
  rcases List.mem_append.mp hw with z | z
  · exact hh w z
  · rw [List.mem_singleton.mp z]; exact newW_ok (hs := []) hm ho
theorem ans_ok {ws : List Wk} {h : List Wh} {a : Ak} {n : Int} (hh : okHd ws h) : okHd ws (ansH a n h) := fun w hw => by
  obtain ⟨v, hv, rfl⟩ := List.mem_map.mp hw
  have ov := hh v hv
  split
  · exact ⟨ov.nm, ov.p0, ov.p1, ov.own, okA_none⟩
  · exact ov
theorem doneF_ok {ws : List Wk} {w : Wh} {m : Sm} {ask : Ak} (ow : okWh ws w) (hl : w.pl < (bodyOf ws w.nm).length) (ha : sOk ask.1 = true) : okWh ws (doneF w m ask).1 := by
  have h0 := ow.p0
  have h1 := ow.p1
  cases m with
  | spin k =>
    refine ⟨ow.nm, ?_, ?_, ow.own, okA_none⟩
    · show 0 ≤ w.pl + _
      split <;> omega
    · show w.pl + _ ≤ _
      have : (bodyOf ws (doneF w (.spin k) ask).1.nm).length = (bodyOf ws w.nm).length := rfl
      rw [this]
      split <;> omega
  | add i => exact ⟨ow.nm, by show 0 ≤ w.pl + 1; omega, by show w.pl + 1 ≤ (bodyOf ws w.nm).length; omega, ow.own, okA_none⟩
  | own => exact ⟨ow.nm, by show 0 ≤ w.pl + 1; omega, by show w.pl + 1 ≤ (bodyOf ws w.nm).length; omega, ow.own, okA_none⟩
  | call b h n =>
    unfold doneF
    dsimp only
    split
    · exact ⟨ow.nm, by show 0 ≤ w.pl + 1; omega, by show w.pl + 1 ≤ (bodyOf ws w.nm).length; omega, ow.own, okA_none⟩
    · refine ⟨ow.nm, by show 0 ≤ w.pl + 1; omega, by show w.pl + 1 ≤ (bodyOf ws w.nm).length; omega, ow.own, ?_⟩
      cases b
      · exact okA_none
      · exact okA_some ha
theorem step_ok {ws : List Wk} {ask : Ak} {h : List Wh} (hh : okHd ws h) (ha : sOk ask.1 = true) (e : runsH h = true) : okHd ws (stepH ws ask h).1 := by
  obtain ⟨pre, w, post, rfl, h1, h2⟩ := runs_split e
  rw [stepH_at h2 h1]
  intro v hv
  rcases List.mem_append.mp hv with z | z
  · exact hh v (List.mem_append_left _ z)
  rcases List.mem_append.mp z with z | z
  · have ow := hh w (by simp)
    unfold stepW at z
    split at z
    · cases z
    · rename_i c
      have : v = (doneF w ((bodyOf ws w.nm).getD w.pl.toNat .own) ask).1 := by simpa using z
      rw [this]
      have := ow.p1
      exact doneF_ok ow (by omega) ha
  · exact hh v (by simp [z])
/-! comparing -/
theorem fine_dA {n : Nat} {a : Ak} (h : sOk a.1 = true) : fine (n + 1) (dA a) = true := by
  show (fine n (dS a.1) && (fine n (.int a.2) && true)) = true
  rw [fine_S h]
  cases n <;> rfl
theorem fine_dAk {n : Nat} {o : Option Ak} (h : okA o) : fine (n + 1) (dAk o) = true := by
  cases o with
  | none => rfl
  | some a => exact fine_dA (h a rfl)
theorem fine_int {n : Nat} {i : Int} : fine n (.int i) = true := by cases n <;> rfl
theorem fine_non {n : Nat} : fine n .non = true := by cases n <;> rfl
theorem fine_dWh {ws : List Wk} {hs : List (List Nat)} (ok : okWs hs ws) {w : Wh} (ow : okWh ws w) : fine 2 (dWh w) = true := by
  show (fine 1 (dS w.nm) && (fine 1 (.int w.x) && (fine 1 (.int w.tot) && (fine 1 (.int w.pl) && (fine 1 (.int w.lf) && (fine 1 (dAk w.own) && (fine 1 (dAk w.wt) && true))))))) = true
  rw [fine_S (ok.sn _ ow.nm), fine_int, fine_int, fine_int, fine_int, fine_dAk ow.own, fine_dAk ow.wt]
  rfl
theorem fine_hand {ws : List Wk} {hs : List (List Nat)} (ok : okWs hs ws) {h : List Wh} (oh : okHd ws h) : fine 3 (dHand h) = true := by
  show fines 2 (h.map dWh) = true
  refine fines_all fun x hx => ?_
  obtain ⟨w, hw, rfl⟩ := List.mem_map.mp hx
  exact fine_dWh ok (oh w hw)
def okT : What → Prop
  | .no => True
  | .call _ h n _ => sOk h = true ∧ sOk n = true
  | .over nm _ _ own => sOk nm = true ∧ okA own
theorem fine_what {t : What} (h : okT t) : fine 3 (dWhat t) = true := by
  cases t with
  | no => rfl
  | call b hh n x =>
    show (fine 2 (dS (cCall b)) && (fine 2 (dS hh) && (fine 2 (dS n) && (fine 2 (.int x) && true)))) = true
    rw [fine_S (cCall_s b), fine_S h.1, fine_S h.2, fine_int]; rfl
  | over nm x tot own =>
    show (fine 2 (dS cOver) && (fine 2 (dS nm) && (fine 2 (.int x) && (fine 2 (.int tot) && (fine 2 (dAk own) && true))))) = true
    rw [fine_S (by decide), fine_S h.1, fine_int, fine_int, fine_dAk h.2]; rfl
theorem doneF_t {hs : List (List Nat)} {ws : List Wk} (ok : okWs hs ws) {w : Wh} {m : Sm} {ask : Ak} (om : okSm hs (nms ws) m) : okT (doneF w m ask).2 := by
  cases m with
  | call b h n =>
    unfold doneF
    dsimp only
    split
    · trivial
    · exact ⟨ok.sh _ om.1, ok.sn _ om.2⟩
  | _ => trivial
theorem step_t {hs : List (List Nat)} {ws : List Wk} (ok : okWs hs ws) {ask : Ak} {h : List Wh} (hh : okHd ws h) (e : runsH h = true) : okT (stepH ws ask h).2 := by
  obtain ⟨pre, w, post, rfl, h1, h2⟩ := runs_split e
  rw [stepH_at h2 h1]
  have ow := hh w (by simp)
  show okT (stepW ws w ask).2
  unfold stepW
  split
  · exact ⟨ok.sn _ ow.nm, ow.own⟩
  · rename_i c
    obtain ⟨v, hv, e1, e2⟩ := bodyOf_get ok.wn ow.nm
    refine doneF_t ok ?_
    rw [e2] at c ⊢
    have lt : w.pl.toNat < v.2.length := by have := ow.p0; have := ow.p1; rw [e2] at this; omega
    rw [List.getD_eq_getElem?_getD, List.getElem?_eq_getElem lt]
    exact (ok.wb v hv).all _ (List.getElem_mem ..)
theorem dA_inj {a b : Ak} (h : dA a = dA b) : a = b := by
  unfold dA at h
  injection h with h
  injection h with h1 h2
  injection h2 with h2 _
  injection h2 with h2
  exact Prod.ext (dS_inj h1) h2
theorem Cp_dA {S : Store} {a b : Ak} {PB : Bool → Prop} (ha : sOk a.1 = true) (hb : sOk b.1 = true) (h : PB (decide (a = b))) : Cp S .Eq (dA a) (dA b) PB := by
  refine Cp_eq (EqOk.of (n := 1) (fine_dA ha) (by decide)) (EqOk.of (n := 1) (fine_dA hb) (by decide)) (fun e => ?_) (fun e => ?_)
  · rw [decide_eq_true (dA_inj e)] at h; exact h
  · rw [decide_eq_false (fun z => e (by rw [z]))] at h; exact h
/-! the text's defs -/
theorem CfMap {α : Type} {S : Store} {xs : List α} {g h : α → D} {f : D → Store → Out (Option D)} {QL : List D → Store → Prop} (hl : xs.length < 100000) (step : ∀ w ∈ xs, W (f (g w) S) (fun o S1 => o = some (h w) ∧ S1 = S) noX) (stop : QL (xs.map h) S) : CfP ⟨xs.map g, none, false⟩ f S QL := by
  refine Cf_inv (fun i acc S' => S' = S ∧ acc = (xs.take i).map h) (by show (xs.map g).length < 100000; rw [List.length_map]; exact hl) ⟨rfl, rfl⟩ ?_ ?_
  · rintro i d acc S' hd ⟨rfl, rfl⟩ _
    have hd : (xs.map g)[i]? = some d := hd
    rw [List.getElem?_map, Option.map_eq_some_iff] at hd
    obtain ⟨a, ha, rfl⟩ := hd
    refine (step a (List.mem_of_getElem? ha)).post ?_
    rintro o S1 ⟨rfl, rfl⟩
    exact ⟨rfl, by rw [List.take_succ, ha, List.map_append]; rfl⟩
  · rintro acc S' ⟨rfl, rfl⟩
    have : xs.take (Items.mk (xs.map g) none false).xs.length = xs := List.take_of_length_le (by show _ ≤ (xs.map g).length; rw [List.length_map]; exact Nat.le_refl _)
    rw [this]
    exact stop
theorem Cp_isnt {S : Store} {o : Option Ak} {PB : Bool → Prop} (h : PB o.isSome) : Cp S .IsNot (dAk o) .non PB := by
  cases o with
  | none => exact Cp_by (k := false) rfl h
  | some a => exact Cp_by (k := true) rfl h
theorem waits_w {S : Store} {w : Wh} {Qd : D → Store → Prop} {E : EX} (hQ : Qd (.bl w.wt.isSome) S) : W (m_waits [dWh w] S) Qd E := by
  apply w_waits
  unfold z_waits
  (repeat' (first | refine Ix_by (x' := dAk w.wt) rfl ?_ | apply Cp_isnt | (with_reducible (first | apply G_vvs | apply G_vv0 | apply G_kk | apply G_bi | apply G_ca | apply G_a1 | apply G_a0 | apply Z_seq | apply Z_set | apply St_s | apply St_0 | apply G_ix | apply G_cm | apply G_tCm | apply Bl_bl | apply Z_if | apply Z_ret | apply G_bl | apply G_tTr | apply G_tNot | apply G_tAnd | apply G_tOr | apply G_isn | apply G_me | apply G_lsv | apply G_tu | apply G_lsm | apply G_nt | apply G_ng | apply G_cm2 | apply G_ie | apply G_sl | apply G_andE | apply G_orE | apply G_p0 | apply G_p1 | apply G_iv | apply G_r1 | apply G_r2 | apply G_lcv | apply G_lcv1 | apply G_lcm | apply G_lcm1 | apply Z_exp | apply Z_pass | apply Z_brk | apply Z_cnt | apply Z_ret0 | apply Z_tup | apply Z_sub | apply Z_while | apply Z_for | apply Z_raise | apply FnP_self | apply Bn_add | apply Bn_sub | apply Bn_and | apply Cp_lt | apply Cp_le | apply Cp_gt | apply Cp_ge | apply Cp_eqi | apply Cp_nei | apply Cp_is | apply Cp_isn | apply Tr_bl | apply Tr_int | apply Tr_lst | apply Tr_tup | apply Tr_non | apply Io_int | apply Bs_int | apply Bs_intb | apply Bs_len | apply Bs_lent | apply Bs_min | apply Bs_max | apply Bs_abs | apply Md_bits | apply Mt_bits | apply It_lst | apply It_tup | apply Br_not | apply Bd_b1 | apply G_di0 | apply Sl_lst | apply Sl_tup | apply Wp_0 | apply Wp_s | apply Sn_0 | apply Sn_s | apply Ct_mk1 | apply Ct_mk | apply Tn_mk | apply G_zen | apply G_zzp | apply G_rvs | apply G_lset | apply G_dct | apply G_k0 | apply G_k1 | apply G_dis | apply En_lst | apply Zp_tup | apply Zp_lst | apply Rv_lst | apply Rv_tup | apply Ky_str | apply Ky_int | apply Md_split | apply Md_join | apply Md_idx | apply Ts_0 | apply Ts_s | apply Cp_eqb | apply Cp_neb | apply Z_try)) | refine Ln_mk (Nat.le_of_ble_eq_true rfl) ?_ | refine Bn_mod (by first | decide | omega) ?_ | refine Bd_bT rfl ?_ | refine Ix_by rfl ?_ | refine Is_by (k := true) rfl ?_ | refine Is_by (k := false) rfl ?_ | refine R1_mk (by first | decide | omega) ?_ | refine Bn_mulS (by omega) (by omega) ?_ | refine Bn_fdivS (by omega) (by omega) ?_ | (apply Ix_ref; assumption; exact rfl) | (apply Sd_ref; assumption; exact rfl; intro _ _ _ _) | (apply Bs_lenr; assumption) | (apply Md_app; assumption) | refine Br_t rfl ?_ | refine Br_f rfl ?_ | refine Br_t (decide_eq_true (by omega)) ?_ | refine Br_f (decide_eq_false (by omega)) ?_ | (with_reducible refine Br_dec (fun _ => ?_) (fun _ => ?_)) | fail))
  exact hQ
theorem runs_bool (h : List Wh) : (!(h.map fun w => w.wt.isSome).all id) = runsH h := by
  unfold runsH
  induction h with
  | nil => rfl
  | cons w t ih => rw [List.map_cons, List.all_cons, List.any_cons, ← ih]; cases w.wt <;> simp
theorem runs_w {S : Store} {h : List Wh} {b : Bool} (hl : h.length < 100000) (e : runsH h = b) {Qd : D → Store → Prop} {E : EX} (hQ : Qd (.bl b) S) : W (m_runs [dHand h] S) Qd E := by
  subst e
  apply w_runs
  unfold z_runs dHand
  (repeat' (first | (with_reducible (first | apply G_vvs | apply G_vv0 | apply G_kk | apply G_bi | apply G_ca | apply G_a1 | apply G_a0 | apply Z_seq | apply Z_set | apply St_s | apply St_0 | apply G_ix | apply G_cm | apply G_tCm | apply Bl_bl | apply Z_if | apply Z_ret | apply G_bl | apply G_tTr | apply G_tNot | apply G_tAnd | apply G_tOr | apply G_isn | apply G_me | apply G_lsv | apply G_tu | apply G_lsm | apply G_nt | apply G_ng | apply G_cm2 | apply G_ie | apply G_sl | apply G_andE | apply G_orE | apply G_p0 | apply G_p1 | apply G_iv | apply G_r1 | apply G_r2 | apply G_lcv | apply G_lcv1 | apply G_lcm | apply G_lcm1 | apply Z_exp | apply Z_pass | apply Z_brk | apply Z_cnt | apply Z_ret0 | apply Z_tup | apply Z_sub | apply Z_while | apply Z_for | apply Z_raise | apply FnP_self | apply Bn_add | apply Bn_sub | apply Bn_and | apply Cp_lt | apply Cp_le | apply Cp_gt | apply Cp_ge | apply Cp_eqi | apply Cp_nei | apply Cp_is | apply Cp_isn | apply Tr_bl | apply Tr_int | apply Tr_lst | apply Tr_tup | apply Tr_non | apply Io_int | apply Bs_int | apply Bs_intb | apply Bs_len | apply Bs_lent | apply Bs_min | apply Bs_max | apply Bs_abs | apply Md_bits | apply Mt_bits | apply It_lst | apply It_tup | apply Br_not | apply Bd_b1 | apply G_di0 | apply Sl_lst | apply Sl_tup | apply Wp_0 | apply Wp_s | apply Sn_0 | apply Sn_s | apply Ct_mk1 | apply Ct_mk | apply Tn_mk | apply G_zen | apply G_zzp | apply G_rvs | apply G_lset | apply G_dct | apply G_k0 | apply G_k1 | apply G_dis | apply En_lst | apply Zp_tup | apply Zp_lst | apply Rv_lst | apply Rv_tup | apply Ky_str | apply Ky_int | apply Md_split | apply Md_join | apply Md_idx | apply Ts_0 | apply Ts_s | apply Cp_eqb | apply Cp_neb | apply Z_try)) | refine Ln_mk (Nat.le_of_ble_eq_true rfl) ?_ | refine Bn_mod (by first | decide | omega) ?_ | refine Bd_bT rfl ?_ | refine Ix_by rfl ?_ | refine Is_by (k := true) rfl ?_ | refine Is_by (k := false) rfl ?_ | refine R1_mk (by first | decide | omega) ?_ | refine Bn_mulS (by omega) (by omega) ?_ | refine Bn_fdivS (by omega) (by omega) ?_ | (apply Ix_ref; assumption; exact rfl) | (apply Sd_ref; assumption; exact rfl; intro _ _ _ _) | (apply Bs_lenr; assumption) | (apply Md_app; assumption) | refine Br_t rfl ?_ | refine Br_f rfl ?_ | refine Br_t (decide_eq_true (by omega)) ?_ | refine Br_f (decide_eq_false (by omega)) ?_ | (with_reducible refine Br_dec (fun _ => ?_) (fun _ => ?_)) | fail))
  refine CfMap (h := fun w => .bl w.wt.isSome) hl (fun w hw => ?_) ?_
  · (repeat' (first | refine waits_w ?_ | (with_reducible (first | apply G_vvs | apply G_vv0 | apply G_kk | apply G_bi | apply G_ca | apply G_a1 | apply G_a0 | apply Z_seq | apply Z_set | apply St_s | apply St_0 | apply G_ix | apply G_cm | apply G_tCm | apply Bl_bl | apply Z_if | apply Z_ret | apply G_bl | apply G_tTr | apply G_tNot | apply G_tAnd | apply G_tOr | apply G_isn | apply G_me | apply G_lsv | apply G_tu | apply G_lsm | apply G_nt | apply G_ng | apply G_cm2 | apply G_ie | apply G_sl | apply G_andE | apply G_orE | apply G_p0 | apply G_p1 | apply G_iv | apply G_r1 | apply G_r2 | apply G_lcv | apply G_lcv1 | apply G_lcm | apply G_lcm1 | apply Z_exp | apply Z_pass | apply Z_brk | apply Z_cnt | apply Z_ret0 | apply Z_tup | apply Z_sub | apply Z_while | apply Z_for | apply Z_raise | apply FnP_self | apply Bn_add | apply Bn_sub | apply Bn_and | apply Cp_lt | apply Cp_le | apply Cp_gt | apply Cp_ge | apply Cp_eqi | apply Cp_nei | apply Cp_is | apply Cp_isn | apply Tr_bl | apply Tr_int | apply Tr_lst | apply Tr_tup | apply Tr_non | apply Io_int | apply Bs_int | apply Bs_intb | apply Bs_len | apply Bs_lent | apply Bs_min | apply Bs_max | apply Bs_abs | apply Md_bits | apply Mt_bits | apply It_lst | apply It_tup | apply Br_not | apply Bd_b1 | apply G_di0 | apply Sl_lst | apply Sl_tup | apply Wp_0 | apply Wp_s | apply Sn_0 | apply Sn_s | apply Ct_mk1 | apply Ct_mk | apply Tn_mk | apply G_zen | apply G_zzp | apply G_rvs | apply G_lset | apply G_dct | apply G_k0 | apply G_k1 | apply G_dis | apply En_lst | apply Zp_tup | apply Zp_lst | apply Rv_lst | apply Rv_tup | apply Ky_str | apply Ky_int | apply Md_split | apply Md_join | apply Md_idx | apply Ts_0 | apply Ts_s | apply Cp_eqb | apply Cp_neb | apply Z_try)) | refine Ln_mk (Nat.le_of_ble_eq_true rfl) ?_ | refine Bn_mod (by first | decide | omega) ?_ | refine Bd_bT rfl ?_ | refine Ix_by rfl ?_ | refine Is_by (k := true) rfl ?_ | refine Is_by (k := false) rfl ?_ | refine R1_mk (by first | decide | omega) ?_ | refine Bn_mulS (by omega) (by omega) ?_ | refine Bn_fdivS (by omega) (by omega) ?_ | (apply Ix_ref; assumption; exact rfl) | (apply Sd_ref; assumption; exact rfl; intro _ _ _ _) | (apply Bs_lenr; assumption) | (apply Md_app; assumption) | refine Br_t rfl ?_ | refine Br_f rfl ?_ | refine Br_t (decide_eq_true (by omega)) ?_ | refine Br_f (decide_eq_false (by omega)) ?_ | (with_reducible refine Br_dec (fun _ => ?_) (fun _ => ?_)) | fail))
    exact ⟨rfl, rfl⟩
  have e : h.map (fun w => D.bl w.wt.isSome) = (h.map fun w => w.wt.isSome).map D.bl := by rw [List.map_map]; rfl
  rw [e]
  (repeat' (first | apply Bs_all | (with_reducible (first | apply G_vvs | apply G_vv0 | apply G_kk | apply G_bi | apply G_ca | apply G_a1 | apply G_a0 | apply Z_seq | apply Z_set | apply St_s | apply St_0 | apply G_ix | apply G_cm | apply G_tCm | apply Bl_bl | apply Z_if | apply Z_ret | apply G_bl | apply G_tTr | apply G_tNot | apply G_tAnd | apply G_tOr | apply G_isn | apply G_me | apply G_lsv | apply G_tu | apply G_lsm | apply G_nt | apply G_ng | apply G_cm2 | apply G_ie | apply G_sl | apply G_andE | apply G_orE | apply G_p0 | apply G_p1 | apply G_iv | apply G_r1 | apply G_r2 | apply G_lcv | apply G_lcv1 | apply G_lcm | apply G_lcm1 | apply Z_exp | apply Z_pass | apply Z_brk | apply Z_cnt | apply Z_ret0 | apply Z_tup | apply Z_sub | apply Z_while | apply Z_for | apply Z_raise | apply FnP_self | apply Bn_add | apply Bn_sub | apply Bn_and | apply Cp_lt | apply Cp_le | apply Cp_gt | apply Cp_ge | apply Cp_eqi | apply Cp_nei | apply Cp_is | apply Cp_isn | apply Tr_bl | apply Tr_int | apply Tr_lst | apply Tr_tup | apply Tr_non | apply Io_int | apply Bs_int | apply Bs_intb | apply Bs_len | apply Bs_lent | apply Bs_min | apply Bs_max | apply Bs_abs | apply Md_bits | apply Mt_bits | apply It_lst | apply It_tup | apply Br_not | apply Bd_b1 | apply G_di0 | apply Sl_lst | apply Sl_tup | apply Wp_0 | apply Wp_s | apply Sn_0 | apply Sn_s | apply Ct_mk1 | apply Ct_mk | apply Tn_mk | apply G_zen | apply G_zzp | apply G_rvs | apply G_lset | apply G_dct | apply G_k0 | apply G_k1 | apply G_dis | apply En_lst | apply Zp_tup | apply Zp_lst | apply Rv_lst | apply Rv_tup | apply Ky_str | apply Ky_int | apply Md_split | apply Md_join | apply Md_idx | apply Ts_0 | apply Ts_s | apply Cp_eqb | apply Cp_neb | apply Z_try)) | refine Ln_mk (Nat.le_of_ble_eq_true rfl) ?_ | refine Bn_mod (by first | decide | omega) ?_ | refine Bd_bT rfl ?_ | refine Ix_by rfl ?_ | refine Is_by (k := true) rfl ?_ | refine Is_by (k := false) rfl ?_ | refine R1_mk (by first | decide | omega) ?_ | refine Bn_mulS (by omega) (by omega) ?_ | refine Bn_fdivS (by omega) (by omega) ?_ | (apply Ix_ref; assumption; exact rfl) | (apply Sd_ref; assumption; exact rfl; intro _ _ _ _) | (apply Bs_lenr; assumption) | (apply Md_app; assumption) | refine Br_t rfl ?_ | refine Br_f rfl ?_ | refine Br_t (decide_eq_true (by omega)) ?_ | refine Br_f (decide_eq_false (by omega)) ?_ | (with_reducible refine Br_dec (fun _ => ?_) (fun _ => ?_)) | fail))
  rw [runs_bool]
  exact hQ
theorem toPys_bl : ∀ bs : List Bool, toPys (bs.map D.bl) = some (bs.map PyData.bool)
  | [] => rfl
  | b :: bs => by simp only [List.map_cons, toPys, toPy, toPys_bl bs]
theorem res_bl (n : Nat) (S : Store) : ∀ bs : List Bool, (bs.map D.bl).map (res n S) = bs.map D.bl
  | [] => rfl
  | b :: bs => by
    rw [List.map_cons, List.map_cons, res_bl n S bs]
    cases n <;> rfl
theorem lay_bl : ∀ bs : List Bool, PyData.canLayAll0 (bs.map PyData.bool) = true ∧ PyData.depthAll (bs.map PyData.bool) = 0
  | [] => ⟨rfl, rfl⟩
  | b :: bs => by
    obtain ⟨h1, h2⟩ := lay_bl bs
    rw [List.map_cons]
    exact ⟨by simp [PyData.canLayAll0, PyData.canLay0, h1], by simp [PyData.depthAll, PyData.depth, h2]⟩
theorem first_bl : ∀ (n i : Nat) (r : List Bool), firstD (.bool false) i ((List.replicate n true ++ false :: r).map PyData.bool) = some (i + n)
  | 0, i, r => by
    show (if PyData.eqv (.bool false) (.bool false) = true then some i else _) = _
    rw [if_pos (by decide)]; rfl
  | n + 1, i, r => by
    rw [List.replicate_succ, List.cons_append, List.map_cons]
    show (if PyData.eqv (.bool true) (.bool false) = true then some i else firstD (.bool false) (i + 1) _) = _
    rw [if_neg (by decide), first_bl n (i + 1) r]
    congr 1
    omega
theorem Mt_idxb {S : Store} {n : Nat} {r : List Bool} {QD : D → Store → Prop} (h : QD (.int n) S) : MtP S .index (.lst ((List.replicate n true ++ false :: r).map D.bl)) [.bl false] QD := by
  refine ⟨⟨.int n, S, ?_, h⟩⟩
  have e1 : toPyS S (.lst ((List.replicate n true ++ false :: r).map D.bl)) = some (.list ((List.replicate n true ++ false :: r).map PyData.bool)) := by
    unfold toPyS
    show toPy (.lst (((List.replicate n true ++ false :: r).map D.bl).map (res 7 S))) = _
    rw [res_bl, toPy, toPys_bl]
  have s : SeqAt.shaped (.list ((List.replicate n true ++ false :: r).map PyData.bool)) = true := by
    obtain ⟨h1, h2⟩ := lay_bl (List.replicate n true ++ false :: r)
    unfold SeqAt.shaped
    rw [PyData.canLay0, h1, decide_eq_true (by simp only [PyData.depth, h2]; omega)]; rfl
  have e2 : toPyS S (.bl false) = some (.bool false) := rfl
  have s2 : SeqAt.shaped (.bool false) = true := by decide
  unfold mthD
  simp only [e1, e2, first_bl, s, s2, and_self, ↓reduceIte, Nat.zero_add]
theorem first_w {S : Store} {pre post : List Wh} {w : Wh} (hl : (pre ++ w :: post).length < 100000) (h1 : ∀ v ∈ pre, v.wt ≠ none) (h2 : w.wt = none) {Qd : D → Store → Prop} {E : EX} (hQ : Qd (.int pre.length) S) : W (m_first_running [dHand (pre ++ w :: post)] S) Qd E := by
  apply w_first_running
  unfold z_first_running dHand
  (repeat' (first | (with_reducible (first | apply G_vvs | apply G_vv0 | apply G_kk | apply G_bi | apply G_ca | apply G_a1 | apply G_a0 | apply Z_seq | apply Z_set | apply St_s | apply St_0 | apply G_ix | apply G_cm | apply G_tCm | apply Bl_bl | apply Z_if | apply Z_ret | apply G_bl | apply G_tTr | apply G_tNot | apply G_tAnd | apply G_tOr | apply G_isn | apply G_me | apply G_lsv | apply G_tu | apply G_lsm | apply G_nt | apply G_ng | apply G_cm2 | apply G_ie | apply G_sl | apply G_andE | apply G_orE | apply G_p0 | apply G_p1 | apply G_iv | apply G_r1 | apply G_r2 | apply G_lcv | apply G_lcv1 | apply G_lcm | apply G_lcm1 | apply Z_exp | apply Z_pass | apply Z_brk | apply Z_cnt | apply Z_ret0 | apply Z_tup | apply Z_sub | apply Z_while | apply Z_for | apply Z_raise | apply FnP_self | apply Bn_add | apply Bn_sub | apply Bn_and | apply Cp_lt | apply Cp_le | apply Cp_gt | apply Cp_ge | apply Cp_eqi | apply Cp_nei | apply Cp_is | apply Cp_isn | apply Tr_bl | apply Tr_int | apply Tr_lst | apply Tr_tup | apply Tr_non | apply Io_int | apply Bs_int | apply Bs_intb | apply Bs_len | apply Bs_lent | apply Bs_min | apply Bs_max | apply Bs_abs | apply Md_bits | apply Mt_bits | apply It_lst | apply It_tup | apply Br_not | apply Bd_b1 | apply G_di0 | apply Sl_lst | apply Sl_tup | apply Wp_0 | apply Wp_s | apply Sn_0 | apply Sn_s | apply Ct_mk1 | apply Ct_mk | apply Tn_mk | apply G_zen | apply G_zzp | apply G_rvs | apply G_lset | apply G_dct | apply G_k0 | apply G_k1 | apply G_dis | apply En_lst | apply Zp_tup | apply Zp_lst | apply Rv_lst | apply Rv_tup | apply Ky_str | apply Ky_int | apply Md_split | apply Md_join | apply Md_idx | apply Ts_0 | apply Ts_s | apply Cp_eqb | apply Cp_neb | apply Z_try)) | refine Ln_mk (Nat.le_of_ble_eq_true rfl) ?_ | refine Bn_mod (by first | decide | omega) ?_ | refine Bd_bT rfl ?_ | refine Ix_by rfl ?_ | refine Is_by (k := true) rfl ?_ | refine Is_by (k := false) rfl ?_ | refine R1_mk (by first | decide | omega) ?_ | refine Bn_mulS (by omega) (by omega) ?_ | refine Bn_fdivS (by omega) (by omega) ?_ | (apply Ix_ref; assumption; exact rfl) | (apply Sd_ref; assumption; exact rfl; intro _ _ _ _) | (apply Bs_lenr; assumption) | (apply Md_app; assumption) | refine Br_t rfl ?_ | refine Br_f rfl ?_ | refine Br_t (decide_eq_true (by omega)) ?_ | refine Br_f (decide_eq_false (by omega)) ?_ | (with_reducible refine Br_dec (fun _ => ?_) (fun _ => ?_)) | fail))
  refine CfMap (h := fun w => .bl w.wt.isSome) hl (fun w hw => ?_) ?_
  · (repeat' (first | refine waits_w ?_ | (with_reducible (first | apply G_vvs | apply G_vv0 | apply G_kk | apply G_bi | apply G_ca | apply G_a1 | apply G_a0 | apply Z_seq | apply Z_set | apply St_s | apply St_0 | apply G_ix | apply G_cm | apply G_tCm | apply Bl_bl | apply Z_if | apply Z_ret | apply G_bl | apply G_tTr | apply G_tNot | apply G_tAnd | apply G_tOr | apply G_isn | apply G_me | apply G_lsv | apply G_tu | apply G_lsm | apply G_nt | apply G_ng | apply G_cm2 | apply G_ie | apply G_sl | apply G_andE | apply G_orE | apply G_p0 | apply G_p1 | apply G_iv | apply G_r1 | apply G_r2 | apply G_lcv | apply G_lcv1 | apply G_lcm | apply G_lcm1 | apply Z_exp | apply Z_pass | apply Z_brk | apply Z_cnt | apply Z_ret0 | apply Z_tup | apply Z_sub | apply Z_while | apply Z_for | apply Z_raise | apply FnP_self | apply Bn_add | apply Bn_sub | apply Bn_and | apply Cp_lt | apply Cp_le | apply Cp_gt | apply Cp_ge | apply Cp_eqi | apply Cp_nei | apply Cp_is | apply Cp_isn | apply Tr_bl | apply Tr_int | apply Tr_lst | apply Tr_tup | apply Tr_non | apply Io_int | apply Bs_int | apply Bs_intb | apply Bs_len | apply Bs_lent | apply Bs_min | apply Bs_max | apply Bs_abs | apply Md_bits | apply Mt_bits | apply It_lst | apply It_tup | apply Br_not | apply Bd_b1 | apply G_di0 | apply Sl_lst | apply Sl_tup | apply Wp_0 | apply Wp_s | apply Sn_0 | apply Sn_s | apply Ct_mk1 | apply Ct_mk | apply Tn_mk | apply G_zen | apply G_zzp | apply G_rvs | apply G_lset | apply G_dct | apply G_k0 | apply G_k1 | apply G_dis | apply En_lst | apply Zp_tup | apply Zp_lst | apply Rv_lst | apply Rv_tup | apply Ky_str | apply Ky_int | apply Md_split | apply Md_join | apply Md_idx | apply Ts_0 | apply Ts_s | apply Cp_eqb | apply Cp_neb | apply Z_try)) | refine Ln_mk (Nat.le_of_ble_eq_true rfl) ?_ | refine Bn_mod (by first | decide | omega) ?_ | refine Bd_bT rfl ?_ | refine Ix_by rfl ?_ | refine Is_by (k := true) rfl ?_ | refine Is_by (k := false) rfl ?_ | refine R1_mk (by first | decide | omega) ?_ | refine Bn_mulS (by omega) (by omega) ?_ | refine Bn_fdivS (by omega) (by omega) ?_ | (apply Ix_ref; assumption; exact rfl) | (apply Sd_ref; assumption; exact rfl; intro _ _ _ _) | (apply Bs_lenr; assumption) | (apply Md_app; assumption) | refine Br_t rfl ?_ | refine Br_f rfl ?_ | refine Br_t (decide_eq_true (by omega)) ?_ | refine Br_f (decide_eq_false (by omega)) ?_ | (with_reducible refine Br_dec (fun _ => ?_) (fun _ => ?_)) | fail))
    exact ⟨rfl, rfl⟩
  have e : (pre ++ w :: post).map (fun w => D.bl w.wt.isSome) = (List.replicate pre.length true ++ false :: post.map fun w => w.wt.isSome).map D.bl := by
    rw [List.map_append, List.map_cons, List.map_append, List.map_cons, List.map_map, h2]
    congr 1
    clear hl hQ
    induction pre with
    | nil => rfl
    | cons v t ih =>
      have hv : v.wt.isSome = true := by
        have := h1 v (List.mem_cons_self ..)
        cases q : v.wt with
        | none => exact absurd q this
        | some a => rfl
      rw [List.map_cons, List.length_cons, List.replicate_succ, List.map_cons, hv, ih fun u hu => h1 u (List.mem_cons_of_mem _ hu)]
  rw [e]
  (repeat' (first | refine Mt_idxb ?_ | (with_reducible (first | apply G_vvs | apply G_vv0 | apply G_kk | apply G_bi | apply G_ca | apply G_a1 | apply G_a0 | apply Z_seq | apply Z_set | apply St_s | apply St_0 | apply G_ix | apply G_cm | apply G_tCm | apply Bl_bl | apply Z_if | apply Z_ret | apply G_bl | apply G_tTr | apply G_tNot | apply G_tAnd | apply G_tOr | apply G_isn | apply G_me | apply G_lsv | apply G_tu | apply G_lsm | apply G_nt | apply G_ng | apply G_cm2 | apply G_ie | apply G_sl | apply G_andE | apply G_orE | apply G_p0 | apply G_p1 | apply G_iv | apply G_r1 | apply G_r2 | apply G_lcv | apply G_lcv1 | apply G_lcm | apply G_lcm1 | apply Z_exp | apply Z_pass | apply Z_brk | apply Z_cnt | apply Z_ret0 | apply Z_tup | apply Z_sub | apply Z_while | apply Z_for | apply Z_raise | apply FnP_self | apply Bn_add | apply Bn_sub | apply Bn_and | apply Cp_lt | apply Cp_le | apply Cp_gt | apply Cp_ge | apply Cp_eqi | apply Cp_nei | apply Cp_is | apply Cp_isn | apply Tr_bl | apply Tr_int | apply Tr_lst | apply Tr_tup | apply Tr_non | apply Io_int | apply Bs_int | apply Bs_intb | apply Bs_len | apply Bs_lent | apply Bs_min | apply Bs_max | apply Bs_abs | apply Md_bits | apply Mt_bits | apply It_lst | apply It_tup | apply Br_not | apply Bd_b1 | apply G_di0 | apply Sl_lst | apply Sl_tup | apply Wp_0 | apply Wp_s | apply Sn_0 | apply Sn_s | apply Ct_mk1 | apply Ct_mk | apply Tn_mk | apply G_zen | apply G_zzp | apply G_rvs | apply G_lset | apply G_dct | apply G_k0 | apply G_k1 | apply G_dis | apply En_lst | apply Zp_tup | apply Zp_lst | apply Rv_lst | apply Rv_tup | apply Ky_str | apply Ky_int | apply Md_split | apply Md_join | apply Md_idx | apply Ts_0 | apply Ts_s | apply Cp_eqb | apply Cp_neb | apply Z_try)) | refine Ln_mk (Nat.le_of_ble_eq_true rfl) ?_ | refine Bn_mod (by first | decide | omega) ?_ | refine Bd_bT rfl ?_ | refine Ix_by rfl ?_ | refine Is_by (k := true) rfl ?_ | refine Is_by (k := false) rfl ?_ | refine R1_mk (by first | decide | omega) ?_ | refine Bn_mulS (by omega) (by omega) ?_ | refine Bn_fdivS (by omega) (by omega) ?_ | (apply Ix_ref; assumption; exact rfl) | (apply Sd_ref; assumption; exact rfl; intro _ _ _ _) | (apply Bs_lenr; assumption) | (apply Md_app; assumption) | refine Br_t rfl ?_ | refine Br_f rfl ?_ | refine Br_t (decide_eq_true (by omega)) ?_ | refine Br_f (decide_eq_false (by omega)) ?_ | (with_reducible refine Br_dec (fun _ => ?_) (fun _ => ?_)) | fail))
  exact hQ
theorem Bn_hand {S : Store} {a b : List Wh} {Q : D → Prop} (hl : a.length + b.length ≤ 1000000) (h : Q (dHand (a ++ b))) : Bn S .Add (dHand a) (dHand b) Q := by
  unfold dHand at *
  refine Bn_tup (by rw [List.length_map, List.length_map]; omega) ?_
  rw [← List.map_append]
  exact h
theorem taken_w {S : Store} {h : List Wh} {nm : List Nat} {x : Int} {a : Option Ak} {d : D} (ed : d = dAk a) (hl : h.length ≤ 100000) {Qd : D → Store → Prop} {E : EX} (hQ : Qd (dHand (h ++ [newW nm x a])) S) : W (m_taken [dHand h, dS nm, .int x, d] S) Qd E := by
  subst ed
  apply w_taken
  unfold z_taken dHand
  (repeat' (first | refine Bn_tup (by rw [List.length_map, List.length_singleton]; omega) ?_ | (with_reducible (first | apply G_vvs | apply G_vv0 | apply G_kk | apply G_bi | apply G_ca | apply G_a1 | apply G_a0 | apply Z_seq | apply Z_set | apply St_s | apply St_0 | apply G_ix | apply G_cm | apply G_tCm | apply Bl_bl | apply Z_if | apply Z_ret | apply G_bl | apply G_tTr | apply G_tNot | apply G_tAnd | apply G_tOr | apply G_isn | apply G_me | apply G_lsv | apply G_tu | apply G_lsm | apply G_nt | apply G_ng | apply G_cm2 | apply G_ie | apply G_sl | apply G_andE | apply G_orE | apply G_p0 | apply G_p1 | apply G_iv | apply G_r1 | apply G_r2 | apply G_lcv | apply G_lcv1 | apply G_lcm | apply G_lcm1 | apply Z_exp | apply Z_pass | apply Z_brk | apply Z_cnt | apply Z_ret0 | apply Z_tup | apply Z_sub | apply Z_while | apply Z_for | apply Z_raise | apply FnP_self | apply Bn_add | apply Bn_sub | apply Bn_and | apply Cp_lt | apply Cp_le | apply Cp_gt | apply Cp_ge | apply Cp_eqi | apply Cp_nei | apply Cp_is | apply Cp_isn | apply Tr_bl | apply Tr_int | apply Tr_lst | apply Tr_tup | apply Tr_non | apply Io_int | apply Bs_int | apply Bs_intb | apply Bs_len | apply Bs_lent | apply Bs_min | apply Bs_max | apply Bs_abs | apply Md_bits | apply Mt_bits | apply It_lst | apply It_tup | apply Br_not | apply Bd_b1 | apply G_di0 | apply Sl_lst | apply Sl_tup | apply Wp_0 | apply Wp_s | apply Sn_0 | apply Sn_s | apply Ct_mk1 | apply Ct_mk | apply Tn_mk | apply G_zen | apply G_zzp | apply G_rvs | apply G_lset | apply G_dct | apply G_k0 | apply G_k1 | apply G_dis | apply En_lst | apply Zp_tup | apply Zp_lst | apply Rv_lst | apply Rv_tup | apply Ky_str | apply Ky_int | apply Md_split | apply Md_join | apply Md_idx | apply Ts_0 | apply Ts_s | apply Cp_eqb | apply Cp_neb | apply Z_try)) | refine Ln_mk (Nat.le_of_ble_eq_true rfl) ?_ | refine Bn_mod (by first | decide | omega) ?_ | refine Bd_bT rfl ?_ | refine Ix_by rfl ?_ | refine Is_by (k := true) rfl ?_ | refine Is_by (k := false) rfl ?_ | refine R1_mk (by first | decide | omega) ?_ | refine Bn_mulS (by omega) (by omega) ?_ | refine Bn_fdivS (by omega) (by omega) ?_ | (apply Ix_ref; assumption; exact rfl) | (apply Sd_ref; assumption; exact rfl; intro _ _ _ _) | (apply Bs_lenr; assumption) | (apply Md_app; assumption) | refine Br_t rfl ?_ | refine Br_f rfl ?_ | refine Br_t (decide_eq_true (by omega)) ?_ | refine Br_f (decide_eq_false (by omega)) ?_ | (with_reducible refine Br_dec (fun _ => ?_) (fun _ => ?_)) | fail))
  unfold dHand at hQ
  rw [List.map_append] at hQ
  exact hQ
theorem answered_w {S : Store} {h : List Wh} {a : Ak} {n : Int} (hl : h.length ≤ 50000) (ha : sOk a.1 = true) (hs : ∀ w ∈ h, okA w.wt) {Qd : D → Store → Prop} {E : EX} (hQ : ∀ T, Qd (dHand (ansH a n h)) (S ++ T)) : W (m_answered [dHand h, dA a, .int n] S) Qd E := by
  apply w_answered
  unfold z_answered
  show Z _ [some (D.tup (h.map dWh)), _, _, _, _, _, _, _, _, _, _, _] _ _
  (repeat' (first | (with_reducible (first | apply G_vvs | apply G_vv0 | apply G_kk | apply G_bi | apply G_ca | apply G_a1 | apply G_a0 | apply Z_seq | apply Z_set | apply St_s | apply St_0 | apply G_ix | apply G_cm | apply G_tCm | apply Bl_bl | apply Z_if | apply Z_ret | apply G_bl | apply G_tTr | apply G_tNot | apply G_tAnd | apply G_tOr | apply G_isn | apply G_me | apply G_lsv | apply G_tu | apply G_lsm | apply G_nt | apply G_ng | apply G_cm2 | apply G_ie | apply G_sl | apply G_andE | apply G_orE | apply G_p0 | apply G_p1 | apply G_iv | apply G_r1 | apply G_r2 | apply G_lcv | apply G_lcv1 | apply G_lcm | apply G_lcm1 | apply Z_exp | apply Z_pass | apply Z_brk | apply Z_cnt | apply Z_ret0 | apply Z_tup | apply Z_sub | apply Z_while | apply Z_for | apply Z_raise | apply FnP_self | apply Bn_add | apply Bn_sub | apply Bn_and | apply Cp_lt | apply Cp_le | apply Cp_gt | apply Cp_ge | apply Cp_eqi | apply Cp_nei | apply Cp_is | apply Cp_isn | apply Tr_bl | apply Tr_int | apply Tr_lst | apply Tr_tup | apply Tr_non | apply Io_int | apply Bs_int | apply Bs_intb | apply Bs_len | apply Bs_lent | apply Bs_min | apply Bs_max | apply Bs_abs | apply Md_bits | apply Mt_bits | apply It_lst | apply It_tup | apply Br_not | apply Bd_b1 | apply G_di0 | apply Sl_lst | apply Sl_tup | apply Wp_0 | apply Wp_s | apply Sn_0 | apply Sn_s | apply Ct_mk1 | apply Ct_mk | apply Tn_mk | apply G_zen | apply G_zzp | apply G_rvs | apply G_lset | apply G_dct | apply G_k0 | apply G_k1 | apply G_dis | apply En_lst | apply Zp_tup | apply Zp_lst | apply Rv_lst | apply Rv_tup | apply Ky_str | apply Ky_int | apply Md_split | apply Md_join | apply Md_idx | apply Ts_0 | apply Ts_s | apply Cp_eqb | apply Cp_neb | apply Z_try)) | refine Ln_mk (Nat.le_of_ble_eq_true rfl) ?_ | refine Bn_mod (by first | decide | omega) ?_ | refine Bd_bT rfl ?_ | refine Ix_by rfl ?_ | refine Is_by (k := true) rfl ?_ | refine Is_by (k := false) rfl ?_ | refine R1_mk (by first | decide | omega) ?_ | refine Bn_mulS (by omega) (by omega) ?_ | refine Bn_fdivS (by omega) (by omega) ?_ | (apply Ix_ref; assumption; exact rfl) | (apply Sd_ref; assumption; exact rfl; intro _ _ _ _) | (apply Bs_lenr; assumption) | (apply Md_app; assumption) | refine Br_t rfl ?_ | refine Br_f rfl ?_ | refine Br_t (decide_eq_true (by omega)) ?_ | refine Br_f (decide_eq_false (by omega)) ?_ | (with_reducible refine Br_dec (fun _ => ?_) (fun _ => ?_)) | fail))
  refine Lp_inv (fun i σ S' => S' = S ++ [.lst ((ansH a n (h.take i)).map dWh)] ∧ ∃ x4 x5 x6 x7 x8 x9 x10 x11 : Option D, σ = [some (.tup (h.map dWh)), some (dA a), some (.int n), some (.ref S.length), x4, x5, x6, x7, x8, x9, x10, x11]) ⟨rfl, _, _, _, _, _, _, _, _, rfl⟩ ?_ ?_ (by show (h.map dWh).length < 100000; rw [List.length_map]; omega)
  · rintro i d σ S' hd ⟨rfl, x4, x5, x6, x7, x8, x9, x10, x11, rfl⟩
    have hd : (h.map dWh)[i]? = some d := hd
    rw [List.getElem?_map, Option.map_eq_some_iff] at hd
    obtain ⟨w, hw, rfl⟩ := hd
    have ht : ansH a n (h.take (i + 1)) = ansH a n (h.take i) ++ [if w.wt = some a then { w with tot := w.tot + n, wt := none } else w] := by
      rw [List.take_succ, hw, Option.toList, ansH_app]; rfl
    have lt : i < h.length := (List.getElem?_eq_some_iff.mp hw).1
    have g : (S ++ [Ob.lst ((ansH a n (h.take i)).map dWh)])[S.length]? = some (.lst ((ansH a n (h.take i)).map dWh)) := by simp
    have gl : ((ansH a n (h.take i)).map dWh).length < 16777216 := by unfold ansH; rw [List.length_map, List.length_map, List.length_take]; omega
    have ow := hs w (List.mem_of_getElem? hw)
    have put : ∀ v : Wh, (S ++ [Ob.lst ((ansH a n (h.take i)).map dWh)]).set S.length (.lst ((ansH a n (h.take i)).map dWh ++ [dWh v])) = S ++ [.lst ((ansH a n (h.take i) ++ [v]).map dWh)] := fun v => by
      rw [List.map_append]
      simp [List.set_append]
    have mt : ∀ (v : Wh) {Q : D → Store → Prop}, Q .non (S ++ [.lst ((ansH a n (h.take i) ++ [v]).map dWh)]) → MtP (S ++ [Ob.lst ((ansH a n (h.take i)).map dWh)]) .append (.ref S.length) [dWh v] Q := fun v Q hq => by
      refine ⟨⟨.non, _, ?_, hq⟩⟩
      rw [← put v]
      show (match (S ++ [Ob.lst ((ansH a n (h.take i)).map dWh)])[S.length]? with | some (.lst ys) => if ys.length < 16777216 then some (D.non, (S ++ [Ob.lst ((ansH a n (h.take i)).map dWh)]).set S.length (.lst (ys ++ [dWh v]))) else none | _ => none) = _
      rw [g]
      exact if_pos gl
    rw [ht]
    obtain ⟨nm, x, tot, pl, lf, own, wt⟩ := w
    cases wt with
    | none =>
      (repeat' (first | refine Ix_by (x' := dAk none) rfl ?_ | refine Cp_by (k := false) rfl ?_ | refine Md_app g ?_ | refine mt ⟨nm, x, tot, pl, lf, own, none⟩ ?_ | (with_reducible (first | apply G_vvs | apply G_vv0 | apply G_kk | apply G_bi | apply G_ca | apply G_a1 | apply G_a0 | apply Z_seq | apply Z_set | apply St_s | apply St_0 | apply G_ix | apply G_cm | apply G_tCm | apply Bl_bl | apply Z_if | apply Z_ret | apply G_bl | apply G_tTr | apply G_tNot | apply G_tAnd | apply G_tOr | apply G_isn | apply G_me | apply G_lsv | apply G_tu | apply G_lsm | apply G_nt | apply G_ng | apply G_cm2 | apply G_ie | apply G_sl | apply G_andE | apply G_orE | apply G_p0 | apply G_p1 | apply G_iv | apply G_r1 | apply G_r2 | apply G_lcv | apply G_lcv1 | apply G_lcm | apply G_lcm1 | apply Z_exp | apply Z_pass | apply Z_brk | apply Z_cnt | apply Z_ret0 | apply Z_tup | apply Z_sub | apply Z_while | apply Z_for | apply Z_raise | apply FnP_self | apply Bn_add | apply Bn_sub | apply Bn_and | apply Cp_lt | apply Cp_le | apply Cp_gt | apply Cp_ge | apply Cp_eqi | apply Cp_nei | apply Cp_is | apply Cp_isn | apply Tr_bl | apply Tr_int | apply Tr_lst | apply Tr_tup | apply Tr_non | apply Io_int | apply Bs_int | apply Bs_intb | apply Bs_len | apply Bs_lent | apply Bs_min | apply Bs_max | apply Bs_abs | apply Md_bits | apply Mt_bits | apply It_lst | apply It_tup | apply Br_not | apply Bd_b1 | apply G_di0 | apply Sl_lst | apply Sl_tup | apply Wp_0 | apply Wp_s | apply Sn_0 | apply Sn_s | apply Ct_mk1 | apply Ct_mk | apply Tn_mk | apply G_zen | apply G_zzp | apply G_rvs | apply G_lset | apply G_dct | apply G_k0 | apply G_k1 | apply G_dis | apply En_lst | apply Zp_tup | apply Zp_lst | apply Rv_lst | apply Rv_tup | apply Ky_str | apply Ky_int | apply Md_split | apply Md_join | apply Md_idx | apply Ts_0 | apply Ts_s | apply Cp_eqb | apply Cp_neb | apply Z_try)) | refine Ln_mk (Nat.le_of_ble_eq_true rfl) ?_ | refine Bn_mod (by first | decide | omega) ?_ | refine Bd_bT rfl ?_ | refine Ix_by rfl ?_ | refine Is_by (k := true) rfl ?_ | refine Is_by (k := false) rfl ?_ | refine R1_mk (by first | decide | omega) ?_ | refine Bn_mulS (by omega) (by omega) ?_ | refine Bn_fdivS (by omega) (by omega) ?_ | (apply Ix_ref; assumption; exact rfl) | (apply Sd_ref; assumption; exact rfl; intro _ _ _ _) | (apply Bs_lenr; assumption) | (apply Md_app; assumption) | refine Br_t rfl ?_ | refine Br_f rfl ?_ | refine Br_t (decide_eq_true (by omega)) ?_ | refine Br_f (decide_eq_false (by omega)) ?_ | (with_reducible refine Br_dec (fun _ => ?_) (fun _ => ?_)) | fail))
      exact ⟨rfl, _, _, _, _, _, _, _, _, rfl⟩
    | some c =>
      have oc : sOk c.1 = true := ow c rfl
      (repeat' (first | refine Ix_by (x' := dA c) rfl ?_ | refine Cp_by (k := true) rfl ?_ | refine Cp_dA oc ha ?_ | refine Md_app g ?_ | (with_reducible (first | apply G_vvs | apply G_vv0 | apply G_kk | apply G_bi | apply G_ca | apply G_a1 | apply G_a0 | apply Z_seq | apply Z_set | apply St_s | apply St_0 | apply G_ix | apply G_cm | apply G_tCm | apply Bl_bl | apply Z_if | apply Z_ret | apply G_bl | apply G_tTr | apply G_tNot | apply G_tAnd | apply G_tOr | apply G_isn | apply G_me | apply G_lsv | apply G_tu | apply G_lsm | apply G_nt | apply G_ng | apply G_cm2 | apply G_ie | apply G_sl | apply G_andE | apply G_orE | apply G_p0 | apply G_p1 | apply G_iv | apply G_r1 | apply G_r2 | apply G_lcv | apply G_lcv1 | apply G_lcm | apply G_lcm1 | apply Z_exp | apply Z_pass | apply Z_brk | apply Z_cnt | apply Z_ret0 | apply Z_tup | apply Z_sub | apply Z_while | apply Z_for | apply Z_raise | apply FnP_self | apply Bn_add | apply Bn_sub | apply Bn_and | apply Cp_lt | apply Cp_le | apply Cp_gt | apply Cp_ge | apply Cp_eqi | apply Cp_nei | apply Cp_is | apply Cp_isn | apply Tr_bl | apply Tr_int | apply Tr_lst | apply Tr_tup | apply Tr_non | apply Io_int | apply Bs_int | apply Bs_intb | apply Bs_len | apply Bs_lent | apply Bs_min | apply Bs_max | apply Bs_abs | apply Md_bits | apply Mt_bits | apply It_lst | apply It_tup | apply Br_not | apply Bd_b1 | apply G_di0 | apply Sl_lst | apply Sl_tup | apply Wp_0 | apply Wp_s | apply Sn_0 | apply Sn_s | apply Ct_mk1 | apply Ct_mk | apply Tn_mk | apply G_zen | apply G_zzp | apply G_rvs | apply G_lset | apply G_dct | apply G_k0 | apply G_k1 | apply G_dis | apply En_lst | apply Zp_tup | apply Zp_lst | apply Rv_lst | apply Rv_tup | apply Ky_str | apply Ky_int | apply Md_split | apply Md_join | apply Md_idx | apply Ts_0 | apply Ts_s | apply Cp_eqb | apply Cp_neb | apply Z_try)) | refine Ln_mk (Nat.le_of_ble_eq_true rfl) ?_ | refine Bn_mod (by first | decide | omega) ?_ | refine Bd_bT rfl ?_ | refine Ix_by rfl ?_ | refine Is_by (k := true) rfl ?_ | refine Is_by (k := false) rfl ?_ | refine R1_mk (by first | decide | omega) ?_ | refine Bn_mulS (by omega) (by omega) ?_ | refine Bn_fdivS (by omega) (by omega) ?_ | (apply Ix_ref; assumption; exact rfl) | (apply Sd_ref; assumption; exact rfl; intro _ _ _ _) | (apply Bs_lenr; assumption) | (apply Md_app; assumption) | refine Br_t rfl ?_ | refine Br_f rfl ?_ | refine Br_t (decide_eq_true (by omega)) ?_ | refine Br_f (decide_eq_false (by omega)) ?_ | (with_reducible refine Br_dec (fun _ => ?_) (fun _ => ?_)) | fail))
      · rename_i hc
        refine mt ⟨nm, x, tot + n, pl, lf, own, none⟩ ?_
        rw [if_pos (by rw [hc])]
        exact ⟨rfl, _, _, _, _, _, _, _, _, rfl⟩
      · rename_i hc
        refine mt ⟨nm, x, tot, pl, lf, own, some c⟩ ?_
        rw [if_neg (fun z => hc (by injection z))]
        exact ⟨rfl, _, _, _, _, _, _, _, _, rfl⟩
  · rintro σ S' ⟨rfl, x4, x5, x6, x7, x8, x9, x10, x11, rfl⟩
    have : h.take (Items.mk (h.map dWh) none false).xs.length = h := List.take_of_length_le (by show _ ≤ (h.map dWh).length; rw [List.length_map]; exact Nat.le_refl _)
    rw [this]
    (repeat' (first | refine Bs_tupr (l := S.length) (xs := (ansH a n h).map dWh) (by simp) ?_ | (with_reducible (first | apply G_vvs | apply G_vv0 | apply G_kk | apply G_bi | apply G_ca | apply G_a1 | apply G_a0 | apply Z_seq | apply Z_set | apply St_s | apply St_0 | apply G_ix | apply G_cm | apply G_tCm | apply Bl_bl | apply Z_if | apply Z_ret | apply G_bl | apply G_tTr | apply G_tNot | apply G_tAnd | apply G_tOr | apply G_isn | apply G_me | apply G_lsv | apply G_tu | apply G_lsm | apply G_nt | apply G_ng | apply G_cm2 | apply G_ie | apply G_sl | apply G_andE | apply G_orE | apply G_p0 | apply G_p1 | apply G_iv | apply G_r1 | apply G_r2 | apply G_lcv | apply G_lcv1 | apply G_lcm | apply G_lcm1 | apply Z_exp | apply Z_pass | apply Z_brk | apply Z_cnt | apply Z_ret0 | apply Z_tup | apply Z_sub | apply Z_while | apply Z_for | apply Z_raise | apply FnP_self | apply Bn_add | apply Bn_sub | apply Bn_and | apply Cp_lt | apply Cp_le | apply Cp_gt | apply Cp_ge | apply Cp_eqi | apply Cp_nei | apply Cp_is | apply Cp_isn | apply Tr_bl | apply Tr_int | apply Tr_lst | apply Tr_tup | apply Tr_non | apply Io_int | apply Bs_int | apply Bs_intb | apply Bs_len | apply Bs_lent | apply Bs_min | apply Bs_max | apply Bs_abs | apply Md_bits | apply Mt_bits | apply It_lst | apply It_tup | apply Br_not | apply Bd_b1 | apply G_di0 | apply Sl_lst | apply Sl_tup | apply Wp_0 | apply Wp_s | apply Sn_0 | apply Sn_s | apply Ct_mk1 | apply Ct_mk | apply Tn_mk | apply G_zen | apply G_zzp | apply G_rvs | apply G_lset | apply G_dct | apply G_k0 | apply G_k1 | apply G_dis | apply En_lst | apply Zp_tup | apply Zp_lst | apply Rv_lst | apply Rv_tup | apply Ky_str | apply Ky_int | apply Md_split | apply Md_join | apply Md_idx | apply Ts_0 | apply Ts_s | apply Cp_eqb | apply Cp_neb | apply Z_try)) | refine Ln_mk (Nat.le_of_ble_eq_true rfl) ?_ | refine Bn_mod (by first | decide | omega) ?_ | refine Bd_bT rfl ?_ | refine Ix_by rfl ?_ | refine Is_by (k := true) rfl ?_ | refine Is_by (k := false) rfl ?_ | refine R1_mk (by first | decide | omega) ?_ | refine Bn_mulS (by omega) (by omega) ?_ | refine Bn_fdivS (by omega) (by omega) ?_ | (apply Ix_ref; assumption; exact rfl) | (apply Sd_ref; assumption; exact rfl; intro _ _ _ _) | (apply Bs_lenr; assumption) | (apply Md_app; assumption) | refine Br_t rfl ?_ | refine Br_f rfl ?_ | refine Br_t (decide_eq_true (by omega)) ?_ | refine Br_f (decide_eq_false (by omega)) ?_ | (with_reducible refine Br_dec (fun _ => ?_) (fun _ => ?_)) | fail))
    refine Fn_any (hQ _) (fun _ => ?_)
    rw [List.take_left]
    have := hQ []
    rwa [List.append_nil] at this
theorem bodyof_w {S : Store} {dh dw : D} {ws : List Wk} {w : Wk} (e : seqL S dw = some (ws.map dWork)) (nd : (nms ws).Nodup) (hw : w ∈ ws) {Qd : D → Store → Prop} {E : EX} (hQ : ∀ T, Qd (dBody w.2) (S ++ T)) : W (m_body_of [.tup [dh, dw], dS w.1] S) Qd E := by
  apply w_body_of
  unfold z_body_of
  (repeat' (first | refine Dc_q e (pairs_kvs ws) (kvs_nodup nd) ?_ | (with_reducible (first | apply G_vvs | apply G_vv0 | apply G_kk | apply G_bi | apply G_ca | apply G_a1 | apply G_a0 | apply Z_seq | apply Z_set | apply St_s | apply St_0 | apply G_ix | apply G_cm | apply G_tCm | apply Bl_bl | apply Z_if | apply Z_ret | apply G_bl | apply G_tTr | apply G_tNot | apply G_tAnd | apply G_tOr | apply G_isn | apply G_me | apply G_lsv | apply G_tu | apply G_lsm | apply G_nt | apply G_ng | apply G_cm2 | apply G_ie | apply G_sl | apply G_andE | apply G_orE | apply G_p0 | apply G_p1 | apply G_iv | apply G_r1 | apply G_r2 | apply G_lcv | apply G_lcv1 | apply G_lcm | apply G_lcm1 | apply Z_exp | apply Z_pass | apply Z_brk | apply Z_cnt | apply Z_ret0 | apply Z_tup | apply Z_sub | apply Z_while | apply Z_for | apply Z_raise | apply FnP_self | apply Bn_add | apply Bn_sub | apply Bn_and | apply Cp_lt | apply Cp_le | apply Cp_gt | apply Cp_ge | apply Cp_eqi | apply Cp_nei | apply Cp_is | apply Cp_isn | apply Tr_bl | apply Tr_int | apply Tr_lst | apply Tr_tup | apply Tr_non | apply Io_int | apply Bs_int | apply Bs_intb | apply Bs_len | apply Bs_lent | apply Bs_min | apply Bs_max | apply Bs_abs | apply Md_bits | apply Mt_bits | apply It_lst | apply It_tup | apply Br_not | apply Bd_b1 | apply G_di0 | apply Sl_lst | apply Sl_tup | apply Wp_0 | apply Wp_s | apply Sn_0 | apply Sn_s | apply Ct_mk1 | apply Ct_mk | apply Tn_mk | apply G_zen | apply G_zzp | apply G_rvs | apply G_lset | apply G_dct | apply G_k0 | apply G_k1 | apply G_dis | apply En_lst | apply Zp_tup | apply Zp_lst | apply Rv_lst | apply Rv_tup | apply Ky_str | apply Ky_int | apply Md_split | apply Md_join | apply Md_idx | apply Ts_0 | apply Ts_s | apply Cp_eqb | apply Cp_neb | apply Z_try)) | refine Ln_mk (Nat.le_of_ble_eq_true rfl) ?_ | refine Bn_mod (by first | decide | omega) ?_ | refine Bd_bT rfl ?_ | refine Ix_by rfl ?_ | refine Is_by (k := true) rfl ?_ | refine Is_by (k := false) rfl ?_ | refine R1_mk (by first | decide | omega) ?_ | refine Bn_mulS (by omega) (by omega) ?_ | refine Bn_fdivS (by omega) (by omega) ?_ | (apply Ix_ref; assumption; exact rfl) | (apply Sd_ref; assumption; exact rfl; intro _ _ _ _) | (apply Bs_lenr; assumption) | (apply Md_app; assumption) | refine Br_t rfl ?_ | refine Br_f rfl ?_ | refine Br_t (decide_eq_true (by omega)) ?_ | refine Br_f (decide_eq_false (by omega)) ?_ | (with_reducible refine Br_dec (fun _ => ?_) (fun _ => ?_)) | fail))
  refine Ix_key (kvs := kvs ws) (by simp) rfl (valG_mem (kvs_nodup nd) (List.mem_map_of_mem (f := fun w : Wk => ((.inr (SX.S w.1) : L2.Key), dBody w.2)) hw)) ?_
  refine Fn_any (hQ _) (fun _ => ?_)
  rw [List.take_left]
  have := hQ []
  rwa [List.append_nil] at this
theorem spun_w {S : Store} {w : Wh} {k : Int} {Qd : D → Store → Prop} {E : EX} (hQ : Qd (dWh { w with pl := w.pl + (if leftF w.lf k = 0 then 1 else 0), lf := leftF w.lf k, wt := none }) S) : W (m_spun [dWh w, .int k] S) Qd E := by
  apply w_spun
  unfold z_spun
  obtain ⟨nm, x, tot, pl, lf, own, wt⟩ := w
  refine Z_seq (Z_tup (G_vv0 (Bd_bT rfl ?_)))
  unfold leftF at hQ
  (repeat' (first | (with_reducible (first | apply G_vvs | apply G_vv0 | apply G_kk | apply G_bi | apply G_ca | apply G_a1 | apply G_a0 | apply Z_seq | apply Z_set | apply St_s | apply St_0 | apply G_ix | apply G_cm | apply G_tCm | apply Bl_bl | apply Z_if | apply Z_ret | apply G_bl | apply G_tTr | apply G_tNot | apply G_tAnd | apply G_tOr | apply G_isn | apply G_me | apply G_lsv | apply G_tu | apply G_lsm | apply G_nt | apply G_ng | apply G_cm2 | apply G_ie | apply G_sl | apply G_andE | apply G_orE | apply G_p0 | apply G_p1 | apply G_iv | apply G_r1 | apply G_r2 | apply G_lcv | apply G_lcv1 | apply G_lcm | apply G_lcm1 | apply Z_exp | apply Z_pass | apply Z_brk | apply Z_cnt | apply Z_ret0 | apply Z_tup | apply Z_sub | apply Z_while | apply Z_for | apply Z_raise | apply FnP_self | apply Bn_add | apply Bn_sub | apply Bn_and | apply Cp_lt | apply Cp_le | apply Cp_gt | apply Cp_ge | apply Cp_eqi | apply Cp_nei | apply Cp_is | apply Cp_isn | apply Tr_bl | apply Tr_int | apply Tr_lst | apply Tr_tup | apply Tr_non | apply Io_int | apply Bs_int | apply Bs_intb | apply Bs_len | apply Bs_lent | apply Bs_min | apply Bs_max | apply Bs_abs | apply Md_bits | apply Mt_bits | apply It_lst | apply It_tup | apply Br_not | apply Bd_b1 | apply G_di0 | apply Sl_lst | apply Sl_tup | apply Wp_0 | apply Wp_s | apply Sn_0 | apply Sn_s | apply Ct_mk1 | apply Ct_mk | apply Tn_mk | apply G_zen | apply G_zzp | apply G_rvs | apply G_lset | apply G_dct | apply G_k0 | apply G_k1 | apply G_dis | apply En_lst | apply Zp_tup | apply Zp_lst | apply Rv_lst | apply Rv_tup | apply Ky_str | apply Ky_int | apply Md_split | apply Md_join | apply Md_idx | apply Ts_0 | apply Ts_s | apply Cp_eqb | apply Cp_neb | apply Z_try)) | refine Ln_mk (Nat.le_of_ble_eq_true rfl) ?_ | refine Bn_mod (by first | decide | omega) ?_ | refine Bd_bT rfl ?_ | refine Ix_by rfl ?_ | refine Is_by (k := true) rfl ?_ | refine Is_by (k := false) rfl ?_ | refine R1_mk (by first | decide | omega) ?_ | refine Bn_mulS (by omega) (by omega) ?_ | refine Bn_fdivS (by omega) (by omega) ?_ | (apply Ix_ref; assumption; exact rfl) | (apply Sd_ref; assumption; exact rfl; intro _ _ _ _) | (apply Bs_lenr; assumption) | (apply Md_app; assumption) | refine Br_t rfl ?_ | refine Br_f rfl ?_ | refine Br_t (decide_eq_true (by omega)) ?_ | refine Br_f (decide_eq_false (by omega)) ?_ | fail))
  by_cases c : lf = 0
  · refine Br_t (decide_eq_true c) ?_
    (repeat' (first | (with_reducible (first | apply G_vvs | apply G_vv0 | apply G_kk | apply G_bi | apply G_ca | apply G_a1 | apply G_a0 | apply Z_seq | apply Z_set | apply St_s | apply St_0 | apply G_ix | apply G_cm | apply G_tCm | apply Bl_bl | apply Z_if | apply Z_ret | apply G_bl | apply G_tTr | apply G_tNot | apply G_tAnd | apply G_tOr | apply G_isn | apply G_me | apply G_lsv | apply G_tu | apply G_lsm | apply G_nt | apply G_ng | apply G_cm2 | apply G_ie | apply G_sl | apply G_andE | apply G_orE | apply G_p0 | apply G_p1 | apply G_iv | apply G_r1 | apply G_r2 | apply G_lcv | apply G_lcv1 | apply G_lcm | apply G_lcm1 | apply Z_exp | apply Z_pass | apply Z_brk | apply Z_cnt | apply Z_ret0 | apply Z_tup | apply Z_sub | apply Z_while | apply Z_for | apply Z_raise | apply FnP_self | apply Bn_add | apply Bn_sub | apply Bn_and | apply Cp_lt | apply Cp_le | apply Cp_gt | apply Cp_ge | apply Cp_eqi | apply Cp_nei | apply Cp_is | apply Cp_isn | apply Tr_bl | apply Tr_int | apply Tr_lst | apply Tr_tup | apply Tr_non | apply Io_int | apply Bs_int | apply Bs_intb | apply Bs_len | apply Bs_lent | apply Bs_min | apply Bs_max | apply Bs_abs | apply Md_bits | apply Mt_bits | apply It_lst | apply It_tup | apply Br_not | apply Bd_b1 | apply G_di0 | apply Sl_lst | apply Sl_tup | apply Wp_0 | apply Wp_s | apply Sn_0 | apply Sn_s | apply Ct_mk1 | apply Ct_mk | apply Tn_mk | apply G_zen | apply G_zzp | apply G_rvs | apply G_lset | apply G_dct | apply G_k0 | apply G_k1 | apply G_dis | apply En_lst | apply Zp_tup | apply Zp_lst | apply Rv_lst | apply Rv_tup | apply Ky_str | apply Ky_int | apply Md_split | apply Md_join | apply Md_idx | apply Ts_0 | apply Ts_s | apply Cp_eqb | apply Cp_neb | apply Z_try)) | refine Ln_mk (Nat.le_of_ble_eq_true rfl) ?_ | refine Bn_mod (by first | decide | omega) ?_ | refine Bd_bT rfl ?_ | refine Ix_by rfl ?_ | refine Is_by (k := true) rfl ?_ | refine Is_by (k := false) rfl ?_ | refine R1_mk (by first | decide | omega) ?_ | refine Bn_mulS (by omega) (by omega) ?_ | refine Bn_fdivS (by omega) (by omega) ?_ | (apply Ix_ref; assumption; exact rfl) | (apply Sd_ref; assumption; exact rfl; intro _ _ _ _) | (apply Bs_lenr; assumption) | (apply Md_app; assumption) | refine Br_t rfl ?_ | refine Br_f rfl ?_ | refine Br_t (decide_eq_true (by omega)) ?_ | refine Br_f (decide_eq_false (by omega)) ?_ | fail))
    dsimp only at hQ
    rw [if_pos c] at hQ
    by_cases c2 : k - 1 = 0
    · rw [decide_eq_true c2]; rw [if_pos c2] at hQ; exact hQ
    · rw [decide_eq_false c2]; rw [if_neg c2] at hQ; exact hQ
  · refine Br_f (decide_eq_false c) ?_
    (repeat' (first | (with_reducible (first | apply G_vvs | apply G_vv0 | apply G_kk | apply G_bi | apply G_ca | apply G_a1 | apply G_a0 | apply Z_seq | apply Z_set | apply St_s | apply St_0 | apply G_ix | apply G_cm | apply G_tCm | apply Bl_bl | apply Z_if | apply Z_ret | apply G_bl | apply G_tTr | apply G_tNot | apply G_tAnd | apply G_tOr | apply G_isn | apply G_me | apply G_lsv | apply G_tu | apply G_lsm | apply G_nt | apply G_ng | apply G_cm2 | apply G_ie | apply G_sl | apply G_andE | apply G_orE | apply G_p0 | apply G_p1 | apply G_iv | apply G_r1 | apply G_r2 | apply G_lcv | apply G_lcv1 | apply G_lcm | apply G_lcm1 | apply Z_exp | apply Z_pass | apply Z_brk | apply Z_cnt | apply Z_ret0 | apply Z_tup | apply Z_sub | apply Z_while | apply Z_for | apply Z_raise | apply FnP_self | apply Bn_add | apply Bn_sub | apply Bn_and | apply Cp_lt | apply Cp_le | apply Cp_gt | apply Cp_ge | apply Cp_eqi | apply Cp_nei | apply Cp_is | apply Cp_isn | apply Tr_bl | apply Tr_int | apply Tr_lst | apply Tr_tup | apply Tr_non | apply Io_int | apply Bs_int | apply Bs_intb | apply Bs_len | apply Bs_lent | apply Bs_min | apply Bs_max | apply Bs_abs | apply Md_bits | apply Mt_bits | apply It_lst | apply It_tup | apply Br_not | apply Bd_b1 | apply G_di0 | apply Sl_lst | apply Sl_tup | apply Wp_0 | apply Wp_s | apply Sn_0 | apply Sn_s | apply Ct_mk1 | apply Ct_mk | apply Tn_mk | apply G_zen | apply G_zzp | apply G_rvs | apply G_lset | apply G_dct | apply G_k0 | apply G_k1 | apply G_dis | apply En_lst | apply Zp_tup | apply Zp_lst | apply Rv_lst | apply Rv_tup | apply Ky_str | apply Ky_int | apply Md_split | apply Md_join | apply Md_idx | apply Ts_0 | apply Ts_s | apply Cp_eqb | apply Cp_neb | apply Z_try)) | refine Ln_mk (Nat.le_of_ble_eq_true rfl) ?_ | refine Bn_mod (by first | decide | omega) ?_ | refine Bd_bT rfl ?_ | refine Ix_by rfl ?_ | refine Is_by (k := true) rfl ?_ | refine Is_by (k := false) rfl ?_ | refine R1_mk (by first | decide | omega) ?_ | refine Bn_mulS (by omega) (by omega) ?_ | refine Bn_fdivS (by omega) (by omega) ?_ | (apply Ix_ref; assumption; exact rfl) | (apply Sd_ref; assumption; exact rfl; intro _ _ _ _) | (apply Bs_lenr; assumption) | (apply Md_app; assumption) | refine Br_t rfl ?_ | refine Br_f rfl ?_ | refine Br_t (decide_eq_true (by omega)) ?_ | refine Br_f (decide_eq_false (by omega)) ?_ | fail))
    dsimp only at hQ
    rw [if_neg c] at hQ
    by_cases c2 : lf - 1 = 0
    · rw [decide_eq_true c2]; rw [if_pos c2] at hQ; exact hQ
    · rw [decide_eq_false c2]; rw [if_neg c2] at hQ; exact hQ
theorem done_w {S : Store} {w : Wh} {m : Sm} {ask : Ak} (hw : w.wt = none) {Qd : D → Store → Prop} {E : EX} (hQ : Qd (.tup [dWh (doneF w m ask).1, dWhat (doneF w m ask).2]) S) : W (m_done [dWh w, dSm m, dA ask] S) Qd E := by
  apply w_done
  unfold z_done
  rw [kSpin, kAdd, kOwn, kAsk]
  obtain ⟨nm, x, tot, pl, lf, own, wt⟩ := w
  dsimp only at hw
  subst hw
  refine Z_seq (Z_tup (G_vv0 (Bd_bT rfl ?_)))
  cases m with
  | spin k =>
    (repeat' (first | refine Cp_eqS (by decide) (by decide) ?_ | refine Ix_by (x' := dS cSpin) rfl ?_ | refine Ix_by (x' := .int k) rfl ?_ | refine spun_w ?_ | (with_reducible (first | apply G_vvs | apply G_vv0 | apply G_kk | apply G_bi | apply G_ca | apply G_a1 | apply G_a0 | apply Z_seq | apply Z_set | apply St_s | apply St_0 | apply G_ix | apply G_cm | apply G_tCm | apply Bl_bl | apply Z_if | apply Z_ret | apply G_bl | apply G_tTr | apply G_tNot | apply G_tAnd | apply G_tOr | apply G_isn | apply G_me | apply G_lsv | apply G_tu | apply G_lsm | apply G_nt | apply G_ng | apply G_cm2 | apply G_ie | apply G_sl | apply G_andE | apply G_orE | apply G_p0 | apply G_p1 | apply G_iv | apply G_r1 | apply G_r2 | apply G_lcv | apply G_lcv1 | apply G_lcm | apply G_lcm1 | apply Z_exp | apply Z_pass | apply Z_brk | apply Z_cnt | apply Z_ret0 | apply Z_tup | apply Z_sub | apply Z_while | apply Z_for | apply Z_raise | apply FnP_self | apply Bn_add | apply Bn_sub | apply Bn_and | apply Cp_lt | apply Cp_le | apply Cp_gt | apply Cp_ge | apply Cp_eqi | apply Cp_nei | apply Cp_is | apply Cp_isn | apply Tr_bl | apply Tr_int | apply Tr_lst | apply Tr_tup | apply Tr_non | apply Io_int | apply Bs_int | apply Bs_intb | apply Bs_len | apply Bs_lent | apply Bs_min | apply Bs_max | apply Bs_abs | apply Md_bits | apply Mt_bits | apply It_lst | apply It_tup | apply Br_not | apply Bd_b1 | apply G_di0 | apply Sl_lst | apply Sl_tup | apply Wp_0 | apply Wp_s | apply Sn_0 | apply Sn_s | apply Ct_mk1 | apply Ct_mk | apply Tn_mk | apply G_zen | apply G_zzp | apply G_rvs | apply G_lset | apply G_dct | apply G_k0 | apply G_k1 | apply G_dis | apply En_lst | apply Zp_tup | apply Zp_lst | apply Rv_lst | apply Rv_tup | apply Ky_str | apply Ky_int | apply Md_split | apply Md_join | apply Md_idx | apply Ts_0 | apply Ts_s | apply Cp_eqb | apply Cp_neb | apply Z_try)) | refine Ln_mk (Nat.le_of_ble_eq_true rfl) ?_ | refine Bn_mod (by first | decide | omega) ?_ | refine Bd_bT rfl ?_ | refine Ix_by rfl ?_ | refine Is_by (k := true) rfl ?_ | refine Is_by (k := false) rfl ?_ | refine R1_mk (by first | decide | omega) ?_ | refine Bn_mulS (by omega) (by omega) ?_ | refine Bn_fdivS (by omega) (by omega) ?_ | (apply Ix_ref; assumption; exact rfl) | (apply Sd_ref; assumption; exact rfl; intro _ _ _ _) | (apply Bs_lenr; assumption) | (apply Md_app; assumption) | refine Br_t rfl ?_ | refine Br_f rfl ?_ | refine Br_t (decide_eq_true (by omega)) ?_ | refine Br_f (decide_eq_false (by omega)) ?_ | fail))
    exact hQ
  | add i =>
    (repeat' (first | refine Cp_eqS (by decide) (by decide) ?_ | refine Ix_by (x' := dS cAdd) rfl ?_ | refine Ix_by (x' := .int i) rfl ?_ | (with_reducible (first | apply G_vvs | apply G_vv0 | apply G_kk | apply G_bi | apply G_ca | apply G_a1 | apply G_a0 | apply Z_seq | apply Z_set | apply St_s | apply St_0 | apply G_ix | apply G_cm | apply G_tCm | apply Bl_bl | apply Z_if | apply Z_ret | apply G_bl | apply G_tTr | apply G_tNot | apply G_tAnd | apply G_tOr | apply G_isn | apply G_me | apply G_lsv | apply G_tu | apply G_lsm | apply G_nt | apply G_ng | apply G_cm2 | apply G_ie | apply G_sl | apply G_andE | apply G_orE | apply G_p0 | apply G_p1 | apply G_iv | apply G_r1 | apply G_r2 | apply G_lcv | apply G_lcv1 | apply G_lcm | apply G_lcm1 | apply Z_exp | apply Z_pass | apply Z_brk | apply Z_cnt | apply Z_ret0 | apply Z_tup | apply Z_sub | apply Z_while | apply Z_for | apply Z_raise | apply FnP_self | apply Bn_add | apply Bn_sub | apply Bn_and | apply Cp_lt | apply Cp_le | apply Cp_gt | apply Cp_ge | apply Cp_eqi | apply Cp_nei | apply Cp_is | apply Cp_isn | apply Tr_bl | apply Tr_int | apply Tr_lst | apply Tr_tup | apply Tr_non | apply Io_int | apply Bs_int | apply Bs_intb | apply Bs_len | apply Bs_lent | apply Bs_min | apply Bs_max | apply Bs_abs | apply Md_bits | apply Mt_bits | apply It_lst | apply It_tup | apply Br_not | apply Bd_b1 | apply G_di0 | apply Sl_lst | apply Sl_tup | apply Wp_0 | apply Wp_s | apply Sn_0 | apply Sn_s | apply Ct_mk1 | apply Ct_mk | apply Tn_mk | apply G_zen | apply G_zzp | apply G_rvs | apply G_lset | apply G_dct | apply G_k0 | apply G_k1 | apply G_dis | apply En_lst | apply Zp_tup | apply Zp_lst | apply Rv_lst | apply Rv_tup | apply Ky_str | apply Ky_int | apply Md_split | apply Md_join | apply Md_idx | apply Ts_0 | apply Ts_s | apply Cp_eqb | apply Cp_neb | apply Z_try)) | refine Ln_mk (Nat.le_of_ble_eq_true rfl) ?_ | refine Bn_mod (by first | decide | omega) ?_ | refine Bd_bT rfl ?_ | refine Ix_by rfl ?_ | refine Is_by (k := true) rfl ?_ | refine Is_by (k := false) rfl ?_ | refine R1_mk (by first | decide | omega) ?_ | refine Bn_mulS (by omega) (by omega) ?_ | refine Bn_fdivS (by omega) (by omega) ?_ | (apply Ix_ref; assumption; exact rfl) | (apply Sd_ref; assumption; exact rfl; intro _ _ _ _) | (apply Bs_lenr; assumption) | (apply Md_app; assumption) | refine Br_t rfl ?_ | refine Br_f rfl ?_ | refine Br_t (decide_eq_true (by omega)) ?_ | refine Br_f (decide_eq_false (by omega)) ?_ | fail))
    exact hQ
  | own =>
    (repeat' (first | refine Cp_eqS (by decide) (by decide) ?_ | refine Ix_by (x' := dS cOwn) rfl ?_ | (with_reducible (first | apply G_vvs | apply G_vv0 | apply G_kk | apply G_bi | apply G_ca | apply G_a1 | apply G_a0 | apply Z_seq | apply Z_set | apply St_s | apply St_0 | apply G_ix | apply G_cm | apply G_tCm | apply Bl_bl | apply Z_if | apply Z_ret | apply G_bl | apply G_tTr | apply G_tNot | apply G_tAnd | apply G_tOr | apply G_isn | apply G_me | apply G_lsv | apply G_tu | apply G_lsm | apply G_nt | apply G_ng | apply G_cm2 | apply G_ie | apply G_sl | apply G_andE | apply G_orE | apply G_p0 | apply G_p1 | apply G_iv | apply G_r1 | apply G_r2 | apply G_lcv | apply G_lcv1 | apply G_lcm | apply G_lcm1 | apply Z_exp | apply Z_pass | apply Z_brk | apply Z_cnt | apply Z_ret0 | apply Z_tup | apply Z_sub | apply Z_while | apply Z_for | apply Z_raise | apply FnP_self | apply Bn_add | apply Bn_sub | apply Bn_and | apply Cp_lt | apply Cp_le | apply Cp_gt | apply Cp_ge | apply Cp_eqi | apply Cp_nei | apply Cp_is | apply Cp_isn | apply Tr_bl | apply Tr_int | apply Tr_lst | apply Tr_tup | apply Tr_non | apply Io_int | apply Bs_int | apply Bs_intb | apply Bs_len | apply Bs_lent | apply Bs_min | apply Bs_max | apply Bs_abs | apply Md_bits | apply Mt_bits | apply It_lst | apply It_tup | apply Br_not | apply Bd_b1 | apply G_di0 | apply Sl_lst | apply Sl_tup | apply Wp_0 | apply Wp_s | apply Sn_0 | apply Sn_s | apply Ct_mk1 | apply Ct_mk | apply Tn_mk | apply G_zen | apply G_zzp | apply G_rvs | apply G_lset | apply G_dct | apply G_k0 | apply G_k1 | apply G_dis | apply En_lst | apply Zp_tup | apply Zp_lst | apply Rv_lst | apply Rv_tup | apply Ky_str | apply Ky_int | apply Md_split | apply Md_join | apply Md_idx | apply Ts_0 | apply Ts_s | apply Cp_eqb | apply Cp_neb | apply Z_try)) | refine Ln_mk (Nat.le_of_ble_eq_true rfl) ?_ | refine Bn_mod (by first | decide | omega) ?_ | refine Bd_bT rfl ?_ | refine Ix_by rfl ?_ | refine Is_by (k := true) rfl ?_ | refine Is_by (k := false) rfl ?_ | refine R1_mk (by first | decide | omega) ?_ | refine Bn_mulS (by omega) (by omega) ?_ | refine Bn_fdivS (by omega) (by omega) ?_ | (apply Ix_ref; assumption; exact rfl) | (apply Sd_ref; assumption; exact rfl; intro _ _ _ _) | (apply Bs_lenr; assumption) | (apply Md_app; assumption) | refine Br_t rfl ?_ | refine Br_f rfl ?_ | refine Br_t (decide_eq_true (by omega)) ?_ | refine Br_f (decide_eq_false (by omega)) ?_ | fail))
    exact hQ
  | call b h n =>
    unfold doneF at hQ
    dsimp only at hQ
    cases b with
    | true =>
      (repeat' (first | refine Cp_eqS (by decide) (by decide) ?_ | refine Ix_by (x' := dS cAsk) rfl ?_ | refine Ix_by (x' := dS h) rfl ?_ | refine Ix_by (x' := dS n) rfl ?_ | (with_reducible (first | apply G_vvs | apply G_vv0 | apply G_kk | apply G_bi | apply G_ca | apply G_a1 | apply G_a0 | apply Z_seq | apply Z_set | apply St_s | apply St_0 | apply G_ix | apply G_cm | apply G_tCm | apply Bl_bl | apply Z_if | apply Z_ret | apply G_bl | apply G_tTr | apply G_tNot | apply G_tAnd | apply G_tOr | apply G_isn | apply G_me | apply G_lsv | apply G_tu | apply G_lsm | apply G_nt | apply G_ng | apply G_cm2 | apply G_ie | apply G_sl | apply G_andE | apply G_orE | apply G_p0 | apply G_p1 | apply G_iv | apply G_r1 | apply G_r2 | apply G_lcv | apply G_lcv1 | apply G_lcm | apply G_lcm1 | apply Z_exp | apply Z_pass | apply Z_brk | apply Z_cnt | apply Z_ret0 | apply Z_tup | apply Z_sub | apply Z_while | apply Z_for | apply Z_raise | apply FnP_self | apply Bn_add | apply Bn_sub | apply Bn_and | apply Cp_lt | apply Cp_le | apply Cp_gt | apply Cp_ge | apply Cp_eqi | apply Cp_nei | apply Cp_is | apply Cp_isn | apply Tr_bl | apply Tr_int | apply Tr_lst | apply Tr_tup | apply Tr_non | apply Io_int | apply Bs_int | apply Bs_intb | apply Bs_len | apply Bs_lent | apply Bs_min | apply Bs_max | apply Bs_abs | apply Md_bits | apply Mt_bits | apply It_lst | apply It_tup | apply Br_not | apply Bd_b1 | apply G_di0 | apply Sl_lst | apply Sl_tup | apply Wp_0 | apply Wp_s | apply Sn_0 | apply Sn_s | apply Ct_mk1 | apply Ct_mk | apply Tn_mk | apply G_zen | apply G_zzp | apply G_rvs | apply G_lset | apply G_dct | apply G_k0 | apply G_k1 | apply G_dis | apply En_lst | apply Zp_tup | apply Zp_lst | apply Rv_lst | apply Rv_tup | apply Ky_str | apply Ky_int | apply Md_split | apply Md_join | apply Md_idx | apply Ts_0 | apply Ts_s | apply Cp_eqb | apply Cp_neb | apply Z_try)) | refine Ln_mk (Nat.le_of_ble_eq_true rfl) ?_ | refine Bn_mod (by first | decide | omega) ?_ | refine Bd_bT rfl ?_ | refine Ix_by rfl ?_ | refine Is_by (k := true) rfl ?_ | refine Is_by (k := false) rfl ?_ | refine R1_mk (by first | decide | omega) ?_ | refine Bn_mulS (by omega) (by omega) ?_ | refine Bn_fdivS (by omega) (by omega) ?_ | (apply Ix_ref; assumption; exact rfl) | (apply Sd_ref; assumption; exact rfl; intro _ _ _ _) | (apply Bs_lenr; assumption) | (apply Md_app; assumption) | refine Br_t rfl ?_ | refine Br_f rfl ?_ | refine Br_t (decide_eq_true (by omega)) ?_ | refine Br_f (decide_eq_false (by omega)) ?_ | (with_reducible refine Br_dec (fun _ => ?_) (fun _ => ?_)) | fail))
      · rename_i c
        rw [if_pos c] at hQ; exact hQ
      · rename_i c
        rw [if_neg c] at hQ; exact hQ
    | false =>
      (repeat' (first | refine Cp_eqS (by decide) (by decide) ?_ | refine Ix_by (x' := dS cMake) rfl ?_ | refine Ix_by (x' := dS h) rfl ?_ | refine Ix_by (x' := dS n) rfl ?_ | (with_reducible (first | apply G_vvs | apply G_vv0 | apply G_kk | apply G_bi | apply G_ca | apply G_a1 | apply G_a0 | apply Z_seq | apply Z_set | apply St_s | apply St_0 | apply G_ix | apply G_cm | apply G_tCm | apply Bl_bl | apply Z_if | apply Z_ret | apply G_bl | apply G_tTr | apply G_tNot | apply G_tAnd | apply G_tOr | apply G_isn | apply G_me | apply G_lsv | apply G_tu | apply G_lsm | apply G_nt | apply G_ng | apply G_cm2 | apply G_ie | apply G_sl | apply G_andE | apply G_orE | apply G_p0 | apply G_p1 | apply G_iv | apply G_r1 | apply G_r2 | apply G_lcv | apply G_lcv1 | apply G_lcm | apply G_lcm1 | apply Z_exp | apply Z_pass | apply Z_brk | apply Z_cnt | apply Z_ret0 | apply Z_tup | apply Z_sub | apply Z_while | apply Z_for | apply Z_raise | apply FnP_self | apply Bn_add | apply Bn_sub | apply Bn_and | apply Cp_lt | apply Cp_le | apply Cp_gt | apply Cp_ge | apply Cp_eqi | apply Cp_nei | apply Cp_is | apply Cp_isn | apply Tr_bl | apply Tr_int | apply Tr_lst | apply Tr_tup | apply Tr_non | apply Io_int | apply Bs_int | apply Bs_intb | apply Bs_len | apply Bs_lent | apply Bs_min | apply Bs_max | apply Bs_abs | apply Md_bits | apply Mt_bits | apply It_lst | apply It_tup | apply Br_not | apply Bd_b1 | apply G_di0 | apply Sl_lst | apply Sl_tup | apply Wp_0 | apply Wp_s | apply Sn_0 | apply Sn_s | apply Ct_mk1 | apply Ct_mk | apply Tn_mk | apply G_zen | apply G_zzp | apply G_rvs | apply G_lset | apply G_dct | apply G_k0 | apply G_k1 | apply G_dis | apply En_lst | apply Zp_tup | apply Zp_lst | apply Rv_lst | apply Rv_tup | apply Ky_str | apply Ky_int | apply Md_split | apply Md_join | apply Md_idx | apply Ts_0 | apply Ts_s | apply Cp_eqb | apply Cp_neb | apply Z_try)) | refine Ln_mk (Nat.le_of_ble_eq_true rfl) ?_ | refine Bn_mod (by first | decide | omega) ?_ | refine Bd_bT rfl ?_ | refine Ix_by rfl ?_ | refine Is_by (k := true) rfl ?_ | refine Is_by (k := false) rfl ?_ | refine R1_mk (by first | decide | omega) ?_ | refine Bn_mulS (by omega) (by omega) ?_ | refine Bn_fdivS (by omega) (by omega) ?_ | (apply Ix_ref; assumption; exact rfl) | (apply Sd_ref; assumption; exact rfl; intro _ _ _ _) | (apply Bs_lenr; assumption) | (apply Md_app; assumption) | refine Br_t rfl ?_ | refine Br_f rfl ?_ | refine Br_t (decide_eq_true (by omega)) ?_ | refine Br_f (decide_eq_false (by omega)) ?_ | (with_reducible refine Br_dec (fun _ => ?_) (fun _ => ?_)) | fail))
      · rename_i c
        rw [if_pos c] at hQ; exact hQ
      · rename_i c
        rw [if_neg c] at hQ; exact hQ
theorem stepped_w {S : Store} {dh : D} {hs : List (List Nat)} {ws : List Wk} (ok : okWs hs ws) {h : List Wh} (hl : h.length ≤ 50000) (oh : okHd ws h) (e : runsH h = true) {ask : Ak} {Qd : D → Store → Prop} {E : EX} (hQ : ∀ T, Qd (.tup [dHand (stepH ws ask h).1, dWhat (stepH ws ask h).2]) (S ++ T)) : W (m_stepped [.tup [dh, .lst (ws.map dWork)], dHand h, dA ask] S) Qd E := by
  obtain ⟨pre, w, post, rfl, h1, h2⟩ := runs_split e
  have ow := oh w (by simp)
  obtain ⟨v, hv, e1, e2⟩ := bodyOf_get ok.wn ow.nm
  rw [stepH_at h2 h1] at hQ
  have p0 := ow.p0
  have p1 := ow.p1
  have fin : ∀ d T, (∀ T, Qd d (S ++ T)) → FnP false S.length d (S ++ T) Qd E := fun d T hq => by
    refine Fn_any (hq _) (fun _ => ?_)
    rw [List.take_left]
    have := hq []
    rwa [List.append_nil] at this
  have hl2 : pre.length + 1 + post.length ≤ 50000 := by rw [List.length_append, List.length_cons] at hl; omega
  have ix : (dHand (pre ++ w :: post)) = .tup (pre.map dWh ++ dWh w :: post.map dWh) := by unfold dHand; rw [List.map_append, List.map_cons]
  have at1 : L2.atI (pre.map dWh ++ dWh w :: post.map dWh) (pre.length : Int) = some (dWh w) := by
    obtain ⟨d, a1, a2⟩ := atI_nat (xs := pre.map dWh ++ dWh w :: post.map dWh) (k := (pre.length : Int)) (by omega) (by simp; omega)
    rw [a1, ← a2]
    simp
  have c1 : cut (pre.map dWh ++ dWh w :: post.map dWh) none (some (pre.length : Int)) = pre.map dWh := by
    rw [cut_to _ _ (by simp)]
    rw [List.take_append_of_le_length (by simp), List.take_of_length_le (by simp)]
  have c2 : cut (pre.map dWh ++ dWh w :: post.map dWh) (some ((pre.length : Int) + 1)) none = post.map dWh := by
    have e : (pre.length : Int) + 1 = ((pre.length + 1 : Nat) : Int) := by omega
    rw [e, cut_from _ _ (by simp)]
    have z : pre.map dWh ++ dWh w :: post.map dWh = (pre.map dWh ++ [dWh w]) ++ post.map dWh := by simp
    rw [z, List.drop_left' (by simp)]
  have b1 : ∀ (S : Store) (y : D) (Q : D → Prop), Q (.tup (pre.map dWh ++ [y])) → Bn S .Add (.tup (cut (pre.map dWh ++ dWh w :: post.map dWh) none (some (pre.length : Int)))) (.tup [y]) Q := fun S y Q h => by
    rw [c1]; exact Bn_tup (by rw [List.length_map, List.length_singleton]; omega) h
  have b2 : ∀ (S : Store) (xs : List D) (Q : D → Prop), xs.length ≤ 60000 → Q (.tup (xs ++ post.map dWh)) → Bn S .Add (.tup xs) (.tup (cut (pre.map dWh ++ dWh w :: post.map dWh) (some ((pre.length : Int) + 1)) none)) Q := fun S xs Q hx h => by
    rw [c2]; exact Bn_tup (by rw [List.length_map]; omega) h
  have b3 : ∀ (S : Store) (Q : D → Prop), Q (.tup (pre.map dWh ++ post.map dWh)) → Bn S .Add (.tup (cut (pre.map dWh ++ dWh w :: post.map dWh) none (some (pre.length : Int)))) (.tup (cut (pre.map dWh ++ dWh w :: post.map dWh) (some ((pre.length : Int) + 1)) none)) Q := fun S Q h => by
    rw [c1]; exact b2 S _ Q (by rw [List.length_map]; omega) h
  apply w_stepped
  unfold z_stepped
  rw [kOver]
  (repeat' (first | refine first_w (by omega) h1 h2 ?_ | (with_reducible (first | apply G_vvs | apply G_vv0 | apply G_kk | apply G_bi | apply G_ca | apply G_a1 | apply G_a0 | apply Z_seq | apply Z_set | apply St_s | apply St_0 | apply G_ix | apply G_cm | apply G_tCm | apply Bl_bl | apply Z_if | apply Z_ret | apply G_bl | apply G_tTr | apply G_tNot | apply G_tAnd | apply G_tOr | apply G_isn | apply G_me | apply G_lsv | apply G_tu | apply G_lsm | apply G_nt | apply G_ng | apply G_cm2 | apply G_ie | apply G_sl | apply G_andE | apply G_orE | apply G_p0 | apply G_p1 | apply G_iv | apply G_r1 | apply G_r2 | apply G_lcv | apply G_lcv1 | apply G_lcm | apply G_lcm1 | apply Z_exp | apply Z_pass | apply Z_brk | apply Z_cnt | apply Z_ret0 | apply Z_tup | apply Z_sub | apply Z_while | apply Z_for | apply Z_raise | apply FnP_self | apply Bn_add | apply Bn_sub | apply Bn_and | apply Cp_lt | apply Cp_le | apply Cp_gt | apply Cp_ge | apply Cp_eqi | apply Cp_nei | apply Cp_is | apply Cp_isn | apply Tr_bl | apply Tr_int | apply Tr_lst | apply Tr_tup | apply Tr_non | apply Io_int | apply Bs_int | apply Bs_intb | apply Bs_len | apply Bs_lent | apply Bs_min | apply Bs_max | apply Bs_abs | apply Md_bits | apply Mt_bits | apply It_lst | apply It_tup | apply Br_not | apply Bd_b1 | apply G_di0 | apply Sl_lst | apply Sl_tup | apply Wp_0 | apply Wp_s | apply Sn_0 | apply Sn_s | apply Ct_mk1 | apply Ct_mk | apply Tn_mk | apply G_zen | apply G_zzp | apply G_rvs | apply G_lset | apply G_dct | apply G_k0 | apply G_k1 | apply G_dis | apply En_lst | apply Zp_tup | apply Zp_lst | apply Rv_lst | apply Rv_tup | apply Ky_str | apply Ky_int | apply Md_split | apply Md_join | apply Md_idx | apply Ts_0 | apply Ts_s | apply Cp_eqb | apply Cp_neb | apply Z_try)) | refine Ln_mk (Nat.le_of_ble_eq_true rfl) ?_ | refine Bn_mod (by first | decide | omega) ?_ | refine Bd_bT rfl ?_ | refine Ix_by rfl ?_ | refine Is_by (k := true) rfl ?_ | refine Is_by (k := false) rfl ?_ | refine R1_mk (by first | decide | omega) ?_ | refine Bn_mulS (by omega) (by omega) ?_ | refine Bn_fdivS (by omega) (by omega) ?_ | (apply Ix_ref; assumption; exact rfl) | (apply Sd_ref; assumption; exact rfl; intro _ _ _ _) | (apply Bs_lenr; assumption) | (apply Md_app; assumption) | refine Br_t rfl ?_ | refine Br_f rfl ?_ | refine Br_t (decide_eq_true (by omega)) ?_ | refine Br_f (decide_eq_false (by omega)) ?_ | fail))
  rw [ix]
  (repeat' (first | refine Ix_by (x' := dWh w) at1 ?_ | refine Ix_by (x' := dS w.nm) rfl ?_ | (with_reducible (first | apply G_vvs | apply G_vv0 | apply G_kk | apply G_bi | apply G_ca | apply G_a1 | apply G_a0 | apply Z_seq | apply Z_set | apply St_s | apply St_0 | apply G_ix | apply G_cm | apply G_tCm | apply Bl_bl | apply Z_if | apply Z_ret | apply G_bl | apply G_tTr | apply G_tNot | apply G_tAnd | apply G_tOr | apply G_isn | apply G_me | apply G_lsv | apply G_tu | apply G_lsm | apply G_nt | apply G_ng | apply G_cm2 | apply G_ie | apply G_sl | apply G_andE | apply G_orE | apply G_p0 | apply G_p1 | apply G_iv | apply G_r1 | apply G_r2 | apply G_lcv | apply G_lcv1 | apply G_lcm | apply G_lcm1 | apply Z_exp | apply Z_pass | apply Z_brk | apply Z_cnt | apply Z_ret0 | apply Z_tup | apply Z_sub | apply Z_while | apply Z_for | apply Z_raise | apply FnP_self | apply Bn_add | apply Bn_sub | apply Bn_and | apply Cp_lt | apply Cp_le | apply Cp_gt | apply Cp_ge | apply Cp_eqi | apply Cp_nei | apply Cp_is | apply Cp_isn | apply Tr_bl | apply Tr_int | apply Tr_lst | apply Tr_tup | apply Tr_non | apply Io_int | apply Bs_int | apply Bs_intb | apply Bs_len | apply Bs_lent | apply Bs_min | apply Bs_max | apply Bs_abs | apply Md_bits | apply Mt_bits | apply It_lst | apply It_tup | apply Br_not | apply Bd_b1 | apply G_di0 | apply Sl_lst | apply Sl_tup | apply Wp_0 | apply Wp_s | apply Sn_0 | apply Sn_s | apply Ct_mk1 | apply Ct_mk | apply Tn_mk | apply G_zen | apply G_zzp | apply G_rvs | apply G_lset | apply G_dct | apply G_k0 | apply G_k1 | apply G_dis | apply En_lst | apply Zp_tup | apply Zp_lst | apply Rv_lst | apply Rv_tup | apply Ky_str | apply Ky_int | apply Md_split | apply Md_join | apply Md_idx | apply Ts_0 | apply Ts_s | apply Cp_eqb | apply Cp_neb | apply Z_try)) | refine Ln_mk (Nat.le_of_ble_eq_true rfl) ?_ | refine Bn_mod (by first | decide | omega) ?_ | refine Bd_bT rfl ?_ | refine Ix_by rfl ?_ | refine Is_by (k := true) rfl ?_ | refine Is_by (k := false) rfl ?_ | refine R1_mk (by first | decide | omega) ?_ | refine Bn_mulS (by omega) (by omega) ?_ | refine Bn_fdivS (by omega) (by omega) ?_ | (apply Ix_ref; assumption; exact rfl) | (apply Sd_ref; assumption; exact rfl; intro _ _ _ _) | (apply Bs_lenr; assumption) | (apply Md_app; assumption) | refine Br_t rfl ?_ | refine Br_f rfl ?_ | refine Br_t (decide_eq_true (by omega)) ?_ | refine Br_f (decide_eq_false (by omega)) ?_ | fail))
  rw [← e1]
  refine bodyof_w (dh := dh) rfl ok.wn hv (fun T => ?_)
  have bl : (dBody v.2) = .tup (v.2.map dSm) := rfl
  rw [bl]
  (repeat' (first | refine Ix_by (x' := .int w.pl) rfl ?_ | (with_reducible (first | apply G_vvs | apply G_vv0 | apply G_kk | apply G_bi | apply G_ca | apply G_a1 | apply G_a0 | apply Z_seq | apply Z_set | apply St_s | apply St_0 | apply G_ix | apply G_cm | apply G_tCm | apply Bl_bl | apply Z_if | apply Z_ret | apply G_bl | apply G_tTr | apply G_tNot | apply G_tAnd | apply G_tOr | apply G_isn | apply G_me | apply G_lsv | apply G_tu | apply G_lsm | apply G_nt | apply G_ng | apply G_cm2 | apply G_ie | apply G_sl | apply G_andE | apply G_orE | apply G_p0 | apply G_p1 | apply G_iv | apply G_r1 | apply G_r2 | apply G_lcv | apply G_lcv1 | apply G_lcm | apply G_lcm1 | apply Z_exp | apply Z_pass | apply Z_brk | apply Z_cnt | apply Z_ret0 | apply Z_tup | apply Z_sub | apply Z_while | apply Z_for | apply Z_raise | apply FnP_self | apply Bn_add | apply Bn_sub | apply Bn_and | apply Cp_lt | apply Cp_le | apply Cp_gt | apply Cp_ge | apply Cp_eqi | apply Cp_nei | apply Cp_is | apply Cp_isn | apply Tr_bl | apply Tr_int | apply Tr_lst | apply Tr_tup | apply Tr_non | apply Io_int | apply Bs_int | apply Bs_intb | apply Bs_len | apply Bs_lent | apply Bs_min | apply Bs_max | apply Bs_abs | apply Md_bits | apply Mt_bits | apply It_lst | apply It_tup | apply Br_not | apply Bd_b1 | apply G_di0 | apply Sl_lst | apply Sl_tup | apply Wp_0 | apply Wp_s | apply Sn_0 | apply Sn_s | apply Ct_mk1 | apply Ct_mk | apply Tn_mk | apply G_zen | apply G_zzp | apply G_rvs | apply G_lset | apply G_dct | apply G_k0 | apply G_k1 | apply G_dis | apply En_lst | apply Zp_tup | apply Zp_lst | apply Rv_lst | apply Rv_tup | apply Ky_str | apply Ky_int | apply Md_split | apply Md_join | apply Md_idx | apply Ts_0 | apply Ts_s | apply Cp_eqb | apply Cp_neb | apply Z_try)) | refine Ln_mk (Nat.le_of_ble_eq_true rfl) ?_ | refine Bn_mod (by first | decide | omega) ?_ | refine Bd_bT rfl ?_ | refine Ix_by rfl ?_ | refine Is_by (k := true) rfl ?_ | refine Is_by (k := false) rfl ?_ | refine R1_mk (by first | decide | omega) ?_ | refine Bn_mulS (by omega) (by omega) ?_ | refine Bn_fdivS (by omega) (by omega) ?_ | (apply Ix_ref; assumption; exact rfl) | (apply Sd_ref; assumption; exact rfl; intro _ _ _ _) | (apply Bs_lenr; assumption) | (apply Md_app; assumption) | refine Br_t rfl ?_ | refine Br_f rfl ?_ | refine Br_t (decide_eq_true (by omega)) ?_ | refine Br_f (decide_eq_false (by omega)) ?_ | fail))
  unfold stepW at hQ
  rw [e2] at hQ p1
  by_cases c : w.pl = (v.2.length : Nat)
  · rw [if_pos c] at hQ
    refine Br_t (decide_eq_true (by rw [List.length_map]; exact c)) ?_
    (repeat' (first | refine b3 _ _ ?_ | refine Ix_by (x' := .int w.x) rfl ?_ | refine Ix_by (x' := .int w.tot) rfl ?_ | refine Ix_by (x' := dAk w.own) rfl ?_ | refine Ix_by (x' := dS w.nm) rfl ?_ | (with_reducible (first | apply G_vvs | apply G_vv0 | apply G_kk | apply G_bi | apply G_ca | apply G_a1 | apply G_a0 | apply Z_seq | apply Z_set | apply St_s | apply St_0 | apply G_ix | apply G_cm | apply G_tCm | apply Bl_bl | apply Z_if | apply Z_ret | apply G_bl | apply G_tTr | apply G_tNot | apply G_tAnd | apply G_tOr | apply G_isn | apply G_me | apply G_lsv | apply G_tu | apply G_lsm | apply G_nt | apply G_ng | apply G_cm2 | apply G_ie | apply G_sl | apply G_andE | apply G_orE | apply G_p0 | apply G_p1 | apply G_iv | apply G_r1 | apply G_r2 | apply G_lcv | apply G_lcv1 | apply G_lcm | apply G_lcm1 | apply Z_exp | apply Z_pass | apply Z_brk | apply Z_cnt | apply Z_ret0 | apply Z_tup | apply Z_sub | apply Z_while | apply Z_for | apply Z_raise | apply FnP_self | apply Bn_add | apply Bn_sub | apply Bn_and | apply Cp_lt | apply Cp_le | apply Cp_gt | apply Cp_ge | apply Cp_eqi | apply Cp_nei | apply Cp_is | apply Cp_isn | apply Tr_bl | apply Tr_int | apply Tr_lst | apply Tr_tup | apply Tr_non | apply Io_int | apply Bs_int | apply Bs_intb | apply Bs_len | apply Bs_lent | apply Bs_min | apply Bs_max | apply Bs_abs | apply Md_bits | apply Mt_bits | apply It_lst | apply It_tup | apply Br_not | apply Bd_b1 | apply G_di0 | apply Sl_lst | apply Sl_tup | apply Wp_0 | apply Wp_s | apply Sn_0 | apply Sn_s | apply Ct_mk1 | apply Ct_mk | apply Tn_mk | apply G_zen | apply G_zzp | apply G_rvs | apply G_lset | apply G_dct | apply G_k0 | apply G_k1 | apply G_dis | apply En_lst | apply Zp_tup | apply Zp_lst | apply Rv_lst | apply Rv_tup | apply Ky_str | apply Ky_int | apply Md_split | apply Md_join | apply Md_idx | apply Ts_0 | apply Ts_s | apply Cp_eqb | apply Cp_neb | apply Z_try)) | refine Ln_mk (Nat.le_of_ble_eq_true rfl) ?_ | refine Bn_mod (by first | decide | omega) ?_ | refine Bd_bT rfl ?_ | refine Ix_by rfl ?_ | refine Is_by (k := true) rfl ?_ | refine Is_by (k := false) rfl ?_ | refine R1_mk (by first | decide | omega) ?_ | refine Bn_mulS (by omega) (by omega) ?_ | refine Bn_fdivS (by omega) (by omega) ?_ | (apply Ix_ref; assumption; exact rfl) | (apply Sd_ref; assumption; exact rfl; intro _ _ _ _) | (apply Bs_lenr; assumption) | (apply Md_app; assumption) | refine Br_t rfl ?_ | refine Br_f rfl ?_ | refine Br_t (decide_eq_true (by omega)) ?_ | refine Br_f (decide_eq_false (by omega)) ?_ | fail))
    refine fin _ _ fun T => ?_
    have := hQ T
    simp only [Option.toList, List.nil_append, dHand, List.map_append] at this
    exact this
  · rw [if_neg c] at hQ
    refine Br_f (decide_eq_false (by rw [List.length_map]; exact c)) ?_
    have lt : w.pl.toNat < v.2.length := by omega
    have ib : L2.atI (v.2.map dSm) w.pl = some (dSm (v.2.getD w.pl.toNat .own)) := by
      obtain ⟨d, a1, a2⟩ := atI_nat (xs := v.2.map dSm) (k := w.pl) p0 (by rw [List.length_map]; omega)
      rw [a1, ← a2, List.getElem?_map, List.getD_eq_getElem?_getD, List.getElem?_eq_getElem lt]; rfl
    (repeat' (first | refine Ix_by (x' := .int w.pl) rfl ?_ | refine Ix_by (x' := dSm (v.2.getD w.pl.toNat .own)) ib ?_ | refine done_w h2 ?_ | refine b1 _ _ _ ?_ | refine b2 _ _ _ (by rw [List.length_append, List.length_map, List.length_singleton]; omega) ?_ | (with_reducible (first | apply G_vvs | apply G_vv0 | apply G_kk | apply G_bi | apply G_ca | apply G_a1 | apply G_a0 | apply Z_seq | apply Z_set | apply St_s | apply St_0 | apply G_ix | apply G_cm | apply G_tCm | apply Bl_bl | apply Z_if | apply Z_ret | apply G_bl | apply G_tTr | apply G_tNot | apply G_tAnd | apply G_tOr | apply G_isn | apply G_me | apply G_lsv | apply G_tu | apply G_lsm | apply G_nt | apply G_ng | apply G_cm2 | apply G_ie | apply G_sl | apply G_andE | apply G_orE | apply G_p0 | apply G_p1 | apply G_iv | apply G_r1 | apply G_r2 | apply G_lcv | apply G_lcv1 | apply G_lcm | apply G_lcm1 | apply Z_exp | apply Z_pass | apply Z_brk | apply Z_cnt | apply Z_ret0 | apply Z_tup | apply Z_sub | apply Z_while | apply Z_for | apply Z_raise | apply FnP_self | apply Bn_add | apply Bn_sub | apply Bn_and | apply Cp_lt | apply Cp_le | apply Cp_gt | apply Cp_ge | apply Cp_eqi | apply Cp_nei | apply Cp_is | apply Cp_isn | apply Tr_bl | apply Tr_int | apply Tr_lst | apply Tr_tup | apply Tr_non | apply Io_int | apply Bs_int | apply Bs_intb | apply Bs_len | apply Bs_lent | apply Bs_min | apply Bs_max | apply Bs_abs | apply Md_bits | apply Mt_bits | apply It_lst | apply It_tup | apply Br_not | apply Bd_b1 | apply G_di0 | apply Sl_lst | apply Sl_tup | apply Wp_0 | apply Wp_s | apply Sn_0 | apply Sn_s | apply Ct_mk1 | apply Ct_mk | apply Tn_mk | apply G_zen | apply G_zzp | apply G_rvs | apply G_lset | apply G_dct | apply G_k0 | apply G_k1 | apply G_dis | apply En_lst | apply Zp_tup | apply Zp_lst | apply Rv_lst | apply Rv_tup | apply Ky_str | apply Ky_int | apply Md_split | apply Md_join | apply Md_idx | apply Ts_0 | apply Ts_s | apply Cp_eqb | apply Cp_neb | apply Z_try)) | refine Ln_mk (Nat.le_of_ble_eq_true rfl) ?_ | refine Bn_mod (by first | decide | omega) ?_ | refine Bd_bT rfl ?_ | refine Ix_by rfl ?_ | refine Is_by (k := true) rfl ?_ | refine Is_by (k := false) rfl ?_ | refine R1_mk (by first | decide | omega) ?_ | refine Bn_mulS (by omega) (by omega) ?_ | refine Bn_fdivS (by omega) (by omega) ?_ | (apply Ix_ref; assumption; exact rfl) | (apply Sd_ref; assumption; exact rfl; intro _ _ _ _) | (apply Bs_lenr; assumption) | (apply Md_app; assumption) | refine Br_t rfl ?_ | refine Br_f rfl ?_ | refine Br_t (decide_eq_true (by omega)) ?_ | refine Br_f (decide_eq_false (by omega)) ?_ | fail))
    refine fin _ _ fun T => ?_
    have := hQ T
    simp only [Option.toList, dHand, List.map_append, List.map_cons, List.map_nil] at this
    simp only [List.append_assoc] at this ⊢
    exact this
end QL

namespace QL
open PySem Q
/-! ### a dict of drawn numbers -/
theorem kCell : Str.ofString "cell" = SX.S [99, 101, 108, 108] := by decide +kernel
theorem kAt : Str.ofString "at" = SX.S [97, 116] := by decide +kernel
def kCe : L2.Key := .inr (SX.S [99, 101, 108, 108])
def kA : L2.Key := .inr (SX.S [97, 116])
def srcO (c a : Int) : Ob := .dic [(kCe, .int c), (kA, .int a)]
structure Src (S : Store) (l : Nat) (k : Int) : Prop where
  out : ∃ c a : Int, S[l]? = some (srcO c a) ∧ 0 ≤ a ∧ a ≤ k
theorem Src.mono {S : Store} {l : Nat} {k k' : Int} (h : Src S l k) (hk : k ≤ k') : Src S l k' := by
  obtain ⟨c, a, h1, h4, h5⟩ := h.out
  exact ⟨⟨c, a, h1, h4, by omega⟩⟩
theorem Src.lt {S : Store} {l : Nat} {k : Int} (h : Src S l k) : l < S.length := by
  obtain ⟨c, a, h1, h2⟩ := h.out
  exact (List.getElem?_eq_some_iff.mp h1).1
theorem Src.app {S T : Store} {l : Nat} {k : Int} (h : Src S l k) : Src (S ++ T) l k := by
  obtain ⟨c, a, h1, h2⟩ := h.out
  exact ⟨⟨c, a, by rw [List.getElem?_append_left (List.getElem?_eq_some_iff.mp h1).1]; exact h1, h2⟩⟩
theorem Src.take {S : Store} {l n : Nat} {k : Int} (h : Src S l k) (hn : l < n) : Src (S.take n) l k := by
  obtain ⟨a, b, h1, h2⟩ := h.out
  exact ⟨⟨a, b, by rw [List.getElem?_take, if_pos hn]; exact h1, h2⟩⟩
theorem src_new {S : Store} {c : Int} : Src (S ++ [.dic (mergeG [] [(.inr (SX.S [99, 101, 108, 108]), .int c), (.inr (SX.S [97, 116]), .int 0)])]) S.length 0 := by
  refine ⟨⟨c, 0, ?_, by decide, by decide⟩⟩
  have : mergeG [] [((.inr (SX.S [99, 101, 108, 108]) : L2.Key), D.int c), (.inr (SX.S [97, 116]), .int 0)] = [(kCe, .int c), (kA, .int 0)] := rfl
  rw [this]
  simp [srcO]
theorem Bn_shlC {S : Store} {Q : D → Prop} (h : Q (.int 1237940039285380274899124224)) : Bn S .LShift (.int 1) (.int 90) Q := Bn_shl (by decide) h
theorem mixed_w {S : Store} {c k : Int} {Qd : D → Store → Prop} {E : EX} (h0 : 0 ≤ k) (hk : k ≤ 1000000) (hQ : ∀ n, 0 ≤ n → n < 2147483648 → Qd (.int n) S) : W (m__law_mixed [.int c, .int k] S) Qd E := by
  apply w__law_mixed
  unfold z__law_mixed
  have hkk : k * k ≤ 1000000 * 1000000 := Int.mul_le_mul hk hk h0 (by decide)
  have hk0 : 0 ≤ k * k := Int.mul_nonneg h0 h0
  (repeat' (first | (with_reducible (first | apply G_vvs | apply G_vv0 | apply G_kk | apply G_bi | apply G_ca | apply G_a1 | apply G_a0 | apply Z_seq | apply Z_set | apply St_s | apply St_0 | apply G_ix | apply G_cm | apply G_tCm | apply Bl_bl | apply Z_if | apply Z_ret | apply G_bl | apply G_tTr | apply G_tNot | apply G_tAnd | apply G_tOr | apply G_isn | apply G_me | apply G_lsv | apply G_tu | apply G_lsm | apply G_nt | apply G_ng | apply G_cm2 | apply G_ie | apply G_sl | apply G_andE | apply G_orE | apply G_p0 | apply G_p1 | apply G_iv | apply G_r1 | apply G_r2 | apply G_lcv | apply G_lcv1 | apply G_lcm | apply G_lcm1 | apply Z_exp | apply Z_pass | apply Z_brk | apply Z_cnt | apply Z_ret0 | apply Z_tup | apply Z_sub | apply Z_while | apply Z_for | apply Z_raise | apply FnP_self | apply Bn_add | apply Bn_sub | apply Bn_and | apply Cp_lt | apply Cp_le | apply Cp_gt | apply Cp_ge | apply Cp_eqi | apply Cp_nei | apply Cp_is | apply Cp_isn | apply Tr_bl | apply Tr_int | apply Tr_lst | apply Tr_tup | apply Tr_non | apply Io_int | apply Bs_int | apply Bs_intb | apply Bs_len | apply Bs_lent | apply Bs_min | apply Bs_max | apply Bs_abs | apply Md_bits | apply Mt_bits | apply It_lst | apply It_tup | apply Br_not | apply Bd_b1 | apply G_di0 | apply Sl_lst | apply Sl_tup | apply Wp_0 | apply Wp_s | apply Sn_0 | apply Sn_s | apply Ct_mk1 | apply Ct_mk | apply Tn_mk | apply G_zen | apply G_zzp | apply G_rvs | apply G_lset | apply G_dct | apply G_k0 | apply G_k1 | apply G_dis | apply En_lst | apply Zp_tup | apply Zp_lst | apply Rv_lst | apply Rv_tup | apply Ky_str | apply Ky_int | apply Md_split | apply Md_join | apply Md_idx | apply Ts_0 | apply Ts_s | apply Cp_eqb | apply Cp_neb | apply Z_try)) | apply Bn_shlC | refine Bn_shr (by omega) ?_ | refine Ln_mk (Nat.le_of_ble_eq_true rfl) ?_ | refine Bn_mod (by first | decide | omega) ?_ | refine Bd_bT rfl ?_ | refine Ix_by rfl ?_ | refine Is_by (k := true) rfl ?_ | refine Is_by (k := false) rfl ?_ | refine R1_mk (by first | decide | omega) ?_ | refine Bn_mulS (by omega) (by omega) ?_ | refine Bn_fdivS (by omega) (by omega) ?_ | (apply Ix_ref; assumption; exact rfl) | (apply Sd_ref; assumption; exact rfl; intro _ _ _ _) | (apply Bs_lenr; assumption) | (apply Md_app; assumption) | refine Br_t rfl ?_ | refine Br_f rfl ?_ | refine Br_t (decide_eq_true (by omega)) ?_ | refine Br_f (decide_eq_false (by omega)) ?_ | (with_reducible refine Br_dec (fun _ => ?_) (fun _ => ?_)) | fail))
  all_goals exact hQ _ (Int.emod_nonneg _ (by decide)) (by omega)
theorem draw_w {S : Store} {l : Nat} {k m : Int} {Qd : D → Store → Prop} {E : EX} (h : Src S l k) (hk : k ≤ 100000) (hm : 0 < m) (hm2 : m < 1000000000000)
    (hQ : ∀ n S', 0 ≤ n → n < m → Src S' l (k + 1) → S'.length = S.length → (∀ i, i ≠ l → S'[i]? = S[i]?) → Qd (.int n) S') : W (m__law_draw [.ref l, .int m] S) Qd E := by
  obtain ⟨c, a, hS, hc0, hc1⟩ := h.out
  have lt : l < S.length := (List.getElem?_eq_some_iff.mp hS).1
  apply w__law_draw
  unfold z__law_draw
  rw [kAt, kCell]
  have g : ∀ {Q : D → Prop}, Q (.int a) → IxP S (.ref l) (dS [97, 116]) Q := fun h => Ix_key (kvs := [(kCe, .int c), (kA, .int a)]) (kk := kA) hS rfl rfl h
  have g1 : (S.set l (srcO c (a + 1)))[l]? = some (srcO c (a + 1)) := by rw [List.getElem?_set_self lt]
  have g2 : ∀ {Q : D → Prop}, Q (.int (a + 1)) → IxP (S.set l (srcO c (a + 1))) (.ref l) (dS [97, 116]) Q := fun h => Ix_key (kvs := [(kCe, .int c), (kA, .int (a + 1))]) (kk := kA) g1 rfl rfl h
  have g3 : ∀ {Q : D → Prop}, Q (.int c) → IxP (S.set l (srcO c (a + 1))) (.ref l) (dS [99, 101, 108, 108]) Q := fun h => Ix_key (kvs := [(kCe, .int c), (kA, .int (a + 1))]) (kk := kCe) g1 rfl rfl h
  have g4 : ∀ {q : Store → Prop}, q (S.set l (srcO c (a + 1))) → SdP S (.ref l) (dS [97, 116]) (.int (a + 1)) q := fun h => Sd_key (kvs := [(kCe, .int c), (kA, .int a)]) (kk := kA) hS rfl (by show 2 < 16777216; decide) h
  (repeat' (first | refine g ?_ | refine g2 ?_ | refine g3 ?_ | refine g4 ?_ | (with_reducible refine mixed_w (by omega) (by omega) (fun _ _ _ => ?_)) | (with_reducible (first | apply G_vvs | apply G_vv0 | apply G_kk | apply G_bi | apply G_ca | apply G_a1 | apply G_a0 | apply Z_seq | apply Z_set | apply St_s | apply St_0 | apply G_ix | apply G_cm | apply G_tCm | apply Bl_bl | apply Z_if | apply Z_ret | apply G_bl | apply G_tTr | apply G_tNot | apply G_tAnd | apply G_tOr | apply G_isn | apply G_me | apply G_lsv | apply G_tu | apply G_lsm | apply G_nt | apply G_ng | apply G_cm2 | apply G_ie | apply G_sl | apply G_andE | apply G_orE | apply G_p0 | apply G_p1 | apply G_iv | apply G_r1 | apply G_r2 | apply G_lcv | apply G_lcv1 | apply G_lcm | apply G_lcm1 | apply Z_exp | apply Z_pass | apply Z_brk | apply Z_cnt | apply Z_ret0 | apply Z_tup | apply Z_sub | apply Z_while | apply Z_for | apply Z_raise | apply FnP_self | apply Bn_add | apply Bn_sub | apply Bn_and | apply Cp_lt | apply Cp_le | apply Cp_gt | apply Cp_ge | apply Cp_eqi | apply Cp_nei | apply Cp_is | apply Cp_isn | apply Tr_bl | apply Tr_int | apply Tr_lst | apply Tr_tup | apply Tr_non | apply Io_int | apply Bs_int | apply Bs_intb | apply Bs_len | apply Bs_lent | apply Bs_min | apply Bs_max | apply Bs_abs | apply Md_bits | apply Mt_bits | apply It_lst | apply It_tup | apply Br_not | apply Bd_b1 | apply G_di0 | apply Sl_lst | apply Sl_tup | apply Wp_0 | apply Wp_s | apply Sn_0 | apply Sn_s | apply Ct_mk1 | apply Ct_mk | apply Tn_mk | apply G_zen | apply G_zzp | apply G_rvs | apply G_lset | apply G_dct | apply G_k0 | apply G_k1 | apply G_dis | apply En_lst | apply Zp_tup | apply Zp_lst | apply Rv_lst | apply Rv_tup | apply Ky_str | apply Ky_int | apply Md_split | apply Md_join | apply Md_idx | apply Ts_0 | apply Ts_s | apply Cp_eqb | apply Cp_neb | apply Z_try)) | refine Ln_mk (Nat.le_of_ble_eq_true rfl) ?_ | refine Bn_mod (by first | decide | omega) ?_ | refine Bd_bT rfl ?_ | refine Ix_by rfl ?_ | refine Is_by (k := true) rfl ?_ | refine Is_by (k := false) rfl ?_ | refine R1_mk (by first | decide | omega) ?_ | refine Bn_mulS (by omega) (by omega) ?_ | refine Bn_fdivS (by omega) (by omega) ?_ | (apply Ix_ref; assumption; exact rfl) | (apply Sd_ref; assumption; exact rfl; intro _ _ _ _) | (apply Bs_lenr; assumption) | (apply Md_app; assumption) | refine Br_t rfl ?_ | refine Br_f rfl ?_ | refine Br_t (decide_eq_true (by omega)) ?_ | refine Br_f (decide_eq_false (by omega)) ?_ | (with_reducible refine Br_dec (fun _ => ?_) (fun _ => ?_)) | fail))
  exact FnP_same (by rw [List.length_set]) (hQ _ _ (Int.emod_nonneg _ (by omega)) (Int.emod_lt_of_pos _ hm) ⟨⟨c, a + 1, g1, by omega, by omega⟩⟩ (by rw [List.length_set]) (fun i hi => by rw [List.getElem?_set_ne (Ne.symm hi)]))
theorem cell_w {S : Store} {ns : List Int} {i : Int} (hi : 0 ≤ i) {Qd : D → Store → Prop} {E : EX} (hQ : ∀ c : Int, Qd (.int c) S) : W (m__law_cell_at [.lst (ns.map D.int), .int i] S) Qd E := by
  apply w__law_cell_at
  unfold z__law_cell_at
  (repeat' (first | (with_reducible (first | apply G_vvs | apply G_vv0 | apply G_kk | apply G_bi | apply G_ca | apply G_a1 | apply G_a0 | apply Z_seq | apply Z_set | apply St_s | apply St_0 | apply G_ix | apply G_cm | apply G_tCm | apply Bl_bl | apply Z_if | apply Z_ret | apply G_bl | apply G_tTr | apply G_tNot | apply G_tAnd | apply G_tOr | apply G_isn | apply G_me | apply G_lsv | apply G_tu | apply G_lsm | apply G_nt | apply G_ng | apply G_cm2 | apply G_ie | apply G_sl | apply G_andE | apply G_orE | apply G_p0 | apply G_p1 | apply G_iv | apply G_r1 | apply G_r2 | apply G_lcv | apply G_lcv1 | apply G_lcm | apply G_lcm1 | apply Z_exp | apply Z_pass | apply Z_brk | apply Z_cnt | apply Z_ret0 | apply Z_tup | apply Z_sub | apply Z_while | apply Z_for | apply Z_raise | apply FnP_self | apply Bn_add | apply Bn_sub | apply Bn_and | apply Cp_lt | apply Cp_le | apply Cp_gt | apply Cp_ge | apply Cp_eqi | apply Cp_nei | apply Cp_is | apply Cp_isn | apply Tr_bl | apply Tr_int | apply Tr_lst | apply Tr_tup | apply Tr_non | apply Io_int | apply Bs_int | apply Bs_intb | apply Bs_len | apply Bs_lent | apply Bs_min | apply Bs_max | apply Bs_abs | apply Md_bits | apply Mt_bits | apply It_lst | apply It_tup | apply Br_not | apply Bd_b1 | apply G_di0 | apply Sl_lst | apply Sl_tup | apply Wp_0 | apply Wp_s | apply Sn_0 | apply Sn_s | apply Ct_mk1 | apply Ct_mk | apply Tn_mk | apply G_zen | apply G_zzp | apply G_rvs | apply G_lset | apply G_dct | apply G_k0 | apply G_k1 | apply G_dis | apply En_lst | apply Zp_tup | apply Zp_lst | apply Rv_lst | apply Rv_tup | apply Ky_str | apply Ky_int | apply Md_split | apply Md_join | apply Md_idx | apply Ts_0 | apply Ts_s | apply Cp_eqb | apply Cp_neb | apply Z_try)) | (refine Ix_pick (fun d => ∃ a : Int, d = .int a) hi (by assumption) ?_ ?_) | refine Ln_mk (Nat.le_of_ble_eq_true rfl) ?_ | refine Bn_mod (by first | decide | omega) ?_ | refine Bd_bT rfl ?_ | refine Ix_by rfl ?_ | refine Is_by (k := true) rfl ?_ | refine Is_by (k := false) rfl ?_ | refine R1_mk (by first | decide | omega) ?_ | refine Bn_mulS (by omega) (by omega) ?_ | refine Bn_fdivS (by omega) (by omega) ?_ | (apply Ix_ref; assumption; exact rfl) | (apply Sd_ref; assumption; exact rfl; intro _ _ _ _) | (apply Bs_lenr; assumption) | (apply Md_app; assumption) | refine Br_t rfl ?_ | refine Br_f rfl ?_ | refine Br_t (decide_eq_true (by omega)) ?_ | refine Br_f (decide_eq_false (by omega)) ?_ | (with_reducible refine Br_dec (fun _ => ?_) (fun _ => ?_)) | fail))
  · intro d hd
    obtain ⟨a, _, rfl⟩ := List.mem_map.mp hd
    exact ⟨a, rfl⟩
  · rintro d ⟨a, rfl⟩
    (repeat' (first | (with_reducible (first | apply G_vvs | apply G_vv0 | apply G_kk | apply G_bi | apply G_ca | apply G_a1 | apply G_a0 | apply Z_seq | apply Z_set | apply St_s | apply St_0 | apply G_ix | apply G_cm | apply G_tCm | apply Bl_bl | apply Z_if | apply Z_ret | apply G_bl | apply G_tTr | apply G_tNot | apply G_tAnd | apply G_tOr | apply G_isn | apply G_me | apply G_lsv | apply G_tu | apply G_lsm | apply G_nt | apply G_ng | apply G_cm2 | apply G_ie | apply G_sl | apply G_andE | apply G_orE | apply G_p0 | apply G_p1 | apply G_iv | apply G_r1 | apply G_r2 | apply G_lcv | apply G_lcv1 | apply G_lcm | apply G_lcm1 | apply Z_exp | apply Z_pass | apply Z_brk | apply Z_cnt | apply Z_ret0 | apply Z_tup | apply Z_sub | apply Z_while | apply Z_for | apply Z_raise | apply FnP_self | apply Bn_add | apply Bn_sub | apply Bn_and | apply Cp_lt | apply Cp_le | apply Cp_gt | apply Cp_ge | apply Cp_eqi | apply Cp_nei | apply Cp_is | apply Cp_isn | apply Tr_bl | apply Tr_int | apply Tr_lst | apply Tr_tup | apply Tr_non | apply Io_int | apply Bs_int | apply Bs_intb | apply Bs_len | apply Bs_lent | apply Bs_min | apply Bs_max | apply Bs_abs | apply Md_bits | apply Mt_bits | apply It_lst | apply It_tup | apply Br_not | apply Bd_b1 | apply G_di0 | apply Sl_lst | apply Sl_tup | apply Wp_0 | apply Wp_s | apply Sn_0 | apply Sn_s | apply Ct_mk1 | apply Ct_mk | apply Tn_mk | apply G_zen | apply G_zzp | apply G_rvs | apply G_lset | apply G_dct | apply G_k0 | apply G_k1 | apply G_dis | apply En_lst | apply Zp_tup | apply Zp_lst | apply Rv_lst | apply Rv_tup | apply Ky_str | apply Ky_int | apply Md_split | apply Md_join | apply Md_idx | apply Ts_0 | apply Ts_s | apply Cp_eqb | apply Cp_neb | apply Z_try)) | refine Ln_mk (Nat.le_of_ble_eq_true rfl) ?_ | refine Bn_mod (by first | decide | omega) ?_ | refine Bd_bT rfl ?_ | refine Ix_by rfl ?_ | refine Is_by (k := true) rfl ?_ | refine Is_by (k := false) rfl ?_ | refine R1_mk (by first | decide | omega) ?_ | refine Bn_mulS (by omega) (by omega) ?_ | refine Bn_fdivS (by omega) (by omega) ?_ | (apply Ix_ref; assumption; exact rfl) | (apply Sd_ref; assumption; exact rfl; intro _ _ _ _) | (apply Bs_lenr; assumption) | (apply Md_app; assumption) | refine Br_t rfl ?_ | refine Br_f rfl ?_ | refine Br_t (decide_eq_true (by omega)) ?_ | refine Br_f (decide_eq_false (by omega)) ?_ | (with_reducible refine Br_dec (fun _ => ?_) (fun _ => ?_)) | fail))
    exact hQ a
  · exact hQ 0
theorem one_w {S : Store} {l : Nat} {k : Int} {xs : List D} (h : Src S l k) (hk : k ≤ 100000) (hx : 0 < xs.length) (hx2 : xs.length < 1000000) {Qd : D → Store → Prop} {E : EX}
    (hQ : ∀ d S', d ∈ xs → Src S' l (k + 1) → S'.length = S.length → (∀ i, i ≠ l → S'[i]? = S[i]?) → Qd d S') : W (m__law_one [.ref l, .lst xs] S) Qd E := by
  apply w__law_one
  unfold z__law_one
  (repeat' (first | (with_reducible (first | apply G_vvs | apply G_vv0 | apply G_kk | apply G_bi | apply G_ca | apply G_a1 | apply G_a0 | apply Z_seq | apply Z_set | apply St_s | apply St_0 | apply G_ix | apply G_cm | apply G_tCm | apply Bl_bl | apply Z_if | apply Z_ret | apply G_bl | apply G_tTr | apply G_tNot | apply G_tAnd | apply G_tOr | apply G_isn | apply G_me | apply G_lsv | apply G_tu | apply G_lsm | apply G_nt | apply G_ng | apply G_cm2 | apply G_ie | apply G_sl | apply G_andE | apply G_orE | apply G_p0 | apply G_p1 | apply G_iv | apply G_r1 | apply G_r2 | apply G_lcv | apply G_lcv1 | apply G_lcm | apply G_lcm1 | apply Z_exp | apply Z_pass | apply Z_brk | apply Z_cnt | apply Z_ret0 | apply Z_tup | apply Z_sub | apply Z_while | apply Z_for | apply Z_raise | apply FnP_self | apply Bn_add | apply Bn_sub | apply Bn_and | apply Cp_lt | apply Cp_le | apply Cp_gt | apply Cp_ge | apply Cp_eqi | apply Cp_nei | apply Cp_is | apply Cp_isn | apply Tr_bl | apply Tr_int | apply Tr_lst | apply Tr_tup | apply Tr_non | apply Io_int | apply Bs_int | apply Bs_intb | apply Bs_len | apply Bs_lent | apply Bs_min | apply Bs_max | apply Bs_abs | apply Md_bits | apply Mt_bits | apply It_lst | apply It_tup | apply Br_not | apply Bd_b1 | apply G_di0 | apply Sl_lst | apply Sl_tup | apply Wp_0 | apply Wp_s | apply Sn_0 | apply Sn_s | apply Ct_mk1 | apply Ct_mk | apply Tn_mk | apply G_zen | apply G_zzp | apply G_rvs | apply G_lset | apply G_dct | apply G_k0 | apply G_k1 | apply G_dis | apply En_lst | apply Zp_tup | apply Zp_lst | apply Rv_lst | apply Rv_tup | apply Ky_str | apply Ky_int | apply Md_split | apply Md_join | apply Md_idx | apply Ts_0 | apply Ts_s | apply Cp_eqb | apply Cp_neb | apply Z_try)) | (with_reducible refine draw_w h (by omega) (by omega) (by omega) (fun _ _ _ _ _ _ _ => ?_)) | refine Ln_mk (Nat.le_of_ble_eq_true rfl) ?_ | refine Bn_mod (by first | decide | omega) ?_ | refine Bd_bT rfl ?_ | refine Ix_by rfl ?_ | refine Is_by (k := true) rfl ?_ | refine Is_by (k := false) rfl ?_ | refine R1_mk (by first | decide | omega) ?_ | refine Bn_mulS (by omega) (by omega) ?_ | refine Bn_fdivS (by omega) (by omega) ?_ | (apply Ix_ref; assumption; exact rfl) | (apply Sd_ref; assumption; exact rfl; intro _ _ _ _) | (apply Bs_lenr; assumption) | (apply Md_app; assumption) | refine Br_t rfl ?_ | refine Br_f rfl ?_ | refine Br_t (decide_eq_true (by omega)) ?_ | refine Br_f (decide_eq_false (by omega)) ?_ | (with_reducible refine Br_dec (fun _ => ?_) (fun _ => ?_)) | fail))
  rename_i n S' n0 n1 hs l1 o1
  refine Ix_lst n0 n1 fun y hy => ?_
  exact FnP_same l1 (hQ y _ (List.mem_of_getElem? hy) hs l1 o1)
end QL

namespace QL
open PySem Q
/-! ### drawn works (k2x) -/
def us : List (List Nat) := (List.range 26).map fun c => [117, 97 + c]
theorem us_ok : us.Nodup ∧ (us.all okName) = true ∧ us.length = 26 := by decide +kernel
theorem kU : Str.ofString "u" = SX.S [117] := by decide +kernel
theorem names_w {S : Store} {l : Nat} {k m : Int} (h : Src S l k) (hk : k ≤ 50000) (m1 : 1 ≤ m) (m5 : m ≤ 5) {Qd : D → Store → Prop} {E : EX}
    (hQ : ∀ (ns : List (List Nat)) S', ns.Nodup → (∀ a ∈ ns, okName a = true) → 1 ≤ ns.length → ns.length ≤ m.toNat → Src S' l (k + 150) → S'.length = S.length → (∀ i, i ≠ l → S'[i]? = S[i]?) → Qd (.lst (ns.map dS)) S') : W (m__law_names [.ref l, .int m] S) Qd E := by
  apply w__law_names
  unfold z__law_names
  rw [alpha, kNil, kU]
  (repeat' (first | (with_reducible (first | apply G_vvs | apply G_vv0 | apply G_kk | apply G_bi | apply G_ca | apply G_a1 | apply G_a0 | apply Z_seq | apply Z_set | apply St_s | apply St_0 | apply G_ix | apply G_cm | apply G_tCm | apply Bl_bl | apply Z_if | apply Z_ret | apply G_bl | apply G_tTr | apply G_tNot | apply G_tAnd | apply G_tOr | apply G_isn | apply G_me | apply G_lsv | apply G_tu | apply G_lsm | apply G_nt | apply G_ng | apply G_cm2 | apply G_ie | apply G_sl | apply G_andE | apply G_orE | apply G_p0 | apply G_p1 | apply G_iv | apply G_r1 | apply G_r2 | apply G_lcv | apply G_lcv1 | apply G_lcm | apply G_lcm1 | apply Z_exp | apply Z_pass | apply Z_brk | apply Z_cnt | apply Z_ret0 | apply Z_tup | apply Z_sub | apply Z_while | apply Z_for | apply Z_raise | apply FnP_self | apply Bn_add | apply Bn_sub | apply Bn_and | apply Cp_lt | apply Cp_le | apply Cp_gt | apply Cp_ge | apply Cp_eqi | apply Cp_nei | apply Cp_is | apply Cp_isn | apply Tr_bl | apply Tr_int | apply Tr_lst | apply Tr_tup | apply Tr_non | apply Io_int | apply Bs_int | apply Bs_intb | apply Bs_len | apply Bs_lent | apply Bs_min | apply Bs_max | apply Bs_abs | apply Md_bits | apply Mt_bits | apply It_lst | apply It_tup | apply Br_not | apply Bd_b1 | apply G_di0 | apply Sl_lst | apply Sl_tup | apply Wp_0 | apply Wp_s | apply Sn_0 | apply Sn_s | apply Ct_mk1 | apply Ct_mk | apply Tn_mk | apply G_zen | apply G_zzp | apply G_rvs | apply G_lset | apply G_dct | apply G_k0 | apply G_k1 | apply G_dis | apply En_lst | apply Zp_tup | apply Zp_lst | apply Rv_lst | apply Rv_tup | apply Ky_str | apply Ky_int | apply Md_split | apply Md_join | apply Md_idx | apply Ts_0 | apply Ts_s | apply Cp_eqb | apply Cp_neb | apply Z_try)) | refine Ln_mk (Nat.le_of_ble_eq_true rfl) ?_ | refine Bn_mod (by first | decide | omega) ?_ | refine Bd_bT rfl ?_ | refine Ix_by rfl ?_ | refine Is_by (k := true) rfl ?_ | refine Is_by (k := false) rfl ?_ | refine R1_mk (by first | decide | omega) ?_ | refine Bn_mulS (by omega) (by omega) ?_ | refine Bn_fdivS (by omega) (by omega) ?_ | (apply Ix_ref; assumption; exact rfl) | (apply Sd_ref; assumption; exact rfl; intro _ _ _ _) | (apply Bs_lenr; assumption) | (apply Md_app; assumption) | refine Br_t rfl ?_ | refine Br_f rfl ?_ | refine Br_t (decide_eq_true (by omega)) ?_ | refine Br_f (decide_eq_false (by omega)) ?_ | (with_reducible refine Br_dec (fun _ => ?_) (fun _ => ?_)) | fail))
  refine Lp_inv (fun i σ S' => ∃ (ns : List (List Nat)) (x4 x5 x6 : Option D), σ = [some (.ref l), some (.int m), some (.str (SX.S ((List.range 26).map (97 + ·)))), some (.lst (ns.map dS)), x4, x5, x6, none, none] ∧ ns.Nodup ∧ (∀ a ∈ ns, okName a = true) ∧ ns.length ≤ i ∧ Src S' l (k + 10 * i) ∧ S'.length = S.length ∧ (∀ i, i ≠ l → S'[i]? = S[i]?)) ⟨[], _, _, _, rfl, List.nodup_nil, fun a ha => by simp at ha, Nat.le_refl _, h.mono (by omega), rfl, fun _ _ => rfl⟩ ?_ ?_ (by rw [range_len]; omega)
  · rintro i d σ S1 hd ⟨ns, x4, x5, x6, rfl, nd, ok, nl, hs1, l1, o1⟩
    obtain ⟨rfl, hi⟩ := range_get hd
    (repeat' (first | (with_reducible (first | apply G_vvs | apply G_vv0 | apply G_kk | apply G_bi | apply G_ca | apply G_a1 | apply G_a0 | apply Z_seq | apply Z_set | apply St_s | apply St_0 | apply G_ix | apply G_cm | apply G_tCm | apply Bl_bl | apply Z_if | apply Z_ret | apply G_bl | apply G_tTr | apply G_tNot | apply G_tAnd | apply G_tOr | apply G_isn | apply G_me | apply G_lsv | apply G_tu | apply G_lsm | apply G_nt | apply G_ng | apply G_cm2 | apply G_ie | apply G_sl | apply G_andE | apply G_orE | apply G_p0 | apply G_p1 | apply G_iv | apply G_r1 | apply G_r2 | apply G_lcv | apply G_lcv1 | apply G_lcm | apply G_lcm1 | apply Z_exp | apply Z_pass | apply Z_brk | apply Z_cnt | apply Z_ret0 | apply Z_tup | apply Z_sub | apply Z_while | apply Z_for | apply Z_raise | apply FnP_self | apply Bn_add | apply Bn_sub | apply Bn_and | apply Cp_lt | apply Cp_le | apply Cp_gt | apply Cp_ge | apply Cp_eqi | apply Cp_nei | apply Cp_is | apply Cp_isn | apply Tr_bl | apply Tr_int | apply Tr_lst | apply Tr_tup | apply Tr_non | apply Io_int | apply Bs_int | apply Bs_intb | apply Bs_len | apply Bs_lent | apply Bs_min | apply Bs_max | apply Bs_abs | apply Md_bits | apply Mt_bits | apply It_lst | apply It_tup | apply Br_not | apply Bd_b1 | apply G_di0 | apply Sl_lst | apply Sl_tup | apply Wp_0 | apply Wp_s | apply Sn_0 | apply Sn_s | apply Ct_mk1 | apply Ct_mk | apply Tn_mk | apply G_zen | apply G_zzp | apply G_rvs | apply G_lset | apply G_dct | apply G_k0 | apply G_k1 | apply G_dis | apply En_lst | apply Zp_tup | apply Zp_lst | apply Rv_lst | apply Rv_tup | apply Ky_str | apply Ky_int | apply Md_split | apply Md_join | apply Md_idx | apply Ts_0 | apply Ts_s | apply Cp_eqb | apply Cp_neb | apply Z_try)) | refine Ln_mk (Nat.le_of_ble_eq_true rfl) ?_ | refine Bn_mod (by first | decide | omega) ?_ | refine Bd_bT rfl ?_ | refine Ix_by rfl ?_ | refine Is_by (k := true) rfl ?_ | refine Is_by (k := false) rfl ?_ | refine R1_mk (by first | decide | omega) ?_ | refine Bn_mulS (by omega) (by omega) ?_ | refine Bn_fdivS (by omega) (by omega) ?_ | (apply Ix_ref; assumption; exact rfl) | (apply Sd_ref; assumption; exact rfl; intro _ _ _ _) | (apply Bs_lenr; assumption) | (apply Md_app; assumption) | refine Br_t rfl ?_ | refine Br_f rfl ?_ | refine Br_t (decide_eq_true (by omega)) ?_ | refine Br_f (decide_eq_false (by omega)) ?_ | (with_reducible refine Br_dec (fun _ => ?_) (fun _ => ?_)) | fail))
    refine draw_w hs1 (by omega) (by decide) (by decide) (fun d8 S2 a0 a1 hs2 l2 o2 => ?_)
    (repeat' (first | (with_reducible (first | apply G_vvs | apply G_vv0 | apply G_kk | apply G_bi | apply G_ca | apply G_a1 | apply G_a0 | apply Z_seq | apply Z_set | apply St_s | apply St_0 | apply G_ix | apply G_cm | apply G_tCm | apply Bl_bl | apply Z_if | apply Z_ret | apply G_bl | apply G_tTr | apply G_tNot | apply G_tAnd | apply G_tOr | apply G_isn | apply G_me | apply G_lsv | apply G_tu | apply G_lsm | apply G_nt | apply G_ng | apply G_cm2 | apply G_ie | apply G_sl | apply G_andE | apply G_orE | apply G_p0 | apply G_p1 | apply G_iv | apply G_r1 | apply G_r2 | apply G_lcv | apply G_lcv1 | apply G_lcm | apply G_lcm1 | apply Z_exp | apply Z_pass | apply Z_brk | apply Z_cnt | apply Z_ret0 | apply Z_tup | apply Z_sub | apply Z_while | apply Z_for | apply Z_raise | apply FnP_self | apply Bn_add | apply Bn_sub | apply Bn_and | apply Cp_lt | apply Cp_le | apply Cp_gt | apply Cp_ge | apply Cp_eqi | apply Cp_nei | apply Cp_is | apply Cp_isn | apply Tr_bl | apply Tr_int | apply Tr_lst | apply Tr_tup | apply Tr_non | apply Io_int | apply Bs_int | apply Bs_intb | apply Bs_len | apply Bs_lent | apply Bs_min | apply Bs_max | apply Bs_abs | apply Md_bits | apply Mt_bits | apply It_lst | apply It_tup | apply Br_not | apply Bd_b1 | apply G_di0 | apply Sl_lst | apply Sl_tup | apply Wp_0 | apply Wp_s | apply Sn_0 | apply Sn_s | apply Ct_mk1 | apply Ct_mk | apply Tn_mk | apply G_zen | apply G_zzp | apply G_rvs | apply G_lset | apply G_dct | apply G_k0 | apply G_k1 | apply G_dis | apply En_lst | apply Zp_tup | apply Zp_lst | apply Rv_lst | apply Rv_tup | apply Ky_str | apply Ky_int | apply Md_split | apply Md_join | apply Md_idx | apply Ts_0 | apply Ts_s | apply Cp_eqb | apply Cp_neb | apply Z_try)) | refine Ln_mk (Nat.le_of_ble_eq_true rfl) ?_ | refine Bn_mod (by first | decide | omega) ?_ | refine Bd_bT rfl ?_ | refine Ix_by rfl ?_ | refine Is_by (k := true) rfl ?_ | refine Is_by (k := false) rfl ?_ | refine R1_mk (by first | decide | omega) ?_ | refine Bn_mulS (by omega) (by omega) ?_ | refine Bn_fdivS (by omega) (by omega) ?_ | (apply Ix_ref; assumption; exact rfl) | (apply Sd_ref; assumption; exact rfl; intro _ _ _ _) | (apply Bs_lenr; assumption) | (apply Md_app; assumption) | refine Br_t rfl ?_ | refine Br_f rfl ?_ | refine Br_t (decide_eq_true (by omega)) ?_ | refine Br_f (decide_eq_false (by omega)) ?_ | (with_reducible refine Br_dec (fun _ => ?_) (fun _ => ?_)) | fail))
    refine draw_w hs2 (by omega) (by decide) (by decide) (fun d2 S3 b0 b1 hs3 l3 o3 => ?_)
    refine Ix_pick (fun d => ∃ n : Int, d = .int n ∧ 1 ≤ n ∧ n ≤ 8) b0 b1 ?_ ?_
    · intro d hd
      simp only [List.mem_cons, List.not_mem_nil, or_false] at hd
      rcases hd with rfl | rfl
      · exact ⟨1, rfl, by omega, by omega⟩
      · exact ⟨_, rfl, by omega, by omega⟩
    rintro d ⟨n, rfl, n1, n8⟩
    (repeat' (first | (with_reducible (first | apply G_vvs | apply G_vv0 | apply G_kk | apply G_bi | apply G_ca | apply G_a1 | apply G_a0 | apply Z_seq | apply Z_set | apply St_s | apply St_0 | apply G_ix | apply G_cm | apply G_tCm | apply Bl_bl | apply Z_if | apply Z_ret | apply G_bl | apply G_tTr | apply G_tNot | apply G_tAnd | apply G_tOr | apply G_isn | apply G_me | apply G_lsv | apply G_tu | apply G_lsm | apply G_nt | apply G_ng | apply G_cm2 | apply G_ie | apply G_sl | apply G_andE | apply G_orE | apply G_p0 | apply G_p1 | apply G_iv | apply G_r1 | apply G_r2 | apply G_lcv | apply G_lcv1 | apply G_lcm | apply G_lcm1 | apply Z_exp | apply Z_pass | apply Z_brk | apply Z_cnt | apply Z_ret0 | apply Z_tup | apply Z_sub | apply Z_while | apply Z_for | apply Z_raise | apply FnP_self | apply Bn_add | apply Bn_sub | apply Bn_and | apply Cp_lt | apply Cp_le | apply Cp_gt | apply Cp_ge | apply Cp_eqi | apply Cp_nei | apply Cp_is | apply Cp_isn | apply Tr_bl | apply Tr_int | apply Tr_lst | apply Tr_tup | apply Tr_non | apply Io_int | apply Bs_int | apply Bs_intb | apply Bs_len | apply Bs_lent | apply Bs_min | apply Bs_max | apply Bs_abs | apply Md_bits | apply Mt_bits | apply It_lst | apply It_tup | apply Br_not | apply Bd_b1 | apply G_di0 | apply Sl_lst | apply Sl_tup | apply Wp_0 | apply Wp_s | apply Sn_0 | apply Sn_s | apply Ct_mk1 | apply Ct_mk | apply Tn_mk | apply G_zen | apply G_zzp | apply G_rvs | apply G_lset | apply G_dct | apply G_k0 | apply G_k1 | apply G_dis | apply En_lst | apply Zp_tup | apply Zp_lst | apply Rv_lst | apply Rv_tup | apply Ky_str | apply Ky_int | apply Md_split | apply Md_join | apply Md_idx | apply Ts_0 | apply Ts_s | apply Cp_eqb | apply Cp_neb | apply Z_try)) | refine Ln_mk (Nat.le_of_ble_eq_true rfl) ?_ | refine Bn_mod (by first | decide | omega) ?_ | refine Bd_bT rfl ?_ | refine Ix_by rfl ?_ | refine Is_by (k := true) rfl ?_ | refine Is_by (k := false) rfl ?_ | refine R1_mk (by first | decide | omega) ?_ | refine Bn_mulS (by omega) (by omega) ?_ | refine Bn_fdivS (by omega) (by omega) ?_ | (apply Ix_ref; assumption; exact rfl) | (apply Sd_ref; assumption; exact rfl; intro _ _ _ _) | (apply Bs_lenr; assumption) | (apply Md_app; assumption) | refine Br_t rfl ?_ | refine Br_f rfl ?_ | refine Br_t (decide_eq_true (by omega)) ?_ | refine Br_f (decide_eq_false (by omega)) ?_ | (with_reducible refine Br_dec (fun _ => ?_) (fun _ => ?_)) | fail))
    refine Lp_inv (fun j σ S' => ∃ (a : List Nat) (x6 : Option D), σ = [some (.ref l), some (.int m), some (.str (SX.S ((List.range 26).map (97 + ·)))), some (.lst (ns.map dS)), some (.int i), some (dS a), x6, none, none] ∧ a.length = j ∧ (∀ c ∈ a, low26 c = true) ∧ Src S' l (k + 10 * i + 2 + j) ∧ S'.length = S.length ∧ (∀ i, i ≠ l → S'[i]? = S[i]?)) ⟨[], _, rfl, rfl, fun a ha => by simp at ha, hs3.mono (by omega), by omega, fun i hi => by rw [o3 i hi, o2 i hi, o1 i hi]⟩ ?_ ?_ (by rw [range_len]; omega)
    · rintro j d σ S4 hd ⟨a, x6, rfl, al, ac, hs4, l4, o4⟩
      obtain ⟨rfl, hj⟩ := range_get hd
      (repeat' (first | (with_reducible (first | apply G_vvs | apply G_vv0 | apply G_kk | apply G_bi | apply G_ca | apply G_a1 | apply G_a0 | apply Z_seq | apply Z_set | apply St_s | apply St_0 | apply G_ix | apply G_cm | apply G_tCm | apply Bl_bl | apply Z_if | apply Z_ret | apply G_bl | apply G_tTr | apply G_tNot | apply G_tAnd | apply G_tOr | apply G_isn | apply G_me | apply G_lsv | apply G_tu | apply G_lsm | apply G_nt | apply G_ng | apply G_cm2 | apply G_ie | apply G_sl | apply G_andE | apply G_orE | apply G_p0 | apply G_p1 | apply G_iv | apply G_r1 | apply G_r2 | apply G_lcv | apply G_lcv1 | apply G_lcm | apply G_lcm1 | apply Z_exp | apply Z_pass | apply Z_brk | apply Z_cnt | apply Z_ret0 | apply Z_tup | apply Z_sub | apply Z_while | apply Z_for | apply Z_raise | apply FnP_self | apply Bn_add | apply Bn_sub | apply Bn_and | apply Cp_lt | apply Cp_le | apply Cp_gt | apply Cp_ge | apply Cp_eqi | apply Cp_nei | apply Cp_is | apply Cp_isn | apply Tr_bl | apply Tr_int | apply Tr_lst | apply Tr_tup | apply Tr_non | apply Io_int | apply Bs_int | apply Bs_intb | apply Bs_len | apply Bs_lent | apply Bs_min | apply Bs_max | apply Bs_abs | apply Md_bits | apply Mt_bits | apply It_lst | apply It_tup | apply Br_not | apply Bd_b1 | apply G_di0 | apply Sl_lst | apply Sl_tup | apply Wp_0 | apply Wp_s | apply Sn_0 | apply Sn_s | apply Ct_mk1 | apply Ct_mk | apply Tn_mk | apply G_zen | apply G_zzp | apply G_rvs | apply G_lset | apply G_dct | apply G_k0 | apply G_k1 | apply G_dis | apply En_lst | apply Zp_tup | apply Zp_lst | apply Rv_lst | apply Rv_tup | apply Ky_str | apply Ky_int | apply Md_split | apply Md_join | apply Md_idx | apply Ts_0 | apply Ts_s | apply Cp_eqb | apply Cp_neb | apply Z_try)) | refine Ln_mk (Nat.le_of_ble_eq_true rfl) ?_ | refine Bn_mod (by first | decide | omega) ?_ | refine Bd_bT rfl ?_ | refine Ix_by rfl ?_ | refine Is_by (k := true) rfl ?_ | refine Is_by (k := false) rfl ?_ | refine R1_mk (by first | decide | omega) ?_ | refine Bn_mulS (by omega) (by omega) ?_ | refine Bn_fdivS (by omega) (by omega) ?_ | (apply Ix_ref; assumption; exact rfl) | (apply Sd_ref; assumption; exact rfl; intro _ _ _ _) | (apply Bs_lenr; assumption) | (apply Md_app; assumption) | refine Br_t rfl ?_ | refine Br_f rfl ?_ | refine Br_t (decide_eq_true (by omega)) ?_ | refine Br_f (decide_eq_false (by omega)) ?_ | (with_reducible refine Br_dec (fun _ => ?_) (fun _ => ?_)) | fail))
      refine draw_w hs4 (by omega) (by decide) (by decide) (fun c S5 c0 c1 hs5 l5 o5 => ?_)
      (repeat' (first | refine Ix_alphaS c0 c1 ?_ | refine Bn_catS (by rw [List.length_singleton]; omega) ?_ | (with_reducible (first | apply G_vvs | apply G_vv0 | apply G_kk | apply G_bi | apply G_ca | apply G_a1 | apply G_a0 | apply Z_seq | apply Z_set | apply St_s | apply St_0 | apply G_ix | apply G_cm | apply G_tCm | apply Bl_bl | apply Z_if | apply Z_ret | apply G_bl | apply G_tTr | apply G_tNot | apply G_tAnd | apply G_tOr | apply G_isn | apply G_me | apply G_lsv | apply G_tu | apply G_lsm | apply G_nt | apply G_ng | apply G_cm2 | apply G_ie | apply G_sl | apply G_andE | apply G_orE | apply G_p0 | apply G_p1 | apply G_iv | apply G_r1 | apply G_r2 | apply G_lcv | apply G_lcv1 | apply G_lcm | apply G_lcm1 | apply Z_exp | apply Z_pass | apply Z_brk | apply Z_cnt | apply Z_ret0 | apply Z_tup | apply Z_sub | apply Z_while | apply Z_for | apply Z_raise | apply FnP_self | apply Bn_add | apply Bn_sub | apply Bn_and | apply Cp_lt | apply Cp_le | apply Cp_gt | apply Cp_ge | apply Cp_eqi | apply Cp_nei | apply Cp_is | apply Cp_isn | apply Tr_bl | apply Tr_int | apply Tr_lst | apply Tr_tup | apply Tr_non | apply Io_int | apply Bs_int | apply Bs_intb | apply Bs_len | apply Bs_lent | apply Bs_min | apply Bs_max | apply Bs_abs | apply Md_bits | apply Mt_bits | apply It_lst | apply It_tup | apply Br_not | apply Bd_b1 | apply G_di0 | apply Sl_lst | apply Sl_tup | apply Wp_0 | apply Wp_s | apply Sn_0 | apply Sn_s | apply Ct_mk1 | apply Ct_mk | apply Tn_mk | apply G_zen | apply G_zzp | apply G_rvs | apply G_lset | apply G_dct | apply G_k0 | apply G_k1 | apply G_dis | apply En_lst | apply Zp_tup | apply Zp_lst | apply Rv_lst | apply Rv_tup | apply Ky_str | apply Ky_int | apply Md_split | apply Md_join | apply Md_idx | apply Ts_0 | apply Ts_s | apply Cp_eqb | apply Cp_neb | apply Z_try)) | refine Ln_mk (Nat.le_of_ble_eq_true rfl) ?_ | refine Bn_mod (by first | decide | omega) ?_ | refine Bd_bT rfl ?_ | refine Ix_by rfl ?_ | refine Is_by (k := true) rfl ?_ | refine Is_by (k := false) rfl ?_ | refine R1_mk (by first | decide | omega) ?_ | refine Bn_mulS (by omega) (by omega) ?_ | refine Bn_fdivS (by omega) (by omega) ?_ | (apply Ix_ref; assumption; exact rfl) | (apply Sd_ref; assumption; exact rfl; intro _ _ _ _) | (apply Bs_lenr; assumption) | (apply Md_app; assumption) | refine Br_t rfl ?_ | refine Br_f rfl ?_ | refine Br_t (decide_eq_true (by omega)) ?_ | refine Br_f (decide_eq_false (by omega)) ?_ | (with_reducible refine Br_dec (fun _ => ?_) (fun _ => ?_)) | fail))
      refine ⟨a ++ [letter c], _, rfl, by rw [List.length_append, al]; rfl, fun x hx => ?_, hs5.mono (by omega), by omega, fun i hi => by rw [o5 i hi, o4 i hi]⟩
      rcases List.mem_append.mp hx with z | z
      · exact ac x z
      · rw [List.mem_singleton.mp z]; exact letter_low c0 c1
    · rintro σ S4 ⟨a, x6, rfl, al, ac, hs4, l4, o4⟩
      rw [range_len] at al hs4
      have oa : okName a = true := okName_mk (by omega) (by omega) ac
      (repeat' (first | (with_reducible (first | apply G_vvs | apply G_vv0 | apply G_kk | apply G_bi | apply G_ca | apply G_a1 | apply G_a0 | apply Z_seq | apply Z_set | apply St_s | apply St_0 | apply G_ix | apply G_cm | apply G_tCm | apply Bl_bl | apply Z_if | apply Z_ret | apply G_bl | apply G_tTr | apply G_tNot | apply G_tAnd | apply G_tOr | apply G_isn | apply G_me | apply G_lsv | apply G_tu | apply G_lsm | apply G_nt | apply G_ng | apply G_cm2 | apply G_ie | apply G_sl | apply G_andE | apply G_orE | apply G_p0 | apply G_p1 | apply G_iv | apply G_r1 | apply G_r2 | apply G_lcv | apply G_lcv1 | apply G_lcm | apply G_lcm1 | apply Z_exp | apply Z_pass | apply Z_brk | apply Z_cnt | apply Z_ret0 | apply Z_tup | apply Z_sub | apply Z_while | apply Z_for | apply Z_raise | apply FnP_self | apply Bn_add | apply Bn_sub | apply Bn_and | apply Cp_lt | apply Cp_le | apply Cp_gt | apply Cp_ge | apply Cp_eqi | apply Cp_nei | apply Cp_is | apply Cp_isn | apply Tr_bl | apply Tr_int | apply Tr_lst | apply Tr_tup | apply Tr_non | apply Io_int | apply Bs_int | apply Bs_intb | apply Bs_len | apply Bs_lent | apply Bs_min | apply Bs_max | apply Bs_abs | apply Md_bits | apply Mt_bits | apply It_lst | apply It_tup | apply Br_not | apply Bd_b1 | apply G_di0 | apply Sl_lst | apply Sl_tup | apply Wp_0 | apply Wp_s | apply Sn_0 | apply Sn_s | apply Ct_mk1 | apply Ct_mk | apply Tn_mk | apply G_zen | apply G_zzp | apply G_rvs | apply G_lset | apply G_dct | apply G_k0 | apply G_k1 | apply G_dis | apply En_lst | apply Zp_tup | apply Zp_lst | apply Rv_lst | apply Rv_tup | apply Ky_str | apply Ky_int | apply Md_split | apply Md_join | apply Md_idx | apply Ts_0 | apply Ts_s | apply Cp_eqb | apply Cp_neb | apply Z_try)) | refine Ln_mk (Nat.le_of_ble_eq_true rfl) ?_ | refine Bn_mod (by first | decide | omega) ?_ | refine Bd_bT rfl ?_ | refine Ix_by rfl ?_ | refine Is_by (k := true) rfl ?_ | refine Is_by (k := false) rfl ?_ | refine R1_mk (by first | decide | omega) ?_ | refine Bn_mulS (by omega) (by omega) ?_ | refine Bn_fdivS (by omega) (by omega) ?_ | (apply Ix_ref; assumption; exact rfl) | (apply Sd_ref; assumption; exact rfl; intro _ _ _ _) | (apply Bs_lenr; assumption) | (apply Md_app; assumption) | refine Br_t rfl ?_ | refine Br_f rfl ?_ | refine Br_t (decide_eq_true (by omega)) ?_ | refine Br_f (decide_eq_false (by omega)) ?_ | (with_reducible refine Br_dec (fun _ => ?_) (fun _ => ?_)) | fail))
      refine Cp_ninS (d := .lst (ns.map dS)) (ns := ns) rfl (okName_s oa) (fun b hb => okName_s (ok b hb)) ?_
      by_cases c : a ∈ ns
      · rw [decide_eq_true c]
        (repeat' (first | (with_reducible (first | apply G_vvs | apply G_vv0 | apply G_kk | apply G_bi | apply G_ca | apply G_a1 | apply G_a0 | apply Z_seq | apply Z_set | apply St_s | apply St_0 | apply G_ix | apply G_cm | apply G_tCm | apply Bl_bl | apply Z_if | apply Z_ret | apply G_bl | apply G_tTr | apply G_tNot | apply G_tAnd | apply G_tOr | apply G_isn | apply G_me | apply G_lsv | apply G_tu | apply G_lsm | apply G_nt | apply G_ng | apply G_cm2 | apply G_ie | apply G_sl | apply G_andE | apply G_orE | apply G_p0 | apply G_p1 | apply G_iv | apply G_r1 | apply G_r2 | apply G_lcv | apply G_lcv1 | apply G_lcm | apply G_lcm1 | apply Z_exp | apply Z_pass | apply Z_brk | apply Z_cnt | apply Z_ret0 | apply Z_tup | apply Z_sub | apply Z_while | apply Z_for | apply Z_raise | apply FnP_self | apply Bn_add | apply Bn_sub | apply Bn_and | apply Cp_lt | apply Cp_le | apply Cp_gt | apply Cp_ge | apply Cp_eqi | apply Cp_nei | apply Cp_is | apply Cp_isn | apply Tr_bl | apply Tr_int | apply Tr_lst | apply Tr_tup | apply Tr_non | apply Io_int | apply Bs_int | apply Bs_intb | apply Bs_len | apply Bs_lent | apply Bs_min | apply Bs_max | apply Bs_abs | apply Md_bits | apply Mt_bits | apply It_lst | apply It_tup | apply Br_not | apply Bd_b1 | apply G_di0 | apply Sl_lst | apply Sl_tup | apply Wp_0 | apply Wp_s | apply Sn_0 | apply Sn_s | apply Ct_mk1 | apply Ct_mk | apply Tn_mk | apply G_zen | apply G_zzp | apply G_rvs | apply G_lset | apply G_dct | apply G_k0 | apply G_k1 | apply G_dis | apply En_lst | apply Zp_tup | apply Zp_lst | apply Rv_lst | apply Rv_tup | apply Ky_str | apply Ky_int | apply Md_split | apply Md_join | apply Md_idx | apply Ts_0 | apply Ts_s | apply Cp_eqb | apply Cp_neb | apply Z_try)) | refine Ln_mk (Nat.le_of_ble_eq_true rfl) ?_ | refine Bn_mod (by first | decide | omega) ?_ | refine Bd_bT rfl ?_ | refine Ix_by rfl ?_ | refine Is_by (k := true) rfl ?_ | refine Is_by (k := false) rfl ?_ | refine R1_mk (by first | decide | omega) ?_ | refine Bn_mulS (by omega) (by omega) ?_ | refine Bn_fdivS (by omega) (by omega) ?_ | (apply Ix_ref; assumption; exact rfl) | (apply Sd_ref; assumption; exact rfl; intro _ _ _ _) | (apply Bs_lenr; assumption) | (apply Md_app; assumption) | refine Br_t rfl ?_ | refine Br_f rfl ?_ | refine Br_t (decide_eq_true (by omega)) ?_ | refine Br_f (decide_eq_false (by omega)) ?_ | (with_reducible refine Br_dec (fun _ => ?_) (fun _ => ?_)) | fail))
        refine Bn_by (d := .lst []) rfl ?_
        refine Bn_lst (by rw [List.length_map, List.length_nil]; omega) ?_
        (repeat' (first | (with_reducible (first | apply G_vvs | apply G_vv0 | apply G_kk | apply G_bi | apply G_ca | apply G_a1 | apply G_a0 | apply Z_seq | apply Z_set | apply St_s | apply St_0 | apply G_ix | apply G_cm | apply G_tCm | apply Bl_bl | apply Z_if | apply Z_ret | apply G_bl | apply G_tTr | apply G_tNot | apply G_tAnd | apply G_tOr | apply G_isn | apply G_me | apply G_lsv | apply G_tu | apply G_lsm | apply G_nt | apply G_ng | apply G_cm2 | apply G_ie | apply G_sl | apply G_andE | apply G_orE | apply G_p0 | apply G_p1 | apply G_iv | apply G_r1 | apply G_r2 | apply G_lcv | apply G_lcv1 | apply G_lcm | apply G_lcm1 | apply Z_exp | apply Z_pass | apply Z_brk | apply Z_cnt | apply Z_ret0 | apply Z_tup | apply Z_sub | apply Z_while | apply Z_for | apply Z_raise | apply FnP_self | apply Bn_add | apply Bn_sub | apply Bn_and | apply Cp_lt | apply Cp_le | apply Cp_gt | apply Cp_ge | apply Cp_eqi | apply Cp_nei | apply Cp_is | apply Cp_isn | apply Tr_bl | apply Tr_int | apply Tr_lst | apply Tr_tup | apply Tr_non | apply Io_int | apply Bs_int | apply Bs_intb | apply Bs_len | apply Bs_lent | apply Bs_min | apply Bs_max | apply Bs_abs | apply Md_bits | apply Mt_bits | apply It_lst | apply It_tup | apply Br_not | apply Bd_b1 | apply G_di0 | apply Sl_lst | apply Sl_tup | apply Wp_0 | apply Wp_s | apply Sn_0 | apply Sn_s | apply Ct_mk1 | apply Ct_mk | apply Tn_mk | apply G_zen | apply G_zzp | apply G_rvs | apply G_lset | apply G_dct | apply G_k0 | apply G_k1 | apply G_dis | apply En_lst | apply Zp_tup | apply Zp_lst | apply Rv_lst | apply Rv_tup | apply Ky_str | apply Ky_int | apply Md_split | apply Md_join | apply Md_idx | apply Ts_0 | apply Ts_s | apply Cp_eqb | apply Cp_neb | apply Z_try)) | refine Ln_mk (Nat.le_of_ble_eq_true rfl) ?_ | refine Bn_mod (by first | decide | omega) ?_ | refine Bd_bT rfl ?_ | refine Ix_by rfl ?_ | refine Is_by (k := true) rfl ?_ | refine Is_by (k := false) rfl ?_ | refine R1_mk (by first | decide | omega) ?_ | refine Bn_mulS (by omega) (by omega) ?_ | refine Bn_fdivS (by omega) (by omega) ?_ | (apply Ix_ref; assumption; exact rfl) | (apply Sd_ref; assumption; exact rfl; intro _ _ _ _) | (apply Bs_lenr; assumption) | (apply Md_app; assumption) | refine Br_t rfl ?_ | refine Br_f rfl ?_ | refine Br_t (decide_eq_true (by omega)) ?_ | refine Br_f (decide_eq_false (by omega)) ?_ | (with_reducible refine Br_dec (fun _ => ?_) (fun _ => ?_)) | fail))
        exact ⟨ns, _, _, _, by rw [List.append_nil], nd, ok, by omega, hs4.mono (by omega), l4, o4⟩
      · rw [decide_eq_false c]
        (repeat' (first | (with_reducible (first | apply G_vvs | apply G_vv0 | apply G_kk | apply G_bi | apply G_ca | apply G_a1 | apply G_a0 | apply Z_seq | apply Z_set | apply St_s | apply St_0 | apply G_ix | apply G_cm | apply G_tCm | apply Bl_bl | apply Z_if | apply Z_ret | apply G_bl | apply G_tTr | apply G_tNot | apply G_tAnd | apply G_tOr | apply G_isn | apply G_me | apply G_lsv | apply G_tu | apply G_lsm | apply G_nt | apply G_ng | apply G_cm2 | apply G_ie | apply G_sl | apply G_andE | apply G_orE | apply G_p0 | apply G_p1 | apply G_iv | apply G_r1 | apply G_r2 | apply G_lcv | apply G_lcv1 | apply G_lcm | apply G_lcm1 | apply Z_exp | apply Z_pass | apply Z_brk | apply Z_cnt | apply Z_ret0 | apply Z_tup | apply Z_sub | apply Z_while | apply Z_for | apply Z_raise | apply FnP_self | apply Bn_add | apply Bn_sub | apply Bn_and | apply Cp_lt | apply Cp_le | apply Cp_gt | apply Cp_ge | apply Cp_eqi | apply Cp_nei | apply Cp_is | apply Cp_isn | apply Tr_bl | apply Tr_int | apply Tr_lst | apply Tr_tup | apply Tr_non | apply Io_int | apply Bs_int | apply Bs_intb | apply Bs_len | apply Bs_lent | apply Bs_min | apply Bs_max | apply Bs_abs | apply Md_bits | apply Mt_bits | apply It_lst | apply It_tup | apply Br_not | apply Bd_b1 | apply G_di0 | apply Sl_lst | apply Sl_tup | apply Wp_0 | apply Wp_s | apply Sn_0 | apply Sn_s | apply Ct_mk1 | apply Ct_mk | apply Tn_mk | apply G_zen | apply G_zzp | apply G_rvs | apply G_lset | apply G_dct | apply G_k0 | apply G_k1 | apply G_dis | apply En_lst | apply Zp_tup | apply Zp_lst | apply Rv_lst | apply Rv_tup | apply Ky_str | apply Ky_int | apply Md_split | apply Md_join | apply Md_idx | apply Ts_0 | apply Ts_s | apply Cp_eqb | apply Cp_neb | apply Z_try)) | refine Ln_mk (Nat.le_of_ble_eq_true rfl) ?_ | refine Bn_mod (by first | decide | omega) ?_ | refine Bd_bT rfl ?_ | refine Ix_by rfl ?_ | refine Is_by (k := true) rfl ?_ | refine Is_by (k := false) rfl ?_ | refine R1_mk (by first | decide | omega) ?_ | refine Bn_mulS (by omega) (by omega) ?_ | refine Bn_fdivS (by omega) (by omega) ?_ | (apply Ix_ref; assumption; exact rfl) | (apply Sd_ref; assumption; exact rfl; intro _ _ _ _) | (apply Bs_lenr; assumption) | (apply Md_app; assumption) | refine Br_t rfl ?_ | refine Br_f rfl ?_ | refine Br_t (decide_eq_true (by omega)) ?_ | refine Br_f (decide_eq_false (by omega)) ?_ | (with_reducible refine Br_dec (fun _ => ?_) (fun _ => ?_)) | fail))
        refine Bn_by (d := .lst [dS a]) rfl ?_
        refine Bn_lst (by rw [List.length_map, List.length_singleton]; omega) ?_
        (repeat' (first | (with_reducible (first | apply G_vvs | apply G_vv0 | apply G_kk | apply G_bi | apply G_ca | apply G_a1 | apply G_a0 | apply Z_seq | apply Z_set | apply St_s | apply St_0 | apply G_ix | apply G_cm | apply G_tCm | apply Bl_bl | apply Z_if | apply Z_ret | apply G_bl | apply G_tTr | apply G_tNot | apply G_tAnd | apply G_tOr | apply G_isn | apply G_me | apply G_lsv | apply G_tu | apply G_lsm | apply G_nt | apply G_ng | apply G_cm2 | apply G_ie | apply G_sl | apply G_andE | apply G_orE | apply G_p0 | apply G_p1 | apply G_iv | apply G_r1 | apply G_r2 | apply G_lcv | apply G_lcv1 | apply G_lcm | apply G_lcm1 | apply Z_exp | apply Z_pass | apply Z_brk | apply Z_cnt | apply Z_ret0 | apply Z_tup | apply Z_sub | apply Z_while | apply Z_for | apply Z_raise | apply FnP_self | apply Bn_add | apply Bn_sub | apply Bn_and | apply Cp_lt | apply Cp_le | apply Cp_gt | apply Cp_ge | apply Cp_eqi | apply Cp_nei | apply Cp_is | apply Cp_isn | apply Tr_bl | apply Tr_int | apply Tr_lst | apply Tr_tup | apply Tr_non | apply Io_int | apply Bs_int | apply Bs_intb | apply Bs_len | apply Bs_lent | apply Bs_min | apply Bs_max | apply Bs_abs | apply Md_bits | apply Mt_bits | apply It_lst | apply It_tup | apply Br_not | apply Bd_b1 | apply G_di0 | apply Sl_lst | apply Sl_tup | apply Wp_0 | apply Wp_s | apply Sn_0 | apply Sn_s | apply Ct_mk1 | apply Ct_mk | apply Tn_mk | apply G_zen | apply G_zzp | apply G_rvs | apply G_lset | apply G_dct | apply G_k0 | apply G_k1 | apply G_dis | apply En_lst | apply Zp_tup | apply Zp_lst | apply Rv_lst | apply Rv_tup | apply Ky_str | apply Ky_int | apply Md_split | apply Md_join | apply Md_idx | apply Ts_0 | apply Ts_s | apply Cp_eqb | apply Cp_neb | apply Z_try)) | refine Ln_mk (Nat.le_of_ble_eq_true rfl) ?_ | refine Bn_mod (by first | decide | omega) ?_ | refine Bd_bT rfl ?_ | refine Ix_by rfl ?_ | refine Is_by (k := true) rfl ?_ | refine Is_by (k := false) rfl ?_ | refine R1_mk (by first | decide | omega) ?_ | refine Bn_mulS (by omega) (by omega) ?_ | refine Bn_fdivS (by omega) (by omega) ?_ | (apply Ix_ref; assumption; exact rfl) | (apply Sd_ref; assumption; exact rfl; intro _ _ _ _) | (apply Bs_lenr; assumption) | (apply Md_app; assumption) | refine Br_t rfl ?_ | refine Br_f rfl ?_ | refine Br_t (decide_eq_true (by omega)) ?_ | refine Br_f (decide_eq_false (by omega)) ?_ | (with_reducible refine Br_dec (fun _ => ?_) (fun _ => ?_)) | fail))
        refine ⟨ns ++ [a], _, _, _, by rw [List.map_append]; rfl, ?_, ?_, by rw [List.length_append, List.length_singleton]; omega, hs4.mono (by omega), l4, o4⟩
        · rw [List.nodup_append]
          refine ⟨nd, by simp, ?_⟩
          intro x hx y hy e
          rw [List.mem_singleton.mp hy] at e
          subst e
          exact c hx
        · intro x hx
          rcases List.mem_append.mp hx with z | z
          · exact ok x z
          · rw [List.mem_singleton.mp z]; exact oa
  · rintro σ S1 ⟨ns, x4, x5, x6, rfl, nd, ok, nl, hs1, l1, o1⟩
    rw [range_len] at nl hs1
    (repeat' (first | apply It_str | (with_reducible (first | apply G_vvs | apply G_vv0 | apply G_kk | apply G_bi | apply G_ca | apply G_a1 | apply G_a0 | apply Z_seq | apply Z_set | apply St_s | apply St_0 | apply G_ix | apply G_cm | apply G_tCm | apply Bl_bl | apply Z_if | apply Z_ret | apply G_bl | apply G_tTr | apply G_tNot | apply G_tAnd | apply G_tOr | apply G_isn | apply G_me | apply G_lsv | apply G_tu | apply G_lsm | apply G_nt | apply G_ng | apply G_cm2 | apply G_ie | apply G_sl | apply G_andE | apply G_orE | apply G_p0 | apply G_p1 | apply G_iv | apply G_r1 | apply G_r2 | apply G_lcv | apply G_lcv1 | apply G_lcm | apply G_lcm1 | apply Z_exp | apply Z_pass | apply Z_brk | apply Z_cnt | apply Z_ret0 | apply Z_tup | apply Z_sub | apply Z_while | apply Z_for | apply Z_raise | apply FnP_self | apply Bn_add | apply Bn_sub | apply Bn_and | apply Cp_lt | apply Cp_le | apply Cp_gt | apply Cp_ge | apply Cp_eqi | apply Cp_nei | apply Cp_is | apply Cp_isn | apply Tr_bl | apply Tr_int | apply Tr_lst | apply Tr_tup | apply Tr_non | apply Io_int | apply Bs_int | apply Bs_intb | apply Bs_len | apply Bs_lent | apply Bs_min | apply Bs_max | apply Bs_abs | apply Md_bits | apply Mt_bits | apply It_lst | apply It_tup | apply Br_not | apply Bd_b1 | apply G_di0 | apply Sl_lst | apply Sl_tup | apply Wp_0 | apply Wp_s | apply Sn_0 | apply Sn_s | apply Ct_mk1 | apply Ct_mk | apply Tn_mk | apply G_zen | apply G_zzp | apply G_rvs | apply G_lset | apply G_dct | apply G_k0 | apply G_k1 | apply G_dis | apply En_lst | apply Zp_tup | apply Zp_lst | apply Rv_lst | apply Rv_tup | apply Ky_str | apply Ky_int | apply Md_split | apply Md_join | apply Md_idx | apply Ts_0 | apply Ts_s | apply Cp_eqb | apply Cp_neb | apply Z_try)) | refine Ln_mk (Nat.le_of_ble_eq_true rfl) ?_ | refine Bn_mod (by first | decide | omega) ?_ | refine Bd_bT rfl ?_ | refine Ix_by rfl ?_ | refine Is_by (k := true) rfl ?_ | refine Is_by (k := false) rfl ?_ | refine R1_mk (by first | decide | omega) ?_ | refine Bn_mulS (by omega) (by omega) ?_ | refine Bn_fdivS (by omega) (by omega) ?_ | (apply Ix_ref; assumption; exact rfl) | (apply Sd_ref; assumption; exact rfl; intro _ _ _ _) | (apply Bs_lenr; assumption) | (apply Md_app; assumption) | refine Br_t rfl ?_ | refine Br_f rfl ?_ | refine Br_t (decide_eq_true (by omega)) ?_ | refine Br_f (decide_eq_false (by omega)) ?_ | (with_reducible refine Br_dec (fun _ => ?_) (fun _ => ?_)) | fail))
    refine CfFM (fun c : Nat => some (dS ([117] ++ [c]))) (by rw [List.length_map, List.length_range]; decide) (fun c hc => ?_) ?_
    · (repeat' (first | refine Bn_catS (b := [c]) (Nat.le_of_ble_eq_true rfl) ?_ | (with_reducible (first | apply G_vvs | apply G_vv0 | apply G_kk | apply G_bi | apply G_ca | apply G_a1 | apply G_a0 | apply Z_seq | apply Z_set | apply St_s | apply St_0 | apply G_ix | apply G_cm | apply G_tCm | apply Bl_bl | apply Z_if | apply Z_ret | apply G_bl | apply G_tTr | apply G_tNot | apply G_tAnd | apply G_tOr | apply G_isn | apply G_me | apply G_lsv | apply G_tu | apply G_lsm | apply G_nt | apply G_ng | apply G_cm2 | apply G_ie | apply G_sl | apply G_andE | apply G_orE | apply G_p0 | apply G_p1 | apply G_iv | apply G_r1 | apply G_r2 | apply G_lcv | apply G_lcv1 | apply G_lcm | apply G_lcm1 | apply Z_exp | apply Z_pass | apply Z_brk | apply Z_cnt | apply Z_ret0 | apply Z_tup | apply Z_sub | apply Z_while | apply Z_for | apply Z_raise | apply FnP_self | apply Bn_add | apply Bn_sub | apply Bn_and | apply Cp_lt | apply Cp_le | apply Cp_gt | apply Cp_ge | apply Cp_eqi | apply Cp_nei | apply Cp_is | apply Cp_isn | apply Tr_bl | apply Tr_int | apply Tr_lst | apply Tr_tup | apply Tr_non | apply Io_int | apply Bs_int | apply Bs_intb | apply Bs_len | apply Bs_lent | apply Bs_min | apply Bs_max | apply Bs_abs | apply Md_bits | apply Mt_bits | apply It_lst | apply It_tup | apply Br_not | apply Bd_b1 | apply G_di0 | apply Sl_lst | apply Sl_tup | apply Wp_0 | apply Wp_s | apply Sn_0 | apply Sn_s | apply Ct_mk1 | apply Ct_mk | apply Tn_mk | apply G_zen | apply G_zzp | apply G_rvs | apply G_lset | apply G_dct | apply G_k0 | apply G_k1 | apply G_dis | apply En_lst | apply Zp_tup | apply Zp_lst | apply Rv_lst | apply Rv_tup | apply Ky_str | apply Ky_int | apply Md_split | apply Md_join | apply Md_idx | apply Ts_0 | apply Ts_s | apply Cp_eqb | apply Cp_neb | apply Z_try)) | refine Ln_mk (Nat.le_of_ble_eq_true rfl) ?_ | refine Bn_mod (by first | decide | omega) ?_ | refine Bd_bT rfl ?_ | refine Ix_by rfl ?_ | refine Is_by (k := true) rfl ?_ | refine Is_by (k := false) rfl ?_ | refine R1_mk (by first | decide | omega) ?_ | refine Bn_mulS (by omega) (by omega) ?_ | refine Bn_fdivS (by omega) (by omega) ?_ | (apply Ix_ref; assumption; exact rfl) | (apply Sd_ref; assumption; exact rfl; intro _ _ _ _) | (apply Bs_lenr; assumption) | (apply Md_app; assumption) | refine Br_t rfl ?_ | refine Br_f rfl ?_ | refine Br_t (decide_eq_true (by omega)) ?_ | refine Br_f (decide_eq_false (by omega)) ?_ | (with_reducible refine Br_dec (fun _ => ?_) (fun _ => ?_)) | fail))
      exact ⟨rfl, rfl⟩
    have e1 : ((List.range 26).map (97 + ·)).filterMap (fun c : Nat => some (dS ([117] ++ [c]))) = us.map dS := by
      show List.filterMap (some ∘ fun c : Nat => dS ([117] ++ [c])) _ = _
      unfold us
      rw [List.filterMap_eq_map, List.map_map, List.map_map]; rfl
    rw [e1]
    (repeat' (first | (with_reducible (first | apply G_vvs | apply G_vv0 | apply G_kk | apply G_bi | apply G_ca | apply G_a1 | apply G_a0 | apply Z_seq | apply Z_set | apply St_s | apply St_0 | apply G_ix | apply G_cm | apply G_tCm | apply Bl_bl | apply Z_if | apply Z_ret | apply G_bl | apply G_tTr | apply G_tNot | apply G_tAnd | apply G_tOr | apply G_isn | apply G_me | apply G_lsv | apply G_tu | apply G_lsm | apply G_nt | apply G_ng | apply G_cm2 | apply G_ie | apply G_sl | apply G_andE | apply G_orE | apply G_p0 | apply G_p1 | apply G_iv | apply G_r1 | apply G_r2 | apply G_lcv | apply G_lcv1 | apply G_lcm | apply G_lcm1 | apply Z_exp | apply Z_pass | apply Z_brk | apply Z_cnt | apply Z_ret0 | apply Z_tup | apply Z_sub | apply Z_while | apply Z_for | apply Z_raise | apply FnP_self | apply Bn_add | apply Bn_sub | apply Bn_and | apply Cp_lt | apply Cp_le | apply Cp_gt | apply Cp_ge | apply Cp_eqi | apply Cp_nei | apply Cp_is | apply Cp_isn | apply Tr_bl | apply Tr_int | apply Tr_lst | apply Tr_tup | apply Tr_non | apply Io_int | apply Bs_int | apply Bs_intb | apply Bs_len | apply Bs_lent | apply Bs_min | apply Bs_max | apply Bs_abs | apply Md_bits | apply Mt_bits | apply It_lst | apply It_tup | apply Br_not | apply Bd_b1 | apply G_di0 | apply Sl_lst | apply Sl_tup | apply Wp_0 | apply Wp_s | apply Sn_0 | apply Sn_s | apply Ct_mk1 | apply Ct_mk | apply Tn_mk | apply G_zen | apply G_zzp | apply G_rvs | apply G_lset | apply G_dct | apply G_k0 | apply G_k1 | apply G_dis | apply En_lst | apply Zp_tup | apply Zp_lst | apply Rv_lst | apply Rv_tup | apply Ky_str | apply Ky_int | apply Md_split | apply Md_join | apply Md_idx | apply Ts_0 | apply Ts_s | apply Cp_eqb | apply Cp_neb | apply Z_try)) | refine Ln_mk (Nat.le_of_ble_eq_true rfl) ?_ | refine Bn_mod (by first | decide | omega) ?_ | refine Bd_bT rfl ?_ | refine Ix_by rfl ?_ | refine Is_by (k := true) rfl ?_ | refine Is_by (k := false) rfl ?_ | refine R1_mk (by first | decide | omega) ?_ | refine Bn_mulS (by omega) (by omega) ?_ | refine Bn_fdivS (by omega) (by omega) ?_ | (apply Ix_ref; assumption; exact rfl) | (apply Sd_ref; assumption; exact rfl; intro _ _ _ _) | (apply Bs_lenr; assumption) | (apply Md_app; assumption) | refine Br_t rfl ?_ | refine Br_f rfl ?_ | refine Br_t (decide_eq_true (by omega)) ?_ | refine Br_f (decide_eq_false (by omega)) ?_ | (with_reducible refine Br_dec (fun _ => ?_) (fun _ => ?_)) | fail))
    obtain ⟨u1, u2, u3⟩ := us_ok
    have uo : ∀ a ∈ us, okName a = true := fun a ha => List.all_eq_true.mp u2 a ha
    refine CfFM (fun a : List Nat => if a ∈ ns then none else some (dS a)) (by rw [u3]; decide) (fun a ha => ?_) ?_
    · (repeat' (first | (with_reducible (first | apply G_vvs | apply G_vv0 | apply G_kk | apply G_bi | apply G_ca | apply G_a1 | apply G_a0 | apply Z_seq | apply Z_set | apply St_s | apply St_0 | apply G_ix | apply G_cm | apply G_tCm | apply Bl_bl | apply Z_if | apply Z_ret | apply G_bl | apply G_tTr | apply G_tNot | apply G_tAnd | apply G_tOr | apply G_isn | apply G_me | apply G_lsv | apply G_tu | apply G_lsm | apply G_nt | apply G_ng | apply G_cm2 | apply G_ie | apply G_sl | apply G_andE | apply G_orE | apply G_p0 | apply G_p1 | apply G_iv | apply G_r1 | apply G_r2 | apply G_lcv | apply G_lcv1 | apply G_lcm | apply G_lcm1 | apply Z_exp | apply Z_pass | apply Z_brk | apply Z_cnt | apply Z_ret0 | apply Z_tup | apply Z_sub | apply Z_while | apply Z_for | apply Z_raise | apply FnP_self | apply Bn_add | apply Bn_sub | apply Bn_and | apply Cp_lt | apply Cp_le | apply Cp_gt | apply Cp_ge | apply Cp_eqi | apply Cp_nei | apply Cp_is | apply Cp_isn | apply Tr_bl | apply Tr_int | apply Tr_lst | apply Tr_tup | apply Tr_non | apply Io_int | apply Bs_int | apply Bs_intb | apply Bs_len | apply Bs_lent | apply Bs_min | apply Bs_max | apply Bs_abs | apply Md_bits | apply Mt_bits | apply It_lst | apply It_tup | apply Br_not | apply Bd_b1 | apply G_di0 | apply Sl_lst | apply Sl_tup | apply Wp_0 | apply Wp_s | apply Sn_0 | apply Sn_s | apply Ct_mk1 | apply Ct_mk | apply Tn_mk | apply G_zen | apply G_zzp | apply G_rvs | apply G_lset | apply G_dct | apply G_k0 | apply G_k1 | apply G_dis | apply En_lst | apply Zp_tup | apply Zp_lst | apply Rv_lst | apply Rv_tup | apply Ky_str | apply Ky_int | apply Md_split | apply Md_join | apply Md_idx | apply Ts_0 | apply Ts_s | apply Cp_eqb | apply Cp_neb | apply Z_try)) | refine Ln_mk (Nat.le_of_ble_eq_true rfl) ?_ | refine Bn_mod (by first | decide | omega) ?_ | refine Bd_bT rfl ?_ | refine Ix_by rfl ?_ | refine Is_by (k := true) rfl ?_ | refine Is_by (k := false) rfl ?_ | refine R1_mk (by first | decide | omega) ?_ | refine Bn_mulS (by omega) (by omega) ?_ | refine Bn_fdivS (by omega) (by omega) ?_ | (apply Ix_ref; assumption; exact rfl) | (apply Sd_ref; assumption; exact rfl; intro _ _ _ _) | (apply Bs_lenr; assumption) | (apply Md_app; assumption) | refine Br_t rfl ?_ | refine Br_f rfl ?_ | refine Br_t (decide_eq_true (by omega)) ?_ | refine Br_f (decide_eq_false (by omega)) ?_ | (with_reducible refine Br_dec (fun _ => ?_) (fun _ => ?_)) | fail))
      refine Cp_ninS (d := .lst (ns.map dS)) (ns := ns) rfl (okName_s (uo a ha)) (fun b hb => okName_s (ok b hb)) ?_
      by_cases c : a ∈ ns
      · rw [decide_eq_true c, if_pos c]
        (repeat' (first | (with_reducible (first | apply G_vvs | apply G_vv0 | apply G_kk | apply G_bi | apply G_ca | apply G_a1 | apply G_a0 | apply Z_seq | apply Z_set | apply St_s | apply St_0 | apply G_ix | apply G_cm | apply G_tCm | apply Bl_bl | apply Z_if | apply Z_ret | apply G_bl | apply G_tTr | apply G_tNot | apply G_tAnd | apply G_tOr | apply G_isn | apply G_me | apply G_lsv | apply G_tu | apply G_lsm | apply G_nt | apply G_ng | apply G_cm2 | apply G_ie | apply G_sl | apply G_andE | apply G_orE | apply G_p0 | apply G_p1 | apply G_iv | apply G_r1 | apply G_r2 | apply G_lcv | apply G_lcv1 | apply G_lcm | apply G_lcm1 | apply Z_exp | apply Z_pass | apply Z_brk | apply Z_cnt | apply Z_ret0 | apply Z_tup | apply Z_sub | apply Z_while | apply Z_for | apply Z_raise | apply FnP_self | apply Bn_add | apply Bn_sub | apply Bn_and | apply Cp_lt | apply Cp_le | apply Cp_gt | apply Cp_ge | apply Cp_eqi | apply Cp_nei | apply Cp_is | apply Cp_isn | apply Tr_bl | apply Tr_int | apply Tr_lst | apply Tr_tup | apply Tr_non | apply Io_int | apply Bs_int | apply Bs_intb | apply Bs_len | apply Bs_lent | apply Bs_min | apply Bs_max | apply Bs_abs | apply Md_bits | apply Mt_bits | apply It_lst | apply It_tup | apply Br_not | apply Bd_b1 | apply G_di0 | apply Sl_lst | apply Sl_tup | apply Wp_0 | apply Wp_s | apply Sn_0 | apply Sn_s | apply Ct_mk1 | apply Ct_mk | apply Tn_mk | apply G_zen | apply G_zzp | apply G_rvs | apply G_lset | apply G_dct | apply G_k0 | apply G_k1 | apply G_dis | apply En_lst | apply Zp_tup | apply Zp_lst | apply Rv_lst | apply Rv_tup | apply Ky_str | apply Ky_int | apply Md_split | apply Md_join | apply Md_idx | apply Ts_0 | apply Ts_s | apply Cp_eqb | apply Cp_neb | apply Z_try)) | refine Ln_mk (Nat.le_of_ble_eq_true rfl) ?_ | refine Bn_mod (by first | decide | omega) ?_ | refine Bd_bT rfl ?_ | refine Ix_by rfl ?_ | refine Is_by (k := true) rfl ?_ | refine Is_by (k := false) rfl ?_ | refine R1_mk (by first | decide | omega) ?_ | refine Bn_mulS (by omega) (by omega) ?_ | refine Bn_fdivS (by omega) (by omega) ?_ | (apply Ix_ref; assumption; exact rfl) | (apply Sd_ref; assumption; exact rfl; intro _ _ _ _) | (apply Bs_lenr; assumption) | (apply Md_app; assumption) | refine Br_t rfl ?_ | refine Br_f rfl ?_ | refine Br_t (decide_eq_true (by omega)) ?_ | refine Br_f (decide_eq_false (by omega)) ?_ | (with_reducible refine Br_dec (fun _ => ?_) (fun _ => ?_)) | fail))
        exact ⟨rfl, rfl⟩
      · rw [decide_eq_false c, if_neg c]
        (repeat' (first | (with_reducible (first | apply G_vvs | apply G_vv0 | apply G_kk | apply G_bi | apply G_ca | apply G_a1 | apply G_a0 | apply Z_seq | apply Z_set | apply St_s | apply St_0 | apply G_ix | apply G_cm | apply G_tCm | apply Bl_bl | apply Z_if | apply Z_ret | apply G_bl | apply G_tTr | apply G_tNot | apply G_tAnd | apply G_tOr | apply G_isn | apply G_me | apply G_lsv | apply G_tu | apply G_lsm | apply G_nt | apply G_ng | apply G_cm2 | apply G_ie | apply G_sl | apply G_andE | apply G_orE | apply G_p0 | apply G_p1 | apply G_iv | apply G_r1 | apply G_r2 | apply G_lcv | apply G_lcv1 | apply G_lcm | apply G_lcm1 | apply Z_exp | apply Z_pass | apply Z_brk | apply Z_cnt | apply Z_ret0 | apply Z_tup | apply Z_sub | apply Z_while | apply Z_for | apply Z_raise | apply FnP_self | apply Bn_add | apply Bn_sub | apply Bn_and | apply Cp_lt | apply Cp_le | apply Cp_gt | apply Cp_ge | apply Cp_eqi | apply Cp_nei | apply Cp_is | apply Cp_isn | apply Tr_bl | apply Tr_int | apply Tr_lst | apply Tr_tup | apply Tr_non | apply Io_int | apply Bs_int | apply Bs_intb | apply Bs_len | apply Bs_lent | apply Bs_min | apply Bs_max | apply Bs_abs | apply Md_bits | apply Mt_bits | apply It_lst | apply It_tup | apply Br_not | apply Bd_b1 | apply G_di0 | apply Sl_lst | apply Sl_tup | apply Wp_0 | apply Wp_s | apply Sn_0 | apply Sn_s | apply Ct_mk1 | apply Ct_mk | apply Tn_mk | apply G_zen | apply G_zzp | apply G_rvs | apply G_lset | apply G_dct | apply G_k0 | apply G_k1 | apply G_dis | apply En_lst | apply Zp_tup | apply Zp_lst | apply Rv_lst | apply Rv_tup | apply Ky_str | apply Ky_int | apply Md_split | apply Md_join | apply Md_idx | apply Ts_0 | apply Ts_s | apply Cp_eqb | apply Cp_neb | apply Z_try)) | refine Ln_mk (Nat.le_of_ble_eq_true rfl) ?_ | refine Bn_mod (by first | decide | omega) ?_ | refine Bd_bT rfl ?_ | refine Ix_by rfl ?_ | refine Is_by (k := true) rfl ?_ | refine Is_by (k := false) rfl ?_ | refine R1_mk (by first | decide | omega) ?_ | refine Bn_mulS (by omega) (by omega) ?_ | refine Bn_fdivS (by omega) (by omega) ?_ | (apply Ix_ref; assumption; exact rfl) | (apply Sd_ref; assumption; exact rfl; intro _ _ _ _) | (apply Bs_lenr; assumption) | (apply Md_app; assumption) | refine Br_t rfl ?_ | refine Br_f rfl ?_ | refine Br_t (decide_eq_true (by omega)) ?_ | refine Br_f (decide_eq_false (by omega)) ?_ | (with_reducible refine Br_dec (fun _ => ?_) (fun _ => ?_)) | fail))
        exact ⟨rfl, rfl⟩
    have e2 : us.filterMap (fun a : List Nat => if a ∈ ns then none else some (dS a)) = (us.filter fun a => decide (a ∉ ns)).map dS := by
      generalize us = vs
      induction vs with
      | nil => rfl
      | cons v t ih =>
        rw [List.filterMap_cons, List.filter_cons]
        by_cases c : v ∈ ns
        · simp [c, ih]
        · simp [c, ih]
    rw [e2]
    have fl : (us.filter fun a => decide (a ∉ ns)).length ≤ 26 := by rw [← u3]; exact List.length_filter_le ..
    refine Bn_lst (by rw [List.length_map, List.length_map]; omega) ?_
    rw [← List.map_append]
    (repeat' (first | (with_reducible (first | apply G_vvs | apply G_vv0 | apply G_kk | apply G_bi | apply G_ca | apply G_a1 | apply G_a0 | apply Z_seq | apply Z_set | apply St_s | apply St_0 | apply G_ix | apply G_cm | apply G_tCm | apply Bl_bl | apply Z_if | apply Z_ret | apply G_bl | apply G_tTr | apply G_tNot | apply G_tAnd | apply G_tOr | apply G_isn | apply G_me | apply G_lsv | apply G_tu | apply G_lsm | apply G_nt | apply G_ng | apply G_cm2 | apply G_ie | apply G_sl | apply G_andE | apply G_orE | apply G_p0 | apply G_p1 | apply G_iv | apply G_r1 | apply G_r2 | apply G_lcv | apply G_lcv1 | apply G_lcm | apply G_lcm1 | apply Z_exp | apply Z_pass | apply Z_brk | apply Z_cnt | apply Z_ret0 | apply Z_tup | apply Z_sub | apply Z_while | apply Z_for | apply Z_raise | apply FnP_self | apply Bn_add | apply Bn_sub | apply Bn_and | apply Cp_lt | apply Cp_le | apply Cp_gt | apply Cp_ge | apply Cp_eqi | apply Cp_nei | apply Cp_is | apply Cp_isn | apply Tr_bl | apply Tr_int | apply Tr_lst | apply Tr_tup | apply Tr_non | apply Io_int | apply Bs_int | apply Bs_intb | apply Bs_len | apply Bs_lent | apply Bs_min | apply Bs_max | apply Bs_abs | apply Md_bits | apply Mt_bits | apply It_lst | apply It_tup | apply Br_not | apply Bd_b1 | apply G_di0 | apply Sl_lst | apply Sl_tup | apply Wp_0 | apply Wp_s | apply Sn_0 | apply Sn_s | apply Ct_mk1 | apply Ct_mk | apply Tn_mk | apply G_zen | apply G_zzp | apply G_rvs | apply G_lset | apply G_dct | apply G_k0 | apply G_k1 | apply G_dis | apply En_lst | apply Zp_tup | apply Zp_lst | apply Rv_lst | apply Rv_tup | apply Ky_str | apply Ky_int | apply Md_split | apply Md_join | apply Md_idx | apply Ts_0 | apply Ts_s | apply Cp_eqb | apply Cp_neb | apply Z_try)) | refine Ln_mk (Nat.le_of_ble_eq_true rfl) ?_ | refine Bn_mod (by first | decide | omega) ?_ | refine Bd_bT rfl ?_ | refine Ix_by rfl ?_ | refine Is_by (k := true) rfl ?_ | refine Is_by (k := false) rfl ?_ | refine R1_mk (by first | decide | omega) ?_ | refine Bn_mulS (by omega) (by omega) ?_ | refine Bn_fdivS (by omega) (by omega) ?_ | (apply Ix_ref; assumption; exact rfl) | (apply Sd_ref; assumption; exact rfl; intro _ _ _ _) | (apply Bs_lenr; assumption) | (apply Md_app; assumption) | refine Br_t rfl ?_ | refine Br_f rfl ?_ | refine Br_t (decide_eq_true (by omega)) ?_ | refine Br_f (decide_eq_false (by omega)) ?_ | (with_reducible refine Br_dec (fun _ => ?_) (fun _ => ?_)) | fail))
    have tk : cut ((ns ++ us.filter fun a => decide (a ∉ ns)).map dS) none (some m) = ((ns ++ us.filter fun a => decide (a ∉ ns)).take m.toNat).map dS := by
      unfold cut HT.sIx
      dsimp only
      rw [if_neg (by omega), List.drop_zero, Nat.sub_zero, List.map_take]
      by_cases c : m.toNat ≤ ((ns ++ us.filter fun a => decide (a ∉ ns)).map dS).length
      · rw [Nat.min_eq_left c]
      · rw [Nat.min_eq_right (by omega), List.take_of_length_le (Nat.le_refl _), List.take_of_length_le (by omega)]
    rw [tk]
    have mem : ∀ a ∈ ns ++ us.filter (fun a => decide (a ∉ ns)), okName a = true := fun a ha => by
      rcases List.mem_append.mp ha with z | z
      · exact ok a z
      · exact uo a (List.mem_filter.mp z).1
    have pos : 0 < (ns ++ us.filter (fun a => decide (a ∉ ns))).length := by
      cases ns with
      | nil => decide
      | cons a t => simp
    refine FnP_same l1 (hQ _ S1 ?_ (fun a ha => mem a (List.mem_of_mem_take ha)) (by rw [List.length_take]; omega) (by rw [List.length_take]; omega) (hs1.mono (by omega)) l1 o1)
    refine List.Nodup.sublist (List.take_sublist ..) ?_
    rw [List.nodup_append]
    refine ⟨nd, List.Nodup.sublist List.filter_sublist u1, ?_⟩
    intro x hx y hy e
    subst e
    exact of_decide_eq_true (List.mem_filter.mp hy).2 hx
theorem statement_w {S : Store} {l : Nat} {k : Int} {hs ns : List (List Nat)} {calls : Int} (h : Src S l k) (hk : k ≤ 50000) (h1 : 1 ≤ hs.length ∧ hs.length ≤ 1000) (n1 : 1 ≤ ns.length ∧ ns.length ≤ 1000) {Qd : D → Store → Prop} {E : EX}
    (hQ : ∀ (m : Sm) S', okSm hs ns m → (isCall m = true → calls < 3) → Src S' l (k + 5) → S'.length = S.length → (∀ i, i ≠ l → S'[i]? = S[i]?) → Qd (dSm m) S') : W (m__law_statement [.ref l, .lst (hs.map dS), .lst (ns.map dS), .int calls] S) Qd E := by
  apply w__law_statement
  unfold z__law_statement
  rw [kOwn, kAdd, kSpin, kMake, kAsk]
  (repeat' (first | (with_reducible (first | apply G_vvs | apply G_vv0 | apply G_kk | apply G_bi | apply G_ca | apply G_a1 | apply G_a0 | apply Z_seq | apply Z_set | apply St_s | apply St_0 | apply G_ix | apply G_cm | apply G_tCm | apply Bl_bl | apply Z_if | apply Z_ret | apply G_bl | apply G_tTr | apply G_tNot | apply G_tAnd | apply G_tOr | apply G_isn | apply G_me | apply G_lsv | apply G_tu | apply G_lsm | apply G_nt | apply G_ng | apply G_cm2 | apply G_ie | apply G_sl | apply G_andE | apply G_orE | apply G_p0 | apply G_p1 | apply G_iv | apply G_r1 | apply G_r2 | apply G_lcv | apply G_lcv1 | apply G_lcm | apply G_lcm1 | apply Z_exp | apply Z_pass | apply Z_brk | apply Z_cnt | apply Z_ret0 | apply Z_tup | apply Z_sub | apply Z_while | apply Z_for | apply Z_raise | apply FnP_self | apply Bn_add | apply Bn_sub | apply Bn_and | apply Cp_lt | apply Cp_le | apply Cp_gt | apply Cp_ge | apply Cp_eqi | apply Cp_nei | apply Cp_is | apply Cp_isn | apply Tr_bl | apply Tr_int | apply Tr_lst | apply Tr_tup | apply Tr_non | apply Io_int | apply Bs_int | apply Bs_intb | apply Bs_len | apply Bs_lent | apply Bs_min | apply Bs_max | apply Bs_abs | apply Md_bits | apply Mt_bits | apply It_lst | apply It_tup | apply Br_not | apply Bd_b1 | apply G_di0 | apply Sl_lst | apply Sl_tup | apply Wp_0 | apply Wp_s | apply Sn_0 | apply Sn_s | apply Ct_mk1 | apply Ct_mk | apply Tn_mk | apply G_zen | apply G_zzp | apply G_rvs | apply G_lset | apply G_dct | apply G_k0 | apply G_k1 | apply G_dis | apply En_lst | apply Zp_tup | apply Zp_lst | apply Rv_lst | apply Rv_tup | apply Ky_str | apply Ky_int | apply Md_split | apply Md_join | apply Md_idx | apply Ts_0 | apply Ts_s | apply Cp_eqb | apply Cp_neb | apply Z_try)) | refine Ln_mk (Nat.le_of_ble_eq_true rfl) ?_ | refine Bn_mod (by first | decide | omega) ?_ | refine Bd_bT rfl ?_ | refine Ix_by rfl ?_ | refine Is_by (k := true) rfl ?_ | refine Is_by (k := false) rfl ?_ | refine R1_mk (by first | decide | omega) ?_ | refine Bn_mulS (by omega) (by omega) ?_ | refine Bn_fdivS (by omega) (by omega) ?_ | (apply Ix_ref; assumption; exact rfl) | (apply Sd_ref; assumption; exact rfl; intro _ _ _ _) | (apply Bs_lenr; assumption) | (apply Md_app; assumption) | refine Br_t rfl ?_ | refine Br_f rfl ?_ | refine Br_t (decide_eq_true (by omega)) ?_ | refine Br_f (decide_eq_false (by omega)) ?_ | (with_reducible refine Br_dec (fun _ => ?_) (fun _ => ?_)) | fail))
  refine draw_w h (by omega) (by decide) (by decide) (fun way S1 a0 a1 hs1 l1 o1 => ?_)
  have call : ∀ {σ : Q.Env} {E' : EX}, calls < 3 → G (tu (Q.a1 (ix (lsv (Q.a1 (kk (dS cMake)) (Q.a1 (kk (dS cAsk)) Q.a0))) (ca m__law_draw (Q.a1 (vv 0) (Q.a1 (kk (.int 2)) Q.a0)))) (Q.a1 (ca m__law_one (Q.a1 (vv 0) (Q.a1 (vv 1) Q.a0))) (Q.a1 (ca m__law_one (Q.a1 (vv 0) (Q.a1 (vv 2) Q.a0))) Q.a0)))) (some (.ref l) :: some (.lst (hs.map dS)) :: some (.lst (ns.map dS)) :: σ) S1 (fun d S' => FnP false S.length d S' Qd E) E' := fun {σ E'} c3 => by
    (repeat' (first | (with_reducible (first | apply G_vvs | apply G_vv0 | apply G_kk | apply G_bi | apply G_ca | apply G_a1 | apply G_a0 | apply Z_seq | apply Z_set | apply St_s | apply St_0 | apply G_ix | apply G_cm | apply G_tCm | apply Bl_bl | apply Z_if | apply Z_ret | apply G_bl | apply G_tTr | apply G_tNot | apply G_tAnd | apply G_tOr | apply G_isn | apply G_me | apply G_lsv | apply G_tu | apply G_lsm | apply G_nt | apply G_ng | apply G_cm2 | apply G_ie | apply G_sl | apply G_andE | apply G_orE | apply G_p0 | apply G_p1 | apply G_iv | apply G_r1 | apply G_r2 | apply G_lcv | apply G_lcv1 | apply G_lcm | apply G_lcm1 | apply Z_exp | apply Z_pass | apply Z_brk | apply Z_cnt | apply Z_ret0 | apply Z_tup | apply Z_sub | apply Z_while | apply Z_for | apply Z_raise | apply FnP_self | apply Bn_add | apply Bn_sub | apply Bn_and | apply Cp_lt | apply Cp_le | apply Cp_gt | apply Cp_ge | apply Cp_eqi | apply Cp_nei | apply Cp_is | apply Cp_isn | apply Tr_bl | apply Tr_int | apply Tr_lst | apply Tr_tup | apply Tr_non | apply Io_int | apply Bs_int | apply Bs_intb | apply Bs_len | apply Bs_lent | apply Bs_min | apply Bs_max | apply Bs_abs | apply Md_bits | apply Mt_bits | apply It_lst | apply It_tup | apply Br_not | apply Bd_b1 | apply G_di0 | apply Sl_lst | apply Sl_tup | apply Wp_0 | apply Wp_s | apply Sn_0 | apply Sn_s | apply Ct_mk1 | apply Ct_mk | apply Tn_mk | apply G_zen | apply G_zzp | apply G_rvs | apply G_lset | apply G_dct | apply G_k0 | apply G_k1 | apply G_dis | apply En_lst | apply Zp_tup | apply Zp_lst | apply Rv_lst | apply Rv_tup | apply Ky_str | apply Ky_int | apply Md_split | apply Md_join | apply Md_idx | apply Ts_0 | apply Ts_s | apply Cp_eqb | apply Cp_neb | apply Z_try)) | refine Ln_mk (Nat.le_of_ble_eq_true rfl) ?_ | refine Bn_mod (by first | decide | omega) ?_ | refine Bd_bT rfl ?_ | refine Ix_by rfl ?_ | refine Is_by (k := true) rfl ?_ | refine Is_by (k := false) rfl ?_ | refine R1_mk (by first | decide | omega) ?_ | refine Bn_mulS (by omega) (by omega) ?_ | refine Bn_fdivS (by omega) (by omega) ?_ | (apply Ix_ref; assumption; exact rfl) | (apply Sd_ref; assumption; exact rfl; intro _ _ _ _) | (apply Bs_lenr; assumption) | (apply Md_app; assumption) | refine Br_t rfl ?_ | refine Br_f rfl ?_ | refine Br_t (decide_eq_true (by omega)) ?_ | refine Br_f (decide_eq_false (by omega)) ?_ | (with_reducible refine Br_dec (fun _ => ?_) (fun _ => ?_)) | fail))
    refine draw_w hs1 (by omega) (by decide) (by decide) (fun d2 S2 b0 b1 hs2 l2 o2 => ?_)
    refine Ix_pick (fun d => ∃ b, d = dS (cCall b)) b0 b1 ?_ ?_
    · intro d hd
      simp only [List.mem_cons, List.not_mem_nil, or_false] at hd
      rcases hd with rfl | rfl
      · exact ⟨false, rfl⟩
      · exact ⟨true, rfl⟩
    rintro d ⟨b, rfl⟩
    (repeat' (first | (with_reducible (first | apply G_vvs | apply G_vv0 | apply G_kk | apply G_bi | apply G_ca | apply G_a1 | apply G_a0 | apply Z_seq | apply Z_set | apply St_s | apply St_0 | apply G_ix | apply G_cm | apply G_tCm | apply Bl_bl | apply Z_if | apply Z_ret | apply G_bl | apply G_tTr | apply G_tNot | apply G_tAnd | apply G_tOr | apply G_isn | apply G_me | apply G_lsv | apply G_tu | apply G_lsm | apply G_nt | apply G_ng | apply G_cm2 | apply G_ie | apply G_sl | apply G_andE | apply G_orE | apply G_p0 | apply G_p1 | apply G_iv | apply G_r1 | apply G_r2 | apply G_lcv | apply G_lcv1 | apply G_lcm | apply G_lcm1 | apply Z_exp | apply Z_pass | apply Z_brk | apply Z_cnt | apply Z_ret0 | apply Z_tup | apply Z_sub | apply Z_while | apply Z_for | apply Z_raise | apply FnP_self | apply Bn_add | apply Bn_sub | apply Bn_and | apply Cp_lt | apply Cp_le | apply Cp_gt | apply Cp_ge | apply Cp_eqi | apply Cp_nei | apply Cp_is | apply Cp_isn | apply Tr_bl | apply Tr_int | apply Tr_lst | apply Tr_tup | apply Tr_non | apply Io_int | apply Bs_int | apply Bs_intb | apply Bs_len | apply Bs_lent | apply Bs_min | apply Bs_max | apply Bs_abs | apply Md_bits | apply Mt_bits | apply It_lst | apply It_tup | apply Br_not | apply Bd_b1 | apply G_di0 | apply Sl_lst | apply Sl_tup | apply Wp_0 | apply Wp_s | apply Sn_0 | apply Sn_s | apply Ct_mk1 | apply Ct_mk | apply Tn_mk | apply G_zen | apply G_zzp | apply G_rvs | apply G_lset | apply G_dct | apply G_k0 | apply G_k1 | apply G_dis | apply En_lst | apply Zp_tup | apply Zp_lst | apply Rv_lst | apply Rv_tup | apply Ky_str | apply Ky_int | apply Md_split | apply Md_join | apply Md_idx | apply Ts_0 | apply Ts_s | apply Cp_eqb | apply Cp_neb | apply Z_try)) | refine Ln_mk (Nat.le_of_ble_eq_true rfl) ?_ | refine Bn_mod (by first | decide | omega) ?_ | refine Bd_bT rfl ?_ | refine Ix_by rfl ?_ | refine Is_by (k := true) rfl ?_ | refine Is_by (k := false) rfl ?_ | refine R1_mk (by first | decide | omega) ?_ | refine Bn_mulS (by omega) (by omega) ?_ | refine Bn_fdivS (by omega) (by omega) ?_ | (apply Ix_ref; assumption; exact rfl) | (apply Sd_ref; assumption; exact rfl; intro _ _ _ _) | (apply Bs_lenr; assumption) | (apply Md_app; assumption) | refine Br_t rfl ?_ | refine Br_f rfl ?_ | refine Br_t (decide_eq_true (by omega)) ?_ | refine Br_f (decide_eq_false (by omega)) ?_ | (with_reducible refine Br_dec (fun _ => ?_) (fun _ => ?_)) | fail))
    refine one_w hs2 (by omega) (by rw [List.length_map]; omega) (by rw [List.length_map]; omega) (fun x S3 hx hs3 l3 o3 => ?_)
    obtain ⟨a, ha, rfl⟩ := List.mem_map.mp hx
    (repeat' (first | (with_reducible (first | apply G_vvs | apply G_vv0 | apply G_kk | apply G_bi | apply G_ca | apply G_a1 | apply G_a0 | apply Z_seq | apply Z_set | apply St_s | apply St_0 | apply G_ix | apply G_cm | apply G_tCm | apply Bl_bl | apply Z_if | apply Z_ret | apply G_bl | apply G_tTr | apply G_tNot | apply G_tAnd | apply G_tOr | apply G_isn | apply G_me | apply G_lsv | apply G_tu | apply G_lsm | apply G_nt | apply G_ng | apply G_cm2 | apply G_ie | apply G_sl | apply G_andE | apply G_orE | apply G_p0 | apply G_p1 | apply G_iv | apply G_r1 | apply G_r2 | apply G_lcv | apply G_lcv1 | apply G_lcm | apply G_lcm1 | apply Z_exp | apply Z_pass | apply Z_brk | apply Z_cnt | apply Z_ret0 | apply Z_tup | apply Z_sub | apply Z_while | apply Z_for | apply Z_raise | apply FnP_self | apply Bn_add | apply Bn_sub | apply Bn_and | apply Cp_lt | apply Cp_le | apply Cp_gt | apply Cp_ge | apply Cp_eqi | apply Cp_nei | apply Cp_is | apply Cp_isn | apply Tr_bl | apply Tr_int | apply Tr_lst | apply Tr_tup | apply Tr_non | apply Io_int | apply Bs_int | apply Bs_intb | apply Bs_len | apply Bs_lent | apply Bs_min | apply Bs_max | apply Bs_abs | apply Md_bits | apply Mt_bits | apply It_lst | apply It_tup | apply Br_not | apply Bd_b1 | apply G_di0 | apply Sl_lst | apply Sl_tup | apply Wp_0 | apply Wp_s | apply Sn_0 | apply Sn_s | apply Ct_mk1 | apply Ct_mk | apply Tn_mk | apply G_zen | apply G_zzp | apply G_rvs | apply G_lset | apply G_dct | apply G_k0 | apply G_k1 | apply G_dis | apply En_lst | apply Zp_tup | apply Zp_lst | apply Rv_lst | apply Rv_tup | apply Ky_str | apply Ky_int | apply Md_split | apply Md_join | apply Md_idx | apply Ts_0 | apply Ts_s | apply Cp_eqb | apply Cp_neb | apply Z_try)) | refine Ln_mk (Nat.le_of_ble_eq_true rfl) ?_ | refine Bn_mod (by first | decide | omega) ?_ | refine Bd_bT rfl ?_ | refine Ix_by rfl ?_ | refine Is_by (k := true) rfl ?_ | refine Is_by (k := false) rfl ?_ | refine R1_mk (by first | decide | omega) ?_ | refine Bn_mulS (by omega) (by omega) ?_ | refine Bn_fdivS (by omega) (by omega) ?_ | (apply Ix_ref; assumption; exact rfl) | (apply Sd_ref; assumption; exact rfl; intro _ _ _ _) | (apply Bs_lenr; assumption) | (apply Md_app; assumption) | refine Br_t rfl ?_ | refine Br_f rfl ?_ | refine Br_t (decide_eq_true (by omega)) ?_ | refine Br_f (decide_eq_false (by omega)) ?_ | (with_reducible refine Br_dec (fun _ => ?_) (fun _ => ?_)) | fail))
    refine one_w hs3 (by omega) (by rw [List.length_map]; omega) (by rw [List.length_map]; omega) (fun x S4 hx hs4 l4 o4 => ?_)
    obtain ⟨n, hn, rfl⟩ := List.mem_map.mp hx
    (repeat' (first | (with_reducible (first | apply G_vvs | apply G_vv0 | apply G_kk | apply G_bi | apply G_ca | apply G_a1 | apply G_a0 | apply Z_seq | apply Z_set | apply St_s | apply St_0 | apply G_ix | apply G_cm | apply G_tCm | apply Bl_bl | apply Z_if | apply Z_ret | apply G_bl | apply G_tTr | apply G_tNot | apply G_tAnd | apply G_tOr | apply G_isn | apply G_me | apply G_lsv | apply G_tu | apply G_lsm | apply G_nt | apply G_ng | apply G_cm2 | apply G_ie | apply G_sl | apply G_andE | apply G_orE | apply G_p0 | apply G_p1 | apply G_iv | apply G_r1 | apply G_r2 | apply G_lcv | apply G_lcv1 | apply G_lcm | apply G_lcm1 | apply Z_exp | apply Z_pass | apply Z_brk | apply Z_cnt | apply Z_ret0 | apply Z_tup | apply Z_sub | apply Z_while | apply Z_for | apply Z_raise | apply FnP_self | apply Bn_add | apply Bn_sub | apply Bn_and | apply Cp_lt | apply Cp_le | apply Cp_gt | apply Cp_ge | apply Cp_eqi | apply Cp_nei | apply Cp_is | apply Cp_isn | apply Tr_bl | apply Tr_int | apply Tr_lst | apply Tr_tup | apply Tr_non | apply Io_int | apply Bs_int | apply Bs_intb | apply Bs_len | apply Bs_lent | apply Bs_min | apply Bs_max | apply Bs_abs | apply Md_bits | apply Mt_bits | apply It_lst | apply It_tup | apply Br_not | apply Bd_b1 | apply G_di0 | apply Sl_lst | apply Sl_tup | apply Wp_0 | apply Wp_s | apply Sn_0 | apply Sn_s | apply Ct_mk1 | apply Ct_mk | apply Tn_mk | apply G_zen | apply G_zzp | apply G_rvs | apply G_lset | apply G_dct | apply G_k0 | apply G_k1 | apply G_dis | apply En_lst | apply Zp_tup | apply Zp_lst | apply Rv_lst | apply Rv_tup | apply Ky_str | apply Ky_int | apply Md_split | apply Md_join | apply Md_idx | apply Ts_0 | apply Ts_s | apply Cp_eqb | apply Cp_neb | apply Z_try)) | refine Ln_mk (Nat.le_of_ble_eq_true rfl) ?_ | refine Bn_mod (by first | decide | omega) ?_ | refine Bd_bT rfl ?_ | refine Ix_by rfl ?_ | refine Is_by (k := true) rfl ?_ | refine Is_by (k := false) rfl ?_ | refine R1_mk (by first | decide | omega) ?_ | refine Bn_mulS (by omega) (by omega) ?_ | refine Bn_fdivS (by omega) (by omega) ?_ | (apply Ix_ref; assumption; exact rfl) | (apply Sd_ref; assumption; exact rfl; intro _ _ _ _) | (apply Bs_lenr; assumption) | (apply Md_app; assumption) | refine Br_t rfl ?_ | refine Br_f rfl ?_ | refine Br_t (decide_eq_true (by omega)) ?_ | refine Br_f (decide_eq_false (by omega)) ?_ | (with_reducible refine Br_dec (fun _ => ?_) (fun _ => ?_)) | fail))
    exact FnP_same (by omega) (hQ (.call b a n) S4 ⟨ha, hn⟩ (fun _ => c3) (hs4.mono (by omega)) (by omega) (fun i hi => by rw [o4 i hi, o3 i hi, o2 i hi, o1 i hi]))
  have addw : ∀ {σ : Q.Env} {E' : EX}, G (tu (Q.a1 (kk (dS cAdd)) (Q.a1 (ix (lsv (Q.a1 (bi .Sub (ca m__law_draw (Q.a1 (vv 0) (Q.a1 (kk (.int 9)) Q.a0))) (kk (.int 4))) (Q.a1 (bi .Sub (ca m__law_draw (Q.a1 (vv 0) (Q.a1 (kk (.int 2001)) Q.a0))) (kk (.int 1000))) (Q.a1 (kk (.int 1000)) (Q.a1 (ng (kk (.int 1000))) Q.a0))))) (ca m__law_draw (Q.a1 (vv 0) (Q.a1 (kk (.int 4)) Q.a0)))) Q.a0))) (some (.ref l) :: σ) S1 (fun d S' => FnP false S.length d S' Qd E) E' := fun {σ E'} => by
    (repeat' (first | (with_reducible (first | apply G_vvs | apply G_vv0 | apply G_kk | apply G_bi | apply G_ca | apply G_a1 | apply G_a0 | apply Z_seq | apply Z_set | apply St_s | apply St_0 | apply G_ix | apply G_cm | apply G_tCm | apply Bl_bl | apply Z_if | apply Z_ret | apply G_bl | apply G_tTr | apply G_tNot | apply G_tAnd | apply G_tOr | apply G_isn | apply G_me | apply G_lsv | apply G_tu | apply G_lsm | apply G_nt | apply G_ng | apply G_cm2 | apply G_ie | apply G_sl | apply G_andE | apply G_orE | apply G_p0 | apply G_p1 | apply G_iv | apply G_r1 | apply G_r2 | apply G_lcv | apply G_lcv1 | apply G_lcm | apply G_lcm1 | apply Z_exp | apply Z_pass | apply Z_brk | apply Z_cnt | apply Z_ret0 | apply Z_tup | apply Z_sub | apply Z_while | apply Z_for | apply Z_raise | apply FnP_self | apply Bn_add | apply Bn_sub | apply Bn_and | apply Cp_lt | apply Cp_le | apply Cp_gt | apply Cp_ge | apply Cp_eqi | apply Cp_nei | apply Cp_is | apply Cp_isn | apply Tr_bl | apply Tr_int | apply Tr_lst | apply Tr_tup | apply Tr_non | apply Io_int | apply Bs_int | apply Bs_intb | apply Bs_len | apply Bs_lent | apply Bs_min | apply Bs_max | apply Bs_abs | apply Md_bits | apply Mt_bits | apply It_lst | apply It_tup | apply Br_not | apply Bd_b1 | apply G_di0 | apply Sl_lst | apply Sl_tup | apply Wp_0 | apply Wp_s | apply Sn_0 | apply Sn_s | apply Ct_mk1 | apply Ct_mk | apply Tn_mk | apply G_zen | apply G_zzp | apply G_rvs | apply G_lset | apply G_dct | apply G_k0 | apply G_k1 | apply G_dis | apply En_lst | apply Zp_tup | apply Zp_lst | apply Rv_lst | apply Rv_tup | apply Ky_str | apply Ky_int | apply Md_split | apply Md_join | apply Md_idx | apply Ts_0 | apply Ts_s | apply Cp_eqb | apply Cp_neb | apply Z_try)) | refine Ln_mk (Nat.le_of_ble_eq_true rfl) ?_ | refine Bn_mod (by first | decide | omega) ?_ | refine Bd_bT rfl ?_ | refine Ix_by rfl ?_ | refine Is_by (k := true) rfl ?_ | refine Is_by (k := false) rfl ?_ | refine R1_mk (by first | decide | omega) ?_ | refine Bn_mulS (by omega) (by omega) ?_ | refine Bn_fdivS (by omega) (by omega) ?_ | (apply Ix_ref; assumption; exact rfl) | (apply Sd_ref; assumption; exact rfl; intro _ _ _ _) | (apply Bs_lenr; assumption) | (apply Md_app; assumption) | refine Br_t rfl ?_ | refine Br_f rfl ?_ | refine Br_t (decide_eq_true (by omega)) ?_ | refine Br_f (decide_eq_false (by omega)) ?_ | (with_reducible refine Br_dec (fun _ => ?_) (fun _ => ?_)) | fail))
    refine draw_w hs1 (by omega) (by decide) (by decide) (fun n S2 b0 b1 hs2 l2 o2 => ?_)
    (repeat' (first | (with_reducible (first | apply G_vvs | apply G_vv0 | apply G_kk | apply G_bi | apply G_ca | apply G_a1 | apply G_a0 | apply Z_seq | apply Z_set | apply St_s | apply St_0 | apply G_ix | apply G_cm | apply G_tCm | apply Bl_bl | apply Z_if | apply Z_ret | apply G_bl | apply G_tTr | apply G_tNot | apply G_tAnd | apply G_tOr | apply G_isn | apply G_me | apply G_lsv | apply G_tu | apply G_lsm | apply G_nt | apply G_ng | apply G_cm2 | apply G_ie | apply G_sl | apply G_andE | apply G_orE | apply G_p0 | apply G_p1 | apply G_iv | apply G_r1 | apply G_r2 | apply G_lcv | apply G_lcv1 | apply G_lcm | apply G_lcm1 | apply Z_exp | apply Z_pass | apply Z_brk | apply Z_cnt | apply Z_ret0 | apply Z_tup | apply Z_sub | apply Z_while | apply Z_for | apply Z_raise | apply FnP_self | apply Bn_add | apply Bn_sub | apply Bn_and | apply Cp_lt | apply Cp_le | apply Cp_gt | apply Cp_ge | apply Cp_eqi | apply Cp_nei | apply Cp_is | apply Cp_isn | apply Tr_bl | apply Tr_int | apply Tr_lst | apply Tr_tup | apply Tr_non | apply Io_int | apply Bs_int | apply Bs_intb | apply Bs_len | apply Bs_lent | apply Bs_min | apply Bs_max | apply Bs_abs | apply Md_bits | apply Mt_bits | apply It_lst | apply It_tup | apply Br_not | apply Bd_b1 | apply G_di0 | apply Sl_lst | apply Sl_tup | apply Wp_0 | apply Wp_s | apply Sn_0 | apply Sn_s | apply Ct_mk1 | apply Ct_mk | apply Tn_mk | apply G_zen | apply G_zzp | apply G_rvs | apply G_lset | apply G_dct | apply G_k0 | apply G_k1 | apply G_dis | apply En_lst | apply Zp_tup | apply Zp_lst | apply Rv_lst | apply Rv_tup | apply Ky_str | apply Ky_int | apply Md_split | apply Md_join | apply Md_idx | apply Ts_0 | apply Ts_s | apply Cp_eqb | apply Cp_neb | apply Z_try)) | refine Ln_mk (Nat.le_of_ble_eq_true rfl) ?_ | refine Bn_mod (by first | decide | omega) ?_ | refine Bd_bT rfl ?_ | refine Ix_by rfl ?_ | refine Is_by (k := true) rfl ?_ | refine Is_by (k := false) rfl ?_ | refine R1_mk (by first | decide | omega) ?_ | refine Bn_mulS (by omega) (by omega) ?_ | refine Bn_fdivS (by omega) (by omega) ?_ | (apply Ix_ref; assumption; exact rfl) | (apply Sd_ref; assumption; exact rfl; intro _ _ _ _) | (apply Bs_lenr; assumption) | (apply Md_app; assumption) | refine Br_t rfl ?_ | refine Br_f rfl ?_ | refine Br_t (decide_eq_true (by omega)) ?_ | refine Br_f (decide_eq_false (by omega)) ?_ | (with_reducible refine Br_dec (fun _ => ?_) (fun _ => ?_)) | fail))
    refine draw_w hs2 (by omega) (by decide) (by decide) (fun m S3 c0 c1 hs3 l3 o3 => ?_)
    (repeat' (first | (with_reducible (first | apply G_vvs | apply G_vv0 | apply G_kk | apply G_bi | apply G_ca | apply G_a1 | apply G_a0 | apply Z_seq | apply Z_set | apply St_s | apply St_0 | apply G_ix | apply G_cm | apply G_tCm | apply Bl_bl | apply Z_if | apply Z_ret | apply G_bl | apply G_tTr | apply G_tNot | apply G_tAnd | apply G_tOr | apply G_isn | apply G_me | apply G_lsv | apply G_tu | apply G_lsm | apply G_nt | apply G_ng | apply G_cm2 | apply G_ie | apply G_sl | apply G_andE | apply G_orE | apply G_p0 | apply G_p1 | apply G_iv | apply G_r1 | apply G_r2 | apply G_lcv | apply G_lcv1 | apply G_lcm | apply G_lcm1 | apply Z_exp | apply Z_pass | apply Z_brk | apply Z_cnt | apply Z_ret0 | apply Z_tup | apply Z_sub | apply Z_while | apply Z_for | apply Z_raise | apply FnP_self | apply Bn_add | apply Bn_sub | apply Bn_and | apply Cp_lt | apply Cp_le | apply Cp_gt | apply Cp_ge | apply Cp_eqi | apply Cp_nei | apply Cp_is | apply Cp_isn | apply Tr_bl | apply Tr_int | apply Tr_lst | apply Tr_tup | apply Tr_non | apply Io_int | apply Bs_int | apply Bs_intb | apply Bs_len | apply Bs_lent | apply Bs_min | apply Bs_max | apply Bs_abs | apply Md_bits | apply Mt_bits | apply It_lst | apply It_tup | apply Br_not | apply Bd_b1 | apply G_di0 | apply Sl_lst | apply Sl_tup | apply Wp_0 | apply Wp_s | apply Sn_0 | apply Sn_s | apply Ct_mk1 | apply Ct_mk | apply Tn_mk | apply G_zen | apply G_zzp | apply G_rvs | apply G_lset | apply G_dct | apply G_k0 | apply G_k1 | apply G_dis | apply En_lst | apply Zp_tup | apply Zp_lst | apply Rv_lst | apply Rv_tup | apply Ky_str | apply Ky_int | apply Md_split | apply Md_join | apply Md_idx | apply Ts_0 | apply Ts_s | apply Cp_eqb | apply Cp_neb | apply Z_try)) | refine Ln_mk (Nat.le_of_ble_eq_true rfl) ?_ | refine Bn_mod (by first | decide | omega) ?_ | refine Bd_bT rfl ?_ | refine Ix_by rfl ?_ | refine Is_by (k := true) rfl ?_ | refine Is_by (k := false) rfl ?_ | refine R1_mk (by first | decide | omega) ?_ | refine Bn_mulS (by omega) (by omega) ?_ | refine Bn_fdivS (by omega) (by omega) ?_ | (apply Ix_ref; assumption; exact rfl) | (apply Sd_ref; assumption; exact rfl; intro _ _ _ _) | (apply Bs_lenr; assumption) | (apply Md_app; assumption) | refine Br_t rfl ?_ | refine Br_f rfl ?_ | refine Br_t (decide_eq_true (by omega)) ?_ | refine Br_f (decide_eq_false (by omega)) ?_ | (with_reducible refine Br_dec (fun _ => ?_) (fun _ => ?_)) | fail))
    refine draw_w hs3 (by omega) (by decide) (by decide) (fun w S4 d0 d1 hs4 l4 o4 => ?_)
    refine Ix_pick (fun d => ∃ i : Int, d = .int i ∧ -1000 ≤ i ∧ i ≤ 1000) d0 d1 ?_ ?_
    · intro d hd
      simp only [List.mem_cons, List.not_mem_nil, or_false] at hd
      rcases hd with rfl | rfl | rfl | rfl
      · exact ⟨_, rfl, by omega, by omega⟩
      · exact ⟨_, rfl, by omega, by omega⟩
      · exact ⟨_, rfl, by omega, by omega⟩
      · exact ⟨_, rfl, by omega, by omega⟩
    rintro d ⟨i, rfl, i0, i1⟩
    (repeat' (first | (with_reducible (first | apply G_vvs | apply G_vv0 | apply G_kk | apply G_bi | apply G_ca | apply G_a1 | apply G_a0 | apply Z_seq | apply Z_set | apply St_s | apply St_0 | apply G_ix | apply G_cm | apply G_tCm | apply Bl_bl | apply Z_if | apply Z_ret | apply G_bl | apply G_tTr | apply G_tNot | apply G_tAnd | apply G_tOr | apply G_isn | apply G_me | apply G_lsv | apply G_tu | apply G_lsm | apply G_nt | apply G_ng | apply G_cm2 | apply G_ie | apply G_sl | apply G_andE | apply G_orE | apply G_p0 | apply G_p1 | apply G_iv | apply G_r1 | apply G_r2 | apply G_lcv | apply G_lcv1 | apply G_lcm | apply G_lcm1 | apply Z_exp | apply Z_pass | apply Z_brk | apply Z_cnt | apply Z_ret0 | apply Z_tup | apply Z_sub | apply Z_while | apply Z_for | apply Z_raise | apply FnP_self | apply Bn_add | apply Bn_sub | apply Bn_and | apply Cp_lt | apply Cp_le | apply Cp_gt | apply Cp_ge | apply Cp_eqi | apply Cp_nei | apply Cp_is | apply Cp_isn | apply Tr_bl | apply Tr_int | apply Tr_lst | apply Tr_tup | apply Tr_non | apply Io_int | apply Bs_int | apply Bs_intb | apply Bs_len | apply Bs_lent | apply Bs_min | apply Bs_max | apply Bs_abs | apply Md_bits | apply Mt_bits | apply It_lst | apply It_tup | apply Br_not | apply Bd_b1 | apply G_di0 | apply Sl_lst | apply Sl_tup | apply Wp_0 | apply Wp_s | apply Sn_0 | apply Sn_s | apply Ct_mk1 | apply Ct_mk | apply Tn_mk | apply G_zen | apply G_zzp | apply G_rvs | apply G_lset | apply G_dct | apply G_k0 | apply G_k1 | apply G_dis | apply En_lst | apply Zp_tup | apply Zp_lst | apply Rv_lst | apply Rv_tup | apply Ky_str | apply Ky_int | apply Md_split | apply Md_join | apply Md_idx | apply Ts_0 | apply Ts_s | apply Cp_eqb | apply Cp_neb | apply Z_try)) | refine Ln_mk (Nat.le_of_ble_eq_true rfl) ?_ | refine Bn_mod (by first | decide | omega) ?_ | refine Bd_bT rfl ?_ | refine Ix_by rfl ?_ | refine Is_by (k := true) rfl ?_ | refine Is_by (k := false) rfl ?_ | refine R1_mk (by first | decide | omega) ?_ | refine Bn_mulS (by omega) (by omega) ?_ | refine Bn_fdivS (by omega) (by omega) ?_ | (apply Ix_ref; assumption; exact rfl) | (apply Sd_ref; assumption; exact rfl; intro _ _ _ _) | (apply Bs_lenr; assumption) | (apply Md_app; assumption) | refine Br_t rfl ?_ | refine Br_f rfl ?_ | refine Br_t (decide_eq_true (by omega)) ?_ | refine Br_f (decide_eq_false (by omega)) ?_ | (with_reducible refine Br_dec (fun _ => ?_) (fun _ => ?_)) | fail))
    exact FnP_same (by omega) (hQ (.add i) S4 ⟨i0, i1⟩ (fun z => by cases z) (hs4.mono (by omega)) (by omega) (fun i hi => by rw [o4 i hi, o3 i hi, o2 i hi, o1 i hi]))
  (repeat' (first | (apply call; assumption) | apply addw | (with_reducible (first | apply G_vvs | apply G_vv0 | apply G_kk | apply G_bi | apply G_ca | apply G_a1 | apply G_a0 | apply Z_seq | apply Z_set | apply St_s | apply St_0 | apply G_ix | apply G_cm | apply G_tCm | apply Bl_bl | apply Z_if | apply Z_ret | apply G_bl | apply G_tTr | apply G_tNot | apply G_tAnd | apply G_tOr | apply G_isn | apply G_me | apply G_lsv | apply G_tu | apply G_lsm | apply G_nt | apply G_ng | apply G_cm2 | apply G_ie | apply G_sl | apply G_andE | apply G_orE | apply G_p0 | apply G_p1 | apply G_iv | apply G_r1 | apply G_r2 | apply G_lcv | apply G_lcv1 | apply G_lcm | apply G_lcm1 | apply Z_exp | apply Z_pass | apply Z_brk | apply Z_cnt | apply Z_ret0 | apply Z_tup | apply Z_sub | apply Z_while | apply Z_for | apply Z_raise | apply FnP_self | apply Bn_add | apply Bn_sub | apply Bn_and | apply Cp_lt | apply Cp_le | apply Cp_gt | apply Cp_ge | apply Cp_eqi | apply Cp_nei | apply Cp_is | apply Cp_isn | apply Tr_bl | apply Tr_int | apply Tr_lst | apply Tr_tup | apply Tr_non | apply Io_int | apply Bs_int | apply Bs_intb | apply Bs_len | apply Bs_lent | apply Bs_min | apply Bs_max | apply Bs_abs | apply Md_bits | apply Mt_bits | apply It_lst | apply It_tup | apply Br_not | apply Bd_b1 | apply G_di0 | apply Sl_lst | apply Sl_tup | apply Wp_0 | apply Wp_s | apply Sn_0 | apply Sn_s | apply Ct_mk1 | apply Ct_mk | apply Tn_mk | apply G_zen | apply G_zzp | apply G_rvs | apply G_lset | apply G_dct | apply G_k0 | apply G_k1 | apply G_dis | apply En_lst | apply Zp_tup | apply Zp_lst | apply Rv_lst | apply Rv_tup | apply Ky_str | apply Ky_int | apply Md_split | apply Md_join | apply Md_idx | apply Ts_0 | apply Ts_s | apply Cp_eqb | apply Cp_neb | apply Z_try)) | refine Ln_mk (Nat.le_of_ble_eq_true rfl) ?_ | refine Bn_mod (by first | decide | omega) ?_ | refine Bd_bT rfl ?_ | refine Ix_by rfl ?_ | refine Is_by (k := true) rfl ?_ | refine Is_by (k := false) rfl ?_ | refine R1_mk (by first | decide | omega) ?_ | refine Bn_mulS (by omega) (by omega) ?_ | refine Bn_fdivS (by omega) (by omega) ?_ | (apply Ix_ref; assumption; exact rfl) | (apply Sd_ref; assumption; exact rfl; intro _ _ _ _) | (apply Bs_lenr; assumption) | (apply Md_app; assumption) | refine Br_t rfl ?_ | refine Br_f rfl ?_ | refine Br_t (decide_eq_true (by omega)) ?_ | refine Br_f (decide_eq_false (by omega)) ?_ | (with_reducible refine Br_dec (fun _ => ?_) (fun _ => ?_)) | fail))
  · exact FnP_same (by omega) (hQ .own S1 trivial (fun z => by cases z) (hs1.mono (by omega)) (by omega) o1)
  · refine draw_w hs1 (by omega) (by decide) (by decide) (fun n S2 b0 b1 hs2 l2 o2 => ?_)
    (repeat' (first | (with_reducible (first | apply G_vvs | apply G_vv0 | apply G_kk | apply G_bi | apply G_ca | apply G_a1 | apply G_a0 | apply Z_seq | apply Z_set | apply St_s | apply St_0 | apply G_ix | apply G_cm | apply G_tCm | apply Bl_bl | apply Z_if | apply Z_ret | apply G_bl | apply G_tTr | apply G_tNot | apply G_tAnd | apply G_tOr | apply G_isn | apply G_me | apply G_lsv | apply G_tu | apply G_lsm | apply G_nt | apply G_ng | apply G_cm2 | apply G_ie | apply G_sl | apply G_andE | apply G_orE | apply G_p0 | apply G_p1 | apply G_iv | apply G_r1 | apply G_r2 | apply G_lcv | apply G_lcv1 | apply G_lcm | apply G_lcm1 | apply Z_exp | apply Z_pass | apply Z_brk | apply Z_cnt | apply Z_ret0 | apply Z_tup | apply Z_sub | apply Z_while | apply Z_for | apply Z_raise | apply FnP_self | apply Bn_add | apply Bn_sub | apply Bn_and | apply Cp_lt | apply Cp_le | apply Cp_gt | apply Cp_ge | apply Cp_eqi | apply Cp_nei | apply Cp_is | apply Cp_isn | apply Tr_bl | apply Tr_int | apply Tr_lst | apply Tr_tup | apply Tr_non | apply Io_int | apply Bs_int | apply Bs_intb | apply Bs_len | apply Bs_lent | apply Bs_min | apply Bs_max | apply Bs_abs | apply Md_bits | apply Mt_bits | apply It_lst | apply It_tup | apply Br_not | apply Bd_b1 | apply G_di0 | apply Sl_lst | apply Sl_tup | apply Wp_0 | apply Wp_s | apply Sn_0 | apply Sn_s | apply Ct_mk1 | apply Ct_mk | apply Tn_mk | apply G_zen | apply G_zzp | apply G_rvs | apply G_lset | apply G_dct | apply G_k0 | apply G_k1 | apply G_dis | apply En_lst | apply Zp_tup | apply Zp_lst | apply Rv_lst | apply Rv_tup | apply Ky_str | apply Ky_int | apply Md_split | apply Md_join | apply Md_idx | apply Ts_0 | apply Ts_s | apply Cp_eqb | apply Cp_neb | apply Z_try)) | refine Ln_mk (Nat.le_of_ble_eq_true rfl) ?_ | refine Bn_mod (by first | decide | omega) ?_ | refine Bd_bT rfl ?_ | refine Ix_by rfl ?_ | refine Is_by (k := true) rfl ?_ | refine Is_by (k := false) rfl ?_ | refine R1_mk (by first | decide | omega) ?_ | refine Bn_mulS (by omega) (by omega) ?_ | refine Bn_fdivS (by omega) (by omega) ?_ | (apply Ix_ref; assumption; exact rfl) | (apply Sd_ref; assumption; exact rfl; intro _ _ _ _) | (apply Bs_lenr; assumption) | (apply Md_app; assumption) | refine Br_t rfl ?_ | refine Br_f rfl ?_ | refine Br_t (decide_eq_true (by omega)) ?_ | refine Br_f (decide_eq_false (by omega)) ?_ | (with_reducible refine Br_dec (fun _ => ?_) (fun _ => ?_)) | fail))
    exact FnP_same (by omega) (hQ (.spin (1 + n)) S2 ⟨by omega, by omega⟩ (fun z => by cases z) (hs2.mono (by omega)) (by omega) (fun i hi => by rw [o2 i hi, o1 i hi]))
theorem body_w {S : Store} {l : Nat} {k : Int} {hs ns : List (List Nat)} (h : Src S l k) (hk : k ≤ 40000) (h1 : 1 ≤ hs.length ∧ hs.length ≤ 1000) (n1 : 1 ≤ ns.length ∧ ns.length ≤ 1000) {Qd : D → Store → Prop} {E : EX}
    (hQ : ∀ (b : List Sm) S', okBody hs ns b → Src S' l (k + 40) → Kp l S S' → Qd (dBody b) S') : W (m__law_body [.ref l, .lst (hs.map dS), .lst (ns.map dS)] S) Qd E := by
  have lt := h.lt
  apply w__law_body
  unfold z__law_body
  rw [kMake, kAsk]
  (repeat' (first | (with_reducible (first | apply G_vvs | apply G_vv0 | apply G_kk | apply G_bi | apply G_ca | apply G_a1 | apply G_a0 | apply Z_seq | apply Z_set | apply St_s | apply St_0 | apply G_ix | apply G_cm | apply G_tCm | apply Bl_bl | apply Z_if | apply Z_ret | apply G_bl | apply G_tTr | apply G_tNot | apply G_tAnd | apply G_tOr | apply G_isn | apply G_me | apply G_lsv | apply G_tu | apply G_lsm | apply G_nt | apply G_ng | apply G_cm2 | apply G_ie | apply G_sl | apply G_andE | apply G_orE | apply G_p0 | apply G_p1 | apply G_iv | apply G_r1 | apply G_r2 | apply G_lcv | apply G_lcv1 | apply G_lcm | apply G_lcm1 | apply Z_exp | apply Z_pass | apply Z_brk | apply Z_cnt | apply Z_ret0 | apply Z_tup | apply Z_sub | apply Z_while | apply Z_for | apply Z_raise | apply FnP_self | apply Bn_add | apply Bn_sub | apply Bn_and | apply Cp_lt | apply Cp_le | apply Cp_gt | apply Cp_ge | apply Cp_eqi | apply Cp_nei | apply Cp_is | apply Cp_isn | apply Tr_bl | apply Tr_int | apply Tr_lst | apply Tr_tup | apply Tr_non | apply Io_int | apply Bs_int | apply Bs_intb | apply Bs_len | apply Bs_lent | apply Bs_min | apply Bs_max | apply Bs_abs | apply Md_bits | apply Mt_bits | apply It_lst | apply It_tup | apply Br_not | apply Bd_b1 | apply G_di0 | apply Sl_lst | apply Sl_tup | apply Wp_0 | apply Wp_s | apply Sn_0 | apply Sn_s | apply Ct_mk1 | apply Ct_mk | apply Tn_mk | apply G_zen | apply G_zzp | apply G_rvs | apply G_lset | apply G_dct | apply G_k0 | apply G_k1 | apply G_dis | apply En_lst | apply Zp_tup | apply Zp_lst | apply Rv_lst | apply Rv_tup | apply Ky_str | apply Ky_int | apply Md_split | apply Md_join | apply Md_idx | apply Ts_0 | apply Ts_s | apply Cp_eqb | apply Cp_neb | apply Z_try)) | refine Ln_mk (Nat.le_of_ble_eq_true rfl) ?_ | refine Bn_mod (by first | decide | omega) ?_ | refine Bd_bT rfl ?_ | refine Ix_by rfl ?_ | refine Is_by (k := true) rfl ?_ | refine Is_by (k := false) rfl ?_ | refine R1_mk (by first | decide | omega) ?_ | refine Bn_mulS (by omega) (by omega) ?_ | refine Bn_fdivS (by omega) (by omega) ?_ | (apply Ix_ref; assumption; exact rfl) | (apply Sd_ref; assumption; exact rfl; intro _ _ _ _) | (apply Bs_lenr; assumption) | (apply Md_app; assumption) | refine Br_t rfl ?_ | refine Br_f rfl ?_ | refine Br_t (decide_eq_true (by omega)) ?_ | refine Br_f (decide_eq_false (by omega)) ?_ | (with_reducible refine Br_dec (fun _ => ?_) (fun _ => ?_)) | fail))
  refine draw_w h.app (by omega) (by decide) (by decide) (fun cnt S1 c0 c1 hs1 l1 o1 => ?_)
  rw [List.length_append, List.length_singleton] at l1
  have g1 : S1[S.length]? = some (.lst []) := by rw [o1 _ (by omega)]; simp
  have K1 : Kp l S S1 := Kp.trans .app (Kp.same (by rw [List.length_append, List.length_singleton]; omega) o1)
  (repeat' (first | (with_reducible (first | apply G_vvs | apply G_vv0 | apply G_kk | apply G_bi | apply G_ca | apply G_a1 | apply G_a0 | apply Z_seq | apply Z_set | apply St_s | apply St_0 | apply G_ix | apply G_cm | apply G_tCm | apply Bl_bl | apply Z_if | apply Z_ret | apply G_bl | apply G_tTr | apply G_tNot | apply G_tAnd | apply G_tOr | apply G_isn | apply G_me | apply G_lsv | apply G_tu | apply G_lsm | apply G_nt | apply G_ng | apply G_cm2 | apply G_ie | apply G_sl | apply G_andE | apply G_orE | apply G_p0 | apply G_p1 | apply G_iv | apply G_r1 | apply G_r2 | apply G_lcv | apply G_lcv1 | apply G_lcm | apply G_lcm1 | apply Z_exp | apply Z_pass | apply Z_brk | apply Z_cnt | apply Z_ret0 | apply Z_tup | apply Z_sub | apply Z_while | apply Z_for | apply Z_raise | apply FnP_self | apply Bn_add | apply Bn_sub | apply Bn_and | apply Cp_lt | apply Cp_le | apply Cp_gt | apply Cp_ge | apply Cp_eqi | apply Cp_nei | apply Cp_is | apply Cp_isn | apply Tr_bl | apply Tr_int | apply Tr_lst | apply Tr_tup | apply Tr_non | apply Io_int | apply Bs_int | apply Bs_intb | apply Bs_len | apply Bs_lent | apply Bs_min | apply Bs_max | apply Bs_abs | apply Md_bits | apply Mt_bits | apply It_lst | apply It_tup | apply Br_not | apply Bd_b1 | apply G_di0 | apply Sl_lst | apply Sl_tup | apply Wp_0 | apply Wp_s | apply Sn_0 | apply Sn_s | apply Ct_mk1 | apply Ct_mk | apply Tn_mk | apply G_zen | apply G_zzp | apply G_rvs | apply G_lset | apply G_dct | apply G_k0 | apply G_k1 | apply G_dis | apply En_lst | apply Zp_tup | apply Zp_lst | apply Rv_lst | apply Rv_tup | apply Ky_str | apply Ky_int | apply Md_split | apply Md_join | apply Md_idx | apply Ts_0 | apply Ts_s | apply Cp_eqb | apply Cp_neb | apply Z_try)) | refine Ln_mk (Nat.le_of_ble_eq_true rfl) ?_ | refine Bn_mod (by first | decide | omega) ?_ | refine Bd_bT rfl ?_ | refine Ix_by rfl ?_ | refine Is_by (k := true) rfl ?_ | refine Is_by (k := false) rfl ?_ | refine R1_mk (by first | decide | omega) ?_ | refine Bn_mulS (by omega) (by omega) ?_ | refine Bn_fdivS (by omega) (by omega) ?_ | (apply Ix_ref; assumption; exact rfl) | (apply Sd_ref; assumption; exact rfl; intro _ _ _ _) | (apply Bs_lenr; assumption) | (apply Md_app; assumption) | refine Br_t rfl ?_ | refine Br_f rfl ?_ | refine Br_t (decide_eq_true (by omega)) ?_ | refine Br_f (decide_eq_false (by omega)) ?_ | (with_reducible refine Br_dec (fun _ => ?_) (fun _ => ?_)) | fail))
  refine Lp_inv (fun i σ S' => ∃ (b : List Sm) (x4 x5 : Option D), σ = [some (.ref l), some (.lst (hs.map dS)), some (.lst (ns.map dS)), some (.ref S.length), x4, x5, none] ∧ Src S' l (k + 1 + 5 * i) ∧ S'.length = S.length + 1 ∧ S'[S.length]? = some (.lst (b.map dSm)) ∧ b.length = i ∧ (∀ m ∈ b, okSm hs ns m) ∧ (b.filter isCall).length ≤ 3 ∧ Kp l S S') ⟨[], _, _, rfl, hs1.mono (by omega), l1, g1, rfl, fun m hm => by simp at hm, by decide, K1⟩ ?_ ?_ (by rw [range_len]; omega)
  · rintro i d σ S2 hd ⟨b, x4, x5, rfl, hs2, l2, g2, bl, ba, b3, K2⟩
    obtain ⟨rfl, hi⟩ := range_get hd
    (repeat' (first | refine It_ref g2 ?_ | (with_reducible (first | apply G_vvs | apply G_vv0 | apply G_kk | apply G_bi | apply G_ca | apply G_a1 | apply G_a0 | apply Z_seq | apply Z_set | apply St_s | apply St_0 | apply G_ix | apply G_cm | apply G_tCm | apply Bl_bl | apply Z_if | apply Z_ret | apply G_bl | apply G_tTr | apply G_tNot | apply G_tAnd | apply G_tOr | apply G_isn | apply G_me | apply G_lsv | apply G_tu | apply G_lsm | apply G_nt | apply G_ng | apply G_cm2 | apply G_ie | apply G_sl | apply G_andE | apply G_orE | apply G_p0 | apply G_p1 | apply G_iv | apply G_r1 | apply G_r2 | apply G_lcv | apply G_lcv1 | apply G_lcm | apply G_lcm1 | apply Z_exp | apply Z_pass | apply Z_brk | apply Z_cnt | apply Z_ret0 | apply Z_tup | apply Z_sub | apply Z_while | apply Z_for | apply Z_raise | apply FnP_self | apply Bn_add | apply Bn_sub | apply Bn_and | apply Cp_lt | apply Cp_le | apply Cp_gt | apply Cp_ge | apply Cp_eqi | apply Cp_nei | apply Cp_is | apply Cp_isn | apply Tr_bl | apply Tr_int | apply Tr_lst | apply Tr_tup | apply Tr_non | apply Io_int | apply Bs_int | apply Bs_intb | apply Bs_len | apply Bs_lent | apply Bs_min | apply Bs_max | apply Bs_abs | apply Md_bits | apply Mt_bits | apply It_lst | apply It_tup | apply Br_not | apply Bd_b1 | apply G_di0 | apply Sl_lst | apply Sl_tup | apply Wp_0 | apply Wp_s | apply Sn_0 | apply Sn_s | apply Ct_mk1 | apply Ct_mk | apply Tn_mk | apply G_zen | apply G_zzp | apply G_rvs | apply G_lset | apply G_dct | apply G_k0 | apply G_k1 | apply G_dis | apply En_lst | apply Zp_tup | apply Zp_lst | apply Rv_lst | apply Rv_tup | apply Ky_str | apply Ky_int | apply Md_split | apply Md_join | apply Md_idx | apply Ts_0 | apply Ts_s | apply Cp_eqb | apply Cp_neb | apply Z_try)) | refine Ln_mk (Nat.le_of_ble_eq_true rfl) ?_ | refine Bn_mod (by first | decide | omega) ?_ | refine Bd_bT rfl ?_ | refine Ix_by rfl ?_ | refine Is_by (k := true) rfl ?_ | refine Is_by (k := false) rfl ?_ | refine R1_mk (by first | decide | omega) ?_ | refine Bn_mulS (by omega) (by omega) ?_ | refine Bn_fdivS (by omega) (by omega) ?_ | (apply Ix_ref; assumption; exact rfl) | (apply Sd_ref; assumption; exact rfl; intro _ _ _ _) | (apply Bs_lenr; assumption) | (apply Md_app; assumption) | refine Br_t rfl ?_ | refine Br_f rfl ?_ | refine Br_t (decide_eq_true (by omega)) ?_ | refine Br_f (decide_eq_false (by omega)) ?_ | (with_reducible refine Br_dec (fun _ => ?_) (fun _ => ?_)) | fail))
    refine Cf_invR (xs := b.map dSm) (fun i acc S' => S' = S2 ∧ acc = ((b.take i).filter isCall).map dSm) (fun i acc S' h => by rw [h.1]; exact g2) (by rw [List.length_map]; omega) ⟨rfl, rfl⟩ ?_ ?_
    · rintro i x acc S3 hx ⟨rfl, rfl⟩ _
      rw [List.getElem?_map, Option.map_eq_some_iff] at hx
      obtain ⟨m, hm, rfl⟩ := hx
      have ht : b.take (i + 1) = b.take i ++ [m] := by rw [List.take_succ, hm]; rfl
      rw [ht, List.filter_append, List.map_append]
      cases hcall : isCall m with
      | true =>
        obtain ⟨x, ⟨d, q1, rfl⟩, q2⟩ := fst_call (S := S3) (m := m) (PB := fun k => k = true) hcall
        obtain ⟨k, q3, rfl⟩ := q2.out
        (repeat' (first | refine Ix_by q1 ?_ | refine Cp_by q3 ?_ | (with_reducible (first | apply G_vvs | apply G_vv0 | apply G_kk | apply G_bi | apply G_ca | apply G_a1 | apply G_a0 | apply Z_seq | apply Z_set | apply St_s | apply St_0 | apply G_ix | apply G_cm | apply G_tCm | apply Bl_bl | apply Z_if | apply Z_ret | apply G_bl | apply G_tTr | apply G_tNot | apply G_tAnd | apply G_tOr | apply G_isn | apply G_me | apply G_lsv | apply G_tu | apply G_lsm | apply G_nt | apply G_ng | apply G_cm2 | apply G_ie | apply G_sl | apply G_andE | apply G_orE | apply G_p0 | apply G_p1 | apply G_iv | apply G_r1 | apply G_r2 | apply G_lcv | apply G_lcv1 | apply G_lcm | apply G_lcm1 | apply Z_exp | apply Z_pass | apply Z_brk | apply Z_cnt | apply Z_ret0 | apply Z_tup | apply Z_sub | apply Z_while | apply Z_for | apply Z_raise | apply FnP_self | apply Bn_add | apply Bn_sub | apply Bn_and | apply Cp_lt | apply Cp_le | apply Cp_gt | apply Cp_ge | apply Cp_eqi | apply Cp_nei | apply Cp_is | apply Cp_isn | apply Tr_bl | apply Tr_int | apply Tr_lst | apply Tr_tup | apply Tr_non | apply Io_int | apply Bs_int | apply Bs_intb | apply Bs_len | apply Bs_lent | apply Bs_min | apply Bs_max | apply Bs_abs | apply Md_bits | apply Mt_bits | apply It_lst | apply It_tup | apply Br_not | apply Bd_b1 | apply G_di0 | apply Sl_lst | apply Sl_tup | apply Wp_0 | apply Wp_s | apply Sn_0 | apply Sn_s | apply Ct_mk1 | apply Ct_mk | apply Tn_mk | apply G_zen | apply G_zzp | apply G_rvs | apply G_lset | apply G_dct | apply G_k0 | apply G_k1 | apply G_dis | apply En_lst | apply Zp_tup | apply Zp_lst | apply Rv_lst | apply Rv_tup | apply Ky_str | apply Ky_int | apply Md_split | apply Md_join | apply Md_idx | apply Ts_0 | apply Ts_s | apply Cp_eqb | apply Cp_neb | apply Z_try)) | refine Ln_mk (Nat.le_of_ble_eq_true rfl) ?_ | refine Bn_mod (by first | decide | omega) ?_ | refine Bd_bT rfl ?_ | refine Ix_by rfl ?_ | refine Is_by (k := true) rfl ?_ | refine Is_by (k := false) rfl ?_ | refine R1_mk (by first | decide | omega) ?_ | refine Bn_mulS (by omega) (by omega) ?_ | refine Bn_fdivS (by omega) (by omega) ?_ | (apply Ix_ref; assumption; exact rfl) | (apply Sd_ref; assumption; exact rfl; intro _ _ _ _) | (apply Bs_lenr; assumption) | (apply Md_app; assumption) | refine Br_t rfl ?_ | refine Br_f rfl ?_ | refine Br_t (decide_eq_true (by omega)) ?_ | refine Br_f (decide_eq_false (by omega)) ?_ | (with_reducible refine Br_dec (fun _ => ?_) (fun _ => ?_)) | fail))
        exact ⟨rfl, by simp [List.filter, hcall]⟩
      | false =>
        obtain ⟨x, ⟨d, q1, rfl⟩, q2⟩ := fst_call (S := S3) (m := m) (PB := fun k => k = false) hcall
        obtain ⟨k, q3, rfl⟩ := q2.out
        (repeat' (first | refine Ix_by q1 ?_ | refine Cp_by q3 ?_ | (with_reducible (first | apply G_vvs | apply G_vv0 | apply G_kk | apply G_bi | apply G_ca | apply G_a1 | apply G_a0 | apply Z_seq | apply Z_set | apply St_s | apply St_0 | apply G_ix | apply G_cm | apply G_tCm | apply Bl_bl | apply Z_if | apply Z_ret | apply G_bl | apply G_tTr | apply G_tNot | apply G_tAnd | apply G_tOr | apply G_isn | apply G_me | apply G_lsv | apply G_tu | apply G_lsm | apply G_nt | apply G_ng | apply G_cm2 | apply G_ie | apply G_sl | apply G_andE | apply G_orE | apply G_p0 | apply G_p1 | apply G_iv | apply G_r1 | apply G_r2 | apply G_lcv | apply G_lcv1 | apply G_lcm | apply G_lcm1 | apply Z_exp | apply Z_pass | apply Z_brk | apply Z_cnt | apply Z_ret0 | apply Z_tup | apply Z_sub | apply Z_while | apply Z_for | apply Z_raise | apply FnP_self | apply Bn_add | apply Bn_sub | apply Bn_and | apply Cp_lt | apply Cp_le | apply Cp_gt | apply Cp_ge | apply Cp_eqi | apply Cp_nei | apply Cp_is | apply Cp_isn | apply Tr_bl | apply Tr_int | apply Tr_lst | apply Tr_tup | apply Tr_non | apply Io_int | apply Bs_int | apply Bs_intb | apply Bs_len | apply Bs_lent | apply Bs_min | apply Bs_max | apply Bs_abs | apply Md_bits | apply Mt_bits | apply It_lst | apply It_tup | apply Br_not | apply Bd_b1 | apply G_di0 | apply Sl_lst | apply Sl_tup | apply Wp_0 | apply Wp_s | apply Sn_0 | apply Sn_s | apply Ct_mk1 | apply Ct_mk | apply Tn_mk | apply G_zen | apply G_zzp | apply G_rvs | apply G_lset | apply G_dct | apply G_k0 | apply G_k1 | apply G_dis | apply En_lst | apply Zp_tup | apply Zp_lst | apply Rv_lst | apply Rv_tup | apply Ky_str | apply Ky_int | apply Md_split | apply Md_join | apply Md_idx | apply Ts_0 | apply Ts_s | apply Cp_eqb | apply Cp_neb | apply Z_try)) | refine Ln_mk (Nat.le_of_ble_eq_true rfl) ?_ | refine Bn_mod (by first | decide | omega) ?_ | refine Bd_bT rfl ?_ | refine Ix_by rfl ?_ | refine Is_by (k := true) rfl ?_ | refine Is_by (k := false) rfl ?_ | refine R1_mk (by first | decide | omega) ?_ | refine Bn_mulS (by omega) (by omega) ?_ | refine Bn_fdivS (by omega) (by omega) ?_ | (apply Ix_ref; assumption; exact rfl) | (apply Sd_ref; assumption; exact rfl; intro _ _ _ _) | (apply Bs_lenr; assumption) | (apply Md_app; assumption) | refine Br_t rfl ?_ | refine Br_f rfl ?_ | refine Br_t (decide_eq_true (by omega)) ?_ | refine Br_f (decide_eq_false (by omega)) ?_ | (with_reducible refine Br_dec (fun _ => ?_) (fun _ => ?_)) | fail))
        exact ⟨rfl, by simp [List.filter, hcall]⟩
    · rintro acc S3 ⟨rfl, rfl⟩
      have : b.take (b.map dSm).length = b := List.take_of_length_le (by rw [List.length_map]; exact Nat.le_refl _)
      rw [this]
      (repeat' (first | refine Md_app g2 ?_ | (with_reducible (first | apply G_vvs | apply G_vv0 | apply G_kk | apply G_bi | apply G_ca | apply G_a1 | apply G_a0 | apply Z_seq | apply Z_set | apply St_s | apply St_0 | apply G_ix | apply G_cm | apply G_tCm | apply Bl_bl | apply Z_if | apply Z_ret | apply G_bl | apply G_tTr | apply G_tNot | apply G_tAnd | apply G_tOr | apply G_isn | apply G_me | apply G_lsv | apply G_tu | apply G_lsm | apply G_nt | apply G_ng | apply G_cm2 | apply G_ie | apply G_sl | apply G_andE | apply G_orE | apply G_p0 | apply G_p1 | apply G_iv | apply G_r1 | apply G_r2 | apply G_lcv | apply G_lcv1 | apply G_lcm | apply G_lcm1 | apply Z_exp | apply Z_pass | apply Z_brk | apply Z_cnt | apply Z_ret0 | apply Z_tup | apply Z_sub | apply Z_while | apply Z_for | apply Z_raise | apply FnP_self | apply Bn_add | apply Bn_sub | apply Bn_and | apply Cp_lt | apply Cp_le | apply Cp_gt | apply Cp_ge | apply Cp_eqi | apply Cp_nei | apply Cp_is | apply Cp_isn | apply Tr_bl | apply Tr_int | apply Tr_lst | apply Tr_tup | apply Tr_non | apply Io_int | apply Bs_int | apply Bs_intb | apply Bs_len | apply Bs_lent | apply Bs_min | apply Bs_max | apply Bs_abs | apply Md_bits | apply Mt_bits | apply It_lst | apply It_tup | apply Br_not | apply Bd_b1 | apply G_di0 | apply Sl_lst | apply Sl_tup | apply Wp_0 | apply Wp_s | apply Sn_0 | apply Sn_s | apply Ct_mk1 | apply Ct_mk | apply Tn_mk | apply G_zen | apply G_zzp | apply G_rvs | apply G_lset | apply G_dct | apply G_k0 | apply G_k1 | apply G_dis | apply En_lst | apply Zp_tup | apply Zp_lst | apply Rv_lst | apply Rv_tup | apply Ky_str | apply Ky_int | apply Md_split | apply Md_join | apply Md_idx | apply Ts_0 | apply Ts_s | apply Cp_eqb | apply Cp_neb | apply Z_try)) | refine Ln_mk (Nat.le_of_ble_eq_true rfl) ?_ | refine Bn_mod (by first | decide | omega) ?_ | refine Bd_bT rfl ?_ | refine Ix_by rfl ?_ | refine Is_by (k := true) rfl ?_ | refine Is_by (k := false) rfl ?_ | refine R1_mk (by first | decide | omega) ?_ | refine Bn_mulS (by omega) (by omega) ?_ | refine Bn_fdivS (by omega) (by omega) ?_ | (apply Ix_ref; assumption; exact rfl) | (apply Sd_ref; assumption; exact rfl; intro _ _ _ _) | (apply Bs_lenr; assumption) | (apply Md_app; assumption) | refine Br_t rfl ?_ | refine Br_f rfl ?_ | refine Br_t (decide_eq_true (by omega)) ?_ | refine Br_f (decide_eq_false (by omega)) ?_ | (with_reducible refine Br_dec (fun _ => ?_) (fun _ => ?_)) | fail))
      refine statement_w hs2 (by omega) h1 n1 (fun m S4 om cm hs4 l4 o4 => ?_)
      have g4 : S4[S.length]? = some (.lst (b.map dSm)) := by rw [o4 _ (by omega)]; exact g2
      (repeat' (first | (with_reducible (first | apply G_vvs | apply G_vv0 | apply G_kk | apply G_bi | apply G_ca | apply G_a1 | apply G_a0 | apply Z_seq | apply Z_set | apply St_s | apply St_0 | apply G_ix | apply G_cm | apply G_tCm | apply Bl_bl | apply Z_if | apply Z_ret | apply G_bl | apply G_tTr | apply G_tNot | apply G_tAnd | apply G_tOr | apply G_isn | apply G_me | apply G_lsv | apply G_tu | apply G_lsm | apply G_nt | apply G_ng | apply G_cm2 | apply G_ie | apply G_sl | apply G_andE | apply G_orE | apply G_p0 | apply G_p1 | apply G_iv | apply G_r1 | apply G_r2 | apply G_lcv | apply G_lcv1 | apply G_lcm | apply G_lcm1 | apply Z_exp | apply Z_pass | apply Z_brk | apply Z_cnt | apply Z_ret0 | apply Z_tup | apply Z_sub | apply Z_while | apply Z_for | apply Z_raise | apply FnP_self | apply Bn_add | apply Bn_sub | apply Bn_and | apply Cp_lt | apply Cp_le | apply Cp_gt | apply Cp_ge | apply Cp_eqi | apply Cp_nei | apply Cp_is | apply Cp_isn | apply Tr_bl | apply Tr_int | apply Tr_lst | apply Tr_tup | apply Tr_non | apply Io_int | apply Bs_int | apply Bs_intb | apply Bs_len | apply Bs_lent | apply Bs_min | apply Bs_max | apply Bs_abs | apply Md_bits | apply Mt_bits | apply It_lst | apply It_tup | apply Br_not | apply Bd_b1 | apply G_di0 | apply Sl_lst | apply Sl_tup | apply Wp_0 | apply Wp_s | apply Sn_0 | apply Sn_s | apply Ct_mk1 | apply Ct_mk | apply Tn_mk | apply G_zen | apply G_zzp | apply G_rvs | apply G_lset | apply G_dct | apply G_k0 | apply G_k1 | apply G_dis | apply En_lst | apply Zp_tup | apply Zp_lst | apply Rv_lst | apply Rv_tup | apply Ky_str | apply Ky_int | apply Md_split | apply Md_join | apply Md_idx | apply Ts_0 | apply Ts_s | apply Cp_eqb | apply Cp_neb | apply Z_try)) | refine Ln_mk (Nat.le_of_ble_eq_true rfl) ?_ | refine Bn_mod (by first | decide | omega) ?_ | refine Bd_bT rfl ?_ | refine Ix_by rfl ?_ | refine Is_by (k := true) rfl ?_ | refine Is_by (k := false) rfl ?_ | refine R1_mk (by first | decide | omega) ?_ | refine Bn_mulS (by omega) (by omega) ?_ | refine Bn_fdivS (by omega) (by omega) ?_ | (apply Ix_ref; assumption; exact rfl) | (apply Sd_ref; assumption; exact rfl; intro _ _ _ _) | (apply Bs_lenr; assumption) | (apply Md_app; assumption) | refine Br_t rfl ?_ | refine Br_f rfl ?_ | refine Br_t (decide_eq_true (by omega)) ?_ | refine Br_f (decide_eq_false (by omega)) ?_ | (with_reducible refine Br_dec (fun _ => ?_) (fun _ => ?_)) | fail))
      refine Mt_app g4 (by rw [List.length_map]; omega) (fun S5 g5 l5 o5 => ?_)
      rw [List.length_map] at cm
      have hs5 : Src S5 l (k + 1 + 5 * ((i + 1 : Nat) : Int)) := by
        obtain ⟨c, a, q1, q2, q3⟩ := hs4.out
        exact ⟨⟨c, a, by rw [o5 l (by omega)]; exact q1, q2, by omega⟩⟩
      refine ⟨b ++ [m], _, _, rfl, hs5, by omega, by rw [List.map_append]; exact g5, by rw [List.length_append, bl]; rfl, fun x hx => ?_, ?_, ⟨by omega, fun i hi hil => by rw [o5 i (by omega), o4 i hi, K2.get i hi hil]⟩⟩
      · rcases List.mem_append.mp hx with z | z
        · exact ba x z
        · rw [List.mem_singleton.mp z]; exact om
      · rw [filter_snoc]
        cases hc : isCall m with
        | true =>
          have := cm hc
          rw [if_pos rfl]; omega
        | false => rw [if_neg (by decide)]; omega
  · rintro σ S2 ⟨b, x4, x5, rfl, hs2, l2, g2, bl, ba, b3, K2⟩
    rw [range_len] at bl hs2
    (repeat' (first | refine Bs_tupr g2 ?_ | (with_reducible (first | apply G_vvs | apply G_vv0 | apply G_kk | apply G_bi | apply G_ca | apply G_a1 | apply G_a0 | apply Z_seq | apply Z_set | apply St_s | apply St_0 | apply G_ix | apply G_cm | apply G_tCm | apply Bl_bl | apply Z_if | apply Z_ret | apply G_bl | apply G_tTr | apply G_tNot | apply G_tAnd | apply G_tOr | apply G_isn | apply G_me | apply G_lsv | apply G_tu | apply G_lsm | apply G_nt | apply G_ng | apply G_cm2 | apply G_ie | apply G_sl | apply G_andE | apply G_orE | apply G_p0 | apply G_p1 | apply G_iv | apply G_r1 | apply G_r2 | apply G_lcv | apply G_lcv1 | apply G_lcm | apply G_lcm1 | apply Z_exp | apply Z_pass | apply Z_brk | apply Z_cnt | apply Z_ret0 | apply Z_tup | apply Z_sub | apply Z_while | apply Z_for | apply Z_raise | apply FnP_self | apply Bn_add | apply Bn_sub | apply Bn_and | apply Cp_lt | apply Cp_le | apply Cp_gt | apply Cp_ge | apply Cp_eqi | apply Cp_nei | apply Cp_is | apply Cp_isn | apply Tr_bl | apply Tr_int | apply Tr_lst | apply Tr_tup | apply Tr_non | apply Io_int | apply Bs_int | apply Bs_intb | apply Bs_len | apply Bs_lent | apply Bs_min | apply Bs_max | apply Bs_abs | apply Md_bits | apply Mt_bits | apply It_lst | apply It_tup | apply Br_not | apply Bd_b1 | apply G_di0 | apply Sl_lst | apply Sl_tup | apply Wp_0 | apply Wp_s | apply Sn_0 | apply Sn_s | apply Ct_mk1 | apply Ct_mk | apply Tn_mk | apply G_zen | apply G_zzp | apply G_rvs | apply G_lset | apply G_dct | apply G_k0 | apply G_k1 | apply G_dis | apply En_lst | apply Zp_tup | apply Zp_lst | apply Rv_lst | apply Rv_tup | apply Ky_str | apply Ky_int | apply Md_split | apply Md_join | apply Md_idx | apply Ts_0 | apply Ts_s | apply Cp_eqb | apply Cp_neb | apply Z_try)) | refine Ln_mk (Nat.le_of_ble_eq_true rfl) ?_ | refine Bn_mod (by first | decide | omega) ?_ | refine Bd_bT rfl ?_ | refine Ix_by rfl ?_ | refine Is_by (k := true) rfl ?_ | refine Is_by (k := false) rfl ?_ | refine R1_mk (by first | decide | omega) ?_ | refine Bn_mulS (by omega) (by omega) ?_ | refine Bn_fdivS (by omega) (by omega) ?_ | (apply Ix_ref; assumption; exact rfl) | (apply Sd_ref; assumption; exact rfl; intro _ _ _ _) | (apply Bs_lenr; assumption) | (apply Md_app; assumption) | refine Br_t rfl ?_ | refine Br_f rfl ?_ | refine Br_t (decide_eq_true (by omega)) ?_ | refine Br_f (decide_eq_false (by omega)) ?_ | (with_reducible refine Br_dec (fun _ => ?_) (fun _ => ?_)) | fail))
    have ob : okBody hs ns b := ⟨by omega, ba, b3⟩
    refine Fn_any (hQ b S2 ob (hs2.mono (by omega)) K2) (fun _ => ?_)
    exact hQ b _ ob ((hs2.mono (by omega)).take lt) (K2.take (Nat.le_refl _))
theorem works_w {S : Store} {l : Nat} {k : Int} (h : Src S l k) (hk : k ≤ 10000) {Qd : D → Store → Prop} {E : EX}
    (hQ : ∀ (hs : List (List Nat)) (ws : List Wk) S', okWs hs ws → 1 ≤ hs.length → hs.length ≤ 4 → 1 ≤ ws.length → Src S' l (k + 600) → Kp l S S' → Qd (.tup [.lst (hs.map dS), .lst (ws.map dWork)]) S') : W (m__law_works [.ref l] S) Qd E := by
  have lt := h.lt
  apply w__law_works
  unfold z__law_works
  (repeat' (first | (with_reducible (first | apply G_vvs | apply G_vv0 | apply G_kk | apply G_bi | apply G_ca | apply G_a1 | apply G_a0 | apply Z_seq | apply Z_set | apply St_s | apply St_0 | apply G_ix | apply G_cm | apply G_tCm | apply Bl_bl | apply Z_if | apply Z_ret | apply G_bl | apply G_tTr | apply G_tNot | apply G_tAnd | apply G_tOr | apply G_isn | apply G_me | apply G_lsv | apply G_tu | apply G_lsm | apply G_nt | apply G_ng | apply G_cm2 | apply G_ie | apply G_sl | apply G_andE | apply G_orE | apply G_p0 | apply G_p1 | apply G_iv | apply G_r1 | apply G_r2 | apply G_lcv | apply G_lcv1 | apply G_lcm | apply G_lcm1 | apply Z_exp | apply Z_pass | apply Z_brk | apply Z_cnt | apply Z_ret0 | apply Z_tup | apply Z_sub | apply Z_while | apply Z_for | apply Z_raise | apply FnP_self | apply Bn_add | apply Bn_sub | apply Bn_and | apply Cp_lt | apply Cp_le | apply Cp_gt | apply Cp_ge | apply Cp_eqi | apply Cp_nei | apply Cp_is | apply Cp_isn | apply Tr_bl | apply Tr_int | apply Tr_lst | apply Tr_tup | apply Tr_non | apply Io_int | apply Bs_int | apply Bs_intb | apply Bs_len | apply Bs_lent | apply Bs_min | apply Bs_max | apply Bs_abs | apply Md_bits | apply Mt_bits | apply It_lst | apply It_tup | apply Br_not | apply Bd_b1 | apply G_di0 | apply Sl_lst | apply Sl_tup | apply Wp_0 | apply Wp_s | apply Sn_0 | apply Sn_s | apply Ct_mk1 | apply Ct_mk | apply Tn_mk | apply G_zen | apply G_zzp | apply G_rvs | apply G_lset | apply G_dct | apply G_k0 | apply G_k1 | apply G_dis | apply En_lst | apply Zp_tup | apply Zp_lst | apply Rv_lst | apply Rv_tup | apply Ky_str | apply Ky_int | apply Md_split | apply Md_join | apply Md_idx | apply Ts_0 | apply Ts_s | apply Cp_eqb | apply Cp_neb | apply Z_try)) | refine Ln_mk (Nat.le_of_ble_eq_true rfl) ?_ | refine Bn_mod (by first | decide | omega) ?_ | refine Bd_bT rfl ?_ | refine Ix_by rfl ?_ | refine Is_by (k := true) rfl ?_ | refine Is_by (k := false) rfl ?_ | refine R1_mk (by first | decide | omega) ?_ | refine Bn_mulS (by omega) (by omega) ?_ | refine Bn_fdivS (by omega) (by omega) ?_ | (apply Ix_ref; assumption; exact rfl) | (apply Sd_ref; assumption; exact rfl; intro _ _ _ _) | (apply Bs_lenr; assumption) | (apply Md_app; assumption) | refine Br_t rfl ?_ | refine Br_f rfl ?_ | refine Br_t (decide_eq_true (by omega)) ?_ | refine Br_f (decide_eq_false (by omega)) ?_ | (with_reducible refine Br_dec (fun _ => ?_) (fun _ => ?_)) | fail))
  refine draw_w h (by omega) (by decide) (by decide) (fun n1 S1 a0 a1 hs1 l1 o1 => ?_)
  (repeat' (first | (with_reducible (first | apply G_vvs | apply G_vv0 | apply G_kk | apply G_bi | apply G_ca | apply G_a1 | apply G_a0 | apply Z_seq | apply Z_set | apply St_s | apply St_0 | apply G_ix | apply G_cm | apply G_tCm | apply Bl_bl | apply Z_if | apply Z_ret | apply G_bl | apply G_tTr | apply G_tNot | apply G_tAnd | apply G_tOr | apply G_isn | apply G_me | apply G_lsv | apply G_tu | apply G_lsm | apply G_nt | apply G_ng | apply G_cm2 | apply G_ie | apply G_sl | apply G_andE | apply G_orE | apply G_p0 | apply G_p1 | apply G_iv | apply G_r1 | apply G_r2 | apply G_lcv | apply G_lcv1 | apply G_lcm | apply G_lcm1 | apply Z_exp | apply Z_pass | apply Z_brk | apply Z_cnt | apply Z_ret0 | apply Z_tup | apply Z_sub | apply Z_while | apply Z_for | apply Z_raise | apply FnP_self | apply Bn_add | apply Bn_sub | apply Bn_and | apply Cp_lt | apply Cp_le | apply Cp_gt | apply Cp_ge | apply Cp_eqi | apply Cp_nei | apply Cp_is | apply Cp_isn | apply Tr_bl | apply Tr_int | apply Tr_lst | apply Tr_tup | apply Tr_non | apply Io_int | apply Bs_int | apply Bs_intb | apply Bs_len | apply Bs_lent | apply Bs_min | apply Bs_max | apply Bs_abs | apply Md_bits | apply Mt_bits | apply It_lst | apply It_tup | apply Br_not | apply Bd_b1 | apply G_di0 | apply Sl_lst | apply Sl_tup | apply Wp_0 | apply Wp_s | apply Sn_0 | apply Sn_s | apply Ct_mk1 | apply Ct_mk | apply Tn_mk | apply G_zen | apply G_zzp | apply G_rvs | apply G_lset | apply G_dct | apply G_k0 | apply G_k1 | apply G_dis | apply En_lst | apply Zp_tup | apply Zp_lst | apply Rv_lst | apply Rv_tup | apply Ky_str | apply Ky_int | apply Md_split | apply Md_join | apply Md_idx | apply Ts_0 | apply Ts_s | apply Cp_eqb | apply Cp_neb | apply Z_try)) | refine Ln_mk (Nat.le_of_ble_eq_true rfl) ?_ | refine Bn_mod (by first | decide | omega) ?_ | refine Bd_bT rfl ?_ | refine Ix_by rfl ?_ | refine Is_by (k := true) rfl ?_ | refine Is_by (k := false) rfl ?_ | refine R1_mk (by first | decide | omega) ?_ | refine Bn_mulS (by omega) (by omega) ?_ | refine Bn_fdivS (by omega) (by omega) ?_ | (apply Ix_ref; assumption; exact rfl) | (apply Sd_ref; assumption; exact rfl; intro _ _ _ _) | (apply Bs_lenr; assumption) | (apply Md_app; assumption) | refine Br_t rfl ?_ | refine Br_f rfl ?_ | refine Br_t (decide_eq_true (by omega)) ?_ | refine Br_f (decide_eq_false (by omega)) ?_ | (with_reducible refine Br_dec (fun _ => ?_) (fun _ => ?_)) | fail))
  refine names_w hs1 (by omega) (by omega) (by omega) (fun hs S2 nd2 ok2 p2 q2 hs2 l2 o2 => ?_)
  (repeat' (first | (with_reducible (first | apply G_vvs | apply G_vv0 | apply G_kk | apply G_bi | apply G_ca | apply G_a1 | apply G_a0 | apply Z_seq | apply Z_set | apply St_s | apply St_0 | apply G_ix | apply G_cm | apply G_tCm | apply Bl_bl | apply Z_if | apply Z_ret | apply G_bl | apply G_tTr | apply G_tNot | apply G_tAnd | apply G_tOr | apply G_isn | apply G_me | apply G_lsv | apply G_tu | apply G_lsm | apply G_nt | apply G_ng | apply G_cm2 | apply G_ie | apply G_sl | apply G_andE | apply G_orE | apply G_p0 | apply G_p1 | apply G_iv | apply G_r1 | apply G_r2 | apply G_lcv | apply G_lcv1 | apply G_lcm | apply G_lcm1 | apply Z_exp | apply Z_pass | apply Z_brk | apply Z_cnt | apply Z_ret0 | apply Z_tup | apply Z_sub | apply Z_while | apply Z_for | apply Z_raise | apply FnP_self | apply Bn_add | apply Bn_sub | apply Bn_and | apply Cp_lt | apply Cp_le | apply Cp_gt | apply Cp_ge | apply Cp_eqi | apply Cp_nei | apply Cp_is | apply Cp_isn | apply Tr_bl | apply Tr_int | apply Tr_lst | apply Tr_tup | apply Tr_non | apply Io_int | apply Bs_int | apply Bs_intb | apply Bs_len | apply Bs_lent | apply Bs_min | apply Bs_max | apply Bs_abs | apply Md_bits | apply Mt_bits | apply It_lst | apply It_tup | apply Br_not | apply Bd_b1 | apply G_di0 | apply Sl_lst | apply Sl_tup | apply Wp_0 | apply Wp_s | apply Sn_0 | apply Sn_s | apply Ct_mk1 | apply Ct_mk | apply Tn_mk | apply G_zen | apply G_zzp | apply G_rvs | apply G_lset | apply G_dct | apply G_k0 | apply G_k1 | apply G_dis | apply En_lst | apply Zp_tup | apply Zp_lst | apply Rv_lst | apply Rv_tup | apply Ky_str | apply Ky_int | apply Md_split | apply Md_join | apply Md_idx | apply Ts_0 | apply Ts_s | apply Cp_eqb | apply Cp_neb | apply Z_try)) | refine Ln_mk (Nat.le_of_ble_eq_true rfl) ?_ | refine Bn_mod (by first | decide | omega) ?_ | refine Bd_bT rfl ?_ | refine Ix_by rfl ?_ | refine Is_by (k := true) rfl ?_ | refine Is_by (k := false) rfl ?_ | refine R1_mk (by first | decide | omega) ?_ | refine Bn_mulS (by omega) (by omega) ?_ | refine Bn_fdivS (by omega) (by omega) ?_ | (apply Ix_ref; assumption; exact rfl) | (apply Sd_ref; assumption; exact rfl; intro _ _ _ _) | (apply Bs_lenr; assumption) | (apply Md_app; assumption) | refine Br_t rfl ?_ | refine Br_f rfl ?_ | refine Br_t (decide_eq_true (by omega)) ?_ | refine Br_f (decide_eq_false (by omega)) ?_ | (with_reducible refine Br_dec (fun _ => ?_) (fun _ => ?_)) | fail))
  refine draw_w hs2 (by omega) (by decide) (by decide) (fun n2 S3 b0 b1 hs3 l3 o3 => ?_)
  (repeat' (first | (with_reducible (first | apply G_vvs | apply G_vv0 | apply G_kk | apply G_bi | apply G_ca | apply G_a1 | apply G_a0 | apply Z_seq | apply Z_set | apply St_s | apply St_0 | apply G_ix | apply G_cm | apply G_tCm | apply Bl_bl | apply Z_if | apply Z_ret | apply G_bl | apply G_tTr | apply G_tNot | apply G_tAnd | apply G_tOr | apply G_isn | apply G_me | apply G_lsv | apply G_tu | apply G_lsm | apply G_nt | apply G_ng | apply G_cm2 | apply G_ie | apply G_sl | apply G_andE | apply G_orE | apply G_p0 | apply G_p1 | apply G_iv | apply G_r1 | apply G_r2 | apply G_lcv | apply G_lcv1 | apply G_lcm | apply G_lcm1 | apply Z_exp | apply Z_pass | apply Z_brk | apply Z_cnt | apply Z_ret0 | apply Z_tup | apply Z_sub | apply Z_while | apply Z_for | apply Z_raise | apply FnP_self | apply Bn_add | apply Bn_sub | apply Bn_and | apply Cp_lt | apply Cp_le | apply Cp_gt | apply Cp_ge | apply Cp_eqi | apply Cp_nei | apply Cp_is | apply Cp_isn | apply Tr_bl | apply Tr_int | apply Tr_lst | apply Tr_tup | apply Tr_non | apply Io_int | apply Bs_int | apply Bs_intb | apply Bs_len | apply Bs_lent | apply Bs_min | apply Bs_max | apply Bs_abs | apply Md_bits | apply Mt_bits | apply It_lst | apply It_tup | apply Br_not | apply Bd_b1 | apply G_di0 | apply Sl_lst | apply Sl_tup | apply Wp_0 | apply Wp_s | apply Sn_0 | apply Sn_s | apply Ct_mk1 | apply Ct_mk | apply Tn_mk | apply G_zen | apply G_zzp | apply G_rvs | apply G_lset | apply G_dct | apply G_k0 | apply G_k1 | apply G_dis | apply En_lst | apply Zp_tup | apply Zp_lst | apply Rv_lst | apply Rv_tup | apply Ky_str | apply Ky_int | apply Md_split | apply Md_join | apply Md_idx | apply Ts_0 | apply Ts_s | apply Cp_eqb | apply Cp_neb | apply Z_try)) | refine Ln_mk (Nat.le_of_ble_eq_true rfl) ?_ | refine Bn_mod (by first | decide | omega) ?_ | refine Bd_bT rfl ?_ | refine Ix_by rfl ?_ | refine Is_by (k := true) rfl ?_ | refine Is_by (k := false) rfl ?_ | refine R1_mk (by first | decide | omega) ?_ | refine Bn_mulS (by omega) (by omega) ?_ | refine Bn_fdivS (by omega) (by omega) ?_ | (apply Ix_ref; assumption; exact rfl) | (apply Sd_ref; assumption; exact rfl; intro _ _ _ _) | (apply Bs_lenr; assumption) | (apply Md_app; assumption) | refine Br_t rfl ?_ | refine Br_f rfl ?_ | refine Br_t (decide_eq_true (by omega)) ?_ | refine Br_f (decide_eq_false (by omega)) ?_ | (with_reducible refine Br_dec (fun _ => ?_) (fun _ => ?_)) | fail))
  refine names_w hs3 (by omega) (by omega) (by omega) (fun ns S4 nd4 ok4 p4 q4 hs4 l4 o4 => ?_)
  have K4 : Kp l S S4 := Kp.same (by omega) (fun i hi => by rw [o4 i hi, o3 i hi, o2 i hi, o1 i hi])
  (repeat' (first | (with_reducible (first | apply G_vvs | apply G_vv0 | apply G_kk | apply G_bi | apply G_ca | apply G_a1 | apply G_a0 | apply Z_seq | apply Z_set | apply St_s | apply St_0 | apply G_ix | apply G_cm | apply G_tCm | apply Bl_bl | apply Z_if | apply Z_ret | apply G_bl | apply G_tTr | apply G_tNot | apply G_tAnd | apply G_tOr | apply G_isn | apply G_me | apply G_lsv | apply G_tu | apply G_lsm | apply G_nt | apply G_ng | apply G_cm2 | apply G_ie | apply G_sl | apply G_andE | apply G_orE | apply G_p0 | apply G_p1 | apply G_iv | apply G_r1 | apply G_r2 | apply G_lcv | apply G_lcv1 | apply G_lcm | apply G_lcm1 | apply Z_exp | apply Z_pass | apply Z_brk | apply Z_cnt | apply Z_ret0 | apply Z_tup | apply Z_sub | apply Z_while | apply Z_for | apply Z_raise | apply FnP_self | apply Bn_add | apply Bn_sub | apply Bn_and | apply Cp_lt | apply Cp_le | apply Cp_gt | apply Cp_ge | apply Cp_eqi | apply Cp_nei | apply Cp_is | apply Cp_isn | apply Tr_bl | apply Tr_int | apply Tr_lst | apply Tr_tup | apply Tr_non | apply Io_int | apply Bs_int | apply Bs_intb | apply Bs_len | apply Bs_lent | apply Bs_min | apply Bs_max | apply Bs_abs | apply Md_bits | apply Mt_bits | apply It_lst | apply It_tup | apply Br_not | apply Bd_b1 | apply G_di0 | apply Sl_lst | apply Sl_tup | apply Wp_0 | apply Wp_s | apply Sn_0 | apply Sn_s | apply Ct_mk1 | apply Ct_mk | apply Tn_mk | apply G_zen | apply G_zzp | apply G_rvs | apply G_lset | apply G_dct | apply G_k0 | apply G_k1 | apply G_dis | apply En_lst | apply Zp_tup | apply Zp_lst | apply Rv_lst | apply Rv_tup | apply Ky_str | apply Ky_int | apply Md_split | apply Md_join | apply Md_idx | apply Ts_0 | apply Ts_s | apply Cp_eqb | apply Cp_neb | apply Z_try)) | refine Ln_mk (Nat.le_of_ble_eq_true rfl) ?_ | refine Bn_mod (by first | decide | omega) ?_ | refine Bd_bT rfl ?_ | refine Ix_by rfl ?_ | refine Is_by (k := true) rfl ?_ | refine Is_by (k := false) rfl ?_ | refine R1_mk (by first | decide | omega) ?_ | refine Bn_mulS (by omega) (by omega) ?_ | refine Bn_fdivS (by omega) (by omega) ?_ | (apply Ix_ref; assumption; exact rfl) | (apply Sd_ref; assumption; exact rfl; intro _ _ _ _) | (apply Bs_lenr; assumption) | (apply Md_app; assumption) | refine Br_t rfl ?_ | refine Br_f rfl ?_ | refine Br_t (decide_eq_true (by omega)) ?_ | refine Br_f (decide_eq_false (by omega)) ?_ | (with_reducible refine Br_dec (fun _ => ?_) (fun _ => ?_)) | fail))
  refine Cf_inv (fun i acc S' => Src S' l (k + 305 + 40 * i) ∧ Kp l S S' ∧ ∃ ws : List Wk, acc = ws.map dWork ∧ nms ws = ns.take i ∧ ∀ w ∈ ws, okBody hs ns w.2) (by show (ns.map dS).length < 100000; rw [List.length_map]; omega) ⟨hs4.mono (by omega), K4, [], rfl, rfl, fun w hw => by simp at hw⟩ ?_ ?_
  · rintro i d acc S5 hd ⟨hs5, K5, ws, rfl, nw, bw⟩ _
    have hd : (ns.map dS)[i]? = some d := hd
    rw [List.getElem?_map, Option.map_eq_some_iff] at hd
    obtain ⟨a, ha, rfl⟩ := hd
    have hi : i < ns.length := (List.getElem?_eq_some_iff.mp ha).1
    (repeat' (first | (with_reducible (first | apply G_vvs | apply G_vv0 | apply G_kk | apply G_bi | apply G_ca | apply G_a1 | apply G_a0 | apply Z_seq | apply Z_set | apply St_s | apply St_0 | apply G_ix | apply G_cm | apply G_tCm | apply Bl_bl | apply Z_if | apply Z_ret | apply G_bl | apply G_tTr | apply G_tNot | apply G_tAnd | apply G_tOr | apply G_isn | apply G_me | apply G_lsv | apply G_tu | apply G_lsm | apply G_nt | apply G_ng | apply G_cm2 | apply G_ie | apply G_sl | apply G_andE | apply G_orE | apply G_p0 | apply G_p1 | apply G_iv | apply G_r1 | apply G_r2 | apply G_lcv | apply G_lcv1 | apply G_lcm | apply G_lcm1 | apply Z_exp | apply Z_pass | apply Z_brk | apply Z_cnt | apply Z_ret0 | apply Z_tup | apply Z_sub | apply Z_while | apply Z_for | apply Z_raise | apply FnP_self | apply Bn_add | apply Bn_sub | apply Bn_and | apply Cp_lt | apply Cp_le | apply Cp_gt | apply Cp_ge | apply Cp_eqi | apply Cp_nei | apply Cp_is | apply Cp_isn | apply Tr_bl | apply Tr_int | apply Tr_lst | apply Tr_tup | apply Tr_non | apply Io_int | apply Bs_int | apply Bs_intb | apply Bs_len | apply Bs_lent | apply Bs_min | apply Bs_max | apply Bs_abs | apply Md_bits | apply Mt_bits | apply It_lst | apply It_tup | apply Br_not | apply Bd_b1 | apply G_di0 | apply Sl_lst | apply Sl_tup | apply Wp_0 | apply Wp_s | apply Sn_0 | apply Sn_s | apply Ct_mk1 | apply Ct_mk | apply Tn_mk | apply G_zen | apply G_zzp | apply G_rvs | apply G_lset | apply G_dct | apply G_k0 | apply G_k1 | apply G_dis | apply En_lst | apply Zp_tup | apply Zp_lst | apply Rv_lst | apply Rv_tup | apply Ky_str | apply Ky_int | apply Md_split | apply Md_join | apply Md_idx | apply Ts_0 | apply Ts_s | apply Cp_eqb | apply Cp_neb | apply Z_try)) | refine Ln_mk (Nat.le_of_ble_eq_true rfl) ?_ | refine Bn_mod (by first | decide | omega) ?_ | refine Bd_bT rfl ?_ | refine Ix_by rfl ?_ | refine Is_by (k := true) rfl ?_ | refine Is_by (k := false) rfl ?_ | refine R1_mk (by first | decide | omega) ?_ | refine Bn_mulS (by omega) (by omega) ?_ | refine Bn_fdivS (by omega) (by omega) ?_ | (apply Ix_ref; assumption; exact rfl) | (apply Sd_ref; assumption; exact rfl; intro _ _ _ _) | (apply Bs_lenr; assumption) | (apply Md_app; assumption) | refine Br_t rfl ?_ | refine Br_f rfl ?_ | refine Br_t (decide_eq_true (by omega)) ?_ | refine Br_f (decide_eq_false (by omega)) ?_ | (with_reducible refine Br_dec (fun _ => ?_) (fun _ => ?_)) | fail))
    refine body_w hs5 (by omega) ⟨by omega, by omega⟩ ⟨by omega, by omega⟩ (fun b S6 ob hs6 K6 => ?_)
    (repeat' (first | (with_reducible (first | apply G_vvs | apply G_vv0 | apply G_kk | apply G_bi | apply G_ca | apply G_a1 | apply G_a0 | apply Z_seq | apply Z_set | apply St_s | apply St_0 | apply G_ix | apply G_cm | apply G_tCm | apply Bl_bl | apply Z_if | apply Z_ret | apply G_bl | apply G_tTr | apply G_tNot | apply G_tAnd | apply G_tOr | apply G_isn | apply G_me | apply G_lsv | apply G_tu | apply G_lsm | apply G_nt | apply G_ng | apply G_cm2 | apply G_ie | apply G_sl | apply G_andE | apply G_orE | apply G_p0 | apply G_p1 | apply G_iv | apply G_r1 | apply G_r2 | apply G_lcv | apply G_lcv1 | apply G_lcm | apply G_lcm1 | apply Z_exp | apply Z_pass | apply Z_brk | apply Z_cnt | apply Z_ret0 | apply Z_tup | apply Z_sub | apply Z_while | apply Z_for | apply Z_raise | apply FnP_self | apply Bn_add | apply Bn_sub | apply Bn_and | apply Cp_lt | apply Cp_le | apply Cp_gt | apply Cp_ge | apply Cp_eqi | apply Cp_nei | apply Cp_is | apply Cp_isn | apply Tr_bl | apply Tr_int | apply Tr_lst | apply Tr_tup | apply Tr_non | apply Io_int | apply Bs_int | apply Bs_intb | apply Bs_len | apply Bs_lent | apply Bs_min | apply Bs_max | apply Bs_abs | apply Md_bits | apply Mt_bits | apply It_lst | apply It_tup | apply Br_not | apply Bd_b1 | apply G_di0 | apply Sl_lst | apply Sl_tup | apply Wp_0 | apply Wp_s | apply Sn_0 | apply Sn_s | apply Ct_mk1 | apply Ct_mk | apply Tn_mk | apply G_zen | apply G_zzp | apply G_rvs | apply G_lset | apply G_dct | apply G_k0 | apply G_k1 | apply G_dis | apply En_lst | apply Zp_tup | apply Zp_lst | apply Rv_lst | apply Rv_tup | apply Ky_str | apply Ky_int | apply Md_split | apply Md_join | apply Md_idx | apply Ts_0 | apply Ts_s | apply Cp_eqb | apply Cp_neb | apply Z_try)) | refine Ln_mk (Nat.le_of_ble_eq_true rfl) ?_ | refine Bn_mod (by first | decide | omega) ?_ | refine Bd_bT rfl ?_ | refine Ix_by rfl ?_ | refine Is_by (k := true) rfl ?_ | refine Is_by (k := false) rfl ?_ | refine R1_mk (by first | decide | omega) ?_ | refine Bn_mulS (by omega) (by omega) ?_ | refine Bn_fdivS (by omega) (by omega) ?_ | (apply Ix_ref; assumption; exact rfl) | (apply Sd_ref; assumption; exact rfl; intro _ _ _ _) | (apply Bs_lenr; assumption) | (apply Md_app; assumption) | refine Br_t rfl ?_ | refine Br_f rfl ?_ | refine Br_t (decide_eq_true (by omega)) ?_ | refine Br_f (decide_eq_false (by omega)) ?_ | (with_reducible refine Br_dec (fun _ => ?_) (fun _ => ?_)) | fail))
    refine ⟨hs6.mono (by omega), K5.trans K6, ws ++ [(a, b)], by rw [List.map_append]; rfl, ?_, ?_⟩
    · unfold nms at nw ⊢
      rw [List.map_append, nw, List.take_succ, ha]; rfl
    · intro w hw
      rcases List.mem_append.mp hw with z | z
      · exact bw w z
      · rw [List.mem_singleton.mp z]; exact ob
  · rintro acc S5 ⟨hs5, K5, ws, rfl, nw, bw⟩
    have tl : (Items.mk (ns.map dS) none false).xs.length = ns.length := by show (ns.map dS).length = _; rw [List.length_map]
    rw [tl] at hs5 nw
    rw [List.take_length] at nw
    subst nw
    have wl := nms_len ws
    have ow : okWs hs ws := ⟨by omega, nd4, fun a ha => okName_s (ok2 a ha), fun a ha => okName_s (ok4 a ha), bw⟩
    (repeat' (first | (with_reducible (first | apply G_vvs | apply G_vv0 | apply G_kk | apply G_bi | apply G_ca | apply G_a1 | apply G_a0 | apply Z_seq | apply Z_set | apply St_s | apply St_0 | apply G_ix | apply G_cm | apply G_tCm | apply Bl_bl | apply Z_if | apply Z_ret | apply G_bl | apply G_tTr | apply G_tNot | apply G_tAnd | apply G_tOr | apply G_isn | apply G_me | apply G_lsv | apply G_tu | apply G_lsm | apply G_nt | apply G_ng | apply G_cm2 | apply G_ie | apply G_sl | apply G_andE | apply G_orE | apply G_p0 | apply G_p1 | apply G_iv | apply G_r1 | apply G_r2 | apply G_lcv | apply G_lcv1 | apply G_lcm | apply G_lcm1 | apply Z_exp | apply Z_pass | apply Z_brk | apply Z_cnt | apply Z_ret0 | apply Z_tup | apply Z_sub | apply Z_while | apply Z_for | apply Z_raise | apply FnP_self | apply Bn_add | apply Bn_sub | apply Bn_and | apply Cp_lt | apply Cp_le | apply Cp_gt | apply Cp_ge | apply Cp_eqi | apply Cp_nei | apply Cp_is | apply Cp_isn | apply Tr_bl | apply Tr_int | apply Tr_lst | apply Tr_tup | apply Tr_non | apply Io_int | apply Bs_int | apply Bs_intb | apply Bs_len | apply Bs_lent | apply Bs_min | apply Bs_max | apply Bs_abs | apply Md_bits | apply Mt_bits | apply It_lst | apply It_tup | apply Br_not | apply Bd_b1 | apply G_di0 | apply Sl_lst | apply Sl_tup | apply Wp_0 | apply Wp_s | apply Sn_0 | apply Sn_s | apply Ct_mk1 | apply Ct_mk | apply Tn_mk | apply G_zen | apply G_zzp | apply G_rvs | apply G_lset | apply G_dct | apply G_k0 | apply G_k1 | apply G_dis | apply En_lst | apply Zp_tup | apply Zp_lst | apply Rv_lst | apply Rv_tup | apply Ky_str | apply Ky_int | apply Md_split | apply Md_join | apply Md_idx | apply Ts_0 | apply Ts_s | apply Cp_eqb | apply Cp_neb | apply Z_try)) | refine Ln_mk (Nat.le_of_ble_eq_true rfl) ?_ | refine Bn_mod (by first | decide | omega) ?_ | refine Bd_bT rfl ?_ | refine Ix_by rfl ?_ | refine Is_by (k := true) rfl ?_ | refine Is_by (k := false) rfl ?_ | refine R1_mk (by first | decide | omega) ?_ | refine Bn_mulS (by omega) (by omega) ?_ | refine Bn_fdivS (by omega) (by omega) ?_ | (apply Ix_ref; assumption; exact rfl) | (apply Sd_ref; assumption; exact rfl; intro _ _ _ _) | (apply Bs_lenr; assumption) | (apply Md_app; assumption) | refine Br_t rfl ?_ | refine Br_f rfl ?_ | refine Br_t (decide_eq_true (by omega)) ?_ | refine Br_f (decide_eq_false (by omega)) ?_ | (with_reducible refine Br_dec (fun _ => ?_) (fun _ => ?_)) | fail))
    have hs5' : Src S5 l (k + 600) := hs5.mono (by omega)
    refine Fn_any (hQ hs ws S5 ow p2 (by omega) (by omega) hs5' K5) (fun _ => ?_)
    exact hQ hs ws _ ow p2 (by omega) (by omega) (hs5'.take lt) (K5.take (Nat.le_refl _))
end QL

namespace QL
open PySem Q
/-! ### works in hand as dicts in a list (k21) -/
theorem kName : Str.ofString "name" = SX.S [110, 97, 109, 101] := by decide +kernel
theorem kX : Str.ofString "x" = SX.S [120] := by decide +kernel
theorem kSum : Str.ofString "sum" = SX.S [115, 117, 109] := by decide +kernel
theorem kLeft : Str.ofString "left" = SX.S [108, 101, 102, 116] := by decide +kernel
theorem kWaits : Str.ofString "waits" = SX.S [119, 97, 105, 116, 115] := by decide +kernel
def cName : List Nat := [110, 97, 109, 101]
def cX : List Nat := [120]
def cSum : List Nat := [115, 117, 109]
def cAt : List Nat := [97, 116]
def cLeft : List Nat := [108, 101, 102, 116]
def cWaits : List Nat := [119, 97, 105, 116, 115]
def key (a : List Nat) : L2.Key := .inr (SX.S a)
def recK (w : Wh) : List (L2.Key × D) := [(key cName, dS w.nm), (key cX, .int w.x), (key cSum, .int w.tot), (key cAt, .int w.pl), (key cLeft, .int w.lf), (key cAsk, dAk w.own), (key cWaits, dAk w.wt)]
def recO (w : Wh) : Ob := .dic (recK w)
section
variable {S : Store} {l : Nat} {w : Wh} {R : D → Prop} {q : Store → Prop}
theorem Ix_nm (e : S[l]? = some (recO w)) (h : R (dS w.nm)) : IxP S (.ref l) (dS [110, 97, 109, 101]) R := Ix_key (kvs := recK w) (kk := key cName) e rfl rfl h
theorem Ix_x (e : S[l]? = some (recO w)) (h : R (.int w.x)) : IxP S (.ref l) (dS [120]) R := Ix_key (kvs := recK w) (kk := key cX) e rfl rfl h
theorem Ix_sum (e : S[l]? = some (recO w)) (h : R (.int w.tot)) : IxP S (.ref l) (dS [115, 117, 109]) R := Ix_key (kvs := recK w) (kk := key cSum) e rfl rfl h
theorem Ix_at (e : S[l]? = some (recO w)) (h : R (.int w.pl)) : IxP S (.ref l) (dS [97, 116]) R := Ix_key (kvs := recK w) (kk := key cAt) e rfl rfl h
theorem Ix_left (e : S[l]? = some (recO w)) (h : R (.int w.lf)) : IxP S (.ref l) (dS [108, 101, 102, 116]) R := Ix_key (kvs := recK w) (kk := key cLeft) e rfl rfl h
theorem Ix_ask (e : S[l]? = some (recO w)) (h : R (dAk w.own)) : IxP S (.ref l) (dS cAsk) R := Ix_key (kvs := recK w) (kk := key cAsk) e rfl rfl h
theorem Ix_wt (e : S[l]? = some (recO w)) (h : R (dAk w.wt)) : IxP S (.ref l) (dS [119, 97, 105, 116, 115]) R := Ix_key (kvs := recK w) (kk := key cWaits) e rfl rfl h
theorem Sd_at {i : Int} (e : S[l]? = some (recO w)) (h : q (S.set l (recO { w with pl := i }))) : SdP S (.ref l) (dS [97, 116]) (.int i) q := Sd_key (kvs := recK w) (kk := key cAt) e rfl (by show 7 < 16777216; decide) h
theorem Sd_sum {i : Int} (e : S[l]? = some (recO w)) (h : q (S.set l (recO { w with tot := i }))) : SdP S (.ref l) (dS [115, 117, 109]) (.int i) q := Sd_key (kvs := recK w) (kk := key cSum) e rfl (by show 7 < 16777216; decide) h
theorem Sd_left {i : Int} (e : S[l]? = some (recO w)) (h : q (S.set l (recO { w with lf := i }))) : SdP S (.ref l) (dS [108, 101, 102, 116]) (.int i) q := Sd_key (kvs := recK w) (kk := key cLeft) e rfl (by show 7 < 16777216; decide) h
theorem Sd_wt {a : Option Ak} (e : S[l]? = some (recO w)) (h : q (S.set l (recO { w with wt := a }))) : SdP S (.ref l) (dS [119, 97, 105, 116, 115]) (dAk a) q := Sd_key (kvs := recK w) (kk := key cWaits) e rfl (by show 7 < 16777216; decide) h
end
structure Md (S : Store) (lm : Nat) (ls : List Nat) (h : List Wh) : Prop where
  at_ : S[lm]? = some (.lst (ls.map D.ref))
  len : ls.length = h.length
  nd : ls.Nodup
  rel : ∀ (i l : Nat) (w : Wh), ls[i]? = some l → h[i]? = some w → S[l]? = some (recO w)
theorem Md.get {S : Store} {lm l : Nat} {ls : List Nat} {h : List Wh} (m : Md S lm ls h) (hl : l ∈ ls) : ∃ w ∈ h, S[l]? = some (recO w) := by
  obtain ⟨i, hi⟩ := List.mem_iff_getElem?.mp hl
  have lt : i < h.length := by rw [← m.len]; exact (List.getElem?_eq_some_iff.mp hi).1
  exact ⟨h[i], List.getElem_mem .., m.rel i l h[i] hi (List.getElem?_eq_getElem lt)⟩
theorem Md.step {S S' : Store} {lm : Nat} {ls : List Nat} {h : List Wh} (m : Md S lm ls h) (e0 : S'[lm]? = S[lm]?) (e : ∀ l ∈ ls, S'[l]? = S[l]?) : Md S' lm ls h :=
  ⟨by rw [e0]; exact m.at_, m.len, m.nd, fun i l w hi hw => by rw [e l (List.mem_of_getElem? hi)]; exact m.rel i l w hi hw⟩
theorem Md.lt {S : Store} {lm : Nat} {ls : List Nat} {h : List Wh} (m : Md S lm ls h) : lm < S.length := (List.getElem?_eq_some_iff.mp m.at_).1
theorem Md.lts {S : Store} {lm : Nat} {ls : List Nat} {h : List Wh} (m : Md S lm ls h) : ∀ l ∈ ls, l < S.length := fun l hl => by
  obtain ⟨w, _, e⟩ := m.get hl
  exact (List.getElem?_eq_some_iff.mp e).1
theorem Md.app {S T : Store} {lm : Nat} {ls : List Nat} {h : List Wh} (m : Md S lm ls h) : Md (S ++ T) lm ls h :=
  m.step (List.getElem?_append_left m.lt) fun l hl => List.getElem?_append_left (m.lts l hl)
theorem Md.take {S S' : Store} {lm : Nat} {ls : List Nat} {h : List Wh} {n : Nat} (m : Md S' lm ls h) (h0 : lm < n) (h1 : ∀ l ∈ ls, l < n) : Md (S'.take n) lm ls h :=
  m.step (take_get h0) fun l hl => take_get (h1 l hl)
theorem Md.kp {S S' : Store} {lm l : Nat} {k : Int} {ls : List Nat} {h : List Wh} (m : Md S lm ls h) (hs : Src S l k) (K : Kp l S S') : Md S' lm ls h := by
  obtain ⟨c, a, e, _⟩ := hs.out
  refine m.step (K.get lm (fun z => ?_) m.lt) fun j hj => K.get j (fun z => ?_) (m.lts j hj)
  · subst z
    have := m.at_
    rw [e] at this
    cases this
  · subst z
    obtain ⟨w, _, e2⟩ := m.get hj
    rw [e] at e2
    have e2 := Option.some.inj e2
    unfold srcO recO recK at e2
    injection e2 with e2
    have := congrArg List.length e2
    simp at this
theorem Md.upd {S : Store} {lm i l : Nat} {ls : List Nat} {h : List Wh} {w' : Wh} (m : Md S lm ls h) (hi : ls[i]? = some l) : Md (S.set l (recO w')) lm ls (h.set i w') := by
  have ll := List.mem_of_getElem? hi
  obtain ⟨w0, _, e0⟩ := m.get ll
  have lt := (List.getElem?_eq_some_iff.mp e0).1
  refine ⟨?_, by rw [List.length_set]; exact m.len, m.nd, fun j l' w hj hw => ?_⟩
  · rw [List.getElem?_set_ne]
    · exact m.at_
    · rintro rfl
      have := m.at_
      rw [e0] at this
      cases this
  · by_cases c : j = i
    · subst c
      rw [hi] at hj
      cases hj
      rw [List.getElem?_set_self lt]
      have jl : j < h.length := by rw [← m.len]; exact (List.getElem?_eq_some_iff.mp hi).1
      rw [List.getElem?_set_self jl] at hw
      cases hw
      rfl
    · rw [List.getElem?_set_ne (Ne.symm c)] at hw
      rw [List.getElem?_set_ne]
      · exact m.rel j l' w hj hw
      · rintro rfl
        have h1 := (List.getElem?_eq_some_iff.mp hi)
        have h2 := (List.getElem?_eq_some_iff.mp hj)
        obtain ⟨p1, q1⟩ := h1
        obtain ⟨p2, q2⟩ := h2
        exact c ((List.getElem_inj m.nd).mp (by rw [q1, q2])).symm
theorem Md.toPy {S : Store} {lm : Nat} {ls : List Nat} {h : List Wh} (m : Md S lm ls h) : (ls.map D.ref) ≠ [] → toPyS S (.ref lm) = none := by
  cases ls with
  | nil => exact fun z => absurd rfl z
  | cons l t =>
    intro _
    obtain ⟨w, _, e⟩ := m.get (List.mem_cons_self ..)
    exact toPyS_recs (seqL_ref m.at_) e
theorem CfMd {S : Store} {lm : Nat} {ls : List Nat} {h : List Wh} (m : Md S lm ls h) (hl : h.length < 100000) (q : Nat → Wh → Option D) {f : D → Store → Out (Option D)} {QL : List D → Store → Prop} (step : ∀ l w, w ∈ h → S[l]? = some (recO w) → W (f (.ref l) S) (fun o S1 => o = q l w ∧ S1 = S) noX) (stop : QL ((ls.zip h).filterMap fun p => q p.1 p.2) S) {ys : List D} : CfP ⟨ys, some lm, false⟩ f S QL := by
  refine Cf_invR (xs := ls.map D.ref) (fun i acc S' => S' = S ∧ acc = ((ls.zip h).take i).filterMap fun p => q p.1 p.2) (fun i acc S' e => by rw [e.1]; exact m.at_) (by rw [List.length_map, m.len]; exact hl) ⟨rfl, rfl⟩ ?_ ?_
  · rintro i d acc S' hd ⟨rfl, rfl⟩ _
    rw [List.getElem?_map, Option.map_eq_some_iff] at hd
    obtain ⟨l, hi, rfl⟩ := hd
    have lt : i < h.length := by rw [← m.len]; exact (List.getElem?_eq_some_iff.mp hi).1
    have hw : h[i]? = some h[i] := List.getElem?_eq_getElem lt
    have e := m.rel i l h[i] hi hw
    refine (step l h[i] (List.getElem_mem ..) e).post ?_
    rintro o S1 ⟨rfl, rfl⟩
    have z : (ls.zip h)[i]? = some (l, h[i]) := by rw [List.getElem?_zip_eq_some]; exact ⟨hi, hw⟩
    have ht : (ls.zip h).take (i + 1) = (ls.zip h).take i ++ [(l, h[i])] := by rw [List.take_succ, z]; rfl
    rw [ht, List.filterMap_append]
    cases e : q l h[i] with
    | none => exact ⟨rfl, by simp [List.filterMap, e]⟩
    | some y => exact ⟨rfl, by simp [List.filterMap, e]⟩
  · rintro acc S' ⟨rfl, rfl⟩
    have : (ls.zip h).take (ls.map D.ref).length = ls.zip h := List.take_of_length_le (by rw [List.length_zip, List.length_map]; omega)
    rw [this]
    exact stop
theorem zip_snd (g : Wh → Option D) : ∀ {ls : List Nat} {h : List Wh}, ls.length = h.length → (ls.zip h).filterMap (fun p => g p.2) = h.filterMap g
  | [], [], _ => rfl
  | l :: ls, w :: h, e => by
    rw [List.zip_cons_cons, List.filterMap_cons, List.filterMap_cons, zip_snd g (ls := ls) (h := h) (by simpa using e)]
  | [], _ :: _, e => by cases e
  | _ :: _, [], e => by cases e
def runL (ls : List Nat) (h : List Wh) : List D := (ls.zip h).filterMap fun p => if p.2.wt.isNone then some (D.ref p.1) else none
theorem runL_nil : ∀ {ls : List Nat} {h : List Wh}, ls.length = h.length → (runL ls h).isEmpty = !runsH h
  | [], [], _ => rfl
  | l :: ls, w :: h, e => by
    have ih := runL_nil (ls := ls) (h := h) (by simpa using e)
    unfold runL runsH at *
    rw [List.zip_cons_cons, List.filterMap_cons, List.any_cons]
    cases c : w.wt.isNone with
    | true => simp
    | false => simpa using ih
  | [], _ :: _, e => by cases e
  | _ :: _, [], e => by cases e
theorem runL_py {S : Store} {lm : Nat} {ls : List Nat} {h : List Wh} (m : Md S lm ls h) : runL ls h ≠ [] → toPyS S (.lst (runL ls h)) = none := by
  cases e : runL ls h with
  | nil => exact fun z => absurd rfl z
  | cons d t =>
    intro _
    have hd : d ∈ runL ls h := by rw [e]; exact List.mem_cons_self ..
    obtain ⟨p, hp, q⟩ := List.mem_filterMap.mp hd
    have : d = .ref p.1 := by
      split at q
      · exact (Option.some.inj q).symm
      · cases q
    subst this
    obtain ⟨w, _, g⟩ := m.get (List.of_mem_zip hp).1
    exact toPyS_recs (l := p.1) (t := t) (show seqL S (.lst (.ref p.1 :: t)) = some (.ref p.1 :: t) from rfl) g
theorem first_bt : ∀ (n i : Nat) (r : List Bool), firstD (.bool true) i ((List.replicate n false ++ true :: r).map PyData.bool) = some (i + n)
  | 0, i, r => by
    show (if PyData.eqv (.bool true) (.bool true) = true then some i else _) = _
    rw [if_pos (by decide)]; rfl
  | n + 1, i, r => by
    rw [List.replicate_succ, List.cons_append, List.map_cons]
    show (if PyData.eqv (.bool false) (.bool true) = true then some i else firstD (.bool true) (i + 1) _) = _
    rw [if_neg (by decide), first_bt n (i + 1) r]
    congr 1
    omega
theorem Mt_idxt {S : Store} {n : Nat} {r : List Bool} {QD : D → Store → Prop} (h : QD (.int n) S) : MtP S .index (.lst ((List.replicate n false ++ true :: r).map D.bl)) [.bl true] QD := by
  refine ⟨⟨.int n, S, ?_, h⟩⟩
  have e1 : toPyS S (.lst ((List.replicate n false ++ true :: r).map D.bl)) = some (.list ((List.replicate n false ++ true :: r).map PyData.bool)) := by
    unfold toPyS
    show toPy (.lst (((List.replicate n false ++ true :: r).map D.bl).map (res 7 S))) = _
    rw [res_bl, toPy, toPys_bl]
  have s : SeqAt.shaped (.list ((List.replicate n false ++ true :: r).map PyData.bool)) = true := by
    obtain ⟨h1, h2⟩ := lay_bl (List.replicate n false ++ true :: r)
    unfold SeqAt.shaped
    rw [PyData.canLay0, h1, decide_eq_true (by simp only [PyData.depth, h2]; omega)]; rfl
  have e2 : toPyS S (.bl true) = some (.bool true) := rfl
  have s2 : SeqAt.shaped (.bool true) = true := by decide
  unfold mthD
  simp only [e1, e2, first_bt, s, s2, and_self, ↓reduceIte, Nat.zero_add]
theorem bodies_first : ∀ {ws : List Wk} {nm : List Nat}, nm ∈ nms ws → ∃ r, ws.filterMap (fun v => if v.1 = nm then some (dBody v.2) else none) = dBody (bodyOf ws nm) :: r
  | [], nm, h => by cases h
  | v :: ws, nm, h => by
    rw [List.filterMap_cons]
    unfold bodyOf
    rw [List.find?_cons]
    by_cases c : v.1 = nm
    · rw [if_pos c, decide_eq_true c]
      exact ⟨_, rfl⟩
    · rw [if_neg c, decide_eq_false c]
      refine bodies_first (ws := ws) ?_
      rcases List.mem_cons.mp h with z | z
      · exact absurd z.symm c
      · exact z
/-- nothing is forgotten where what stays names it -/
theorem Fn_stay {n i : Nat} {d : D} {o : Ob} {S' : Store} {QD : D → Store → Prop} {E : EX} (hi : i < n) (e : S'[i]? = some o) (hb : obBelow n o = false) (h : QD d S') : FnP false n d S' QD E := by
  refine ⟨?_⟩
  rw [fin_eq]
  have z : (S'.take n).all (obBelow n) = false := by
    rw [List.all_eq_false]
    exact ⟨o, List.mem_of_getElem? (by rw [take_get hi]; exact e), by rw [hb]; decide⟩
  split
  · exact ⟨h⟩
  · show W (if (below n d && (S'.take n).all (obBelow n)) = true then .ok d (S'.take n) else .ok d S') QD E
    rw [z, Bool.and_false]
    exact ⟨h⟩
theorem Cp_isN {S : Store} {o : Option Ak} {PB : Bool → Prop} (h : PB o.isNone) : Cp S .Is (dAk o) .non PB := by
  cases o with
  | none => exact Cp_by (k := true) rfl h
  | some a => exact Cp_by (k := false) rfl h
end QL

namespace QL
open PySem Q
theorem atI_zero {α : Type} {x : α} {r : List α} : L2.atI (x :: r) 0 = some x := by
  unfold L2.atI L2.ixN
  rw [if_pos (by decide), if_pos (by simp)]
  rfl
theorem Mt_snoc {S : Store} {xs : List D} {y : D} {QD : D → Store → Prop} (hl : xs.length < 16777216) (h : QD .non (S ++ [.lst (xs ++ [y])])) : MtP (S ++ [.lst xs]) .append (.ref S.length) [y] QD := by
  have g : (S ++ [Ob.lst xs])[S.length]? = some (.lst xs) := by simp
  refine ⟨⟨.non, S ++ [.lst (xs ++ [y])], ?_, h⟩⟩
  show (match (S ++ [Ob.lst xs])[S.length]? with | some (.lst ys) => if ys.length < 16777216 then some (D.non, (S ++ [Ob.lst xs]).set S.length (.lst (ys ++ [y]))) else none | _ => none) = _
  rw [g]
  show (if xs.length < 16777216 then _ else none) = _
  rw [if_pos hl]
  simp [List.set_append]
theorem Mt_popi {S : Store} {l : Nat} {ys : List D} {i : Int} {y : D} {QD : D → Store → Prop} (e : S[l]? = some (.lst ys)) (h0 : 0 ≤ i) (h1 : i < ys.length) (h2 : i < 2 ^ 62) (ey : ys[i.toNat]? = some y) (h : QD y (S.set l (.lst (ys.eraseIdx i.toNat)))) : MtP S .pop (.ref l) [.int i] QD := by
  refine ⟨⟨y, _, ?_, h⟩⟩
  show (match S[l]? with | some (.lst ys) => if 0 ≤ i ∧ i < ys.length ∧ i < 2 ^ 62 then (match ys[i.toNat]? with | some y => some (y, S.set l (.lst (ys.eraseIdx i.toNat))) | none => none) else none | _ => none) = _
  rw [e]
  show (if 0 ≤ i ∧ i < ys.length ∧ i < 2 ^ 62 then (match ys[i.toNat]? with | some y => some (y, S.set l (.lst (ys.eraseIdx i.toNat))) | none => none) else none) = _
  rw [if_pos ⟨h0, h1, h2⟩, ey]
theorem belows_false {n : Nat} {d : D} : ∀ {xs : List D}, d ∈ xs → below n d = false → belows n xs = false
  | [], h, _ => by cases h
  | x :: xs, h, e => by
    rw [belows]
    rcases List.mem_cons.mp h with rfl | h
    · rw [e]; rfl
    · rw [belows_false h e, Bool.and_false]
theorem map_erase {α β : Type} (f : α → β) : ∀ (l : List α) (i : Nat), (l.map f).eraseIdx i = (l.eraseIdx i).map f
  | [], _ => rfl
  | _ :: _, 0 => rfl
  | x :: l, i + 1 => by
    rw [List.map_cons, List.eraseIdx_cons_succ, List.eraseIdx_cons_succ, List.map_cons, map_erase f l i]
theorem Md.erase {S : Store} {lm i : Nat} {ls : List Nat} {h : List Wh} (m : Md S lm ls h) : Md (S.set lm (.lst ((ls.map D.ref).eraseIdx i))) lm (ls.eraseIdx i) (h.eraseIdx i) := by
  refine ⟨?_, ?_, List.Nodup.sublist (List.eraseIdx_sublist ..) m.nd, fun j l w hj hw => ?_⟩
  · rw [List.getElem?_set_self m.lt, map_erase]
  · rw [List.length_eraseIdx, List.length_eraseIdx, m.len]
  · have ll : l ∈ ls := List.mem_of_mem_eraseIdx (List.mem_of_getElem? hj)
    have ne : lm ≠ l := by
      rintro rfl
      obtain ⟨w0, _, e0⟩ := m.get ll
      have := m.at_
      rw [e0] at this
      cases this
    rw [List.getElem?_set_ne ne]
    rw [List.getElem?_eraseIdx] at hj hw
    split at hj
    · rename_i c
      rw [if_pos c] at hw
      exact m.rel j l w hj hw
    · rename_i c
      rw [if_neg c] at hw
      exact m.rel (j + 1) l w hj hw
theorem Md.snoc {S1 S2 : Store} {lm : Nat} {ls : List Nat} {h : List Wh} {w : Wh} (m : Md S1 lm ls h) (g : S2[lm]? = some (.lst (ls.map D.ref ++ [.ref S1.length]))) (o : ∀ i, i ≠ lm → S2[i]? = (S1 ++ [recO w])[i]?) : Md S2 lm (ls ++ [S1.length]) (h ++ [w]) := by
  have nl : S1.length ∉ ls := fun z => by have := m.lts _ z; omega
  refine ⟨by rw [List.map_append]; exact g, by rw [List.length_append, List.length_append, m.len]; rfl, ?_, fun j l v hj hv => ?_⟩
  · rw [List.nodup_append]
    refine ⟨m.nd, by simp, ?_⟩
    intro x hx y hy e
    rw [List.mem_singleton.mp hy] at e
    subst e
    exact nl hx
  · by_cases c : j < ls.length
    · rw [List.getElem?_append_left c] at hj
      rw [List.getElem?_append_left (by rw [← m.len]; exact c)] at hv
      have e := m.rel j l v hj hv
      have ll := List.mem_of_getElem? hj
      have ne : l ≠ lm := by
        rintro rfl
        have := m.at_
        rw [e] at this
        cases this
      rw [o l ne, List.getElem?_append_left (m.lts l ll)]
      exact e
    · have jl := (List.getElem?_eq_some_iff.mp hj).1
      rw [List.length_append, List.length_singleton] at jl
      have je : j = ls.length := by omega
      subst je
      rw [List.getElem?_append_right (Nat.le_refl _), Nat.sub_self] at hj
      rw [m.len, List.getElem?_append_right (Nat.le_refl _), Nat.sub_self] at hv
      cases hj
      cases hv
      have := m.lt
      rw [o _ (by omega)]
      simp
theorem plain_w {S : Store} {lm : Nat} {ls : List Nat} {h : List Wh} (m : Md S lm ls h) (hl : h.length ≤ 1000) {Qd : D → Store → Prop} {E : EX} (hQ : ∀ T, Qd (dHand h) (S ++ T)) : W (m__law_plain [.ref lm] S) Qd E := by
  apply w__law_plain
  unfold z__law_plain
  rw [kName, kX, kSum, kAt, kLeft, kAsk, kWaits]
  (repeat' (first | refine It_ref m.app.at_ ?_ | (with_reducible (first | apply G_vvs | apply G_vv0 | apply G_kk | apply G_bi | apply G_ca | apply G_a1 | apply G_a0 | apply Z_seq | apply Z_set | apply St_s | apply St_0 | apply G_ix | apply G_cm | apply G_tCm | apply Bl_bl | apply Z_if | apply Z_ret | apply G_bl | apply G_tTr | apply G_tNot | apply G_tAnd | apply G_tOr | apply G_isn | apply G_me | apply G_lsv | apply G_tu | apply G_lsm | apply G_nt | apply G_ng | apply G_cm2 | apply G_ie | apply G_sl | apply G_andE | apply G_orE | apply G_p0 | apply G_p1 | apply G_iv | apply G_r1 | apply G_r2 | apply G_lcv | apply G_lcv1 | apply G_lcm | apply G_lcm1 | apply Z_exp | apply Z_pass | apply Z_brk | apply Z_cnt | apply Z_ret0 | apply Z_tup | apply Z_sub | apply Z_while | apply Z_for | apply Z_raise | apply FnP_self | apply Bn_add | apply Bn_sub | apply Bn_and | apply Cp_lt | apply Cp_le | apply Cp_gt | apply Cp_ge | apply Cp_eqi | apply Cp_nei | apply Cp_is | apply Cp_isn | apply Tr_bl | apply Tr_int | apply Tr_lst | apply Tr_tup | apply Tr_non | apply Io_int | apply Bs_int | apply Bs_intb | apply Bs_len | apply Bs_lent | apply Bs_min | apply Bs_max | apply Bs_abs | apply Md_bits | apply Mt_bits | apply It_lst | apply It_tup | apply Br_not | apply Bd_b1 | apply G_di0 | apply Sl_lst | apply Sl_tup | apply Wp_0 | apply Wp_s | apply Sn_0 | apply Sn_s | apply Ct_mk1 | apply Ct_mk | apply Tn_mk | apply G_zen | apply G_zzp | apply G_rvs | apply G_lset | apply G_dct | apply G_k0 | apply G_k1 | apply G_dis | apply En_lst | apply Zp_tup | apply Zp_lst | apply Rv_lst | apply Rv_tup | apply Ky_str | apply Ky_int | apply Md_split | apply Md_join | apply Md_idx | apply Ts_0 | apply Ts_s | apply Cp_eqb | apply Cp_neb | apply Z_try)) | refine Ln_mk (Nat.le_of_ble_eq_true rfl) ?_ | refine Bn_mod (by first | decide | omega) ?_ | refine Bd_bT rfl ?_ | refine Ix_by rfl ?_ | refine Is_by (k := true) rfl ?_ | refine Is_by (k := false) rfl ?_ | refine R1_mk (by first | decide | omega) ?_ | refine Bn_mulS (by omega) (by omega) ?_ | refine Bn_fdivS (by omega) (by omega) ?_ | (apply Ix_ref; assumption; exact rfl) | (apply Sd_ref; assumption; exact rfl; intro _ _ _ _) | (apply Bs_lenr; assumption) | (apply Md_app; assumption) | refine Br_t rfl ?_ | refine Br_f rfl ?_ | refine Br_t (decide_eq_true (by omega)) ?_ | refine Br_f (decide_eq_false (by omega)) ?_ | (with_reducible refine Br_dec (fun _ => ?_) (fun _ => ?_)) | fail))
  refine Lp_invR (xs := ls.map D.ref) (fun i σ S' => S' = S ++ [.lst ((h.take i).map dWh)] ∧ ∃ x2 : Option D, σ = [some (.ref lm), some (.ref S.length), x2]) (fun i σ S' e => by rw [e.1]; exact m.app.at_) ⟨rfl, _, rfl⟩ ?_ ?_ (by rw [List.length_map, m.len]; omega)
  · rintro i d σ S' hd ⟨rfl, x2, rfl⟩
    rw [List.getElem?_map, Option.map_eq_some_iff] at hd
    obtain ⟨l, hi, rfl⟩ := hd
    have lt : i < h.length := by rw [← m.len]; exact (List.getElem?_eq_some_iff.mp hi).1
    have hw : h[i]? = some h[i] := List.getElem?_eq_getElem lt
    have e : (S ++ [Ob.lst ((h.take i).map dWh)])[l]? = some (recO h[i]) := m.app.rel i l h[i] hi hw
    have g : (S ++ [Ob.lst ((h.take i).map dWh)])[S.length]? = some (.lst ((h.take i).map dWh)) := by simp
    have ht : (h.take (i + 1)).map dWh = (h.take i).map dWh ++ [dWh h[i]] := by rw [List.take_succ, hw, List.map_append]; rfl
    (repeat' (first | refine Md_app g ?_ | refine Ix_nm e ?_ | refine Ix_x e ?_ | refine Ix_sum e ?_ | refine Ix_at e ?_ | refine Ix_left e ?_ | refine Ix_ask e ?_ | refine Ix_wt e ?_ | refine Mt_snoc (by rw [List.length_map, List.length_take]; omega) ?_ | (with_reducible (first | apply G_vvs | apply G_vv0 | apply G_kk | apply G_bi | apply G_ca | apply G_a1 | apply G_a0 | apply Z_seq | apply Z_set | apply St_s | apply St_0 | apply G_ix | apply G_cm | apply G_tCm | apply Bl_bl | apply Z_if | apply Z_ret | apply G_bl | apply G_tTr | apply G_tNot | apply G_tAnd | apply G_tOr | apply G_isn | apply G_me | apply G_lsv | apply G_tu | apply G_lsm | apply G_nt | apply G_ng | apply G_cm2 | apply G_ie | apply G_sl | apply G_andE | apply G_orE | apply G_p0 | apply G_p1 | apply G_iv | apply G_r1 | apply G_r2 | apply G_lcv | apply G_lcv1 | apply G_lcm | apply G_lcm1 | apply Z_exp | apply Z_pass | apply Z_brk | apply Z_cnt | apply Z_ret0 | apply Z_tup | apply Z_sub | apply Z_while | apply Z_for | apply Z_raise | apply FnP_self | apply Bn_add | apply Bn_sub | apply Bn_and | apply Cp_lt | apply Cp_le | apply Cp_gt | apply Cp_ge | apply Cp_eqi | apply Cp_nei | apply Cp_is | apply Cp_isn | apply Tr_bl | apply Tr_int | apply Tr_lst | apply Tr_tup | apply Tr_non | apply Io_int | apply Bs_int | apply Bs_intb | apply Bs_len | apply Bs_lent | apply Bs_min | apply Bs_max | apply Bs_abs | apply Md_bits | apply Mt_bits | apply It_lst | apply It_tup | apply Br_not | apply Bd_b1 | apply G_di0 | apply Sl_lst | apply Sl_tup | apply Wp_0 | apply Wp_s | apply Sn_0 | apply Sn_s | apply Ct_mk1 | apply Ct_mk | apply Tn_mk | apply G_zen | apply G_zzp | apply G_rvs | apply G_lset | apply G_dct | apply G_k0 | apply G_k1 | apply G_dis | apply En_lst | apply Zp_tup | apply Zp_lst | apply Rv_lst | apply Rv_tup | apply Ky_str | apply Ky_int | apply Md_split | apply Md_join | apply Md_idx | apply Ts_0 | apply Ts_s | apply Cp_eqb | apply Cp_neb | apply Z_try)) | refine Ln_mk (Nat.le_of_ble_eq_true rfl) ?_ | refine Bn_mod (by first | decide | omega) ?_ | refine Bd_bT rfl ?_ | refine Ix_by rfl ?_ | refine Is_by (k := true) rfl ?_ | refine Is_by (k := false) rfl ?_ | refine R1_mk (by first | decide | omega) ?_ | refine Bn_mulS (by omega) (by omega) ?_ | refine Bn_fdivS (by omega) (by omega) ?_ | (apply Ix_ref; assumption; exact rfl) | (apply Sd_ref; assumption; exact rfl; intro _ _ _ _) | (apply Bs_lenr; assumption) | (apply Md_app; assumption) | refine Br_t rfl ?_ | refine Br_f rfl ?_ | refine Br_t (decide_eq_true (by omega)) ?_ | refine Br_f (decide_eq_false (by omega)) ?_ | (with_reducible refine Br_dec (fun _ => ?_) (fun _ => ?_)) | fail))
    rw [ht]
    exact ⟨rfl, _, rfl⟩
  · rintro σ S' ⟨rfl, x2, rfl⟩
    have : h.take (ls.map D.ref).length = h := List.take_of_length_le (by rw [List.length_map, m.len]; exact Nat.le_refl _)
    rw [this]
    (repeat' (first | refine Bs_tupr (l := S.length) (xs := h.map dWh) (by simp) ?_ | (with_reducible (first | apply G_vvs | apply G_vv0 | apply G_kk | apply G_bi | apply G_ca | apply G_a1 | apply G_a0 | apply Z_seq | apply Z_set | apply St_s | apply St_0 | apply G_ix | apply G_cm | apply G_tCm | apply Bl_bl | apply Z_if | apply Z_ret | apply G_bl | apply G_tTr | apply G_tNot | apply G_tAnd | apply G_tOr | apply G_isn | apply G_me | apply G_lsv | apply G_tu | apply G_lsm | apply G_nt | apply G_ng | apply G_cm2 | apply G_ie | apply G_sl | apply G_andE | apply G_orE | apply G_p0 | apply G_p1 | apply G_iv | apply G_r1 | apply G_r2 | apply G_lcv | apply G_lcv1 | apply G_lcm | apply G_lcm1 | apply Z_exp | apply Z_pass | apply Z_brk | apply Z_cnt | apply Z_ret0 | apply Z_tup | apply Z_sub | apply Z_while | apply Z_for | apply Z_raise | apply FnP_self | apply Bn_add | apply Bn_sub | apply Bn_and | apply Cp_lt | apply Cp_le | apply Cp_gt | apply Cp_ge | apply Cp_eqi | apply Cp_nei | apply Cp_is | apply Cp_isn | apply Tr_bl | apply Tr_int | apply Tr_lst | apply Tr_tup | apply Tr_non | apply Io_int | apply Bs_int | apply Bs_intb | apply Bs_len | apply Bs_lent | apply Bs_min | apply Bs_max | apply Bs_abs | apply Md_bits | apply Mt_bits | apply It_lst | apply It_tup | apply Br_not | apply Bd_b1 | apply G_di0 | apply Sl_lst | apply Sl_tup | apply Wp_0 | apply Wp_s | apply Sn_0 | apply Sn_s | apply Ct_mk1 | apply Ct_mk | apply Tn_mk | apply G_zen | apply G_zzp | apply G_rvs | apply G_lset | apply G_dct | apply G_k0 | apply G_k1 | apply G_dis | apply En_lst | apply Zp_tup | apply Zp_lst | apply Rv_lst | apply Rv_tup | apply Ky_str | apply Ky_int | apply Md_split | apply Md_join | apply Md_idx | apply Ts_0 | apply Ts_s | apply Cp_eqb | apply Cp_neb | apply Z_try)) | refine Ln_mk (Nat.le_of_ble_eq_true rfl) ?_ | refine Bn_mod (by first | decide | omega) ?_ | refine Bd_bT rfl ?_ | refine Ix_by rfl ?_ | refine Is_by (k := true) rfl ?_ | refine Is_by (k := false) rfl ?_ | refine R1_mk (by first | decide | omega) ?_ | refine Bn_mulS (by omega) (by omega) ?_ | refine Bn_fdivS (by omega) (by omega) ?_ | (apply Ix_ref; assumption; exact rfl) | (apply Sd_ref; assumption; exact rfl; intro _ _ _ _) | (apply Bs_lenr; assumption) | (apply Md_app; assumption) | refine Br_t rfl ?_ | refine Br_f rfl ?_ | refine Br_t (decide_eq_true (by omega)) ?_ | refine Br_f (decide_eq_false (by omega)) ?_ | (with_reducible refine Br_dec (fun _ => ?_) (fun _ => ?_)) | fail))
    refine Fn_any (hQ _) (fun _ => ?_)
    rw [List.take_left]
    have := hQ []
    rwa [List.append_nil] at this
def lfOk (ws : List Wk) (w : Wh) : Prop := w.lf = 0 ∨ ∃ k, (bodyOf ws w.nm)[w.pl.toNat]? = some (.spin k)
theorem called_w {S : Store} {l : Nat} {w : Wh} {b : Bool} {hh n : List Nat} {ask : Ak} (e : S[l]? = some (recO w)) (hw : w.wt = none) (hf : w.lf = 0) {Qd : D → Store → Prop} {E : EX} (hQ : ∀ S', S'.length = S.length → S' = S.set l (recO (doneF w (.call b hh n) ask).1) → Qd (dWhat (doneF w (.call b hh n) ask).2) S') : W (m__law_called [.ref l, dSm (.call b hh n), dA ask] S) Qd E := by
  have lt := (List.getElem?_eq_some_iff.mp e).1
  obtain ⟨nm, x, tot, pl, lf, own, wt⟩ := w
  dsimp only at hw hf
  subst hw hf
  have e1 : ∀ v : Wh, (S.set l (recO v))[l]? = some (recO v) := fun v => by rw [List.getElem?_set_self lt]
  have e2 := e1 ⟨nm, x, tot, pl + 1, 0, own, none⟩
  apply w__law_called
  unfold z__law_called
  rw [kAt, kX, kAsk, kWaits]
  unfold doneF at hQ
  dsimp only at hQ
  by_cases c : x = 0
  · rw [if_pos c] at hQ
    (repeat' (first | refine Ix_at e ?_ | refine Sd_at e ?_ | refine Ix_x e2 ?_ | (with_reducible (first | apply G_vvs | apply G_vv0 | apply G_kk | apply G_bi | apply G_ca | apply G_a1 | apply G_a0 | apply Z_seq | apply Z_set | apply St_s | apply St_0 | apply G_ix | apply G_cm | apply G_tCm | apply Bl_bl | apply Z_if | apply Z_ret | apply G_bl | apply G_tTr | apply G_tNot | apply G_tAnd | apply G_tOr | apply G_isn | apply G_me | apply G_lsv | apply G_tu | apply G_lsm | apply G_nt | apply G_ng | apply G_cm2 | apply G_ie | apply G_sl | apply G_andE | apply G_orE | apply G_p0 | apply G_p1 | apply G_iv | apply G_r1 | apply G_r2 | apply G_lcv | apply G_lcv1 | apply G_lcm | apply G_lcm1 | apply Z_exp | apply Z_pass | apply Z_brk | apply Z_cnt | apply Z_ret0 | apply Z_tup | apply Z_sub | apply Z_while | apply Z_for | apply Z_raise | apply FnP_self | apply Bn_add | apply Bn_sub | apply Bn_and | apply Cp_lt | apply Cp_le | apply Cp_gt | apply Cp_ge | apply Cp_eqi | apply Cp_nei | apply Cp_is | apply Cp_isn | apply Tr_bl | apply Tr_int | apply Tr_lst | apply Tr_tup | apply Tr_non | apply Io_int | apply Bs_int | apply Bs_intb | apply Bs_len | apply Bs_lent | apply Bs_min | apply Bs_max | apply Bs_abs | apply Md_bits | apply Mt_bits | apply It_lst | apply It_tup | apply Br_not | apply Bd_b1 | apply G_di0 | apply Sl_lst | apply Sl_tup | apply Wp_0 | apply Wp_s | apply Sn_0 | apply Sn_s | apply Ct_mk1 | apply Ct_mk | apply Tn_mk | apply G_zen | apply G_zzp | apply G_rvs | apply G_lset | apply G_dct | apply G_k0 | apply G_k1 | apply G_dis | apply En_lst | apply Zp_tup | apply Zp_lst | apply Rv_lst | apply Rv_tup | apply Ky_str | apply Ky_int | apply Md_split | apply Md_join | apply Md_idx | apply Ts_0 | apply Ts_s | apply Cp_eqb | apply Cp_neb | apply Z_try)) | refine Ln_mk (Nat.le_of_ble_eq_true rfl) ?_ | refine Bn_mod (by first | decide | omega) ?_ | refine Bd_bT rfl ?_ | refine Ix_by rfl ?_ | refine Is_by (k := true) rfl ?_ | refine Is_by (k := false) rfl ?_ | refine R1_mk (by first | decide | omega) ?_ | refine Bn_mulS (by omega) (by omega) ?_ | refine Bn_fdivS (by omega) (by omega) ?_ | (apply Ix_ref; assumption; exact rfl) | (apply Sd_ref; assumption; exact rfl; intro _ _ _ _) | (apply Bs_lenr; assumption) | (apply Md_app; assumption) | refine Br_t rfl ?_ | refine Br_f rfl ?_ | refine Br_t (decide_eq_true (by omega)) ?_ | refine Br_f (decide_eq_false (by omega)) ?_ | fail))
    exact FnP_same (by rw [List.length_set]) (hQ _ (by rw [List.length_set]) rfl)
  · rw [if_neg c] at hQ
    cases b with
    | true =>
      have e3 := e1 ⟨nm, x, tot, pl + 1, 0, own, some ask⟩
      have ss : (S.set l (recO ⟨nm, x, tot, pl + 1, 0, own, none⟩)).set l (recO ⟨nm, x, tot, pl + 1, 0, own, some ask⟩) = S.set l (recO ⟨nm, x, tot, pl + 1, 0, own, some ask⟩) := List.set_set ..
      (repeat' (first | refine Ix_at e ?_ | refine Sd_at e ?_ | refine Ix_x e2 ?_ | refine Br_f (decide_eq_false c) ?_ | refine Ix_by (x' := dS cAsk) rfl ?_ | refine Cp_eqS (by decide) (by decide) ?_ | refine Sd_wt (a := some ask) e2 ?_ | (with_reducible (first | apply G_vvs | apply G_vv0 | apply G_kk | apply G_bi | apply G_ca | apply G_a1 | apply G_a0 | apply Z_seq | apply Z_set | apply St_s | apply St_0 | apply G_ix | apply G_cm | apply G_tCm | apply Bl_bl | apply Z_if | apply Z_ret | apply G_bl | apply G_tTr | apply G_tNot | apply G_tAnd | apply G_tOr | apply G_isn | apply G_me | apply G_lsv | apply G_tu | apply G_lsm | apply G_nt | apply G_ng | apply G_cm2 | apply G_ie | apply G_sl | apply G_andE | apply G_orE | apply G_p0 | apply G_p1 | apply G_iv | apply G_r1 | apply G_r2 | apply G_lcv | apply G_lcv1 | apply G_lcm | apply G_lcm1 | apply Z_exp | apply Z_pass | apply Z_brk | apply Z_cnt | apply Z_ret0 | apply Z_tup | apply Z_sub | apply Z_while | apply Z_for | apply Z_raise | apply FnP_self | apply Bn_add | apply Bn_sub | apply Bn_and | apply Cp_lt | apply Cp_le | apply Cp_gt | apply Cp_ge | apply Cp_eqi | apply Cp_nei | apply Cp_is | apply Cp_isn | apply Tr_bl | apply Tr_int | apply Tr_lst | apply Tr_tup | apply Tr_non | apply Io_int | apply Bs_int | apply Bs_intb | apply Bs_len | apply Bs_lent | apply Bs_min | apply Bs_max | apply Bs_abs | apply Md_bits | apply Mt_bits | apply It_lst | apply It_tup | apply Br_not | apply Bd_b1 | apply G_di0 | apply Sl_lst | apply Sl_tup | apply Wp_0 | apply Wp_s | apply Sn_0 | apply Sn_s | apply Ct_mk1 | apply Ct_mk | apply Tn_mk | apply G_zen | apply G_zzp | apply G_rvs | apply G_lset | apply G_dct | apply G_k0 | apply G_k1 | apply G_dis | apply En_lst | apply Zp_tup | apply Zp_lst | apply Rv_lst | apply Rv_tup | apply Ky_str | apply Ky_int | apply Md_split | apply Md_join | apply Md_idx | apply Ts_0 | apply Ts_s | apply Cp_eqb | apply Cp_neb | apply Z_try)) | refine Ln_mk (Nat.le_of_ble_eq_true rfl) ?_ | refine Bn_mod (by first | decide | omega) ?_ | refine Bd_bT rfl ?_ | refine Ix_by rfl ?_ | refine Is_by (k := true) rfl ?_ | refine Is_by (k := false) rfl ?_ | refine R1_mk (by first | decide | omega) ?_ | refine Bn_mulS (by omega) (by omega) ?_ | refine Bn_fdivS (by omega) (by omega) ?_ | (apply Ix_ref; assumption; exact rfl) | (apply Sd_ref; assumption; exact rfl; intro _ _ _ _) | (apply Bs_lenr; assumption) | (apply Md_app; assumption) | refine Br_t rfl ?_ | refine Br_f rfl ?_ | refine Br_t (decide_eq_true (by omega)) ?_ | refine Br_f (decide_eq_false (by omega)) ?_ | fail))
      rw [ss]
      (repeat' (first | refine Ix_x e3 ?_ | refine Ix_by (x' := dS cAsk) rfl ?_ | refine Ix_by (x' := dS hh) rfl ?_ | refine Ix_by (x' := dS n) rfl ?_ | (with_reducible (first | apply G_vvs | apply G_vv0 | apply G_kk | apply G_bi | apply G_ca | apply G_a1 | apply G_a0 | apply Z_seq | apply Z_set | apply St_s | apply St_0 | apply G_ix | apply G_cm | apply G_tCm | apply Bl_bl | apply Z_if | apply Z_ret | apply G_bl | apply G_tTr | apply G_tNot | apply G_tAnd | apply G_tOr | apply G_isn | apply G_me | apply G_lsv | apply G_tu | apply G_lsm | apply G_nt | apply G_ng | apply G_cm2 | apply G_ie | apply G_sl | apply G_andE | apply G_orE | apply G_p0 | apply G_p1 | apply G_iv | apply G_r1 | apply G_r2 | apply G_lcv | apply G_lcv1 | apply G_lcm | apply G_lcm1 | apply Z_exp | apply Z_pass | apply Z_brk | apply Z_cnt | apply Z_ret0 | apply Z_tup | apply Z_sub | apply Z_while | apply Z_for | apply Z_raise | apply FnP_self | apply Bn_add | apply Bn_sub | apply Bn_and | apply Cp_lt | apply Cp_le | apply Cp_gt | apply Cp_ge | apply Cp_eqi | apply Cp_nei | apply Cp_is | apply Cp_isn | apply Tr_bl | apply Tr_int | apply Tr_lst | apply Tr_tup | apply Tr_non | apply Io_int | apply Bs_int | apply Bs_intb | apply Bs_len | apply Bs_lent | apply Bs_min | apply Bs_max | apply Bs_abs | apply Md_bits | apply Mt_bits | apply It_lst | apply It_tup | apply Br_not | apply Bd_b1 | apply G_di0 | apply Sl_lst | apply Sl_tup | apply Wp_0 | apply Wp_s | apply Sn_0 | apply Sn_s | apply Ct_mk1 | apply Ct_mk | apply Tn_mk | apply G_zen | apply G_zzp | apply G_rvs | apply G_lset | apply G_dct | apply G_k0 | apply G_k1 | apply G_dis | apply En_lst | apply Zp_tup | apply Zp_lst | apply Rv_lst | apply Rv_tup | apply Ky_str | apply Ky_int | apply Md_split | apply Md_join | apply Md_idx | apply Ts_0 | apply Ts_s | apply Cp_eqb | apply Cp_neb | apply Z_try)) | refine Ln_mk (Nat.le_of_ble_eq_true rfl) ?_ | refine Bn_mod (by first | decide | omega) ?_ | refine Bd_bT rfl ?_ | refine Ix_by rfl ?_ | refine Is_by (k := true) rfl ?_ | refine Is_by (k := false) rfl ?_ | refine R1_mk (by first | decide | omega) ?_ | refine Bn_mulS (by omega) (by omega) ?_ | refine Bn_fdivS (by omega) (by omega) ?_ | (apply Ix_ref; assumption; exact rfl) | (apply Sd_ref; assumption; exact rfl; intro _ _ _ _) | (apply Bs_lenr; assumption) | (apply Md_app; assumption) | refine Br_t rfl ?_ | refine Br_f rfl ?_ | refine Br_t (decide_eq_true (by omega)) ?_ | refine Br_f (decide_eq_false (by omega)) ?_ | fail))
      exact FnP_same (by rw [List.length_set]) (hQ _ (by rw [List.length_set]) rfl)
    | false =>
      (repeat' (first | refine Ix_at e ?_ | refine Sd_at e ?_ | refine Ix_x e2 ?_ | refine Br_f (decide_eq_false c) ?_ | refine Ix_by (x' := dS cMake) rfl ?_ | refine Cp_eqS (by decide) (by decide) ?_ | refine Ix_by (x' := dS hh) rfl ?_ | refine Ix_by (x' := dS n) rfl ?_ | (with_reducible (first | apply G_vvs | apply G_vv0 | apply G_kk | apply G_bi | apply G_ca | apply G_a1 | apply G_a0 | apply Z_seq | apply Z_set | apply St_s | apply St_0 | apply G_ix | apply G_cm | apply G_tCm | apply Bl_bl | apply Z_if | apply Z_ret | apply G_bl | apply G_tTr | apply G_tNot | apply G_tAnd | apply G_tOr | apply G_isn | apply G_me | apply G_lsv | apply G_tu | apply G_lsm | apply G_nt | apply G_ng | apply G_cm2 | apply G_ie | apply G_sl | apply G_andE | apply G_orE | apply G_p0 | apply G_p1 | apply G_iv | apply G_r1 | apply G_r2 | apply G_lcv | apply G_lcv1 | apply G_lcm | apply G_lcm1 | apply Z_exp | apply Z_pass | apply Z_brk | apply Z_cnt | apply Z_ret0 | apply Z_tup | apply Z_sub | apply Z_while | apply Z_for | apply Z_raise | apply FnP_self | apply Bn_add | apply Bn_sub | apply Bn_and | apply Cp_lt | apply Cp_le | apply Cp_gt | apply Cp_ge | apply Cp_eqi | apply Cp_nei | apply Cp_is | apply Cp_isn | apply Tr_bl | apply Tr_int | apply Tr_lst | apply Tr_tup | apply Tr_non | apply Io_int | apply Bs_int | apply Bs_intb | apply Bs_len | apply Bs_lent | apply Bs_min | apply Bs_max | apply Bs_abs | apply Md_bits | apply Mt_bits | apply It_lst | apply It_tup | apply Br_not | apply Bd_b1 | apply G_di0 | apply Sl_lst | apply Sl_tup | apply Wp_0 | apply Wp_s | apply Sn_0 | apply Sn_s | apply Ct_mk1 | apply Ct_mk | apply Tn_mk | apply G_zen | apply G_zzp | apply G_rvs | apply G_lset | apply G_dct | apply G_k0 | apply G_k1 | apply G_dis | apply En_lst | apply Zp_tup | apply Zp_lst | apply Rv_lst | apply Rv_tup | apply Ky_str | apply Ky_int | apply Md_split | apply Md_join | apply Md_idx | apply Ts_0 | apply Ts_s | apply Cp_eqb | apply Cp_neb | apply Z_try)) | refine Ln_mk (Nat.le_of_ble_eq_true rfl) ?_ | refine Bn_mod (by first | decide | omega) ?_ | refine Bd_bT rfl ?_ | refine Ix_by rfl ?_ | refine Is_by (k := true) rfl ?_ | refine Is_by (k := false) rfl ?_ | refine R1_mk (by first | decide | omega) ?_ | refine Bn_mulS (by omega) (by omega) ?_ | refine Bn_fdivS (by omega) (by omega) ?_ | (apply Ix_ref; assumption; exact rfl) | (apply Sd_ref; assumption; exact rfl; intro _ _ _ _) | (apply Bs_lenr; assumption) | (apply Md_app; assumption) | refine Br_t rfl ?_ | refine Br_f rfl ?_ | refine Br_t (decide_eq_true (by omega)) ?_ | refine Br_f (decide_eq_false (by omega)) ?_ | fail))
      exact FnP_same (by rw [List.length_set]) (hQ _ (by rw [List.length_set]) rfl)
theorem lstep_w {S : Store} {lm : Nat} {ls : List Nat} {h : List Wh} {hs : List (List Nat)} {ws : List Wk} {ask : Ak} (m : Md S lm ls h) (ok : okWs hs ws) (oh : okHd ws h) (ol : ∀ w ∈ h, lfOk ws w) (hl : h.length ≤ 1000) (e : runsH h = true) {Qd : D → Store → Prop} {E : EX}
    (hQ : ∀ S' ls', Md S' lm ls' (stepH ws ask h).1 → Qd (dWhat (stepH ws ask h).2) S') : W (m__law_step [.tup [.lst (hs.map dS), .lst (ws.map dWork)], .ref lm, dA ask] S) Qd E := by
  have w5 := ok.w5
  obtain ⟨pre, w, post, rfl, h1, h2⟩ := runs_split e
  have wm : w ∈ pre ++ w :: post := by simp
  have ow := oh w wm
  have lw := ol w wm
  rw [stepH_at h2 h1] at hQ
  have p0 := ow.p0
  have p1 := ow.p1
  have hl2 : pre.length + 1 + post.length ≤ 1000 := by rw [List.length_append, List.length_cons] at hl; omega
  have il : pre.length < ls.length := by rw [m.len, List.length_append, List.length_cons]; omega
  have hi : ls[pre.length]? = some ls[pre.length] := List.getElem?_eq_getElem il
  generalize hl' : ls[pre.length] = l at hi
  have el : S[l]? = some (recO w) := m.rel pre.length l w hi (by simp)
  have lt := (List.getElem?_eq_some_iff.mp el).1
  have lmt := m.lt
  have lne : l ≠ lm := by
    rintro rfl
    have := m.at_
    rw [el] at this
    cases this
  have atm : L2.atI (ls.map D.ref) (pre.length : Int) = some (.ref l) := by
    obtain ⟨d, a1, a2⟩ := atI_nat (xs := ls.map D.ref) (k := (pre.length : Int)) (by omega) (by rw [List.length_map]; omega)
    rw [a1, ← a2, List.getElem?_map, Int.toNat_natCast, hi]; rfl
  have bl : (pre ++ w :: post).filterMap (fun w => some (D.bl w.wt.isNone)) = (List.replicate pre.length false ++ true :: post.map fun w => w.wt.isNone).map D.bl := by
    show List.filterMap (some ∘ fun w : Wh => D.bl w.wt.isNone) _ = _
    rw [List.filterMap_eq_map, List.map_append, List.map_cons, List.map_append, List.map_cons, List.map_map, h2]
    congr 1
    clear hl hQ hi il hl' atm el m oh ol wm hl2 e
    induction pre with
    | nil => rfl
    | cons v t ih =>
      have hv : v.wt.isNone = false := by
        have := h1 v (List.mem_cons_self ..)
        cases q : v.wt with
        | none => exact absurd q this
        | some a => rfl
      rw [List.map_cons, List.length_cons, List.replicate_succ, List.map_cons, hv, ih fun u hu => h1 u (List.mem_cons_of_mem _ hu)]
  apply w__law_step
  unfold z__law_step
  rw [kWaits, kName, kAt, kOver, kX, kSum, kAsk, kMake, kSpin, kLeft, kAdd]
  (repeat' (first | refine It_ref m.at_ ?_ | (with_reducible (first | apply G_vvs | apply G_vv0 | apply G_kk | apply G_bi | apply G_ca | apply G_a1 | apply G_a0 | apply Z_seq | apply Z_set | apply St_s | apply St_0 | apply G_ix | apply G_cm | apply G_tCm | apply Bl_bl | apply Z_if | apply Z_ret | apply G_bl | apply G_tTr | apply G_tNot | apply G_tAnd | apply G_tOr | apply G_isn | apply G_me | apply G_lsv | apply G_tu | apply G_lsm | apply G_nt | apply G_ng | apply G_cm2 | apply G_ie | apply G_sl | apply G_andE | apply G_orE | apply G_p0 | apply G_p1 | apply G_iv | apply G_r1 | apply G_r2 | apply G_lcv | apply G_lcv1 | apply G_lcm | apply G_lcm1 | apply Z_exp | apply Z_pass | apply Z_brk | apply Z_cnt | apply Z_ret0 | apply Z_tup | apply Z_sub | apply Z_while | apply Z_for | apply Z_raise | apply FnP_self | apply Bn_add | apply Bn_sub | apply Bn_and | apply Cp_lt | apply Cp_le | apply Cp_gt | apply Cp_ge | apply Cp_eqi | apply Cp_nei | apply Cp_is | apply Cp_isn | apply Tr_bl | apply Tr_int | apply Tr_lst | apply Tr_tup | apply Tr_non | apply Io_int | apply Bs_int | apply Bs_intb | apply Bs_len | apply Bs_lent | apply Bs_min | apply Bs_max | apply Bs_abs | apply Md_bits | apply Mt_bits | apply It_lst | apply It_tup | apply Br_not | apply Bd_b1 | apply G_di0 | apply Sl_lst | apply Sl_tup | apply Wp_0 | apply Wp_s | apply Sn_0 | apply Sn_s | apply Ct_mk1 | apply Ct_mk | apply Tn_mk | apply G_zen | apply G_zzp | apply G_rvs | apply G_lset | apply G_dct | apply G_k0 | apply G_k1 | apply G_dis | apply En_lst | apply Zp_tup | apply Zp_lst | apply Rv_lst | apply Rv_tup | apply Ky_str | apply Ky_int | apply Md_split | apply Md_join | apply Md_idx | apply Ts_0 | apply Ts_s | apply Cp_eqb | apply Cp_neb | apply Z_try)) | refine Ln_mk (Nat.le_of_ble_eq_true rfl) ?_ | refine Bn_mod (by first | decide | omega) ?_ | refine Bd_bT rfl ?_ | refine Ix_by rfl ?_ | refine Is_by (k := true) rfl ?_ | refine Is_by (k := false) rfl ?_ | refine R1_mk (by first | decide | omega) ?_ | refine Bn_mulS (by omega) (by omega) ?_ | refine Bn_fdivS (by omega) (by omega) ?_ | (apply Ix_ref; assumption; exact rfl) | (apply Sd_ref; assumption; exact rfl; intro _ _ _ _) | (apply Bs_lenr; assumption) | (apply Md_app; assumption) | refine Br_t rfl ?_ | refine Br_f rfl ?_ | refine Br_t (decide_eq_true (by omega)) ?_ | refine Br_f (decide_eq_false (by omega)) ?_ | fail))
  refine CfMd m (by omega) (fun _ w => some (.bl w.wt.isNone)) (fun l w hw e => ?_) ?_
  · (repeat' (first | refine Ix_wt e ?_ | apply Cp_isN | (with_reducible (first | apply G_vvs | apply G_vv0 | apply G_kk | apply G_bi | apply G_ca | apply G_a1 | apply G_a0 | apply Z_seq | apply Z_set | apply St_s | apply St_0 | apply G_ix | apply G_cm | apply G_tCm | apply Bl_bl | apply Z_if | apply Z_ret | apply G_bl | apply G_tTr | apply G_tNot | apply G_tAnd | apply G_tOr | apply G_isn | apply G_me | apply G_lsv | apply G_tu | apply G_lsm | apply G_nt | apply G_ng | apply G_cm2 | apply G_ie | apply G_sl | apply G_andE | apply G_orE | apply G_p0 | apply G_p1 | apply G_iv | apply G_r1 | apply G_r2 | apply G_lcv | apply G_lcv1 | apply G_lcm | apply G_lcm1 | apply Z_exp | apply Z_pass | apply Z_brk | apply Z_cnt | apply Z_ret0 | apply Z_tup | apply Z_sub | apply Z_while | apply Z_for | apply Z_raise | apply FnP_self | apply Bn_add | apply Bn_sub | apply Bn_and | apply Cp_lt | apply Cp_le | apply Cp_gt | apply Cp_ge | apply Cp_eqi | apply Cp_nei | apply Cp_is | apply Cp_isn | apply Tr_bl | apply Tr_int | apply Tr_lst | apply Tr_tup | apply Tr_non | apply Io_int | apply Bs_int | apply Bs_intb | apply Bs_len | apply Bs_lent | apply Bs_min | apply Bs_max | apply Bs_abs | apply Md_bits | apply Mt_bits | apply It_lst | apply It_tup | apply Br_not | apply Bd_b1 | apply G_di0 | apply Sl_lst | apply Sl_tup | apply Wp_0 | apply Wp_s | apply Sn_0 | apply Sn_s | apply Ct_mk1 | apply Ct_mk | apply Tn_mk | apply G_zen | apply G_zzp | apply G_rvs | apply G_lset | apply G_dct | apply G_k0 | apply G_k1 | apply G_dis | apply En_lst | apply Zp_tup | apply Zp_lst | apply Rv_lst | apply Rv_tup | apply Ky_str | apply Ky_int | apply Md_split | apply Md_join | apply Md_idx | apply Ts_0 | apply Ts_s | apply Cp_eqb | apply Cp_neb | apply Z_try)) | refine Ln_mk (Nat.le_of_ble_eq_true rfl) ?_ | refine Bn_mod (by first | decide | omega) ?_ | refine Bd_bT rfl ?_ | refine Ix_by rfl ?_ | refine Is_by (k := true) rfl ?_ | refine Is_by (k := false) rfl ?_ | refine R1_mk (by first | decide | omega) ?_ | refine Bn_mulS (by omega) (by omega) ?_ | refine Bn_fdivS (by omega) (by omega) ?_ | (apply Ix_ref; assumption; exact rfl) | (apply Sd_ref; assumption; exact rfl; intro _ _ _ _) | (apply Bs_lenr; assumption) | (apply Md_app; assumption) | refine Br_t rfl ?_ | refine Br_f rfl ?_ | refine Br_t (decide_eq_true (by omega)) ?_ | refine Br_f (decide_eq_false (by omega)) ?_ | fail))
    exact ⟨rfl, rfl⟩
  rw [zip_snd (fun w => some (D.bl w.wt.isNone)) m.len, bl]
  (repeat' (first | refine Mt_idxt ?_ | refine Ix_ref m.at_ (x := .ref l) atm ?_ | (with_reducible (first | apply G_vvs | apply G_vv0 | apply G_kk | apply G_bi | apply G_ca | apply G_a1 | apply G_a0 | apply Z_seq | apply Z_set | apply St_s | apply St_0 | apply G_ix | apply G_cm | apply G_tCm | apply Bl_bl | apply Z_if | apply Z_ret | apply G_bl | apply G_tTr | apply G_tNot | apply G_tAnd | apply G_tOr | apply G_isn | apply G_me | apply G_lsv | apply G_tu | apply G_lsm | apply G_nt | apply G_ng | apply G_cm2 | apply G_ie | apply G_sl | apply G_andE | apply G_orE | apply G_p0 | apply G_p1 | apply G_iv | apply G_r1 | apply G_r2 | apply G_lcv | apply G_lcv1 | apply G_lcm | apply G_lcm1 | apply Z_exp | apply Z_pass | apply Z_brk | apply Z_cnt | apply Z_ret0 | apply Z_tup | apply Z_sub | apply Z_while | apply Z_for | apply Z_raise | apply FnP_self | apply Bn_add | apply Bn_sub | apply Bn_and | apply Cp_lt | apply Cp_le | apply Cp_gt | apply Cp_ge | apply Cp_eqi | apply Cp_nei | apply Cp_is | apply Cp_isn | apply Tr_bl | apply Tr_int | apply Tr_lst | apply Tr_tup | apply Tr_non | apply Io_int | apply Bs_int | apply Bs_intb | apply Bs_len | apply Bs_lent | apply Bs_min | apply Bs_max | apply Bs_abs | apply Md_bits | apply Mt_bits | apply It_lst | apply It_tup | apply Br_not | apply Bd_b1 | apply G_di0 | apply Sl_lst | apply Sl_tup | apply Wp_0 | apply Wp_s | apply Sn_0 | apply Sn_s | apply Ct_mk1 | apply Ct_mk | apply Tn_mk | apply G_zen | apply G_zzp | apply G_rvs | apply G_lset | apply G_dct | apply G_k0 | apply G_k1 | apply G_dis | apply En_lst | apply Zp_tup | apply Zp_lst | apply Rv_lst | apply Rv_tup | apply Ky_str | apply Ky_int | apply Md_split | apply Md_join | apply Md_idx | apply Ts_0 | apply Ts_s | apply Cp_eqb | apply Cp_neb | apply Z_try)) | refine Ln_mk (Nat.le_of_ble_eq_true rfl) ?_ | refine Bn_mod (by first | decide | omega) ?_ | refine Bd_bT rfl ?_ | refine Ix_by rfl ?_ | refine Is_by (k := true) rfl ?_ | refine Is_by (k := false) rfl ?_ | refine R1_mk (by first | decide | omega) ?_ | refine Bn_mulS (by omega) (by omega) ?_ | refine Bn_fdivS (by omega) (by omega) ?_ | (apply Ix_ref; assumption; exact rfl) | (apply Sd_ref; assumption; exact rfl; intro _ _ _ _) | (apply Bs_lenr; assumption) | (apply Md_app; assumption) | refine Br_t rfl ?_ | refine Br_f rfl ?_ | refine Br_t (decide_eq_true (by omega)) ?_ | refine Br_f (decide_eq_false (by omega)) ?_ | fail))
  refine CfFM (g := dWork) (fun v => if v.1 = w.nm then some (dBody v.2) else none) (by omega) (fun v hv => ?_) ?_
  · dsimp only [dWork]
    by_cases c : v.1 = w.nm
    · rw [if_pos c]
      (repeat' (first | refine Ix_nm el ?_ | refine Cp_eqS (ok.sn _ (mem_nms hv)) (ok.sn _ ow.nm) ?_ | refine Br_t (decide_eq_true c) ?_ | (with_reducible (first | apply G_vvs | apply G_vv0 | apply G_kk | apply G_bi | apply G_ca | apply G_a1 | apply G_a0 | apply Z_seq | apply Z_set | apply St_s | apply St_0 | apply G_ix | apply G_cm | apply G_tCm | apply Bl_bl | apply Z_if | apply Z_ret | apply G_bl | apply G_tTr | apply G_tNot | apply G_tAnd | apply G_tOr | apply G_isn | apply G_me | apply G_lsv | apply G_tu | apply G_lsm | apply G_nt | apply G_ng | apply G_cm2 | apply G_ie | apply G_sl | apply G_andE | apply G_orE | apply G_p0 | apply G_p1 | apply G_iv | apply G_r1 | apply G_r2 | apply G_lcv | apply G_lcv1 | apply G_lcm | apply G_lcm1 | apply Z_exp | apply Z_pass | apply Z_brk | apply Z_cnt | apply Z_ret0 | apply Z_tup | apply Z_sub | apply Z_while | apply Z_for | apply Z_raise | apply FnP_self | apply Bn_add | apply Bn_sub | apply Bn_and | apply Cp_lt | apply Cp_le | apply Cp_gt | apply Cp_ge | apply Cp_eqi | apply Cp_nei | apply Cp_is | apply Cp_isn | apply Tr_bl | apply Tr_int | apply Tr_lst | apply Tr_tup | apply Tr_non | apply Io_int | apply Bs_int | apply Bs_intb | apply Bs_len | apply Bs_lent | apply Bs_min | apply Bs_max | apply Bs_abs | apply Md_bits | apply Mt_bits | apply It_lst | apply It_tup | apply Br_not | apply Bd_b1 | apply G_di0 | apply Sl_lst | apply Sl_tup | apply Wp_0 | apply Wp_s | apply Sn_0 | apply Sn_s | apply Ct_mk1 | apply Ct_mk | apply Tn_mk | apply G_zen | apply G_zzp | apply G_rvs | apply G_lset | apply G_dct | apply G_k0 | apply G_k1 | apply G_dis | apply En_lst | apply Zp_tup | apply Zp_lst | apply Rv_lst | apply Rv_tup | apply Ky_str | apply Ky_int | apply Md_split | apply Md_join | apply Md_idx | apply Ts_0 | apply Ts_s | apply Cp_eqb | apply Cp_neb | apply Z_try)) | refine Ln_mk (Nat.le_of_ble_eq_true rfl) ?_ | refine Bn_mod (by first | decide | omega) ?_ | refine Bd_bT rfl ?_ | refine Ix_by rfl ?_ | refine Is_by (k := true) rfl ?_ | refine Is_by (k := false) rfl ?_ | refine R1_mk (by first | decide | omega) ?_ | refine Bn_mulS (by omega) (by omega) ?_ | refine Bn_fdivS (by omega) (by omega) ?_ | (apply Ix_ref; assumption; exact rfl) | (apply Sd_ref; assumption; exact rfl; intro _ _ _ _) | (apply Bs_lenr; assumption) | (apply Md_app; assumption) | refine Br_t rfl ?_ | refine Br_f rfl ?_ | refine Br_t (decide_eq_true (by omega)) ?_ | refine Br_f (decide_eq_false (by omega)) ?_ | fail))
      exact ⟨rfl, rfl⟩
    · rw [if_neg c]
      (repeat' (first | refine Ix_nm el ?_ | refine Cp_eqS (ok.sn _ (mem_nms hv)) (ok.sn _ ow.nm) ?_ | refine Br_f (decide_eq_false c) ?_ | (with_reducible (first | apply G_vvs | apply G_vv0 | apply G_kk | apply G_bi | apply G_ca | apply G_a1 | apply G_a0 | apply Z_seq | apply Z_set | apply St_s | apply St_0 | apply G_ix | apply G_cm | apply G_tCm | apply Bl_bl | apply Z_if | apply Z_ret | apply G_bl | apply G_tTr | apply G_tNot | apply G_tAnd | apply G_tOr | apply G_isn | apply G_me | apply G_lsv | apply G_tu | apply G_lsm | apply G_nt | apply G_ng | apply G_cm2 | apply G_ie | apply G_sl | apply G_andE | apply G_orE | apply G_p0 | apply G_p1 | apply G_iv | apply G_r1 | apply G_r2 | apply G_lcv | apply G_lcv1 | apply G_lcm | apply G_lcm1 | apply Z_exp | apply Z_pass | apply Z_brk | apply Z_cnt | apply Z_ret0 | apply Z_tup | apply Z_sub | apply Z_while | apply Z_for | apply Z_raise | apply FnP_self | apply Bn_add | apply Bn_sub | apply Bn_and | apply Cp_lt | apply Cp_le | apply Cp_gt | apply Cp_ge | apply Cp_eqi | apply Cp_nei | apply Cp_is | apply Cp_isn | apply Tr_bl | apply Tr_int | apply Tr_lst | apply Tr_tup | apply Tr_non | apply Io_int | apply Bs_int | apply Bs_intb | apply Bs_len | apply Bs_lent | apply Bs_min | apply Bs_max | apply Bs_abs | apply Md_bits | apply Mt_bits | apply It_lst | apply It_tup | apply Br_not | apply Bd_b1 | apply G_di0 | apply Sl_lst | apply Sl_tup | apply Wp_0 | apply Wp_s | apply Sn_0 | apply Sn_s | apply Ct_mk1 | apply Ct_mk | apply Tn_mk | apply G_zen | apply G_zzp | apply G_rvs | apply G_lset | apply G_dct | apply G_k0 | apply G_k1 | apply G_dis | apply En_lst | apply Zp_tup | apply Zp_lst | apply Rv_lst | apply Rv_tup | apply Ky_str | apply Ky_int | apply Md_split | apply Md_join | apply Md_idx | apply Ts_0 | apply Ts_s | apply Cp_eqb | apply Cp_neb | apply Z_try)) | refine Ln_mk (Nat.le_of_ble_eq_true rfl) ?_ | refine Bn_mod (by first | decide | omega) ?_ | refine Bd_bT rfl ?_ | refine Ix_by rfl ?_ | refine Is_by (k := true) rfl ?_ | refine Is_by (k := false) rfl ?_ | refine R1_mk (by first | decide | omega) ?_ | refine Bn_mulS (by omega) (by omega) ?_ | refine Bn_fdivS (by omega) (by omega) ?_ | (apply Ix_ref; assumption; exact rfl) | (apply Sd_ref; assumption; exact rfl; intro _ _ _ _) | (apply Bs_lenr; assumption) | (apply Md_app; assumption) | refine Br_t rfl ?_ | refine Br_f rfl ?_ | refine Br_t (decide_eq_true (by omega)) ?_ | refine Br_f (decide_eq_false (by omega)) ?_ | fail))
      exact ⟨rfl, rfl⟩
  obtain ⟨r, er⟩ := bodies_first ow.nm
  rw [er]
  have bt : dBody (bodyOf ws w.nm) = .tup ((bodyOf ws w.nm).map dSm) := rfl
  (repeat' (first | refine Ix_by (x' := dBody (bodyOf ws w.nm)) atI_zero ?_ | refine Ix_at el ?_ | (rw [bt]; apply Bs_lent) | (with_reducible (first | apply G_vvs | apply G_vv0 | apply G_kk | apply G_bi | apply G_ca | apply G_a1 | apply G_a0 | apply Z_seq | apply Z_set | apply St_s | apply St_0 | apply G_ix | apply G_cm | apply G_tCm | apply Bl_bl | apply Z_if | apply Z_ret | apply G_bl | apply G_tTr | apply G_tNot | apply G_tAnd | apply G_tOr | apply G_isn | apply G_me | apply G_lsv | apply G_tu | apply G_lsm | apply G_nt | apply G_ng | apply G_cm2 | apply G_ie | apply G_sl | apply G_andE | apply G_orE | apply G_p0 | apply G_p1 | apply G_iv | apply G_r1 | apply G_r2 | apply G_lcv | apply G_lcv1 | apply G_lcm | apply G_lcm1 | apply Z_exp | apply Z_pass | apply Z_brk | apply Z_cnt | apply Z_ret0 | apply Z_tup | apply Z_sub | apply Z_while | apply Z_for | apply Z_raise | apply FnP_self | apply Bn_add | apply Bn_sub | apply Bn_and | apply Cp_lt | apply Cp_le | apply Cp_gt | apply Cp_ge | apply Cp_eqi | apply Cp_nei | apply Cp_is | apply Cp_isn | apply Tr_bl | apply Tr_int | apply Tr_lst | apply Tr_tup | apply Tr_non | apply Io_int | apply Bs_int | apply Bs_intb | apply Bs_len | apply Bs_lent | apply Bs_min | apply Bs_max | apply Bs_abs | apply Md_bits | apply Mt_bits | apply It_lst | apply It_tup | apply Br_not | apply Bd_b1 | apply G_di0 | apply Sl_lst | apply Sl_tup | apply Wp_0 | apply Wp_s | apply Sn_0 | apply Sn_s | apply Ct_mk1 | apply Ct_mk | apply Tn_mk | apply G_zen | apply G_zzp | apply G_rvs | apply G_lset | apply G_dct | apply G_k0 | apply G_k1 | apply G_dis | apply En_lst | apply Zp_tup | apply Zp_lst | apply Rv_lst | apply Rv_tup | apply Ky_str | apply Ky_int | apply Md_split | apply Md_join | apply Md_idx | apply Ts_0 | apply Ts_s | apply Cp_eqb | apply Cp_neb | apply Z_try)) | refine Ln_mk (Nat.le_of_ble_eq_true rfl) ?_ | refine Bn_mod (by first | decide | omega) ?_ | refine Bd_bT rfl ?_ | refine Ix_by rfl ?_ | refine Is_by (k := true) rfl ?_ | refine Is_by (k := false) rfl ?_ | refine R1_mk (by first | decide | omega) ?_ | refine Bn_mulS (by omega) (by omega) ?_ | refine Bn_fdivS (by omega) (by omega) ?_ | (apply Ix_ref; assumption; exact rfl) | (apply Sd_ref; assumption; exact rfl; intro _ _ _ _) | (apply Bs_lenr; assumption) | (apply Md_app; assumption) | refine Br_t rfl ?_ | refine Br_f rfl ?_ | refine Br_t (decide_eq_true (by omega)) ?_ | refine Br_f (decide_eq_false (by omega)) ?_ | fail))
  obtain ⟨v, hv, e1, e2⟩ := bodyOf_get ok.wn ow.nm
  have wb := ok.wb v hv
  unfold stepW at hQ
  by_cases c : w.pl = ((bodyOf ws w.nm).length : Nat)
  · rw [if_pos c] at hQ
    have me := m.erase (i := pre.length)
    have ee : (pre ++ w :: post).eraseIdx pre.length = pre ++ post := by simp [List.eraseIdx_append_of_length_le]
    rw [ee] at me
    have el2 : (S.set lm (.lst ((ls.map D.ref).eraseIdx pre.length)))[l]? = some (recO w) := by rw [List.getElem?_set_ne (Ne.symm lne)]; exact el
    refine Br_t (decide_eq_true (by rw [List.length_map]; exact c)) ?_
    (repeat' (first | refine Md_pop m.at_ ?_ | refine Mt_popi (y := .ref l) m.at_ (by omega) (by rw [List.length_map]; omega) (by omega) (by rw [List.getElem?_map, Int.toNat_natCast, hi]; rfl) ?_ | (rw [Int.toNat_natCast]; first | refine Ix_nm el2 ?_ | refine Ix_x el2 ?_ | refine Ix_sum el2 ?_ | refine Ix_ask el2 ?_) | refine Ix_nm el2 ?_ | refine Ix_x el2 ?_ | refine Ix_sum el2 ?_ | refine Ix_ask el2 ?_ | (with_reducible (first | apply G_vvs | apply G_vv0 | apply G_kk | apply G_bi | apply G_ca | apply G_a1 | apply G_a0 | apply Z_seq | apply Z_set | apply St_s | apply St_0 | apply G_ix | apply G_cm | apply G_tCm | apply Bl_bl | apply Z_if | apply Z_ret | apply G_bl | apply G_tTr | apply G_tNot | apply G_tAnd | apply G_tOr | apply G_isn | apply G_me | apply G_lsv | apply G_tu | apply G_lsm | apply G_nt | apply G_ng | apply G_cm2 | apply G_ie | apply G_sl | apply G_andE | apply G_orE | apply G_p0 | apply G_p1 | apply G_iv | apply G_r1 | apply G_r2 | apply G_lcv | apply G_lcv1 | apply G_lcm | apply G_lcm1 | apply Z_exp | apply Z_pass | apply Z_brk | apply Z_cnt | apply Z_ret0 | apply Z_tup | apply Z_sub | apply Z_while | apply Z_for | apply Z_raise | apply FnP_self | apply Bn_add | apply Bn_sub | apply Bn_and | apply Cp_lt | apply Cp_le | apply Cp_gt | apply Cp_ge | apply Cp_eqi | apply Cp_nei | apply Cp_is | apply Cp_isn | apply Tr_bl | apply Tr_int | apply Tr_lst | apply Tr_tup | apply Tr_non | apply Io_int | apply Bs_int | apply Bs_intb | apply Bs_len | apply Bs_lent | apply Bs_min | apply Bs_max | apply Bs_abs | apply Md_bits | apply Mt_bits | apply It_lst | apply It_tup | apply Br_not | apply Bd_b1 | apply G_di0 | apply Sl_lst | apply Sl_tup | apply Wp_0 | apply Wp_s | apply Sn_0 | apply Sn_s | apply Ct_mk1 | apply Ct_mk | apply Tn_mk | apply G_zen | apply G_zzp | apply G_rvs | apply G_lset | apply G_dct | apply G_k0 | apply G_k1 | apply G_dis | apply En_lst | apply Zp_tup | apply Zp_lst | apply Rv_lst | apply Rv_tup | apply Ky_str | apply Ky_int | apply Md_split | apply Md_join | apply Md_idx | apply Ts_0 | apply Ts_s | apply Cp_eqb | apply Cp_neb | apply Z_try)) | refine Ln_mk (Nat.le_of_ble_eq_true rfl) ?_ | refine Bn_mod (by first | decide | omega) ?_ | refine Bd_bT rfl ?_ | refine Ix_by rfl ?_ | refine Is_by (k := true) rfl ?_ | refine Is_by (k := false) rfl ?_ | refine R1_mk (by first | decide | omega) ?_ | refine Bn_mulS (by omega) (by omega) ?_ | refine Bn_fdivS (by omega) (by omega) ?_ | (apply Ix_ref; assumption; exact rfl) | (apply Sd_ref; assumption; exact rfl; intro _ _ _ _) | (apply Bs_lenr; assumption) | (apply Md_app; assumption) | refine Br_t rfl ?_ | refine Br_f rfl ?_ | refine Br_t (decide_eq_true (by omega)) ?_ | refine Br_f (decide_eq_false (by omega)) ?_ | fail))
    exact FnP_same (by rw [List.length_set]) (hQ _ _ me)
  · rw [if_neg c] at hQ
    refine Br_f (decide_eq_false (by rw [List.length_map]; exact c)) ?_
    have ltb : w.pl.toNat < (bodyOf ws w.nm).length := by omega
    have ib : L2.atI ((bodyOf ws w.nm).map dSm) w.pl = some (dSm ((bodyOf ws w.nm).getD w.pl.toNat .own)) := by
      obtain ⟨d, a1, a2⟩ := atI_nat (xs := (bodyOf ws w.nm).map dSm) (k := w.pl) p0 (by rw [List.length_map]; omega)
      rw [a1, ← a2, List.getElem?_map, List.getD_eq_getElem?_getD, List.getElem?_eq_getElem ltb]; rfl
    have lfs : ∀ s, (bodyOf ws w.nm).getD w.pl.toNat .own = s → (∀ k, s ≠ .spin k) → w.lf = 0 := fun s es ns => by
      rcases lw with z | ⟨k, z⟩
      · exact z
      · rw [List.getD_eq_getElem?_getD, z] at es
        exact absurd es.symm (ns k)
    have done : ∀ (w' : Wh), (doneF w ((bodyOf ws w.nm).getD w.pl.toNat .own) ask).1 = w' → FnP false S.length (dWhat (doneF w ((bodyOf ws w.nm).getD w.pl.toNat .own) ask).2) (S.set l (recO w')) Qd E := fun w' ew => by
      refine FnP_same (by rw [List.length_set]) (hQ _ ls ?_)
      have := m.upd (w' := w') hi
      have es : (pre ++ w :: post).set pre.length w' = pre ++ ([w'] ++ post) := by simp [List.set_append]
      rw [es] at this
      rw [← ew] at this ⊢
      exact this
    generalize hst : (bodyOf ws w.nm).getD w.pl.toNat .own = st at ib lfs done hQ
    have lf0 := lfs st rfl
    have e1' : ∀ v : Wh, (S.set l (recO v))[l]? = some (recO v) := fun v => by rw [List.getElem?_set_self lt]
    have ss : ∀ v u : Wh, (S.set l (recO v)).set l (recO u) = S.set l (recO u) := fun v u => List.set_set ..
    obtain ⟨nm, x, tot, pl, lf, own, wt⟩ := w
    dsimp only at h2 lf0 p0
    subst h2
    cases st with
    | call b hh n =>
      have z : lf = 0 := lf0 (fun k q => by cases q)
      subst z
      have fin : ∀ {Q : D → Store → Prop} {E' : EX}, (∀ S', S'.length = S.length → S' = S.set l (recO (doneF ⟨nm, x, tot, pl, 0, own, none⟩ (.call b hh n) ask).1) → Q (dWhat (doneF ⟨nm, x, tot, pl, 0, own, none⟩ (.call b hh n) ask).2) S') → W (m__law_called [.ref l, dSm (.call b hh n), dA ask] S) Q E' := fun hq => called_w el rfl rfl hq
      have fst : ∀ {R : D → Prop}, R (dS (cCall b)) → IxP S (dSm (.call b hh n)) (.int 0) R := fun hr => Ix_by (x' := dS (cCall b)) rfl hr
      (repeat' (first | refine Ix_at el ?_ | refine Ix_by (x' := dSm (.call b hh n)) ib ?_ | refine fst ?_ | refine Cp_in2 (cCall_s b) (by decide) (by decide) ?_ | refine Br_t (by cases b <;> decide) ?_ | refine fin (fun S' sl se => ?_) | (with_reducible (first | apply G_vvs | apply G_vv0 | apply G_kk | apply G_bi | apply G_ca | apply G_a1 | apply G_a0 | apply Z_seq | apply Z_set | apply St_s | apply St_0 | apply G_ix | apply G_cm | apply G_tCm | apply Bl_bl | apply Z_if | apply Z_ret | apply G_bl | apply G_tTr | apply G_tNot | apply G_tAnd | apply G_tOr | apply G_isn | apply G_me | apply G_lsv | apply G_tu | apply G_lsm | apply G_nt | apply G_ng | apply G_cm2 | apply G_ie | apply G_sl | apply G_andE | apply G_orE | apply G_p0 | apply G_p1 | apply G_iv | apply G_r1 | apply G_r2 | apply G_lcv | apply G_lcv1 | apply G_lcm | apply G_lcm1 | apply Z_exp | apply Z_pass | apply Z_brk | apply Z_cnt | apply Z_ret0 | apply Z_tup | apply Z_sub | apply Z_while | apply Z_for | apply Z_raise | apply FnP_self | apply Bn_add | apply Bn_sub | apply Bn_and | apply Cp_lt | apply Cp_le | apply Cp_gt | apply Cp_ge | apply Cp_eqi | apply Cp_nei | apply Cp_is | apply Cp_isn | apply Tr_bl | apply Tr_int | apply Tr_lst | apply Tr_tup | apply Tr_non | apply Io_int | apply Bs_int | apply Bs_intb | apply Bs_len | apply Bs_lent | apply Bs_min | apply Bs_max | apply Bs_abs | apply Md_bits | apply Mt_bits | apply It_lst | apply It_tup | apply Br_not | apply Bd_b1 | apply G_di0 | apply Sl_lst | apply Sl_tup | apply Wp_0 | apply Wp_s | apply Sn_0 | apply Sn_s | apply Ct_mk1 | apply Ct_mk | apply Tn_mk | apply G_zen | apply G_zzp | apply G_rvs | apply G_lset | apply G_dct | apply G_k0 | apply G_k1 | apply G_dis | apply En_lst | apply Zp_tup | apply Zp_lst | apply Rv_lst | apply Rv_tup | apply Ky_str | apply Ky_int | apply Md_split | apply Md_join | apply Md_idx | apply Ts_0 | apply Ts_s | apply Cp_eqb | apply Cp_neb | apply Z_try)) | refine Ln_mk (Nat.le_of_ble_eq_true rfl) ?_ | refine Bn_mod (by first | decide | omega) ?_ | refine Bd_bT rfl ?_ | refine Ix_by rfl ?_ | refine Is_by (k := true) rfl ?_ | refine Is_by (k := false) rfl ?_ | refine R1_mk (by first | decide | omega) ?_ | refine Bn_mulS (by omega) (by omega) ?_ | refine Bn_fdivS (by omega) (by omega) ?_ | (apply Ix_ref; assumption; exact rfl) | (apply Sd_ref; assumption; exact rfl; intro _ _ _ _) | (apply Bs_lenr; assumption) | (apply Md_app; assumption) | refine Br_t rfl ?_ | refine Br_f rfl ?_ | refine Br_t (decide_eq_true (by omega)) ?_ | refine Br_f (decide_eq_false (by omega)) ?_ | fail))
      rw [se]
      exact done _ rfl
    | spin k =>
      have a1 := e1' ⟨nm, x, tot, pl, leftF lf k, own, none⟩
      have sk : ∀ {R : D → Prop} {S : Store}, R (.int (if lf = 0 then k else lf)) → IxP S (.lst [.int lf, .int k]) (.int (if decide (lf = 0) = true then 1 else 0)) R := fun {R S} hr => by
        by_cases c : lf = 0
        · rw [if_pos c] at hr
          rw [if_pos (decide_eq_true c)]
          exact Ix_by (x' := .int k) rfl hr
        · rw [if_neg c] at hr
          rw [if_neg (by rw [decide_eq_true_eq]; exact c)]
          exact Ix_by (x' := .int lf) rfl hr
      (repeat' (first | refine sk ?_ | refine Ix_at el ?_ | refine Ix_left el ?_ | refine Ix_by (x' := dSm (.spin k)) ib ?_ | refine Ix_by (x' := dS cSpin) rfl ?_ | refine Ix_by (x' := .int k) rfl ?_ | refine Cp_in2 (by decide) (by decide) (by decide) ?_ | refine Cp_eqS (by decide) (by decide) ?_ | refine Sd_left (i := leftF lf k) el ?_ | refine Ix_at a1 ?_ | refine Ix_left a1 ?_ | refine Sd_at a1 ?_ | (with_reducible (first | apply G_vvs | apply G_vv0 | apply G_kk | apply G_bi | apply G_ca | apply G_a1 | apply G_a0 | apply Z_seq | apply Z_set | apply St_s | apply St_0 | apply G_ix | apply G_cm | apply G_tCm | apply Bl_bl | apply Z_if | apply Z_ret | apply G_bl | apply G_tTr | apply G_tNot | apply G_tAnd | apply G_tOr | apply G_isn | apply G_me | apply G_lsv | apply G_tu | apply G_lsm | apply G_nt | apply G_ng | apply G_cm2 | apply G_ie | apply G_sl | apply G_andE | apply G_orE | apply G_p0 | apply G_p1 | apply G_iv | apply G_r1 | apply G_r2 | apply G_lcv | apply G_lcv1 | apply G_lcm | apply G_lcm1 | apply Z_exp | apply Z_pass | apply Z_brk | apply Z_cnt | apply Z_ret0 | apply Z_tup | apply Z_sub | apply Z_while | apply Z_for | apply Z_raise | apply FnP_self | apply Bn_add | apply Bn_sub | apply Bn_and | apply Cp_lt | apply Cp_le | apply Cp_gt | apply Cp_ge | apply Cp_eqi | apply Cp_nei | apply Cp_is | apply Cp_isn | apply Tr_bl | apply Tr_int | apply Tr_lst | apply Tr_tup | apply Tr_non | apply Io_int | apply Bs_int | apply Bs_intb | apply Bs_len | apply Bs_lent | apply Bs_min | apply Bs_max | apply Bs_abs | apply Md_bits | apply Mt_bits | apply It_lst | apply It_tup | apply Br_not | apply Bd_b1 | apply G_di0 | apply Sl_lst | apply Sl_tup | apply Wp_0 | apply Wp_s | apply Sn_0 | apply Sn_s | apply Ct_mk1 | apply Ct_mk | apply Tn_mk | apply G_zen | apply G_zzp | apply G_rvs | apply G_lset | apply G_dct | apply G_k0 | apply G_k1 | apply G_dis | apply En_lst | apply Zp_tup | apply Zp_lst | apply Rv_lst | apply Rv_tup | apply Ky_str | apply Ky_int | apply Md_split | apply Md_join | apply Md_idx | apply Ts_0 | apply Ts_s | apply Cp_eqb | apply Cp_neb | apply Z_try)) | refine Ln_mk (Nat.le_of_ble_eq_true rfl) ?_ | refine Bn_mod (by first | decide | omega) ?_ | refine Bd_bT rfl ?_ | refine Ix_by rfl ?_ | refine Is_by (k := true) rfl ?_ | refine Is_by (k := false) rfl ?_ | refine R1_mk (by first | decide | omega) ?_ | refine Bn_mulS (by omega) (by omega) ?_ | refine Bn_fdivS (by omega) (by omega) ?_ | (apply Ix_ref; assumption; exact rfl) | (apply Sd_ref; assumption; exact rfl; intro _ _ _ _) | (apply Bs_lenr; assumption) | (apply Md_app; assumption) | refine Br_t rfl ?_ | refine Br_f rfl ?_ | refine Br_t (decide_eq_true (by omega)) ?_ | refine Br_f (decide_eq_false (by omega)) ?_ | fail))
      rw [ss]
      refine done _ ?_
      unfold doneF
      dsimp only
      by_cases c2 : leftF lf k = 0
      · rw [if_pos c2, if_pos (decide_eq_true c2)]
      · rw [if_neg c2, if_neg (by rw [decide_eq_true_eq]; exact c2)]
    | add i =>
      have z : lf = 0 := lf0 (fun k q => by cases q)
      subst z
      have a1 := e1' ⟨nm, x, tot + i, pl, 0, own, none⟩
      (repeat' (first | refine Ix_at el ?_ | refine Ix_sum el ?_ | refine Ix_x el ?_ | refine Ix_by (x' := dSm (.add i)) ib ?_ | refine Ix_by (x' := dS cAdd) rfl ?_ | refine Ix_by (x' := .int i) rfl ?_ | refine Cp_in2 (by decide) (by decide) (by decide) ?_ | refine Cp_eqS (by decide) (by decide) ?_ | refine Sd_sum (i := tot + i) el ?_ | refine Ix_at a1 ?_ | refine Sd_at a1 ?_ | (with_reducible (first | apply G_vvs | apply G_vv0 | apply G_kk | apply G_bi | apply G_ca | apply G_a1 | apply G_a0 | apply Z_seq | apply Z_set | apply St_s | apply St_0 | apply G_ix | apply G_cm | apply G_tCm | apply Bl_bl | apply Z_if | apply Z_ret | apply G_bl | apply G_tTr | apply G_tNot | apply G_tAnd | apply G_tOr | apply G_isn | apply G_me | apply G_lsv | apply G_tu | apply G_lsm | apply G_nt | apply G_ng | apply G_cm2 | apply G_ie | apply G_sl | apply G_andE | apply G_orE | apply G_p0 | apply G_p1 | apply G_iv | apply G_r1 | apply G_r2 | apply G_lcv | apply G_lcv1 | apply G_lcm | apply G_lcm1 | apply Z_exp | apply Z_pass | apply Z_brk | apply Z_cnt | apply Z_ret0 | apply Z_tup | apply Z_sub | apply Z_while | apply Z_for | apply Z_raise | apply FnP_self | apply Bn_add | apply Bn_sub | apply Bn_and | apply Cp_lt | apply Cp_le | apply Cp_gt | apply Cp_ge | apply Cp_eqi | apply Cp_nei | apply Cp_is | apply Cp_isn | apply Tr_bl | apply Tr_int | apply Tr_lst | apply Tr_tup | apply Tr_non | apply Io_int | apply Bs_int | apply Bs_intb | apply Bs_len | apply Bs_lent | apply Bs_min | apply Bs_max | apply Bs_abs | apply Md_bits | apply Mt_bits | apply It_lst | apply It_tup | apply Br_not | apply Bd_b1 | apply G_di0 | apply Sl_lst | apply Sl_tup | apply Wp_0 | apply Wp_s | apply Sn_0 | apply Sn_s | apply Ct_mk1 | apply Ct_mk | apply Tn_mk | apply G_zen | apply G_zzp | apply G_rvs | apply G_lset | apply G_dct | apply G_k0 | apply G_k1 | apply G_dis | apply En_lst | apply Zp_tup | apply Zp_lst | apply Rv_lst | apply Rv_tup | apply Ky_str | apply Ky_int | apply Md_split | apply Md_join | apply Md_idx | apply Ts_0 | apply Ts_s | apply Cp_eqb | apply Cp_neb | apply Z_try)) | refine Ln_mk (Nat.le_of_ble_eq_true rfl) ?_ | refine Bn_mod (by first | decide | omega) ?_ | refine Bd_bT rfl ?_ | refine Ix_by rfl ?_ | refine Is_by (k := true) rfl ?_ | refine Is_by (k := false) rfl ?_ | refine R1_mk (by first | decide | omega) ?_ | refine Bn_mulS (by omega) (by omega) ?_ | refine Bn_fdivS (by omega) (by omega) ?_ | (apply Ix_ref; assumption; exact rfl) | (apply Sd_ref; assumption; exact rfl; intro _ _ _ _) | (apply Bs_lenr; assumption) | (apply Md_app; assumption) | refine Br_t rfl ?_ | refine Br_f rfl ?_ | refine Br_t (decide_eq_true (by omega)) ?_ | refine Br_f (decide_eq_false (by omega)) ?_ | fail))
      rw [ss]
      exact done _ rfl
    | own =>
      have z : lf = 0 := lf0 (fun k q => by cases q)
      subst z
      have a1 := e1' ⟨nm, x, tot + x, pl, 0, own, none⟩
      (repeat' (first | refine Ix_at el ?_ | refine Ix_sum el ?_ | refine Ix_x el ?_ | refine Ix_by (x' := dSm .own) ib ?_ | refine Ix_by (x' := dS cOwn) rfl ?_ | refine Ix_by (x' := .int x) rfl ?_ | refine Cp_in2 (by decide) (by decide) (by decide) ?_ | refine Cp_eqS (by decide) (by decide) ?_ | refine Sd_sum (i := tot + x) el ?_ | refine Ix_at a1 ?_ | refine Sd_at a1 ?_ | (with_reducible (first | apply G_vvs | apply G_vv0 | apply G_kk | apply G_bi | apply G_ca | apply G_a1 | apply G_a0 | apply Z_seq | apply Z_set | apply St_s | apply St_0 | apply G_ix | apply G_cm | apply G_tCm | apply Bl_bl | apply Z_if | apply Z_ret | apply G_bl | apply G_tTr | apply G_tNot | apply G_tAnd | apply G_tOr | apply G_isn | apply G_me | apply G_lsv | apply G_tu | apply G_lsm | apply G_nt | apply G_ng | apply G_cm2 | apply G_ie | apply G_sl | apply G_andE | apply G_orE | apply G_p0 | apply G_p1 | apply G_iv | apply G_r1 | apply G_r2 | apply G_lcv | apply G_lcv1 | apply G_lcm | apply G_lcm1 | apply Z_exp | apply Z_pass | apply Z_brk | apply Z_cnt | apply Z_ret0 | apply Z_tup | apply Z_sub | apply Z_while | apply Z_for | apply Z_raise | apply FnP_self | apply Bn_add | apply Bn_sub | apply Bn_and | apply Cp_lt | apply Cp_le | apply Cp_gt | apply Cp_ge | apply Cp_eqi | apply Cp_nei | apply Cp_is | apply Cp_isn | apply Tr_bl | apply Tr_int | apply Tr_lst | apply Tr_tup | apply Tr_non | apply Io_int | apply Bs_int | apply Bs_intb | apply Bs_len | apply Bs_lent | apply Bs_min | apply Bs_max | apply Bs_abs | apply Md_bits | apply Mt_bits | apply It_lst | apply It_tup | apply Br_not | apply Bd_b1 | apply G_di0 | apply Sl_lst | apply Sl_tup | apply Wp_0 | apply Wp_s | apply Sn_0 | apply Sn_s | apply Ct_mk1 | apply Ct_mk | apply Tn_mk | apply G_zen | apply G_zzp | apply G_rvs | apply G_lset | apply G_dct | apply G_k0 | apply G_k1 | apply G_dis | apply En_lst | apply Zp_tup | apply Zp_lst | apply Rv_lst | apply Rv_tup | apply Ky_str | apply Ky_int | apply Md_split | apply Md_join | apply Md_idx | apply Ts_0 | apply Ts_s | apply Cp_eqb | apply Cp_neb | apply Z_try)) | refine Ln_mk (Nat.le_of_ble_eq_true rfl) ?_ | refine Bn_mod (by first | decide | omega) ?_ | refine Bd_bT rfl ?_ | refine Ix_by rfl ?_ | refine Is_by (k := true) rfl ?_ | refine Is_by (k := false) rfl ?_ | refine R1_mk (by first | decide | omega) ?_ | refine Bn_mulS (by omega) (by omega) ?_ | refine Bn_fdivS (by omega) (by omega) ?_ | (apply Ix_ref; assumption; exact rfl) | (apply Sd_ref; assumption; exact rfl; intro _ _ _ _) | (apply Bs_lenr; assumption) | (apply Md_app; assumption) | refine Br_t rfl ?_ | refine Br_f rfl ?_ | refine Br_t (decide_eq_true (by omega)) ?_ | refine Br_f (decide_eq_false (by omega)) ?_ | fail))
      rw [ss]
      exact done _ rfl
end QL

namespace QL
open PySem Q
def cHere : List Nat := [104, 101, 114, 101]
def cNobody : List Nat := [110, 111, 98, 111, 100, 121]
theorem kHere : Str.ofString "here" = SX.S cHere := by decide +kernel
theorem kNobody : Str.ofString "nobody" = SX.S cNobody := by decide +kernel
def asks (h : List Wh) : List Ak := h.filterMap (·.wt)
theorem asks_eq (h : List Wh) : h.filterMap (fun w => w.wt.map dA) = (asks h).map dA := by unfold asks; rw [List.map_filterMap]
theorem asks_len (h : List Wh) : (asks h).length ≤ h.length := List.length_filterMap_le ..
theorem asks_ok {ws : List Wk} {h : List Wh} (oh : okHd ws h) : ∀ a ∈ asks h, sOk a.1 = true := fun a ha => by
  obtain ⟨w, hw, e⟩ := List.mem_filterMap.mp ha
  exact (oh w hw).wt a e
theorem fines_asks {n : Nat} {as : List Ak} (h : ∀ a ∈ as, sOk a.1 = true) : fine (n + 2) (.lst (as.map dA)) = true := by
  show fines (n + 1) _ = true
  refine fines_all fun x hx => ?_
  obtain ⟨a, ha, rfl⟩ := List.mem_map.mp hx
  exact fine_dA (h a ha)
theorem Cp_dAk {S : Store} {o : Option Ak} {a : Ak} {PB : Bool → Prop} (ho : okA o) (ha : sOk a.1 = true) (h : PB (decide (o = some a))) : Cp S .Eq (dAk o) (dA a) PB := by
  cases o with
  | none =>
    refine Cp_eq (EqOk.of (n := 0) rfl (by decide)) (EqOk.of (n := 1) (fine_dA ha) (by decide)) (fun e => by cases e) (fun _ => ?_)
    rw [decide_eq_false (fun z => by cases z)] at h; exact h
  | some b =>
    refine Cp_dA (ho b rfl) ha ?_
    by_cases c : b = a
    · rw [decide_eq_true c]; rw [decide_eq_true (by rw [c])] at h; exact h
    · rw [decide_eq_false c]; rw [decide_eq_false (fun z => c (by injection z))] at h; exact h
theorem ltaken_w {S : Store} {l lm : Nat} {k : Int} {ls : List Nat} {h : List Wh} {hs : List (List Nat)} {ws : List Wk} (hsr : Src S l k) (hk : k ≤ 10000) (m : Md S lm ls h) (ok : okWs hs ws) (h1 : 1 ≤ hs.length) (h4 : hs.length ≤ 4) (w1 : 1 ≤ ws.length) (hl : h.length ≤ 1000) {Qd : D → Store → Prop} {E : EX}
    (hQ : ∀ nm x own S' ls', nm ∈ nms ws → okA own → Md S' lm ls' (h ++ [newW nm x own]) → Qd (dHand (h ++ [newW nm x own])) S') : W (m__law_taken [.ref l, .tup [.lst (hs.map dS), .lst (ws.map dWork)], .ref lm, dHand h] S) Qd E := by
  have w5 := ok.w5
  have lml := m.lt
  apply w__law_taken
  unfold z__law_taken
  rw [kName, kX, kSum, kAt, kLeft, kAsk, kWaits]
  (repeat' (first | (with_reducible (first | apply G_vvs | apply G_vv0 | apply G_kk | apply G_bi | apply G_ca | apply G_a1 | apply G_a0 | apply Z_seq | apply Z_set | apply St_s | apply St_0 | apply G_ix | apply G_cm | apply G_tCm | apply Bl_bl | apply Z_if | apply Z_ret | apply G_bl | apply G_tTr | apply G_tNot | apply G_tAnd | apply G_tOr | apply G_isn | apply G_me | apply G_lsv | apply G_tu | apply G_lsm | apply G_nt | apply G_ng | apply G_cm2 | apply G_ie | apply G_sl | apply G_andE | apply G_orE | apply G_p0 | apply G_p1 | apply G_iv | apply G_r1 | apply G_r2 | apply G_lcv | apply G_lcv1 | apply G_lcm | apply G_lcm1 | apply Z_exp | apply Z_pass | apply Z_brk | apply Z_cnt | apply Z_ret0 | apply Z_tup | apply Z_sub | apply Z_while | apply Z_for | apply Z_raise | apply FnP_self | apply Bn_add | apply Bn_sub | apply Bn_and | apply Cp_lt | apply Cp_le | apply Cp_gt | apply Cp_ge | apply Cp_eqi | apply Cp_nei | apply Cp_is | apply Cp_isn | apply Tr_bl | apply Tr_int | apply Tr_lst | apply Tr_tup | apply Tr_non | apply Io_int | apply Bs_int | apply Bs_intb | apply Bs_len | apply Bs_lent | apply Bs_min | apply Bs_max | apply Bs_abs | apply Md_bits | apply Mt_bits | apply It_lst | apply It_tup | apply Br_not | apply Bd_b1 | apply G_di0 | apply Sl_lst | apply Sl_tup | apply Wp_0 | apply Wp_s | apply Sn_0 | apply Sn_s | apply Ct_mk1 | apply Ct_mk | apply Tn_mk | apply G_zen | apply G_zzp | apply G_rvs | apply G_lset | apply G_dct | apply G_k0 | apply G_k1 | apply G_dis | apply En_lst | apply Zp_tup | apply Zp_lst | apply Rv_lst | apply Rv_tup | apply Ky_str | apply Ky_int | apply Md_split | apply Md_join | apply Md_idx | apply Ts_0 | apply Ts_s | apply Cp_eqb | apply Cp_neb | apply Z_try)) | refine Ln_mk (Nat.le_of_ble_eq_true rfl) ?_ | refine Bn_mod (by first | decide | omega) ?_ | refine Bd_bT rfl ?_ | refine Ix_by rfl ?_ | refine Is_by (k := true) rfl ?_ | refine Is_by (k := false) rfl ?_ | refine R1_mk (by first | decide | omega) ?_ | refine Bn_mulS (by omega) (by omega) ?_ | refine Bn_fdivS (by omega) (by omega) ?_ | (apply Ix_ref; assumption; exact rfl) | (apply Sd_ref; assumption; exact rfl; intro _ _ _ _) | (apply Bs_lenr; assumption) | (apply Md_app; assumption) | refine Br_t rfl ?_ | refine Br_f rfl ?_ | refine Br_t (decide_eq_true (by omega)) ?_ | refine Br_f (decide_eq_false (by omega)) ?_ | (with_reducible refine Br_dec (fun _ => ?_) (fun _ => ?_)) | fail))
  refine one_w hsr (by omega) (by rw [List.length_map]; omega) (by rw [List.length_map]; omega) (fun y S1 hy hs1 l1 o1 => ?_)
  obtain ⟨a, ha, rfl⟩ := List.mem_map.mp hy
  have m1 := m.kp hsr (Kp.same l1 o1)
  (repeat' (first | (with_reducible (first | apply G_vvs | apply G_vv0 | apply G_kk | apply G_bi | apply G_ca | apply G_a1 | apply G_a0 | apply Z_seq | apply Z_set | apply St_s | apply St_0 | apply G_ix | apply G_cm | apply G_tCm | apply Bl_bl | apply Z_if | apply Z_ret | apply G_bl | apply G_tTr | apply G_tNot | apply G_tAnd | apply G_tOr | apply G_isn | apply G_me | apply G_lsv | apply G_tu | apply G_lsm | apply G_nt | apply G_ng | apply G_cm2 | apply G_ie | apply G_sl | apply G_andE | apply G_orE | apply G_p0 | apply G_p1 | apply G_iv | apply G_r1 | apply G_r2 | apply G_lcv | apply G_lcv1 | apply G_lcm | apply G_lcm1 | apply Z_exp | apply Z_pass | apply Z_brk | apply Z_cnt | apply Z_ret0 | apply Z_tup | apply Z_sub | apply Z_while | apply Z_for | apply Z_raise | apply FnP_self | apply Bn_add | apply Bn_sub | apply Bn_and | apply Cp_lt | apply Cp_le | apply Cp_gt | apply Cp_ge | apply Cp_eqi | apply Cp_nei | apply Cp_is | apply Cp_isn | apply Tr_bl | apply Tr_int | apply Tr_lst | apply Tr_tup | apply Tr_non | apply Io_int | apply Bs_int | apply Bs_intb | apply Bs_len | apply Bs_lent | apply Bs_min | apply Bs_max | apply Bs_abs | apply Md_bits | apply Mt_bits | apply It_lst | apply It_tup | apply Br_not | apply Bd_b1 | apply G_di0 | apply Sl_lst | apply Sl_tup | apply Wp_0 | apply Wp_s | apply Sn_0 | apply Sn_s | apply Ct_mk1 | apply Ct_mk | apply Tn_mk | apply G_zen | apply G_zzp | apply G_rvs | apply G_lset | apply G_dct | apply G_k0 | apply G_k1 | apply G_dis | apply En_lst | apply Zp_tup | apply Zp_lst | apply Rv_lst | apply Rv_tup | apply Ky_str | apply Ky_int | apply Md_split | apply Md_join | apply Md_idx | apply Ts_0 | apply Ts_s | apply Cp_eqb | apply Cp_neb | apply Z_try)) | refine Ln_mk (Nat.le_of_ble_eq_true rfl) ?_ | refine Bn_mod (by first | decide | omega) ?_ | refine Bd_bT rfl ?_ | refine Ix_by rfl ?_ | refine Is_by (k := true) rfl ?_ | refine Is_by (k := false) rfl ?_ | refine R1_mk (by first | decide | omega) ?_ | refine Bn_mulS (by omega) (by omega) ?_ | refine Bn_fdivS (by omega) (by omega) ?_ | (apply Ix_ref; assumption; exact rfl) | (apply Sd_ref; assumption; exact rfl; intro _ _ _ _) | (apply Bs_lenr; assumption) | (apply Md_app; assumption) | refine Br_t rfl ?_ | refine Br_f rfl ?_ | refine Br_t (decide_eq_true (by omega)) ?_ | refine Br_f (decide_eq_false (by omega)) ?_ | (with_reducible refine Br_dec (fun _ => ?_) (fun _ => ?_)) | fail))
  refine draw_w hs1 (by omega) (by decide) (by decide) (fun n S2 b0 b1 hs2 l2 o2 => ?_)
  have m2 := m1.kp hs1 (Kp.same l2 o2)
  (repeat' (first | (with_reducible (first | apply G_vvs | apply G_vv0 | apply G_kk | apply G_bi | apply G_ca | apply G_a1 | apply G_a0 | apply Z_seq | apply Z_set | apply St_s | apply St_0 | apply G_ix | apply G_cm | apply G_tCm | apply Bl_bl | apply Z_if | apply Z_ret | apply G_bl | apply G_tTr | apply G_tNot | apply G_tAnd | apply G_tOr | apply G_isn | apply G_me | apply G_lsv | apply G_tu | apply G_lsm | apply G_nt | apply G_ng | apply G_cm2 | apply G_ie | apply G_sl | apply G_andE | apply G_orE | apply G_p0 | apply G_p1 | apply G_iv | apply G_r1 | apply G_r2 | apply G_lcv | apply G_lcv1 | apply G_lcm | apply G_lcm1 | apply Z_exp | apply Z_pass | apply Z_brk | apply Z_cnt | apply Z_ret0 | apply Z_tup | apply Z_sub | apply Z_while | apply Z_for | apply Z_raise | apply FnP_self | apply Bn_add | apply Bn_sub | apply Bn_and | apply Cp_lt | apply Cp_le | apply Cp_gt | apply Cp_ge | apply Cp_eqi | apply Cp_nei | apply Cp_is | apply Cp_isn | apply Tr_bl | apply Tr_int | apply Tr_lst | apply Tr_tup | apply Tr_non | apply Io_int | apply Bs_int | apply Bs_intb | apply Bs_len | apply Bs_lent | apply Bs_min | apply Bs_max | apply Bs_abs | apply Md_bits | apply Mt_bits | apply It_lst | apply It_tup | apply Br_not | apply Bd_b1 | apply G_di0 | apply Sl_lst | apply Sl_tup | apply Wp_0 | apply Wp_s | apply Sn_0 | apply Sn_s | apply Ct_mk1 | apply Ct_mk | apply Tn_mk | apply G_zen | apply G_zzp | apply G_rvs | apply G_lset | apply G_dct | apply G_k0 | apply G_k1 | apply G_dis | apply En_lst | apply Zp_tup | apply Zp_lst | apply Rv_lst | apply Rv_tup | apply Ky_str | apply Ky_int | apply Md_split | apply Md_join | apply Md_idx | apply Ts_0 | apply Ts_s | apply Cp_eqb | apply Cp_neb | apply Z_try)) | refine Ln_mk (Nat.le_of_ble_eq_true rfl) ?_ | refine Bn_mod (by first | decide | omega) ?_ | refine Bd_bT rfl ?_ | refine Ix_by rfl ?_ | refine Is_by (k := true) rfl ?_ | refine Is_by (k := false) rfl ?_ | refine R1_mk (by first | decide | omega) ?_ | refine Bn_mulS (by omega) (by omega) ?_ | refine Bn_fdivS (by omega) (by omega) ?_ | (apply Ix_ref; assumption; exact rfl) | (apply Sd_ref; assumption; exact rfl; intro _ _ _ _) | (apply Bs_lenr; assumption) | (apply Md_app; assumption) | refine Br_t rfl ?_ | refine Br_f rfl ?_ | refine Br_t (decide_eq_true (by omega)) ?_ | refine Br_f (decide_eq_false (by omega)) ?_ | (with_reducible refine Br_dec (fun _ => ?_) (fun _ => ?_)) | fail))
  refine draw_w hs2 (by omega) (by decide) (by decide) (fun c S3 c0 c1 hs3 l3 o3 => ?_)
  have m3 := m2.kp hs2 (Kp.same l3 o3)
  have : ∃ o, okA o ∧ L2.atI [D.non, .tup [dS a, .int n]] c = some (dAk o) := by
    obtain rfl | rfl : c = 0 ∨ c = 1 := by omega
    · exact ⟨none, okA_none, rfl⟩
    · exact ⟨some (a, n), okA_some (ok.sh a ha), rfl⟩
  obtain ⟨o, oo, eo⟩ := this
  (repeat' (first | refine Ix_by (x' := dAk o) eo ?_ | (with_reducible (first | apply G_vvs | apply G_vv0 | apply G_kk | apply G_bi | apply G_ca | apply G_a1 | apply G_a0 | apply Z_seq | apply Z_set | apply St_s | apply St_0 | apply G_ix | apply G_cm | apply G_tCm | apply Bl_bl | apply Z_if | apply Z_ret | apply G_bl | apply G_tTr | apply G_tNot | apply G_tAnd | apply G_tOr | apply G_isn | apply G_me | apply G_lsv | apply G_tu | apply G_lsm | apply G_nt | apply G_ng | apply G_cm2 | apply G_ie | apply G_sl | apply G_andE | apply G_orE | apply G_p0 | apply G_p1 | apply G_iv | apply G_r1 | apply G_r2 | apply G_lcv | apply G_lcv1 | apply G_lcm | apply G_lcm1 | apply Z_exp | apply Z_pass | apply Z_brk | apply Z_cnt | apply Z_ret0 | apply Z_tup | apply Z_sub | apply Z_while | apply Z_for | apply Z_raise | apply FnP_self | apply Bn_add | apply Bn_sub | apply Bn_and | apply Cp_lt | apply Cp_le | apply Cp_gt | apply Cp_ge | apply Cp_eqi | apply Cp_nei | apply Cp_is | apply Cp_isn | apply Tr_bl | apply Tr_int | apply Tr_lst | apply Tr_tup | apply Tr_non | apply Io_int | apply Bs_int | apply Bs_intb | apply Bs_len | apply Bs_lent | apply Bs_min | apply Bs_max | apply Bs_abs | apply Md_bits | apply Mt_bits | apply It_lst | apply It_tup | apply Br_not | apply Bd_b1 | apply G_di0 | apply Sl_lst | apply Sl_tup | apply Wp_0 | apply Wp_s | apply Sn_0 | apply Sn_s | apply Ct_mk1 | apply Ct_mk | apply Tn_mk | apply G_zen | apply G_zzp | apply G_rvs | apply G_lset | apply G_dct | apply G_k0 | apply G_k1 | apply G_dis | apply En_lst | apply Zp_tup | apply Zp_lst | apply Rv_lst | apply Rv_tup | apply Ky_str | apply Ky_int | apply Md_split | apply Md_join | apply Md_idx | apply Ts_0 | apply Ts_s | apply Cp_eqb | apply Cp_neb | apply Z_try)) | refine Ln_mk (Nat.le_of_ble_eq_true rfl) ?_ | refine Bn_mod (by first | decide | omega) ?_ | refine Bd_bT rfl ?_ | refine Ix_by rfl ?_ | refine Is_by (k := true) rfl ?_ | refine Is_by (k := false) rfl ?_ | refine R1_mk (by first | decide | omega) ?_ | refine Bn_mulS (by omega) (by omega) ?_ | refine Bn_fdivS (by omega) (by omega) ?_ | (apply Ix_ref; assumption; exact rfl) | (apply Sd_ref; assumption; exact rfl; intro _ _ _ _) | (apply Bs_lenr; assumption) | (apply Md_app; assumption) | refine Br_t rfl ?_ | refine Br_f rfl ?_ | refine Br_t (decide_eq_true (by omega)) ?_ | refine Br_f (decide_eq_false (by omega)) ?_ | (with_reducible refine Br_dec (fun _ => ?_) (fun _ => ?_)) | fail))
  refine CfMap (g := dWork) (h := fun w => dS w.1) (by omega) (fun w hw => ?_) ?_
  · dsimp only [dWork]
    (repeat' (first | (with_reducible (first | apply G_vvs | apply G_vv0 | apply G_kk | apply G_bi | apply G_ca | apply G_a1 | apply G_a0 | apply Z_seq | apply Z_set | apply St_s | apply St_0 | apply G_ix | apply G_cm | apply G_tCm | apply Bl_bl | apply Z_if | apply Z_ret | apply G_bl | apply G_tTr | apply G_tNot | apply G_tAnd | apply G_tOr | apply G_isn | apply G_me | apply G_lsv | apply G_tu | apply G_lsm | apply G_nt | apply G_ng | apply G_cm2 | apply G_ie | apply G_sl | apply G_andE | apply G_orE | apply G_p0 | apply G_p1 | apply G_iv | apply G_r1 | apply G_r2 | apply G_lcv | apply G_lcv1 | apply G_lcm | apply G_lcm1 | apply Z_exp | apply Z_pass | apply Z_brk | apply Z_cnt | apply Z_ret0 | apply Z_tup | apply Z_sub | apply Z_while | apply Z_for | apply Z_raise | apply FnP_self | apply Bn_add | apply Bn_sub | apply Bn_and | apply Cp_lt | apply Cp_le | apply Cp_gt | apply Cp_ge | apply Cp_eqi | apply Cp_nei | apply Cp_is | apply Cp_isn | apply Tr_bl | apply Tr_int | apply Tr_lst | apply Tr_tup | apply Tr_non | apply Io_int | apply Bs_int | apply Bs_intb | apply Bs_len | apply Bs_lent | apply Bs_min | apply Bs_max | apply Bs_abs | apply Md_bits | apply Mt_bits | apply It_lst | apply It_tup | apply Br_not | apply Bd_b1 | apply G_di0 | apply Sl_lst | apply Sl_tup | apply Wp_0 | apply Wp_s | apply Sn_0 | apply Sn_s | apply Ct_mk1 | apply Ct_mk | apply Tn_mk | apply G_zen | apply G_zzp | apply G_rvs | apply G_lset | apply G_dct | apply G_k0 | apply G_k1 | apply G_dis | apply En_lst | apply Zp_tup | apply Zp_lst | apply Rv_lst | apply Rv_tup | apply Ky_str | apply Ky_int | apply Md_split | apply Md_join | apply Md_idx | apply Ts_0 | apply Ts_s | apply Cp_eqb | apply Cp_neb | apply Z_try)) | refine Ln_mk (Nat.le_of_ble_eq_true rfl) ?_ | refine Bn_mod (by first | decide | omega) ?_ | refine Bd_bT rfl ?_ | refine Ix_by rfl ?_ | refine Is_by (k := true) rfl ?_ | refine Is_by (k := false) rfl ?_ | refine R1_mk (by first | decide | omega) ?_ | refine Bn_mulS (by omega) (by omega) ?_ | refine Bn_fdivS (by omega) (by omega) ?_ | (apply Ix_ref; assumption; exact rfl) | (apply Sd_ref; assumption; exact rfl; intro _ _ _ _) | (apply Bs_lenr; assumption) | (apply Md_app; assumption) | refine Br_t rfl ?_ | refine Br_f rfl ?_ | refine Br_t (decide_eq_true (by omega)) ?_ | refine Br_f (decide_eq_false (by omega)) ?_ | (with_reducible refine Br_dec (fun _ => ?_) (fun _ => ?_)) | fail))
    exact ⟨rfl, rfl⟩
  (repeat' (first | (with_reducible (first | apply G_vvs | apply G_vv0 | apply G_kk | apply G_bi | apply G_ca | apply G_a1 | apply G_a0 | apply Z_seq | apply Z_set | apply St_s | apply St_0 | apply G_ix | apply G_cm | apply G_tCm | apply Bl_bl | apply Z_if | apply Z_ret | apply G_bl | apply G_tTr | apply G_tNot | apply G_tAnd | apply G_tOr | apply G_isn | apply G_me | apply G_lsv | apply G_tu | apply G_lsm | apply G_nt | apply G_ng | apply G_cm2 | apply G_ie | apply G_sl | apply G_andE | apply G_orE | apply G_p0 | apply G_p1 | apply G_iv | apply G_r1 | apply G_r2 | apply G_lcv | apply G_lcv1 | apply G_lcm | apply G_lcm1 | apply Z_exp | apply Z_pass | apply Z_brk | apply Z_cnt | apply Z_ret0 | apply Z_tup | apply Z_sub | apply Z_while | apply Z_for | apply Z_raise | apply FnP_self | apply Bn_add | apply Bn_sub | apply Bn_and | apply Cp_lt | apply Cp_le | apply Cp_gt | apply Cp_ge | apply Cp_eqi | apply Cp_nei | apply Cp_is | apply Cp_isn | apply Tr_bl | apply Tr_int | apply Tr_lst | apply Tr_tup | apply Tr_non | apply Io_int | apply Bs_int | apply Bs_intb | apply Bs_len | apply Bs_lent | apply Bs_min | apply Bs_max | apply Bs_abs | apply Md_bits | apply Mt_bits | apply It_lst | apply It_tup | apply Br_not | apply Bd_b1 | apply G_di0 | apply Sl_lst | apply Sl_tup | apply Wp_0 | apply Wp_s | apply Sn_0 | apply Sn_s | apply Ct_mk1 | apply Ct_mk | apply Tn_mk | apply G_zen | apply G_zzp | apply G_rvs | apply G_lset | apply G_dct | apply G_k0 | apply G_k1 | apply G_dis | apply En_lst | apply Zp_tup | apply Zp_lst | apply Rv_lst | apply Rv_tup | apply Ky_str | apply Ky_int | apply Md_split | apply Md_join | apply Md_idx | apply Ts_0 | apply Ts_s | apply Cp_eqb | apply Cp_neb | apply Z_try)) | refine Ln_mk (Nat.le_of_ble_eq_true rfl) ?_ | refine Bn_mod (by first | decide | omega) ?_ | refine Bd_bT rfl ?_ | refine Ix_by rfl ?_ | refine Is_by (k := true) rfl ?_ | refine Is_by (k := false) rfl ?_ | refine R1_mk (by first | decide | omega) ?_ | refine Bn_mulS (by omega) (by omega) ?_ | refine Bn_fdivS (by omega) (by omega) ?_ | (apply Ix_ref; assumption; exact rfl) | (apply Sd_ref; assumption; exact rfl; intro _ _ _ _) | (apply Bs_lenr; assumption) | (apply Md_app; assumption) | refine Br_t rfl ?_ | refine Br_f rfl ?_ | refine Br_t (decide_eq_true (by omega)) ?_ | refine Br_f (decide_eq_false (by omega)) ?_ | (with_reducible refine Br_dec (fun _ => ?_) (fun _ => ?_)) | fail))
  refine one_w hs3 (by omega) (by rw [List.length_map]; omega) (by rw [List.length_map]; omega) (fun y S4 hy hs4 l4 o4 => ?_)
  obtain ⟨w, hw, rfl⟩ := List.mem_map.mp hy
  have wm := mem_nms hw
  have m4 := m3.kp hs3 (Kp.same l4 o4)
  (repeat' (first | (with_reducible (first | apply G_vvs | apply G_vv0 | apply G_kk | apply G_bi | apply G_ca | apply G_a1 | apply G_a0 | apply Z_seq | apply Z_set | apply St_s | apply St_0 | apply G_ix | apply G_cm | apply G_tCm | apply Bl_bl | apply Z_if | apply Z_ret | apply G_bl | apply G_tTr | apply G_tNot | apply G_tAnd | apply G_tOr | apply G_isn | apply G_me | apply G_lsv | apply G_tu | apply G_lsm | apply G_nt | apply G_ng | apply G_cm2 | apply G_ie | apply G_sl | apply G_andE | apply G_orE | apply G_p0 | apply G_p1 | apply G_iv | apply G_r1 | apply G_r2 | apply G_lcv | apply G_lcv1 | apply G_lcm | apply G_lcm1 | apply Z_exp | apply Z_pass | apply Z_brk | apply Z_cnt | apply Z_ret0 | apply Z_tup | apply Z_sub | apply Z_while | apply Z_for | apply Z_raise | apply FnP_self | apply Bn_add | apply Bn_sub | apply Bn_and | apply Cp_lt | apply Cp_le | apply Cp_gt | apply Cp_ge | apply Cp_eqi | apply Cp_nei | apply Cp_is | apply Cp_isn | apply Tr_bl | apply Tr_int | apply Tr_lst | apply Tr_tup | apply Tr_non | apply Io_int | apply Bs_int | apply Bs_intb | apply Bs_len | apply Bs_lent | apply Bs_min | apply Bs_max | apply Bs_abs | apply Md_bits | apply Mt_bits | apply It_lst | apply It_tup | apply Br_not | apply Bd_b1 | apply G_di0 | apply Sl_lst | apply Sl_tup | apply Wp_0 | apply Wp_s | apply Sn_0 | apply Sn_s | apply Ct_mk1 | apply Ct_mk | apply Tn_mk | apply G_zen | apply G_zzp | apply G_rvs | apply G_lset | apply G_dct | apply G_k0 | apply G_k1 | apply G_dis | apply En_lst | apply Zp_tup | apply Zp_lst | apply Rv_lst | apply Rv_tup | apply Ky_str | apply Ky_int | apply Md_split | apply Md_join | apply Md_idx | apply Ts_0 | apply Ts_s | apply Cp_eqb | apply Cp_neb | apply Z_try)) | refine Ln_mk (Nat.le_of_ble_eq_true rfl) ?_ | refine Bn_mod (by first | decide | omega) ?_ | refine Bd_bT rfl ?_ | refine Ix_by rfl ?_ | refine Is_by (k := true) rfl ?_ | refine Is_by (k := false) rfl ?_ | refine R1_mk (by first | decide | omega) ?_ | refine Bn_mulS (by omega) (by omega) ?_ | refine Bn_fdivS (by omega) (by omega) ?_ | (apply Ix_ref; assumption; exact rfl) | (apply Sd_ref; assumption; exact rfl; intro _ _ _ _) | (apply Bs_lenr; assumption) | (apply Md_app; assumption) | refine Br_t rfl ?_ | refine Br_f rfl ?_ | refine Br_t (decide_eq_true (by omega)) ?_ | refine Br_f (decide_eq_false (by omega)) ?_ | (with_reducible refine Br_dec (fun _ => ?_) (fun _ => ?_)) | fail))
  refine draw_w hs4 (by omega) (by decide) (by decide) (fun x S5 d0 d1 hs5 l5 o5 => ?_)
  have m5 := m4.kp hs4 (Kp.same l5 o5)
  (repeat' (first | refine Md_app m5.at_ ?_ | refine Mt_app m5.app.at_ (by rw [List.length_map, m5.len]; omega) (fun S6 g6 l6 o6 => ?_) | (with_reducible refine taken_w (a := o) rfl (by omega) ?_) | (with_reducible (first | apply G_vvs | apply G_vv0 | apply G_kk | apply G_bi | apply G_ca | apply G_a1 | apply G_a0 | apply Z_seq | apply Z_set | apply St_s | apply St_0 | apply G_ix | apply G_cm | apply G_tCm | apply Bl_bl | apply Z_if | apply Z_ret | apply G_bl | apply G_tTr | apply G_tNot | apply G_tAnd | apply G_tOr | apply G_isn | apply G_me | apply G_lsv | apply G_tu | apply G_lsm | apply G_nt | apply G_ng | apply G_cm2 | apply G_ie | apply G_sl | apply G_andE | apply G_orE | apply G_p0 | apply G_p1 | apply G_iv | apply G_r1 | apply G_r2 | apply G_lcv | apply G_lcv1 | apply G_lcm | apply G_lcm1 | apply Z_exp | apply Z_pass | apply Z_brk | apply Z_cnt | apply Z_ret0 | apply Z_tup | apply Z_sub | apply Z_while | apply Z_for | apply Z_raise | apply FnP_self | apply Bn_add | apply Bn_sub | apply Bn_and | apply Cp_lt | apply Cp_le | apply Cp_gt | apply Cp_ge | apply Cp_eqi | apply Cp_nei | apply Cp_is | apply Cp_isn | apply Tr_bl | apply Tr_int | apply Tr_lst | apply Tr_tup | apply Tr_non | apply Io_int | apply Bs_int | apply Bs_intb | apply Bs_len | apply Bs_lent | apply Bs_min | apply Bs_max | apply Bs_abs | apply Md_bits | apply Mt_bits | apply It_lst | apply It_tup | apply Br_not | apply Bd_b1 | apply G_di0 | apply Sl_lst | apply Sl_tup | apply Wp_0 | apply Wp_s | apply Sn_0 | apply Sn_s | apply Ct_mk1 | apply Ct_mk | apply Tn_mk | apply G_zen | apply G_zzp | apply G_rvs | apply G_lset | apply G_dct | apply G_k0 | apply G_k1 | apply G_dis | apply En_lst | apply Zp_tup | apply Zp_lst | apply Rv_lst | apply Rv_tup | apply Ky_str | apply Ky_int | apply Md_split | apply Md_join | apply Md_idx | apply Ts_0 | apply Ts_s | apply Cp_eqb | apply Cp_neb | apply Z_try)) | refine Ln_mk (Nat.le_of_ble_eq_true rfl) ?_ | refine Bn_mod (by first | decide | omega) ?_ | refine Bd_bT rfl ?_ | refine Ix_by rfl ?_ | refine Is_by (k := true) rfl ?_ | refine Is_by (k := false) rfl ?_ | refine R1_mk (by first | decide | omega) ?_ | refine Bn_mulS (by omega) (by omega) ?_ | refine Bn_fdivS (by omega) (by omega) ?_ | (apply Ix_ref; assumption; exact rfl) | (apply Sd_ref; assumption; exact rfl; intro _ _ _ _) | (apply Bs_lenr; assumption) | (apply Md_app; assumption) | refine Br_t rfl ?_ | refine Br_f rfl ?_ | refine Br_t (decide_eq_true (by omega)) ?_ | refine Br_f (decide_eq_false (by omega)) ?_ | (with_reducible refine Br_dec (fun _ => ?_) (fun _ => ?_)) | fail))
  have recE : Ob.dic (mergeG [] [(.inr (SX.S [110, 97, 109, 101]), dS w.1), (.inr (SX.S [120]), .int x), (.inr (SX.S [115, 117, 109]), .int 0), (.inr (SX.S [97, 116]), .int 0), (.inr (SX.S [108, 101, 102, 116]), .int 0), (.inr (SX.S cAsk), dAk o), (.inr (SX.S [119, 97, 105, 116, 115]), .non)]) = recO (newW w.1 x o) := rfl
  rw [recE] at o6
  have m6 := m5.snoc (w := newW w.1 x o) g6 o6
  refine Fn_stay (i := lm) (o := .lst (ls.map D.ref ++ [.ref S5.length])) lml g6 ?_ (hQ w.1 x o S6 _ wm oo m6)
  refine belows_false (d := .ref S5.length) (by simp) ?_
  exact decide_eq_false (by omega)
theorem ans_step {a : Ak} {n : Int} {h : List Wh} {i : Nat} {w : Wh} (hw : h[i]? = some w) : (ansH a n (h.take i) ++ h.drop i).set i (if w.wt = some a then { w with tot := w.tot + n, wt := none } else w) = ansH a n (h.take (i + 1)) ++ h.drop (i + 1) := by
  have lt : i < h.length := (List.getElem?_eq_some_iff.mp hw).1
  have e : h[i] = w := (List.getElem?_eq_some_iff.mp hw).2
  have ll : (ansH a n (h.take i)).length = i := by unfold ansH; rw [List.length_map, List.length_take]; omega
  rw [List.set_append_right _ _ (by omega), ll, Nat.sub_self, List.drop_eq_getElem_cons lt, List.set_cons_zero, List.take_succ, hw, Option.toList, ansH_app, List.append_assoc]
  rfl
theorem lans_w {S : Store} {l lm : Nat} {k : Int} {ls : List Nat} {h : List Wh} {ws : List Wk} (hsr : Src S l k) (hk : k ≤ 10000) (m : Md S lm ls h) (oh : okHd ws h) (hl : h.length ≤ 1000) {Qd : D → Store → Prop} {E : EX}
    (hQ : ∀ a n S', Md S' lm ls (ansH a n h) → Qd (dHand (ansH a n h)) S') : W (m__law_answered [.ref l, .ref lm, dHand h] S) Qd E := by
  have al := asks_len h
  have lml := m.lt
  have lms := m.lts
  have ff : fine 2 (.lst ((asks h).map dA)) = true := fines_asks (asks_ok oh)
  have owt : ∀ w ∈ h, okA w.wt := fun w hw => (oh w hw).wt
  apply w__law_answered
  unfold z__law_answered
  rw [kWaits, kNobody, kSum]
  (repeat' (first | (with_reducible (first | apply G_vvs | apply G_vv0 | apply G_kk | apply G_bi | apply G_ca | apply G_a1 | apply G_a0 | apply Z_seq | apply Z_set | apply St_s | apply St_0 | apply G_ix | apply G_cm | apply G_tCm | apply Bl_bl | apply Z_if | apply Z_ret | apply G_bl | apply G_tTr | apply G_tNot | apply G_tAnd | apply G_tOr | apply G_isn | apply G_me | apply G_lsv | apply G_tu | apply G_lsm | apply G_nt | apply G_ng | apply G_cm2 | apply G_ie | apply G_sl | apply G_andE | apply G_orE | apply G_p0 | apply G_p1 | apply G_iv | apply G_r1 | apply G_r2 | apply G_lcv | apply G_lcv1 | apply G_lcm | apply G_lcm1 | apply Z_exp | apply Z_pass | apply Z_brk | apply Z_cnt | apply Z_ret0 | apply Z_tup | apply Z_sub | apply Z_while | apply Z_for | apply Z_raise | apply FnP_self | apply Bn_add | apply Bn_sub | apply Bn_and | apply Cp_lt | apply Cp_le | apply Cp_gt | apply Cp_ge | apply Cp_eqi | apply Cp_nei | apply Cp_is | apply Cp_isn | apply Tr_bl | apply Tr_int | apply Tr_lst | apply Tr_tup | apply Tr_non | apply Io_int | apply Bs_int | apply Bs_intb | apply Bs_len | apply Bs_lent | apply Bs_min | apply Bs_max | apply Bs_abs | apply Md_bits | apply Mt_bits | apply It_lst | apply It_tup | apply Br_not | apply Bd_b1 | apply G_di0 | apply Sl_lst | apply Sl_tup | apply Wp_0 | apply Wp_s | apply Sn_0 | apply Sn_s | apply Ct_mk1 | apply Ct_mk | apply Tn_mk | apply G_zen | apply G_zzp | apply G_rvs | apply G_lset | apply G_dct | apply G_k0 | apply G_k1 | apply G_dis | apply En_lst | apply Zp_tup | apply Zp_lst | apply Rv_lst | apply Rv_tup | apply Ky_str | apply Ky_int | apply Md_split | apply Md_join | apply Md_idx | apply Ts_0 | apply Ts_s | apply Cp_eqb | apply Cp_neb | apply Z_try)) | refine Ln_mk (Nat.le_of_ble_eq_true rfl) ?_ | refine Bn_mod (by first | decide | omega) ?_ | refine Bd_bT rfl ?_ | refine Ix_by rfl ?_ | refine Is_by (k := true) rfl ?_ | refine Is_by (k := false) rfl ?_ | refine R1_mk (by first | decide | omega) ?_ | refine Bn_mulS (by omega) (by omega) ?_ | refine Bn_fdivS (by omega) (by omega) ?_ | (apply Ix_ref; assumption; exact rfl) | (apply Sd_ref; assumption; exact rfl; intro _ _ _ _) | (apply Bs_lenr; assumption) | (apply Md_app; assumption) | refine Br_t rfl ?_ | refine Br_f rfl ?_ | refine Br_t (decide_eq_true (by omega)) ?_ | refine Br_f (decide_eq_false (by omega)) ?_ | (with_reducible refine Br_dec (fun _ => ?_) (fun _ => ?_)) | fail))
  refine draw_w hsr (by omega) (by decide) (by decide) (fun num S1 a0 a1 hs1 l1 o1 => ?_)
  have m1 := m.kp hsr (Kp.same l1 o1)
  (repeat' (first | refine It_ref m1.at_ ?_ | (with_reducible (first | apply G_vvs | apply G_vv0 | apply G_kk | apply G_bi | apply G_ca | apply G_a1 | apply G_a0 | apply Z_seq | apply Z_set | apply St_s | apply St_0 | apply G_ix | apply G_cm | apply G_tCm | apply Bl_bl | apply Z_if | apply Z_ret | apply G_bl | apply G_tTr | apply G_tNot | apply G_tAnd | apply G_tOr | apply G_isn | apply G_me | apply G_lsv | apply G_tu | apply G_lsm | apply G_nt | apply G_ng | apply G_cm2 | apply G_ie | apply G_sl | apply G_andE | apply G_orE | apply G_p0 | apply G_p1 | apply G_iv | apply G_r1 | apply G_r2 | apply G_lcv | apply G_lcv1 | apply G_lcm | apply G_lcm1 | apply Z_exp | apply Z_pass | apply Z_brk | apply Z_cnt | apply Z_ret0 | apply Z_tup | apply Z_sub | apply Z_while | apply Z_for | apply Z_raise | apply FnP_self | apply Bn_add | apply Bn_sub | apply Bn_and | apply Cp_lt | apply Cp_le | apply Cp_gt | apply Cp_ge | apply Cp_eqi | apply Cp_nei | apply Cp_is | apply Cp_isn | apply Tr_bl | apply Tr_int | apply Tr_lst | apply Tr_tup | apply Tr_non | apply Io_int | apply Bs_int | apply Bs_intb | apply Bs_len | apply Bs_lent | apply Bs_min | apply Bs_max | apply Bs_abs | apply Md_bits | apply Mt_bits | apply It_lst | apply It_tup | apply Br_not | apply Bd_b1 | apply G_di0 | apply Sl_lst | apply Sl_tup | apply Wp_0 | apply Wp_s | apply Sn_0 | apply Sn_s | apply Ct_mk1 | apply Ct_mk | apply Tn_mk | apply G_zen | apply G_zzp | apply G_rvs | apply G_lset | apply G_dct | apply G_k0 | apply G_k1 | apply G_dis | apply En_lst | apply Zp_tup | apply Zp_lst | apply Rv_lst | apply Rv_tup | apply Ky_str | apply Ky_int | apply Md_split | apply Md_join | apply Md_idx | apply Ts_0 | apply Ts_s | apply Cp_eqb | apply Cp_neb | apply Z_try)) | refine Ln_mk (Nat.le_of_ble_eq_true rfl) ?_ | refine Bn_mod (by first | decide | omega) ?_ | refine Bd_bT rfl ?_ | refine Ix_by rfl ?_ | refine Is_by (k := true) rfl ?_ | refine Is_by (k := false) rfl ?_ | refine R1_mk (by first | decide | omega) ?_ | refine Bn_mulS (by omega) (by omega) ?_ | refine Bn_fdivS (by omega) (by omega) ?_ | (apply Ix_ref; assumption; exact rfl) | (apply Sd_ref; assumption; exact rfl; intro _ _ _ _) | (apply Bs_lenr; assumption) | (apply Md_app; assumption) | refine Br_t rfl ?_ | refine Br_f rfl ?_ | refine Br_t (decide_eq_true (by omega)) ?_ | refine Br_f (decide_eq_false (by omega)) ?_ | (with_reducible refine Br_dec (fun _ => ?_) (fun _ => ?_)) | fail))
  refine CfMd m1 (by omega) (fun _ w => w.wt.map dA) (fun l w hw e => ?_) ?_
  · obtain ⟨nm, x, tot, pl, lf, own, wt⟩ := w
    cases wt with
    | none =>
      (repeat' (first | refine Ix_wt e ?_ | refine Cp_by (k := false) rfl ?_ | (with_reducible (first | apply G_vvs | apply G_vv0 | apply G_kk | apply G_bi | apply G_ca | apply G_a1 | apply G_a0 | apply Z_seq | apply Z_set | apply St_s | apply St_0 | apply G_ix | apply G_cm | apply G_tCm | apply Bl_bl | apply Z_if | apply Z_ret | apply G_bl | apply G_tTr | apply G_tNot | apply G_tAnd | apply G_tOr | apply G_isn | apply G_me | apply G_lsv | apply G_tu | apply G_lsm | apply G_nt | apply G_ng | apply G_cm2 | apply G_ie | apply G_sl | apply G_andE | apply G_orE | apply G_p0 | apply G_p1 | apply G_iv | apply G_r1 | apply G_r2 | apply G_lcv | apply G_lcv1 | apply G_lcm | apply G_lcm1 | apply Z_exp | apply Z_pass | apply Z_brk | apply Z_cnt | apply Z_ret0 | apply Z_tup | apply Z_sub | apply Z_while | apply Z_for | apply Z_raise | apply FnP_self | apply Bn_add | apply Bn_sub | apply Bn_and | apply Cp_lt | apply Cp_le | apply Cp_gt | apply Cp_ge | apply Cp_eqi | apply Cp_nei | apply Cp_is | apply Cp_isn | apply Tr_bl | apply Tr_int | apply Tr_lst | apply Tr_tup | apply Tr_non | apply Io_int | apply Bs_int | apply Bs_intb | apply Bs_len | apply Bs_lent | apply Bs_min | apply Bs_max | apply Bs_abs | apply Md_bits | apply Mt_bits | apply It_lst | apply It_tup | apply Br_not | apply Bd_b1 | apply G_di0 | apply Sl_lst | apply Sl_tup | apply Wp_0 | apply Wp_s | apply Sn_0 | apply Sn_s | apply Ct_mk1 | apply Ct_mk | apply Tn_mk | apply G_zen | apply G_zzp | apply G_rvs | apply G_lset | apply G_dct | apply G_k0 | apply G_k1 | apply G_dis | apply En_lst | apply Zp_tup | apply Zp_lst | apply Rv_lst | apply Rv_tup | apply Ky_str | apply Ky_int | apply Md_split | apply Md_join | apply Md_idx | apply Ts_0 | apply Ts_s | apply Cp_eqb | apply Cp_neb | apply Z_try)) | refine Ln_mk (Nat.le_of_ble_eq_true rfl) ?_ | refine Bn_mod (by first | decide | omega) ?_ | refine Bd_bT rfl ?_ | refine Ix_by rfl ?_ | refine Is_by (k := true) rfl ?_ | refine Is_by (k := false) rfl ?_ | refine R1_mk (by first | decide | omega) ?_ | refine Bn_mulS (by omega) (by omega) ?_ | refine Bn_fdivS (by omega) (by omega) ?_ | (apply Ix_ref; assumption; exact rfl) | (apply Sd_ref; assumption; exact rfl; intro _ _ _ _) | (apply Bs_lenr; assumption) | (apply Md_app; assumption) | refine Br_t rfl ?_ | refine Br_f rfl ?_ | refine Br_t (decide_eq_true (by omega)) ?_ | refine Br_f (decide_eq_false (by omega)) ?_ | (with_reducible refine Br_dec (fun _ => ?_) (fun _ => ?_)) | fail))
      exact ⟨rfl, rfl⟩
    | some a =>
      (repeat' (first | refine Ix_wt e ?_ | refine Cp_by (k := true) rfl ?_ | (with_reducible (first | apply G_vvs | apply G_vv0 | apply G_kk | apply G_bi | apply G_ca | apply G_a1 | apply G_a0 | apply Z_seq | apply Z_set | apply St_s | apply St_0 | apply G_ix | apply G_cm | apply G_tCm | apply Bl_bl | apply Z_if | apply Z_ret | apply G_bl | apply G_tTr | apply G_tNot | apply G_tAnd | apply G_tOr | apply G_isn | apply G_me | apply G_lsv | apply G_tu | apply G_lsm | apply G_nt | apply G_ng | apply G_cm2 | apply G_ie | apply G_sl | apply G_andE | apply G_orE | apply G_p0 | apply G_p1 | apply G_iv | apply G_r1 | apply G_r2 | apply G_lcv | apply G_lcv1 | apply G_lcm | apply G_lcm1 | apply Z_exp | apply Z_pass | apply Z_brk | apply Z_cnt | apply Z_ret0 | apply Z_tup | apply Z_sub | apply Z_while | apply Z_for | apply Z_raise | apply FnP_self | apply Bn_add | apply Bn_sub | apply Bn_and | apply Cp_lt | apply Cp_le | apply Cp_gt | apply Cp_ge | apply Cp_eqi | apply Cp_nei | apply Cp_is | apply Cp_isn | apply Tr_bl | apply Tr_int | apply Tr_lst | apply Tr_tup | apply Tr_non | apply Io_int | apply Bs_int | apply Bs_intb | apply Bs_len | apply Bs_lent | apply Bs_min | apply Bs_max | apply Bs_abs | apply Md_bits | apply Mt_bits | apply It_lst | apply It_tup | apply Br_not | apply Bd_b1 | apply G_di0 | apply Sl_lst | apply Sl_tup | apply Wp_0 | apply Wp_s | apply Sn_0 | apply Sn_s | apply Ct_mk1 | apply Ct_mk | apply Tn_mk | apply G_zen | apply G_zzp | apply G_rvs | apply G_lset | apply G_dct | apply G_k0 | apply G_k1 | apply G_dis | apply En_lst | apply Zp_tup | apply Zp_lst | apply Rv_lst | apply Rv_tup | apply Ky_str | apply Ky_int | apply Md_split | apply Md_join | apply Md_idx | apply Ts_0 | apply Ts_s | apply Cp_eqb | apply Cp_neb | apply Z_try)) | refine Ln_mk (Nat.le_of_ble_eq_true rfl) ?_ | refine Bn_mod (by first | decide | omega) ?_ | refine Bd_bT rfl ?_ | refine Ix_by rfl ?_ | refine Is_by (k := true) rfl ?_ | refine Is_by (k := false) rfl ?_ | refine R1_mk (by first | decide | omega) ?_ | refine Bn_mulS (by omega) (by omega) ?_ | refine Bn_fdivS (by omega) (by omega) ?_ | (apply Ix_ref; assumption; exact rfl) | (apply Sd_ref; assumption; exact rfl; intro _ _ _ _) | (apply Bs_lenr; assumption) | (apply Md_app; assumption) | refine Br_t rfl ?_ | refine Br_f rfl ?_ | refine Br_t (decide_eq_true (by omega)) ?_ | refine Br_f (decide_eq_false (by omega)) ?_ | (with_reducible refine Br_dec (fun _ => ?_) (fun _ => ?_)) | fail))
      exact ⟨rfl, rfl⟩
  rw [zip_snd (fun w => w.wt.map dA) m1.len, asks_eq]
  (repeat' (first | (with_reducible (first | apply G_vvs | apply G_vv0 | apply G_kk | apply G_bi | apply G_ca | apply G_a1 | apply G_a0 | apply Z_seq | apply Z_set | apply St_s | apply St_0 | apply G_ix | apply G_cm | apply G_tCm | apply Bl_bl | apply Z_if | apply Z_ret | apply G_bl | apply G_tTr | apply G_tNot | apply G_tAnd | apply G_tOr | apply G_isn | apply G_me | apply G_lsv | apply G_tu | apply G_lsm | apply G_nt | apply G_ng | apply G_cm2 | apply G_ie | apply G_sl | apply G_andE | apply G_orE | apply G_p0 | apply G_p1 | apply G_iv | apply G_r1 | apply G_r2 | apply G_lcv | apply G_lcv1 | apply G_lcm | apply G_lcm1 | apply Z_exp | apply Z_pass | apply Z_brk | apply Z_cnt | apply Z_ret0 | apply Z_tup | apply Z_sub | apply Z_while | apply Z_for | apply Z_raise | apply FnP_self | apply Bn_add | apply Bn_sub | apply Bn_and | apply Cp_lt | apply Cp_le | apply Cp_gt | apply Cp_ge | apply Cp_eqi | apply Cp_nei | apply Cp_is | apply Cp_isn | apply Tr_bl | apply Tr_int | apply Tr_lst | apply Tr_tup | apply Tr_non | apply Io_int | apply Bs_int | apply Bs_intb | apply Bs_len | apply Bs_lent | apply Bs_min | apply Bs_max | apply Bs_abs | apply Md_bits | apply Mt_bits | apply It_lst | apply It_tup | apply Br_not | apply Bd_b1 | apply G_di0 | apply Sl_lst | apply Sl_tup | apply Wp_0 | apply Wp_s | apply Sn_0 | apply Sn_s | apply Ct_mk1 | apply Ct_mk | apply Tn_mk | apply G_zen | apply G_zzp | apply G_rvs | apply G_lset | apply G_dct | apply G_k0 | apply G_k1 | apply G_dis | apply En_lst | apply Zp_tup | apply Zp_lst | apply Rv_lst | apply Rv_tup | apply Ky_str | apply Ky_int | apply Md_split | apply Md_join | apply Md_idx | apply Ts_0 | apply Ts_s | apply Cp_eqb | apply Cp_neb | apply Z_try)) | refine Ln_mk (Nat.le_of_ble_eq_true rfl) ?_ | refine Bn_mod (by first | decide | omega) ?_ | refine Bd_bT rfl ?_ | refine Ix_by rfl ?_ | refine Is_by (k := true) rfl ?_ | refine Is_by (k := false) rfl ?_ | refine R1_mk (by first | decide | omega) ?_ | refine Bn_mulS (by omega) (by omega) ?_ | refine Bn_fdivS (by omega) (by omega) ?_ | (apply Ix_ref; assumption; exact rfl) | (apply Sd_ref; assumption; exact rfl; intro _ _ _ _) | (apply Bs_lenr; assumption) | (apply Md_app; assumption) | refine Br_t rfl ?_ | refine Br_f rfl ?_ | refine Br_t (decide_eq_true (by omega)) ?_ | refine Br_f (decide_eq_false (by omega)) ?_ | (with_reducible refine Br_dec (fun _ => ?_) (fun _ => ?_)) | fail))
  refine draw_w hs1 (by omega) (by decide) (by decide) (fun nine S2 b0 b1 hs2 l2 o2 => ?_)
  have m2 := m1.kp hs1 (Kp.same l2 o2)
  have ne : fine 0 (.lst []) = false := rfl
  (repeat' (first | with_reducible refine Z_ifm (fun σ S' => ∃ (a : Ak) (x6 : Option D), σ = [some (.ref l), some (.ref lm), some (dHand h), some (.int (num - 2000)), some (.lst ((asks h).map dA)), some (dA a), x6] ∧ sOk a.1 = true ∧ Md S' lm ls h ∧ S'.length = S.length) ?_ ?_ | refine Cp_ne (EqOk.of ff (by decide)) ⟨rfl, _, rfl, rfl⟩ (fun z => ?_) (fun z => ?_) | (with_reducible (first | apply G_vvs | apply G_vv0 | apply G_kk | apply G_bi | apply G_ca | apply G_a1 | apply G_a0 | apply Z_seq | apply Z_set | apply St_s | apply St_0 | apply G_ix | apply G_cm | apply G_tCm | apply Bl_bl | apply Z_if | apply Z_ret | apply G_bl | apply G_tTr | apply G_tNot | apply G_tAnd | apply G_tOr | apply G_isn | apply G_me | apply G_lsv | apply G_tu | apply G_lsm | apply G_nt | apply G_ng | apply G_cm2 | apply G_ie | apply G_sl | apply G_andE | apply G_orE | apply G_p0 | apply G_p1 | apply G_iv | apply G_r1 | apply G_r2 | apply G_lcv | apply G_lcv1 | apply G_lcm | apply G_lcm1 | apply Z_exp | apply Z_pass | apply Z_brk | apply Z_cnt | apply Z_ret0 | apply Z_tup | apply Z_sub | apply Z_while | apply Z_for | apply Z_raise | apply FnP_self | apply Bn_add | apply Bn_sub | apply Bn_and | apply Cp_lt | apply Cp_le | apply Cp_gt | apply Cp_ge | apply Cp_eqi | apply Cp_nei | apply Cp_is | apply Cp_isn | apply Tr_bl | apply Tr_int | apply Tr_lst | apply Tr_tup | apply Tr_non | apply Io_int | apply Bs_int | apply Bs_intb | apply Bs_len | apply Bs_lent | apply Bs_min | apply Bs_max | apply Bs_abs | apply Md_bits | apply Mt_bits | apply It_lst | apply It_tup | apply Br_not | apply Bd_b1 | apply G_di0 | apply Sl_lst | apply Sl_tup | apply Wp_0 | apply Wp_s | apply Sn_0 | apply Sn_s | apply Ct_mk1 | apply Ct_mk | apply Tn_mk | apply G_zen | apply G_zzp | apply G_rvs | apply G_lset | apply G_dct | apply G_k0 | apply G_k1 | apply G_dis | apply En_lst | apply Zp_tup | apply Zp_lst | apply Rv_lst | apply Rv_tup | apply Ky_str | apply Ky_int | apply Md_split | apply Md_join | apply Md_idx | apply Ts_0 | apply Ts_s | apply Cp_eqb | apply Cp_neb | apply Z_try)) | refine Ln_mk (Nat.le_of_ble_eq_true rfl) ?_ | refine Bn_mod (by first | decide | omega) ?_ | refine Bd_bT rfl ?_ | refine Ix_by rfl ?_ | refine Is_by (k := true) rfl ?_ | refine Is_by (k := false) rfl ?_ | refine R1_mk (by first | decide | omega) ?_ | refine Bn_mulS (by omega) (by omega) ?_ | refine Bn_fdivS (by omega) (by omega) ?_ | (apply Ix_ref; assumption; exact rfl) | (apply Sd_ref; assumption; exact rfl; intro _ _ _ _) | (apply Bs_lenr; assumption) | (apply Md_app; assumption) | refine Br_t rfl ?_ | refine Br_f rfl ?_ | refine Br_t (decide_eq_true (by omega)) ?_ | refine Br_f (decide_eq_false (by omega)) ?_ | (with_reducible refine Br_dec (fun _ => ?_) (fun _ => ?_)) | fail))
  · exact ⟨(cNobody, nine), _, rfl, by show sOk cNobody = true; decide, m2, by omega⟩
  · refine draw_w hs2 (by omega) (by decide) (by decide) (fun six S3 c0 c1 hs3 l3 o3 => ?_)
    have m3 := m2.kp hs2 (Kp.same l3 o3)
    have pos : 0 < (asks h).length := by
      cases q : asks h with
      | nil => rw [q] at z; exact absurd rfl z
      | cons a t => simp
    (repeat' (first | (with_reducible (first | apply G_vvs | apply G_vv0 | apply G_kk | apply G_bi | apply G_ca | apply G_a1 | apply G_a0 | apply Z_seq | apply Z_set | apply St_s | apply St_0 | apply G_ix | apply G_cm | apply G_tCm | apply Bl_bl | apply Z_if | apply Z_ret | apply G_bl | apply G_tTr | apply G_tNot | apply G_tAnd | apply G_tOr | apply G_isn | apply G_me | apply G_lsv | apply G_tu | apply G_lsm | apply G_nt | apply G_ng | apply G_cm2 | apply G_ie | apply G_sl | apply G_andE | apply G_orE | apply G_p0 | apply G_p1 | apply G_iv | apply G_r1 | apply G_r2 | apply G_lcv | apply G_lcv1 | apply G_lcm | apply G_lcm1 | apply Z_exp | apply Z_pass | apply Z_brk | apply Z_cnt | apply Z_ret0 | apply Z_tup | apply Z_sub | apply Z_while | apply Z_for | apply Z_raise | apply FnP_self | apply Bn_add | apply Bn_sub | apply Bn_and | apply Cp_lt | apply Cp_le | apply Cp_gt | apply Cp_ge | apply Cp_eqi | apply Cp_nei | apply Cp_is | apply Cp_isn | apply Tr_bl | apply Tr_int | apply Tr_lst | apply Tr_tup | apply Tr_non | apply Io_int | apply Bs_int | apply Bs_intb | apply Bs_len | apply Bs_lent | apply Bs_min | apply Bs_max | apply Bs_abs | apply Md_bits | apply Mt_bits | apply It_lst | apply It_tup | apply Br_not | apply Bd_b1 | apply G_di0 | apply Sl_lst | apply Sl_tup | apply Wp_0 | apply Wp_s | apply Sn_0 | apply Sn_s | apply Ct_mk1 | apply Ct_mk | apply Tn_mk | apply G_zen | apply G_zzp | apply G_rvs | apply G_lset | apply G_dct | apply G_k0 | apply G_k1 | apply G_dis | apply En_lst | apply Zp_tup | apply Zp_lst | apply Rv_lst | apply Rv_tup | apply Ky_str | apply Ky_int | apply Md_split | apply Md_join | apply Md_idx | apply Ts_0 | apply Ts_s | apply Cp_eqb | apply Cp_neb | apply Z_try)) | refine Ln_mk (Nat.le_of_ble_eq_true rfl) ?_ | refine Bn_mod (by first | decide | omega) ?_ | refine Bd_bT rfl ?_ | refine Ix_by rfl ?_ | refine Is_by (k := true) rfl ?_ | refine Is_by (k := false) rfl ?_ | refine R1_mk (by first | decide | omega) ?_ | refine Bn_mulS (by omega) (by omega) ?_ | refine Bn_fdivS (by omega) (by omega) ?_ | (apply Ix_ref; assumption; exact rfl) | (apply Sd_ref; assumption; exact rfl; intro _ _ _ _) | (apply Bs_lenr; assumption) | (apply Md_app; assumption) | refine Br_t rfl ?_ | refine Br_f rfl ?_ | refine Br_t (decide_eq_true (by omega)) ?_ | refine Br_f (decide_eq_false (by omega)) ?_ | (with_reducible refine Br_dec (fun _ => ?_) (fun _ => ?_)) | fail))
    · refine one_w hs3 (by omega) (by rw [List.length_map]; omega) (by rw [List.length_map]; omega) (fun y S4 hy hs4 l4 o4 => ?_)
      obtain ⟨a, ha, rfl⟩ := List.mem_map.mp hy
      have m4 := m3.kp hs3 (Kp.same l4 o4)
      (repeat' (first | (with_reducible (first | apply G_vvs | apply G_vv0 | apply G_kk | apply G_bi | apply G_ca | apply G_a1 | apply G_a0 | apply Z_seq | apply Z_set | apply St_s | apply St_0 | apply G_ix | apply G_cm | apply G_tCm | apply Bl_bl | apply Z_if | apply Z_ret | apply G_bl | apply G_tTr | apply G_tNot | apply G_tAnd | apply G_tOr | apply G_isn | apply G_me | apply G_lsv | apply G_tu | apply G_lsm | apply G_nt | apply G_ng | apply G_cm2 | apply G_ie | apply G_sl | apply G_andE | apply G_orE | apply G_p0 | apply G_p1 | apply G_iv | apply G_r1 | apply G_r2 | apply G_lcv | apply G_lcv1 | apply G_lcm | apply G_lcm1 | apply Z_exp | apply Z_pass | apply Z_brk | apply Z_cnt | apply Z_ret0 | apply Z_tup | apply Z_sub | apply Z_while | apply Z_for | apply Z_raise | apply FnP_self | apply Bn_add | apply Bn_sub | apply Bn_and | apply Cp_lt | apply Cp_le | apply Cp_gt | apply Cp_ge | apply Cp_eqi | apply Cp_nei | apply Cp_is | apply Cp_isn | apply Tr_bl | apply Tr_int | apply Tr_lst | apply Tr_tup | apply Tr_non | apply Io_int | apply Bs_int | apply Bs_intb | apply Bs_len | apply Bs_lent | apply Bs_min | apply Bs_max | apply Bs_abs | apply Md_bits | apply Mt_bits | apply It_lst | apply It_tup | apply Br_not | apply Bd_b1 | apply G_di0 | apply Sl_lst | apply Sl_tup | apply Wp_0 | apply Wp_s | apply Sn_0 | apply Sn_s | apply Ct_mk1 | apply Ct_mk | apply Tn_mk | apply G_zen | apply G_zzp | apply G_rvs | apply G_lset | apply G_dct | apply G_k0 | apply G_k1 | apply G_dis | apply En_lst | apply Zp_tup | apply Zp_lst | apply Rv_lst | apply Rv_tup | apply Ky_str | apply Ky_int | apply Md_split | apply Md_join | apply Md_idx | apply Ts_0 | apply Ts_s | apply Cp_eqb | apply Cp_neb | apply Z_try)) | refine Ln_mk (Nat.le_of_ble_eq_true rfl) ?_ | refine Bn_mod (by first | decide | omega) ?_ | refine Bd_bT rfl ?_ | refine Ix_by rfl ?_ | refine Is_by (k := true) rfl ?_ | refine Is_by (k := false) rfl ?_ | refine R1_mk (by first | decide | omega) ?_ | refine Bn_mulS (by omega) (by omega) ?_ | refine Bn_fdivS (by omega) (by omega) ?_ | (apply Ix_ref; assumption; exact rfl) | (apply Sd_ref; assumption; exact rfl; intro _ _ _ _) | (apply Bs_lenr; assumption) | (apply Md_app; assumption) | refine Br_t rfl ?_ | refine Br_f rfl ?_ | refine Br_t (decide_eq_true (by omega)) ?_ | refine Br_f (decide_eq_false (by omega)) ?_ | (with_reducible refine Br_dec (fun _ => ?_) (fun _ => ?_)) | fail))
      exact ⟨a, _, rfl, asks_ok oh a ha, m4, by omega⟩
    · exact ⟨(cNobody, nine), _, rfl, by show sOk cNobody = true; decide, m3, by omega⟩
  · rintro σ S3 ⟨a, x6, rfl, sa, m3, l3⟩
    generalize num - 2000 = n
    (repeat' (first | refine It_ref m3.at_ ?_ | (with_reducible (first | apply G_vvs | apply G_vv0 | apply G_kk | apply G_bi | apply G_ca | apply G_a1 | apply G_a0 | apply Z_seq | apply Z_set | apply St_s | apply St_0 | apply G_ix | apply G_cm | apply G_tCm | apply Bl_bl | apply Z_if | apply Z_ret | apply G_bl | apply G_tTr | apply G_tNot | apply G_tAnd | apply G_tOr | apply G_isn | apply G_me | apply G_lsv | apply G_tu | apply G_lsm | apply G_nt | apply G_ng | apply G_cm2 | apply G_ie | apply G_sl | apply G_andE | apply G_orE | apply G_p0 | apply G_p1 | apply G_iv | apply G_r1 | apply G_r2 | apply G_lcv | apply G_lcv1 | apply G_lcm | apply G_lcm1 | apply Z_exp | apply Z_pass | apply Z_brk | apply Z_cnt | apply Z_ret0 | apply Z_tup | apply Z_sub | apply Z_while | apply Z_for | apply Z_raise | apply FnP_self | apply Bn_add | apply Bn_sub | apply Bn_and | apply Cp_lt | apply Cp_le | apply Cp_gt | apply Cp_ge | apply Cp_eqi | apply Cp_nei | apply Cp_is | apply Cp_isn | apply Tr_bl | apply Tr_int | apply Tr_lst | apply Tr_tup | apply Tr_non | apply Io_int | apply Bs_int | apply Bs_intb | apply Bs_len | apply Bs_lent | apply Bs_min | apply Bs_max | apply Bs_abs | apply Md_bits | apply Mt_bits | apply It_lst | apply It_tup | apply Br_not | apply Bd_b1 | apply G_di0 | apply Sl_lst | apply Sl_tup | apply Wp_0 | apply Wp_s | apply Sn_0 | apply Sn_s | apply Ct_mk1 | apply Ct_mk | apply Tn_mk | apply G_zen | apply G_zzp | apply G_rvs | apply G_lset | apply G_dct | apply G_k0 | apply G_k1 | apply G_dis | apply En_lst | apply Zp_tup | apply Zp_lst | apply Rv_lst | apply Rv_tup | apply Ky_str | apply Ky_int | apply Md_split | apply Md_join | apply Md_idx | apply Ts_0 | apply Ts_s | apply Cp_eqb | apply Cp_neb | apply Z_try)) | refine Ln_mk (Nat.le_of_ble_eq_true rfl) ?_ | refine Bn_mod (by first | decide | omega) ?_ | refine Bd_bT rfl ?_ | refine Ix_by rfl ?_ | refine Is_by (k := true) rfl ?_ | refine Is_by (k := false) rfl ?_ | refine R1_mk (by first | decide | omega) ?_ | refine Bn_mulS (by omega) (by omega) ?_ | refine Bn_fdivS (by omega) (by omega) ?_ | (apply Ix_ref; assumption; exact rfl) | (apply Sd_ref; assumption; exact rfl; intro _ _ _ _) | (apply Bs_lenr; assumption) | (apply Md_app; assumption) | refine Br_t rfl ?_ | refine Br_f rfl ?_ | refine Br_t (decide_eq_true (by omega)) ?_ | refine Br_f (decide_eq_false (by omega)) ?_ | (with_reducible refine Br_dec (fun _ => ?_) (fun _ => ?_)) | fail))
    refine Lp_invR (xs := ls.map D.ref) (fun i σ S' => Md S' lm ls (ansH a n (h.take i) ++ h.drop i) ∧ S'.length = S.length ∧ ∃ x6 : Option D, σ = [some (.ref l), some (.ref lm), some (dHand h), some (.int n), some (.lst ((asks h).map dA)), some (dA a), x6]) (fun i σ S' e => e.1.at_) ⟨by simpa [ansH] using m3, l3, _, rfl⟩ ?_ ?_ (by rw [List.length_map, m.len]; omega)
    · rintro i d σ S4 hd ⟨m4, l4, x6, rfl⟩
      rw [List.getElem?_map, Option.map_eq_some_iff] at hd
      obtain ⟨j, hj, rfl⟩ := hd
      have lt : i < h.length := by rw [← m.len]; exact (List.getElem?_eq_some_iff.mp hj).1
      have hw : h[i]? = some h[i] := List.getElem?_eq_getElem lt
      have ow := owt h[i] (List.getElem_mem ..)
      have ll : (ansH a n (h.take i)).length = i := by unfold ansH; rw [List.length_map, List.length_take]; omega
      have hw2 : (ansH a n (h.take i) ++ h.drop i)[i]? = some h[i] := by
        rw [List.getElem?_append_right (by omega), ll, Nat.sub_self, List.getElem?_drop, Nat.add_zero]; exact hw
      have e := m4.rel i j h[i] hj hw2
      have jt := (List.getElem?_eq_some_iff.mp e).1
      have st := ans_step (a := a) (n := n) hw
      generalize h[i] = w at hw hw2 e st ow
      have e1 : (S4.set j (recO { w with tot := w.tot + n }))[j]? = some (recO { w with tot := w.tot + n }) := by rw [List.getElem?_set_self jt]
      have ss : (S4.set j (recO { w with tot := w.tot + n })).set j (recO { w with tot := w.tot + n, wt := none }) = S4.set j (recO { w with tot := w.tot + n, wt := none }) := List.set_set ..
      by_cases c : w.wt = some a
      · rw [if_pos c] at st
        (repeat' (first | refine Ix_wt e ?_ | refine Cp_dAk ow sa ?_ | refine Br_t (decide_eq_true c) ?_ | refine Ix_sum e ?_ | refine Sd_sum e ?_ | refine Sd_wt (a := none) e1 ?_ | (with_reducible (first | apply G_vvs | apply G_vv0 | apply G_kk | apply G_bi | apply G_ca | apply G_a1 | apply G_a0 | apply Z_seq | apply Z_set | apply St_s | apply St_0 | apply G_ix | apply G_cm | apply G_tCm | apply Bl_bl | apply Z_if | apply Z_ret | apply G_bl | apply G_tTr | apply G_tNot | apply G_tAnd | apply G_tOr | apply G_isn | apply G_me | apply G_lsv | apply G_tu | apply G_lsm | apply G_nt | apply G_ng | apply G_cm2 | apply G_ie | apply G_sl | apply G_andE | apply G_orE | apply G_p0 | apply G_p1 | apply G_iv | apply G_r1 | apply G_r2 | apply G_lcv | apply G_lcv1 | apply G_lcm | apply G_lcm1 | apply Z_exp | apply Z_pass | apply Z_brk | apply Z_cnt | apply Z_ret0 | apply Z_tup | apply Z_sub | apply Z_while | apply Z_for | apply Z_raise | apply FnP_self | apply Bn_add | apply Bn_sub | apply Bn_and | apply Cp_lt | apply Cp_le | apply Cp_gt | apply Cp_ge | apply Cp_eqi | apply Cp_nei | apply Cp_is | apply Cp_isn | apply Tr_bl | apply Tr_int | apply Tr_lst | apply Tr_tup | apply Tr_non | apply Io_int | apply Bs_int | apply Bs_intb | apply Bs_len | apply Bs_lent | apply Bs_min | apply Bs_max | apply Bs_abs | apply Md_bits | apply Mt_bits | apply It_lst | apply It_tup | apply Br_not | apply Bd_b1 | apply G_di0 | apply Sl_lst | apply Sl_tup | apply Wp_0 | apply Wp_s | apply Sn_0 | apply Sn_s | apply Ct_mk1 | apply Ct_mk | apply Tn_mk | apply G_zen | apply G_zzp | apply G_rvs | apply G_lset | apply G_dct | apply G_k0 | apply G_k1 | apply G_dis | apply En_lst | apply Zp_tup | apply Zp_lst | apply Rv_lst | apply Rv_tup | apply Ky_str | apply Ky_int | apply Md_split | apply Md_join | apply Md_idx | apply Ts_0 | apply Ts_s | apply Cp_eqb | apply Cp_neb | apply Z_try)) | refine Ln_mk (Nat.le_of_ble_eq_true rfl) ?_ | refine Bn_mod (by first | decide | omega) ?_ | refine Bd_bT rfl ?_ | refine Ix_by rfl ?_ | refine Is_by (k := true) rfl ?_ | refine Is_by (k := false) rfl ?_ | refine R1_mk (by first | decide | omega) ?_ | refine Bn_mulS (by omega) (by omega) ?_ | refine Bn_fdivS (by omega) (by omega) ?_ | (apply Ix_ref; assumption; exact rfl) | (apply Sd_ref; assumption; exact rfl; intro _ _ _ _) | (apply Bs_lenr; assumption) | (apply Md_app; assumption) | refine Br_t rfl ?_ | refine Br_f rfl ?_ | refine Br_t (decide_eq_true (by omega)) ?_ | refine Br_f (decide_eq_false (by omega)) ?_ | (with_reducible refine Br_dec (fun _ => ?_) (fun _ => ?_)) | fail))
        rw [ss]
        have mu := m4.upd (w' := { w with tot := w.tot + n, wt := none }) hj
        rw [st] at mu
        exact ⟨mu, by rw [List.length_set]; exact l4, _, rfl⟩
      · rw [if_neg c] at st
        (repeat' (first | refine Ix_wt e ?_ | refine Cp_dAk ow sa ?_ | refine Br_f (decide_eq_false c) ?_ | (with_reducible (first | apply G_vvs | apply G_vv0 | apply G_kk | apply G_bi | apply G_ca | apply G_a1 | apply G_a0 | apply Z_seq | apply Z_set | apply St_s | apply St_0 | apply G_ix | apply G_cm | apply G_tCm | apply Bl_bl | apply Z_if | apply Z_ret | apply G_bl | apply G_tTr | apply G_tNot | apply G_tAnd | apply G_tOr | apply G_isn | apply G_me | apply G_lsv | apply G_tu | apply G_lsm | apply G_nt | apply G_ng | apply G_cm2 | apply G_ie | apply G_sl | apply G_andE | apply G_orE | apply G_p0 | apply G_p1 | apply G_iv | apply G_r1 | apply G_r2 | apply G_lcv | apply G_lcv1 | apply G_lcm | apply G_lcm1 | apply Z_exp | apply Z_pass | apply Z_brk | apply Z_cnt | apply Z_ret0 | apply Z_tup | apply Z_sub | apply Z_while | apply Z_for | apply Z_raise | apply FnP_self | apply Bn_add | apply Bn_sub | apply Bn_and | apply Cp_lt | apply Cp_le | apply Cp_gt | apply Cp_ge | apply Cp_eqi | apply Cp_nei | apply Cp_is | apply Cp_isn | apply Tr_bl | apply Tr_int | apply Tr_lst | apply Tr_tup | apply Tr_non | apply Io_int | apply Bs_int | apply Bs_intb | apply Bs_len | apply Bs_lent | apply Bs_min | apply Bs_max | apply Bs_abs | apply Md_bits | apply Mt_bits | apply It_lst | apply It_tup | apply Br_not | apply Bd_b1 | apply G_di0 | apply Sl_lst | apply Sl_tup | apply Wp_0 | apply Wp_s | apply Sn_0 | apply Sn_s | apply Ct_mk1 | apply Ct_mk | apply Tn_mk | apply G_zen | apply G_zzp | apply G_rvs | apply G_lset | apply G_dct | apply G_k0 | apply G_k1 | apply G_dis | apply En_lst | apply Zp_tup | apply Zp_lst | apply Rv_lst | apply Rv_tup | apply Ky_str | apply Ky_int | apply Md_split | apply Md_join | apply Md_idx | apply Ts_0 | apply Ts_s | apply Cp_eqb | apply Cp_neb | apply Z_try)) | refine Ln_mk (Nat.le_of_ble_eq_true rfl) ?_ | refine Bn_mod (by first | decide | omega) ?_ | refine Bd_bT rfl ?_ | refine Ix_by rfl ?_ | refine Is_by (k := true) rfl ?_ | refine Is_by (k := false) rfl ?_ | refine R1_mk (by first | decide | omega) ?_ | refine Bn_mulS (by omega) (by omega) ?_ | refine Bn_fdivS (by omega) (by omega) ?_ | (apply Ix_ref; assumption; exact rfl) | (apply Sd_ref; assumption; exact rfl; intro _ _ _ _) | (apply Bs_lenr; assumption) | (apply Md_app; assumption) | refine Br_t rfl ?_ | refine Br_f rfl ?_ | refine Br_t (decide_eq_true (by omega)) ?_ | refine Br_f (decide_eq_false (by omega)) ?_ | (with_reducible refine Br_dec (fun _ => ?_) (fun _ => ?_)) | fail))
        have same : (ansH a n (h.take i) ++ h.drop i).set i w = ansH a n (h.take i) ++ h.drop i := by
          refine List.ext_getElem? fun q => ?_
          by_cases cq : q = i
          · subst cq
            rw [List.getElem?_set_self (by rw [List.length_append, List.length_drop]; omega), hw2]
          · rw [List.getElem?_set_ne (Ne.symm cq)]
        rw [same] at st
        rw [st] at m4
        exact ⟨m4, l4, _, rfl⟩
    · rintro σ S4 ⟨m4, l4, x6, rfl⟩
      have e1 : ansH a n (h.take (ls.map D.ref).length) ++ h.drop (ls.map D.ref).length = ansH a n h := by
        rw [List.length_map, m.len, List.take_length, List.drop_length, List.append_nil]
      rw [e1] at m4
      (repeat' (first | (with_reducible refine answered_w (by omega) sa owt (fun T => ?_)) | (with_reducible (first | apply G_vvs | apply G_vv0 | apply G_kk | apply G_bi | apply G_ca | apply G_a1 | apply G_a0 | apply Z_seq | apply Z_set | apply St_s | apply St_0 | apply G_ix | apply G_cm | apply G_tCm | apply Bl_bl | apply Z_if | apply Z_ret | apply G_bl | apply G_tTr | apply G_tNot | apply G_tAnd | apply G_tOr | apply G_isn | apply G_me | apply G_lsv | apply G_tu | apply G_lsm | apply G_nt | apply G_ng | apply G_cm2 | apply G_ie | apply G_sl | apply G_andE | apply G_orE | apply G_p0 | apply G_p1 | apply G_iv | apply G_r1 | apply G_r2 | apply G_lcv | apply G_lcv1 | apply G_lcm | apply G_lcm1 | apply Z_exp | apply Z_pass | apply Z_brk | apply Z_cnt | apply Z_ret0 | apply Z_tup | apply Z_sub | apply Z_while | apply Z_for | apply Z_raise | apply FnP_self | apply Bn_add | apply Bn_sub | apply Bn_and | apply Cp_lt | apply Cp_le | apply Cp_gt | apply Cp_ge | apply Cp_eqi | apply Cp_nei | apply Cp_is | apply Cp_isn | apply Tr_bl | apply Tr_int | apply Tr_lst | apply Tr_tup | apply Tr_non | apply Io_int | apply Bs_int | apply Bs_intb | apply Bs_len | apply Bs_lent | apply Bs_min | apply Bs_max | apply Bs_abs | apply Md_bits | apply Mt_bits | apply It_lst | apply It_tup | apply Br_not | apply Bd_b1 | apply G_di0 | apply Sl_lst | apply Sl_tup | apply Wp_0 | apply Wp_s | apply Sn_0 | apply Sn_s | apply Ct_mk1 | apply Ct_mk | apply Tn_mk | apply G_zen | apply G_zzp | apply G_rvs | apply G_lset | apply G_dct | apply G_k0 | apply G_k1 | apply G_dis | apply En_lst | apply Zp_tup | apply Zp_lst | apply Rv_lst | apply Rv_tup | apply Ky_str | apply Ky_int | apply Md_split | apply Md_join | apply Md_idx | apply Ts_0 | apply Ts_s | apply Cp_eqb | apply Cp_neb | apply Z_try)) | refine Ln_mk (Nat.le_of_ble_eq_true rfl) ?_ | refine Bn_mod (by first | decide | omega) ?_ | refine Bd_bT rfl ?_ | refine Ix_by rfl ?_ | refine Is_by (k := true) rfl ?_ | refine Is_by (k := false) rfl ?_ | refine R1_mk (by first | decide | omega) ?_ | refine Bn_mulS (by omega) (by omega) ?_ | refine Bn_fdivS (by omega) (by omega) ?_ | (apply Ix_ref; assumption; exact rfl) | (apply Sd_ref; assumption; exact rfl; intro _ _ _ _) | (apply Bs_lenr; assumption) | (apply Md_app; assumption) | refine Br_t rfl ?_ | refine Br_f rfl ?_ | refine Br_t (decide_eq_true (by omega)) ?_ | refine Br_f (decide_eq_false (by omega)) ?_ | (with_reducible refine Br_dec (fun _ => ?_) (fun _ => ?_)) | fail))
      refine Fn_any (hQ a n _ m4.app) (fun _ => ?_)
      rw [List.take_append_of_le_length (by omega), List.take_of_length_le (by omega)]
      exact hQ a n _ m4
theorem lf_new {ws : List Wk} {nm : List Nat} {x : Int} {own : Option Ak} : lfOk ws (newW nm x own) := .inl rfl
theorem lf_ans {ws : List Wk} {a : Ak} {n : Int} {h : List Wh} (ol : ∀ w ∈ h, lfOk ws w) : ∀ w ∈ ansH a n h, lfOk ws w := fun w hw => by
  obtain ⟨v, hv, rfl⟩ := List.mem_map.mp hw
  split
  · exact ol v hv
  · exact ol v hv
theorem lf_step {ws : List Wk} {ask : Ak} {h : List Wh} (oh : okHd ws h) (ol : ∀ w ∈ h, lfOk ws w) (e : runsH h = true) : ∀ w ∈ (stepH ws ask h).1, lfOk ws w := by
  obtain ⟨pre, w, post, rfl, h1, h2⟩ := runs_split e
  rw [stepH_at h2 h1]
  intro v hv
  rcases List.mem_append.mp hv with z | z
  · exact ol v (List.mem_append_left _ z)
  rcases List.mem_append.mp z with z | z
  · have ow := oh w (by simp)
    have p0 := ow.p0
    have p1 := ow.p1
    unfold stepW at z
    split at z
    · cases z
    · rename_i c
      have : v = (doneF w ((bodyOf ws w.nm).getD w.pl.toNat .own) ask).1 := by simpa using z
      subst this
      have ltb : w.pl.toNat < (bodyOf ws w.nm).length := by omega
      have gd : (bodyOf ws w.nm)[w.pl.toNat]? = some ((bodyOf ws w.nm).getD w.pl.toNat .own) := by rw [List.getD_eq_getElem?_getD, List.getElem?_eq_getElem ltb]; rfl
      generalize (bodyOf ws w.nm).getD w.pl.toNat .own = st at gd
      cases st with
      | spin k =>
        unfold doneF lfOk
        dsimp only
        by_cases c2 : leftF w.lf k = 0
        · exact .inl c2
        · refine .inr ⟨k, ?_⟩
          rw [if_neg c2, Int.add_zero]
          exact gd
      | add i => exact .inl rfl
      | own => exact .inl rfl
      | call b hh n =>
        unfold doneF
        dsimp only
        split <;> exact .inl rfl
  · exact ol v (by simp [z])
theorem step_len (ws : List Wk) (ask : Ak) : ∀ h : List Wh, (stepH ws ask h).1.length ≤ h.length
  | [] => Nat.le_refl _
  | w :: t => by
    unfold stepH
    split
    · rw [List.length_append, List.length_cons]
      have : ((stepW ws w ask).1.toList).length ≤ 1 := by cases (stepW ws w ask).1 <;> simp
      omega
    · have := step_len ws ask t
      simp only [List.length_cons]
      omega
theorem what_ask {S : Store} {t : What} (ht : okT t) {nx : D → Store → Prop} {E : EX} {x0 x1 x2 x3 x4 x5 x6 x7 x8 x9 x10 x11 x12 x14 : Option D} (h : ∀ b : Bool, nx (.bl b) S) : G (andE (cm .IsNot (vv 13) (kk .non)) (cm .Eq (ix (vv 13) (kk (.int 0))) (kk (dS cAsk)))) [x0, x1, x2, x3, x4, x5, x6, x7, x8, x9, x10, x11, x12, some (dWhat t), x14] S nx E := by
  cases t with
  | no =>
    (repeat' (first | refine Cp_by (k := false) rfl ?_ | (with_reducible (first | apply G_vvs | apply G_vv0 | apply G_kk | apply G_bi | apply G_ca | apply G_a1 | apply G_a0 | apply Z_seq | apply Z_set | apply St_s | apply St_0 | apply G_ix | apply G_cm | apply G_tCm | apply Bl_bl | apply Z_if | apply Z_ret | apply G_bl | apply G_tTr | apply G_tNot | apply G_tAnd | apply G_tOr | apply G_isn | apply G_me | apply G_lsv | apply G_tu | apply G_lsm | apply G_nt | apply G_ng | apply G_cm2 | apply G_ie | apply G_sl | apply G_andE | apply G_orE | apply G_p0 | apply G_p1 | apply G_iv | apply G_r1 | apply G_r2 | apply G_lcv | apply G_lcv1 | apply G_lcm | apply G_lcm1 | apply Z_exp | apply Z_pass | apply Z_brk | apply Z_cnt | apply Z_ret0 | apply Z_tup | apply Z_sub | apply Z_while | apply Z_for | apply Z_raise | apply FnP_self | apply Bn_add | apply Bn_sub | apply Bn_and | apply Cp_lt | apply Cp_le | apply Cp_gt | apply Cp_ge | apply Cp_eqi | apply Cp_nei | apply Cp_is | apply Cp_isn | apply Tr_bl | apply Tr_int | apply Tr_lst | apply Tr_tup | apply Tr_non | apply Io_int | apply Bs_int | apply Bs_intb | apply Bs_len | apply Bs_lent | apply Bs_min | apply Bs_max | apply Bs_abs | apply Md_bits | apply Mt_bits | apply It_lst | apply It_tup | apply Br_not | apply Bd_b1 | apply G_di0 | apply Sl_lst | apply Sl_tup | apply Wp_0 | apply Wp_s | apply Sn_0 | apply Sn_s | apply Ct_mk1 | apply Ct_mk | apply Tn_mk | apply G_zen | apply G_zzp | apply G_rvs | apply G_lset | apply G_dct | apply G_k0 | apply G_k1 | apply G_dis | apply En_lst | apply Zp_tup | apply Zp_lst | apply Rv_lst | apply Rv_tup | apply Ky_str | apply Ky_int | apply Md_split | apply Md_join | apply Md_idx | apply Ts_0 | apply Ts_s | apply Cp_eqb | apply Cp_neb | apply Z_try)) | refine Ln_mk (Nat.le_of_ble_eq_true rfl) ?_ | refine Bn_mod (by first | decide | omega) ?_ | refine Bd_bT rfl ?_ | refine Ix_by rfl ?_ | refine Is_by (k := true) rfl ?_ | refine Is_by (k := false) rfl ?_ | refine R1_mk (by first | decide | omega) ?_ | refine Bn_mulS (by omega) (by omega) ?_ | refine Bn_fdivS (by omega) (by omega) ?_ | (apply Ix_ref; assumption; exact rfl) | (apply Sd_ref; assumption; exact rfl; intro _ _ _ _) | (apply Bs_lenr; assumption) | (apply Md_app; assumption) | refine Br_t rfl ?_ | refine Br_f rfl ?_ | refine Br_t (decide_eq_true (by omega)) ?_ | refine Br_f (decide_eq_false (by omega)) ?_ | (with_reducible refine Br_dec (fun _ => ?_) (fun _ => ?_)) | fail))
    exact h false
  | call b hh n x =>
    (repeat' (first | refine Cp_by (k := true) rfl ?_ | refine Ix_by (x' := dS (cCall b)) rfl ?_ | refine Cp_eqS (cCall_s b) (by decide) ?_ | (with_reducible (first | apply G_vvs | apply G_vv0 | apply G_kk | apply G_bi | apply G_ca | apply G_a1 | apply G_a0 | apply Z_seq | apply Z_set | apply St_s | apply St_0 | apply G_ix | apply G_cm | apply G_tCm | apply Bl_bl | apply Z_if | apply Z_ret | apply G_bl | apply G_tTr | apply G_tNot | apply G_tAnd | apply G_tOr | apply G_isn | apply G_me | apply G_lsv | apply G_tu | apply G_lsm | apply G_nt | apply G_ng | apply G_cm2 | apply G_ie | apply G_sl | apply G_andE | apply G_orE | apply G_p0 | apply G_p1 | apply G_iv | apply G_r1 | apply G_r2 | apply G_lcv | apply G_lcv1 | apply G_lcm | apply G_lcm1 | apply Z_exp | apply Z_pass | apply Z_brk | apply Z_cnt | apply Z_ret0 | apply Z_tup | apply Z_sub | apply Z_while | apply Z_for | apply Z_raise | apply FnP_self | apply Bn_add | apply Bn_sub | apply Bn_and | apply Cp_lt | apply Cp_le | apply Cp_gt | apply Cp_ge | apply Cp_eqi | apply Cp_nei | apply Cp_is | apply Cp_isn | apply Tr_bl | apply Tr_int | apply Tr_lst | apply Tr_tup | apply Tr_non | apply Io_int | apply Bs_int | apply Bs_intb | apply Bs_len | apply Bs_lent | apply Bs_min | apply Bs_max | apply Bs_abs | apply Md_bits | apply Mt_bits | apply It_lst | apply It_tup | apply Br_not | apply Bd_b1 | apply G_di0 | apply Sl_lst | apply Sl_tup | apply Wp_0 | apply Wp_s | apply Sn_0 | apply Sn_s | apply Ct_mk1 | apply Ct_mk | apply Tn_mk | apply G_zen | apply G_zzp | apply G_rvs | apply G_lset | apply G_dct | apply G_k0 | apply G_k1 | apply G_dis | apply En_lst | apply Zp_tup | apply Zp_lst | apply Rv_lst | apply Rv_tup | apply Ky_str | apply Ky_int | apply Md_split | apply Md_join | apply Md_idx | apply Ts_0 | apply Ts_s | apply Cp_eqb | apply Cp_neb | apply Z_try)) | refine Ln_mk (Nat.le_of_ble_eq_true rfl) ?_ | refine Bn_mod (by first | decide | omega) ?_ | refine Bd_bT rfl ?_ | refine Ix_by rfl ?_ | refine Is_by (k := true) rfl ?_ | refine Is_by (k := false) rfl ?_ | refine R1_mk (by first | decide | omega) ?_ | refine Bn_mulS (by omega) (by omega) ?_ | refine Bn_fdivS (by omega) (by omega) ?_ | (apply Ix_ref; assumption; exact rfl) | (apply Sd_ref; assumption; exact rfl; intro _ _ _ _) | (apply Bs_lenr; assumption) | (apply Md_app; assumption) | refine Br_t rfl ?_ | refine Br_f rfl ?_ | refine Br_t (decide_eq_true (by omega)) ?_ | refine Br_f (decide_eq_false (by omega)) ?_ | (with_reducible refine Br_dec (fun _ => ?_) (fun _ => ?_)) | fail))
    exact h _
  | over nm x tot own =>
    (repeat' (first | refine Cp_by (k := true) rfl ?_ | refine Ix_by (x' := dS cOver) rfl ?_ | refine Cp_eqS (by decide) (by decide) ?_ | (with_reducible (first | apply G_vvs | apply G_vv0 | apply G_kk | apply G_bi | apply G_ca | apply G_a1 | apply G_a0 | apply Z_seq | apply Z_set | apply St_s | apply St_0 | apply G_ix | apply G_cm | apply G_tCm | apply Bl_bl | apply Z_if | apply Z_ret | apply G_bl | apply G_tTr | apply G_tNot | apply G_tAnd | apply G_tOr | apply G_isn | apply G_me | apply G_lsv | apply G_tu | apply G_lsm | apply G_nt | apply G_ng | apply G_cm2 | apply G_ie | apply G_sl | apply G_andE | apply G_orE | apply G_p0 | apply G_p1 | apply G_iv | apply G_r1 | apply G_r2 | apply G_lcv | apply G_lcv1 | apply G_lcm | apply G_lcm1 | apply Z_exp | apply Z_pass | apply Z_brk | apply Z_cnt | apply Z_ret0 | apply Z_tup | apply Z_sub | apply Z_while | apply Z_for | apply Z_raise | apply FnP_self | apply Bn_add | apply Bn_sub | apply Bn_and | apply Cp_lt | apply Cp_le | apply Cp_gt | apply Cp_ge | apply Cp_eqi | apply Cp_nei | apply Cp_is | apply Cp_isn | apply Tr_bl | apply Tr_int | apply Tr_lst | apply Tr_tup | apply Tr_non | apply Io_int | apply Bs_int | apply Bs_intb | apply Bs_len | apply Bs_lent | apply Bs_min | apply Bs_max | apply Bs_abs | apply Md_bits | apply Mt_bits | apply It_lst | apply It_tup | apply Br_not | apply Bd_b1 | apply G_di0 | apply Sl_lst | apply Sl_tup | apply Wp_0 | apply Wp_s | apply Sn_0 | apply Sn_s | apply Ct_mk1 | apply Ct_mk | apply Tn_mk | apply G_zen | apply G_zzp | apply G_rvs | apply G_lset | apply G_dct | apply G_k0 | apply G_k1 | apply G_dis | apply En_lst | apply Zp_tup | apply Zp_lst | apply Rv_lst | apply Rv_tup | apply Ky_str | apply Ky_int | apply Md_split | apply Md_join | apply Md_idx | apply Ts_0 | apply Ts_s | apply Cp_eqb | apply Cp_neb | apply Z_try)) | refine Ln_mk (Nat.le_of_ble_eq_true rfl) ?_ | refine Bn_mod (by first | decide | omega) ?_ | refine Bd_bT rfl ?_ | refine Ix_by rfl ?_ | refine Is_by (k := true) rfl ?_ | refine Is_by (k := false) rfl ?_ | refine R1_mk (by first | decide | omega) ?_ | refine Bn_mulS (by omega) (by omega) ?_ | refine Bn_fdivS (by omega) (by omega) ?_ | (apply Ix_ref; assumption; exact rfl) | (apply Sd_ref; assumption; exact rfl; intro _ _ _ _) | (apply Bs_lenr; assumption) | (apply Md_app; assumption) | refine Br_t rfl ?_ | refine Br_f rfl ?_ | refine Br_t (decide_eq_true (by omega)) ?_ | refine Br_f (decide_eq_false (by omega)) ?_ | (with_reducible refine Br_dec (fun _ => ?_) (fun _ => ?_)) | fail))
    exact h _
end QL

namespace QL
open PySem Q
theorem Br_any {k : Bool} {A B : Prop} (h1 : k = true → A) (h2 : k = false → B) : Br k A B := ⟨⟨h1, h2⟩⟩
theorem what_ne {S : Store} {t : What} (ht : okT t) {QB : Bool → Store → Prop} {E : EX} {x0 x1 x2 x3 x4 x5 x6 x7 x8 x9 x10 x11 x14 : Option D} (h : QB false S) : G (tOr (tCm (cm .NotEq (vv 12) (vv 13))) (tAnd (tCm (cm .IsNot (vv 12) (kk .non))) (tNot (tTr (isn (vv 12) "tuple"))))) [x0, x1, x2, x3, x4, x5, x6, x7, x8, x9, x10, x11, some (dWhat t), some (dWhat t), x14] S QB E := by
  have f := fine_what ht
  (repeat' (first | refine Cp_ne (EqOk.of f (by decide)) (EqOk.of f (by decide)) (fun _ => ?_) (fun z => absurd rfl z) | (with_reducible (first | apply G_vvs | apply G_vv0 | apply G_kk | apply G_bi | apply G_ca | apply G_a1 | apply G_a0 | apply Z_seq | apply Z_set | apply St_s | apply St_0 | apply G_ix | apply G_cm | apply G_tCm | apply Bl_bl | apply Z_if | apply Z_ret | apply G_bl | apply G_tTr | apply G_tNot | apply G_tAnd | apply G_tOr | apply G_isn | apply G_me | apply G_lsv | apply G_tu | apply G_lsm | apply G_nt | apply G_ng | apply G_cm2 | apply G_ie | apply G_sl | apply G_andE | apply G_orE | apply G_p0 | apply G_p1 | apply G_iv | apply G_r1 | apply G_r2 | apply G_lcv | apply G_lcv1 | apply G_lcm | apply G_lcm1 | apply Z_exp | apply Z_pass | apply Z_brk | apply Z_cnt | apply Z_ret0 | apply Z_tup | apply Z_sub | apply Z_while | apply Z_for | apply Z_raise | apply FnP_self | apply Bn_add | apply Bn_sub | apply Bn_and | apply Cp_lt | apply Cp_le | apply Cp_gt | apply Cp_ge | apply Cp_eqi | apply Cp_nei | apply Cp_is | apply Cp_isn | apply Tr_bl | apply Tr_int | apply Tr_lst | apply Tr_tup | apply Tr_non | apply Io_int | apply Bs_int | apply Bs_intb | apply Bs_len | apply Bs_lent | apply Bs_min | apply Bs_max | apply Bs_abs | apply Md_bits | apply Mt_bits | apply It_lst | apply It_tup | apply Br_not | apply Bd_b1 | apply G_di0 | apply Sl_lst | apply Sl_tup | apply Wp_0 | apply Wp_s | apply Sn_0 | apply Sn_s | apply Ct_mk1 | apply Ct_mk | apply Tn_mk | apply G_zen | apply G_zzp | apply G_rvs | apply G_lset | apply G_dct | apply G_k0 | apply G_k1 | apply G_dis | apply En_lst | apply Zp_tup | apply Zp_lst | apply Rv_lst | apply Rv_tup | apply Ky_str | apply Ky_int | apply Md_split | apply Md_join | apply Md_idx | apply Ts_0 | apply Ts_s | apply Cp_eqb | apply Cp_neb | apply Z_try)) | refine Ln_mk (Nat.le_of_ble_eq_true rfl) ?_ | refine Bn_mod (by first | decide | omega) ?_ | refine Bd_bT rfl ?_ | refine Ix_by rfl ?_ | refine Is_by (k := true) rfl ?_ | refine Is_by (k := false) rfl ?_ | refine R1_mk (by first | decide | omega) ?_ | refine Bn_mulS (by omega) (by omega) ?_ | refine Bn_fdivS (by omega) (by omega) ?_ | (apply Ix_ref; assumption; exact rfl) | (apply Sd_ref; assumption; exact rfl; intro _ _ _ _) | (apply Bs_lenr; assumption) | (apply Md_app; assumption) | refine Br_t rfl ?_ | refine Br_f rfl ?_ | refine Br_t (decide_eq_true (by omega)) ?_ | refine Br_f (decide_eq_false (by omega)) ?_ | (with_reducible refine Br_dec (fun _ => ?_) (fun _ => ?_)) | fail))
  cases t with
  | no =>
    (repeat' (first | refine Cp_by (k := false) rfl ?_ | (with_reducible (first | apply G_vvs | apply G_vv0 | apply G_kk | apply G_bi | apply G_ca | apply G_a1 | apply G_a0 | apply Z_seq | apply Z_set | apply St_s | apply St_0 | apply G_ix | apply G_cm | apply G_tCm | apply Bl_bl | apply Z_if | apply Z_ret | apply G_bl | apply G_tTr | apply G_tNot | apply G_tAnd | apply G_tOr | apply G_isn | apply G_me | apply G_lsv | apply G_tu | apply G_lsm | apply G_nt | apply G_ng | apply G_cm2 | apply G_ie | apply G_sl | apply G_andE | apply G_orE | apply G_p0 | apply G_p1 | apply G_iv | apply G_r1 | apply G_r2 | apply G_lcv | apply G_lcv1 | apply G_lcm | apply G_lcm1 | apply Z_exp | apply Z_pass | apply Z_brk | apply Z_cnt | apply Z_ret0 | apply Z_tup | apply Z_sub | apply Z_while | apply Z_for | apply Z_raise | apply FnP_self | apply Bn_add | apply Bn_sub | apply Bn_and | apply Cp_lt | apply Cp_le | apply Cp_gt | apply Cp_ge | apply Cp_eqi | apply Cp_nei | apply Cp_is | apply Cp_isn | apply Tr_bl | apply Tr_int | apply Tr_lst | apply Tr_tup | apply Tr_non | apply Io_int | apply Bs_int | apply Bs_intb | apply Bs_len | apply Bs_lent | apply Bs_min | apply Bs_max | apply Bs_abs | apply Md_bits | apply Mt_bits | apply It_lst | apply It_tup | apply Br_not | apply Bd_b1 | apply G_di0 | apply Sl_lst | apply Sl_tup | apply Wp_0 | apply Wp_s | apply Sn_0 | apply Sn_s | apply Ct_mk1 | apply Ct_mk | apply Tn_mk | apply G_zen | apply G_zzp | apply G_rvs | apply G_lset | apply G_dct | apply G_k0 | apply G_k1 | apply G_dis | apply En_lst | apply Zp_tup | apply Zp_lst | apply Rv_lst | apply Rv_tup | apply Ky_str | apply Ky_int | apply Md_split | apply Md_join | apply Md_idx | apply Ts_0 | apply Ts_s | apply Cp_eqb | apply Cp_neb | apply Z_try)) | refine Ln_mk (Nat.le_of_ble_eq_true rfl) ?_ | refine Bn_mod (by first | decide | omega) ?_ | refine Bd_bT rfl ?_ | refine Ix_by rfl ?_ | refine Is_by (k := true) rfl ?_ | refine Is_by (k := false) rfl ?_ | refine R1_mk (by first | decide | omega) ?_ | refine Bn_mulS (by omega) (by omega) ?_ | refine Bn_fdivS (by omega) (by omega) ?_ | (apply Ix_ref; assumption; exact rfl) | (apply Sd_ref; assumption; exact rfl; intro _ _ _ _) | (apply Bs_lenr; assumption) | (apply Md_app; assumption) | refine Br_t rfl ?_ | refine Br_f rfl ?_ | refine Br_t (decide_eq_true (by omega)) ?_ | refine Br_f (decide_eq_false (by omega)) ?_ | (with_reducible refine Br_dec (fun _ => ?_) (fun _ => ?_)) | fail))
    exact h
  | call b hh n x =>
    (repeat' (first | refine Cp_by (k := true) rfl ?_ | refine Is_by (k := true) rfl ?_ | (with_reducible (first | apply G_vvs | apply G_vv0 | apply G_kk | apply G_bi | apply G_ca | apply G_a1 | apply G_a0 | apply Z_seq | apply Z_set | apply St_s | apply St_0 | apply G_ix | apply G_cm | apply G_tCm | apply Bl_bl | apply Z_if | apply Z_ret | apply G_bl | apply G_tTr | apply G_tNot | apply G_tAnd | apply G_tOr | apply G_isn | apply G_me | apply G_lsv | apply G_tu | apply G_lsm | apply G_nt | apply G_ng | apply G_cm2 | apply G_ie | apply G_sl | apply G_andE | apply G_orE | apply G_p0 | apply G_p1 | apply G_iv | apply G_r1 | apply G_r2 | apply G_lcv | apply G_lcv1 | apply G_lcm | apply G_lcm1 | apply Z_exp | apply Z_pass | apply Z_brk | apply Z_cnt | apply Z_ret0 | apply Z_tup | apply Z_sub | apply Z_while | apply Z_for | apply Z_raise | apply FnP_self | apply Bn_add | apply Bn_sub | apply Bn_and | apply Cp_lt | apply Cp_le | apply Cp_gt | apply Cp_ge | apply Cp_eqi | apply Cp_nei | apply Cp_is | apply Cp_isn | apply Tr_bl | apply Tr_int | apply Tr_lst | apply Tr_tup | apply Tr_non | apply Io_int | apply Bs_int | apply Bs_intb | apply Bs_len | apply Bs_lent | apply Bs_min | apply Bs_max | apply Bs_abs | apply Md_bits | apply Mt_bits | apply It_lst | apply It_tup | apply Br_not | apply Bd_b1 | apply G_di0 | apply Sl_lst | apply Sl_tup | apply Wp_0 | apply Wp_s | apply Sn_0 | apply Sn_s | apply Ct_mk1 | apply Ct_mk | apply Tn_mk | apply G_zen | apply G_zzp | apply G_rvs | apply G_lset | apply G_dct | apply G_k0 | apply G_k1 | apply G_dis | apply En_lst | apply Zp_tup | apply Zp_lst | apply Rv_lst | apply Rv_tup | apply Ky_str | apply Ky_int | apply Md_split | apply Md_join | apply Md_idx | apply Ts_0 | apply Ts_s | apply Cp_eqb | apply Cp_neb | apply Z_try)) | refine Ln_mk (Nat.le_of_ble_eq_true rfl) ?_ | refine Bn_mod (by first | decide | omega) ?_ | refine Bd_bT rfl ?_ | refine Ix_by rfl ?_ | refine Is_by (k := true) rfl ?_ | refine Is_by (k := false) rfl ?_ | refine R1_mk (by first | decide | omega) ?_ | refine Bn_mulS (by omega) (by omega) ?_ | refine Bn_fdivS (by omega) (by omega) ?_ | (apply Ix_ref; assumption; exact rfl) | (apply Sd_ref; assumption; exact rfl; intro _ _ _ _) | (apply Bs_lenr; assumption) | (apply Md_app; assumption) | refine Br_t rfl ?_ | refine Br_f rfl ?_ | refine Br_t (decide_eq_true (by omega)) ?_ | refine Br_f (decide_eq_false (by omega)) ?_ | (with_reducible refine Br_dec (fun _ => ?_) (fun _ => ?_)) | fail))
    exact h
  | over nm x tot own =>
    (repeat' (first | refine Cp_by (k := true) rfl ?_ | refine Is_by (k := true) rfl ?_ | (with_reducible (first | apply G_vvs | apply G_vv0 | apply G_kk | apply G_bi | apply G_ca | apply G_a1 | apply G_a0 | apply Z_seq | apply Z_set | apply St_s | apply St_0 | apply G_ix | apply G_cm | apply G_tCm | apply Bl_bl | apply Z_if | apply Z_ret | apply G_bl | apply G_tTr | apply G_tNot | apply G_tAnd | apply G_tOr | apply G_isn | apply G_me | apply G_lsv | apply G_tu | apply G_lsm | apply G_nt | apply G_ng | apply G_cm2 | apply G_ie | apply G_sl | apply G_andE | apply G_orE | apply G_p0 | apply G_p1 | apply G_iv | apply G_r1 | apply G_r2 | apply G_lcv | apply G_lcv1 | apply G_lcm | apply G_lcm1 | apply Z_exp | apply Z_pass | apply Z_brk | apply Z_cnt | apply Z_ret0 | apply Z_tup | apply Z_sub | apply Z_while | apply Z_for | apply Z_raise | apply FnP_self | apply Bn_add | apply Bn_sub | apply Bn_and | apply Cp_lt | apply Cp_le | apply Cp_gt | apply Cp_ge | apply Cp_eqi | apply Cp_nei | apply Cp_is | apply Cp_isn | apply Tr_bl | apply Tr_int | apply Tr_lst | apply Tr_tup | apply Tr_non | apply Io_int | apply Bs_int | apply Bs_intb | apply Bs_len | apply Bs_lent | apply Bs_min | apply Bs_max | apply Bs_abs | apply Md_bits | apply Mt_bits | apply It_lst | apply It_tup | apply Br_not | apply Bd_b1 | apply G_di0 | apply Sl_lst | apply Sl_tup | apply Wp_0 | apply Wp_s | apply Sn_0 | apply Sn_s | apply Ct_mk1 | apply Ct_mk | apply Tn_mk | apply G_zen | apply G_zzp | apply G_rvs | apply G_lset | apply G_dct | apply G_k0 | apply G_k1 | apply G_dis | apply En_lst | apply Zp_tup | apply Zp_lst | apply Rv_lst | apply Rv_tup | apply Ky_str | apply Ky_int | apply Md_split | apply Md_join | apply Md_idx | apply Ts_0 | apply Ts_s | apply Cp_eqb | apply Cp_neb | apply Z_try)) | refine Ln_mk (Nat.le_of_ble_eq_true rfl) ?_ | refine Bn_mod (by first | decide | omega) ?_ | refine Bd_bT rfl ?_ | refine Ix_by rfl ?_ | refine Is_by (k := true) rfl ?_ | refine Is_by (k := false) rfl ?_ | refine R1_mk (by first | decide | omega) ?_ | refine Bn_mulS (by omega) (by omega) ?_ | refine Bn_fdivS (by omega) (by omega) ?_ | (apply Ix_ref; assumption; exact rfl) | (apply Sd_ref; assumption; exact rfl; intro _ _ _ _) | (apply Bs_lenr; assumption) | (apply Md_app; assumption) | refine Br_t rfl ?_ | refine Br_f rfl ?_ | refine Br_t (decide_eq_true (by omega)) ?_ | refine Br_f (decide_eq_false (by omega)) ?_ | (with_reducible refine Br_dec (fun _ => ?_) (fun _ => ?_)) | fail))
    exact h
theorem fine_worksS {hs : List (List Nat)} {ws : List Wk} (ok : okWs hs ws) : fine 5 (.tup [.lst (hs.map dS), .lst (ws.map dWork)]) = true := by
  have f2 : fine 4 (.lst (ws.map dWork)) = true := by
    show fines 3 (ws.map dWork) = true
    refine fines_all fun x hx => ?_
    obtain ⟨w, hw, rfl⟩ := List.mem_map.mp hx
    show (fine 2 (dS w.1) && (fine 2 (dBody w.2) && true)) = true
    rw [fine_S (ok.sn _ (mem_nms hw)), fine_body ok.sh ok.sn (ok.wb w hw)]; rfl
  show (fine 4 (.lst (hs.map dS)) && (fine 4 (.lst (ws.map dWork)) && true)) = true
  rw [fine_names ok.sh, f2]; rfl
theorem running_c {S : Store} {lm : Nat} {ls : List Nat} {h : List Wh} (m : Md S lm ls h) (hl : h.length ≤ 1000) {QD : D → Store → Prop} {E : EX} {x0 x1 x2 x3 x5 x6 x7 x8 x9 x10 x11 x12 x13 x14 : Option D} (hq : QD (.lst (runL ls h)) S) : G (lcv1 [14] (iv (vv 4)) (b1 14) (tCm (cm .Is (ix (vv 14) (kk (dS [119, 97, 105, 116, 115]))) (kk .non))) (vv 14)) [x0, x1, x2, x3, some (.ref lm), x5, x6, x7, x8, x9, x10, x11, x12, x13, x14] S QD E := by
  (repeat' (first | refine It_ref m.at_ ?_ | (with_reducible (first | apply G_vvs | apply G_vv0 | apply G_kk | apply G_bi | apply G_ca | apply G_a1 | apply G_a0 | apply Z_seq | apply Z_set | apply St_s | apply St_0 | apply G_ix | apply G_cm | apply G_tCm | apply Bl_bl | apply Z_if | apply Z_ret | apply G_bl | apply G_tTr | apply G_tNot | apply G_tAnd | apply G_tOr | apply G_isn | apply G_me | apply G_lsv | apply G_tu | apply G_lsm | apply G_nt | apply G_ng | apply G_cm2 | apply G_ie | apply G_sl | apply G_andE | apply G_orE | apply G_p0 | apply G_p1 | apply G_iv | apply G_r1 | apply G_r2 | apply G_lcv | apply G_lcv1 | apply G_lcm | apply G_lcm1 | apply Z_exp | apply Z_pass | apply Z_brk | apply Z_cnt | apply Z_ret0 | apply Z_tup | apply Z_sub | apply Z_while | apply Z_for | apply Z_raise | apply FnP_self | apply Bn_add | apply Bn_sub | apply Bn_and | apply Cp_lt | apply Cp_le | apply Cp_gt | apply Cp_ge | apply Cp_eqi | apply Cp_nei | apply Cp_is | apply Cp_isn | apply Tr_bl | apply Tr_int | apply Tr_lst | apply Tr_tup | apply Tr_non | apply Io_int | apply Bs_int | apply Bs_intb | apply Bs_len | apply Bs_lent | apply Bs_min | apply Bs_max | apply Bs_abs | apply Md_bits | apply Mt_bits | apply It_lst | apply It_tup | apply Br_not | apply Bd_b1 | apply G_di0 | apply Sl_lst | apply Sl_tup | apply Wp_0 | apply Wp_s | apply Sn_0 | apply Sn_s | apply Ct_mk1 | apply Ct_mk | apply Tn_mk | apply G_zen | apply G_zzp | apply G_rvs | apply G_lset | apply G_dct | apply G_k0 | apply G_k1 | apply G_dis | apply En_lst | apply Zp_tup | apply Zp_lst | apply Rv_lst | apply Rv_tup | apply Ky_str | apply Ky_int | apply Md_split | apply Md_join | apply Md_idx | apply Ts_0 | apply Ts_s | apply Cp_eqb | apply Cp_neb | apply Z_try)) | refine Ln_mk (Nat.le_of_ble_eq_true rfl) ?_ | refine Bn_mod (by first | decide | omega) ?_ | refine Bd_bT rfl ?_ | refine Ix_by rfl ?_ | refine Is_by (k := true) rfl ?_ | refine Is_by (k := false) rfl ?_ | refine R1_mk (by first | decide | omega) ?_ | refine Bn_mulS (by omega) (by omega) ?_ | refine Bn_fdivS (by omega) (by omega) ?_ | (apply Ix_ref; assumption; exact rfl) | (apply Sd_ref; assumption; exact rfl; intro _ _ _ _) | (apply Bs_lenr; assumption) | (apply Md_app; assumption) | refine Br_t rfl ?_ | refine Br_f rfl ?_ | refine Br_t (decide_eq_true (by omega)) ?_ | refine Br_f (decide_eq_false (by omega)) ?_ | (with_reducible refine Br_dec (fun _ => ?_) (fun _ => ?_)) | fail))
  refine CfMd m (by omega) (fun l w => if w.wt.isNone then some (.ref l) else none) (fun l w hw e => ?_) hq
  cases c : w.wt.isNone with
  | true =>
    (repeat' (first | refine Ix_wt e ?_ | apply Cp_isN | refine Br_t c ?_ | (with_reducible (first | apply G_vvs | apply G_vv0 | apply G_kk | apply G_bi | apply G_ca | apply G_a1 | apply G_a0 | apply Z_seq | apply Z_set | apply St_s | apply St_0 | apply G_ix | apply G_cm | apply G_tCm | apply Bl_bl | apply Z_if | apply Z_ret | apply G_bl | apply G_tTr | apply G_tNot | apply G_tAnd | apply G_tOr | apply G_isn | apply G_me | apply G_lsv | apply G_tu | apply G_lsm | apply G_nt | apply G_ng | apply G_cm2 | apply G_ie | apply G_sl | apply G_andE | apply G_orE | apply G_p0 | apply G_p1 | apply G_iv | apply G_r1 | apply G_r2 | apply G_lcv | apply G_lcv1 | apply G_lcm | apply G_lcm1 | apply Z_exp | apply Z_pass | apply Z_brk | apply Z_cnt | apply Z_ret0 | apply Z_tup | apply Z_sub | apply Z_while | apply Z_for | apply Z_raise | apply FnP_self | apply Bn_add | apply Bn_sub | apply Bn_and | apply Cp_lt | apply Cp_le | apply Cp_gt | apply Cp_ge | apply Cp_eqi | apply Cp_nei | apply Cp_is | apply Cp_isn | apply Tr_bl | apply Tr_int | apply Tr_lst | apply Tr_tup | apply Tr_non | apply Io_int | apply Bs_int | apply Bs_intb | apply Bs_len | apply Bs_lent | apply Bs_min | apply Bs_max | apply Bs_abs | apply Md_bits | apply Mt_bits | apply It_lst | apply It_tup | apply Br_not | apply Bd_b1 | apply G_di0 | apply Sl_lst | apply Sl_tup | apply Wp_0 | apply Wp_s | apply Sn_0 | apply Sn_s | apply Ct_mk1 | apply Ct_mk | apply Tn_mk | apply G_zen | apply G_zzp | apply G_rvs | apply G_lset | apply G_dct | apply G_k0 | apply G_k1 | apply G_dis | apply En_lst | apply Zp_tup | apply Zp_lst | apply Rv_lst | apply Rv_tup | apply Ky_str | apply Ky_int | apply Md_split | apply Md_join | apply Md_idx | apply Ts_0 | apply Ts_s | apply Cp_eqb | apply Cp_neb | apply Z_try)) | refine Ln_mk (Nat.le_of_ble_eq_true rfl) ?_ | refine Bn_mod (by first | decide | omega) ?_ | refine Bd_bT rfl ?_ | refine Ix_by rfl ?_ | refine Is_by (k := true) rfl ?_ | refine Is_by (k := false) rfl ?_ | refine R1_mk (by first | decide | omega) ?_ | refine Bn_mulS (by omega) (by omega) ?_ | refine Bn_fdivS (by omega) (by omega) ?_ | (apply Ix_ref; assumption; exact rfl) | (apply Sd_ref; assumption; exact rfl; intro _ _ _ _) | (apply Bs_lenr; assumption) | (apply Md_app; assumption) | refine Br_t rfl ?_ | refine Br_f rfl ?_ | refine Br_t (decide_eq_true (by omega)) ?_ | refine Br_f (decide_eq_false (by omega)) ?_ | (with_reducible refine Br_dec (fun _ => ?_) (fun _ => ?_)) | fail))
    exact ⟨rfl, rfl⟩
  | false =>
    (repeat' (first | refine Ix_wt e ?_ | apply Cp_isN | refine Br_f c ?_ | (with_reducible (first | apply G_vvs | apply G_vv0 | apply G_kk | apply G_bi | apply G_ca | apply G_a1 | apply G_a0 | apply Z_seq | apply Z_set | apply St_s | apply St_0 | apply G_ix | apply G_cm | apply G_tCm | apply Bl_bl | apply Z_if | apply Z_ret | apply G_bl | apply G_tTr | apply G_tNot | apply G_tAnd | apply G_tOr | apply G_isn | apply G_me | apply G_lsv | apply G_tu | apply G_lsm | apply G_nt | apply G_ng | apply G_cm2 | apply G_ie | apply G_sl | apply G_andE | apply G_orE | apply G_p0 | apply G_p1 | apply G_iv | apply G_r1 | apply G_r2 | apply G_lcv | apply G_lcv1 | apply G_lcm | apply G_lcm1 | apply Z_exp | apply Z_pass | apply Z_brk | apply Z_cnt | apply Z_ret0 | apply Z_tup | apply Z_sub | apply Z_while | apply Z_for | apply Z_raise | apply FnP_self | apply Bn_add | apply Bn_sub | apply Bn_and | apply Cp_lt | apply Cp_le | apply Cp_gt | apply Cp_ge | apply Cp_eqi | apply Cp_nei | apply Cp_is | apply Cp_isn | apply Tr_bl | apply Tr_int | apply Tr_lst | apply Tr_tup | apply Tr_non | apply Io_int | apply Bs_int | apply Bs_intb | apply Bs_len | apply Bs_lent | apply Bs_min | apply Bs_max | apply Bs_abs | apply Md_bits | apply Mt_bits | apply It_lst | apply It_tup | apply Br_not | apply Bd_b1 | apply G_di0 | apply Sl_lst | apply Sl_tup | apply Wp_0 | apply Wp_s | apply Sn_0 | apply Sn_s | apply Ct_mk1 | apply Ct_mk | apply Tn_mk | apply G_zen | apply G_zzp | apply G_rvs | apply G_lset | apply G_dct | apply G_k0 | apply G_k1 | apply G_dis | apply En_lst | apply Zp_tup | apply Zp_lst | apply Rv_lst | apply Rv_tup | apply Ky_str | apply Ky_int | apply Md_split | apply Md_join | apply Md_idx | apply Ts_0 | apply Ts_s | apply Cp_eqb | apply Cp_neb | apply Z_try)) | refine Ln_mk (Nat.le_of_ble_eq_true rfl) ?_ | refine Bn_mod (by first | decide | omega) ?_ | refine Bd_bT rfl ?_ | refine Ix_by rfl ?_ | refine Is_by (k := true) rfl ?_ | refine Is_by (k := false) rfl ?_ | refine R1_mk (by first | decide | omega) ?_ | refine Bn_mulS (by omega) (by omega) ?_ | refine Bn_fdivS (by omega) (by omega) ?_ | (apply Ix_ref; assumption; exact rfl) | (apply Sd_ref; assumption; exact rfl; intro _ _ _ _) | (apply Bs_lenr; assumption) | (apply Md_app; assumption) | refine Br_t rfl ?_ | refine Br_f rfl ?_ | refine Br_t (decide_eq_true (by omega)) ?_ | refine Br_f (decide_eq_false (by omega)) ?_ | (with_reducible refine Br_dec (fun _ => ?_) (fun _ => ?_)) | fail))
    exact ⟨rfl, rfl⟩
theorem lawx {ns : List Int} (hl : ns.length ≤ 63) : W (m_law [.lst (ns.map D.int)] []) (fun d _ => d = .bl true) noX := by
  apply w_law
  unfold z_law
  rw [kCell, kAt, kHere, kWaits, kAsk]
  (repeat' (first | (with_reducible (first | apply G_vvs | apply G_vv0 | apply G_kk | apply G_bi | apply G_ca | apply G_a1 | apply G_a0 | apply Z_seq | apply Z_set | apply St_s | apply St_0 | apply G_ix | apply G_cm | apply G_tCm | apply Bl_bl | apply Z_if | apply Z_ret | apply G_bl | apply G_tTr | apply G_tNot | apply G_tAnd | apply G_tOr | apply G_isn | apply G_me | apply G_lsv | apply G_tu | apply G_lsm | apply G_nt | apply G_ng | apply G_cm2 | apply G_ie | apply G_sl | apply G_andE | apply G_orE | apply G_p0 | apply G_p1 | apply G_iv | apply G_r1 | apply G_r2 | apply G_lcv | apply G_lcv1 | apply G_lcm | apply G_lcm1 | apply Z_exp | apply Z_pass | apply Z_brk | apply Z_cnt | apply Z_ret0 | apply Z_tup | apply Z_sub | apply Z_while | apply Z_for | apply Z_raise | apply FnP_self | apply Bn_add | apply Bn_sub | apply Bn_and | apply Cp_lt | apply Cp_le | apply Cp_gt | apply Cp_ge | apply Cp_eqi | apply Cp_nei | apply Cp_is | apply Cp_isn | apply Tr_bl | apply Tr_int | apply Tr_lst | apply Tr_tup | apply Tr_non | apply Io_int | apply Bs_int | apply Bs_intb | apply Bs_len | apply Bs_lent | apply Bs_min | apply Bs_max | apply Bs_abs | apply Md_bits | apply Mt_bits | apply It_lst | apply It_tup | apply Br_not | apply Bd_b1 | apply G_di0 | apply Sl_lst | apply Sl_tup | apply Wp_0 | apply Wp_s | apply Sn_0 | apply Sn_s | apply Ct_mk1 | apply Ct_mk | apply Tn_mk | apply G_zen | apply G_zzp | apply G_rvs | apply G_lset | apply G_dct | apply G_k0 | apply G_k1 | apply G_dis | apply En_lst | apply Zp_tup | apply Zp_lst | apply Rv_lst | apply Rv_tup | apply Ky_str | apply Ky_int | apply Md_split | apply Md_join | apply Md_idx | apply Ts_0 | apply Ts_s | apply Cp_eqb | apply Cp_neb | apply Z_try)) | apply cell_w (by decide); intro _ | refine Ln_mk (Nat.le_of_ble_eq_true rfl) ?_ | refine Bn_mod (by first | decide | omega) ?_ | refine Bd_bT rfl ?_ | refine Ix_by rfl ?_ | refine Is_by (k := true) rfl ?_ | refine Is_by (k := false) rfl ?_ | refine R1_mk (by first | decide | omega) ?_ | refine Bn_mulS (by omega) (by omega) ?_ | refine Bn_fdivS (by omega) (by omega) ?_ | (apply Ix_ref; assumption; exact rfl) | (apply Sd_ref; assumption; exact rfl; intro _ _ _ _) | (apply Bs_lenr; assumption) | (apply Md_app; assumption) | refine Br_t rfl ?_ | refine Br_f rfl ?_ | refine Br_t (decide_eq_true (by omega)) ?_ | refine Br_f (decide_eq_false (by omega)) ?_ | (with_reducible refine Br_dec (fun _ => ?_) (fun _ => ?_)) | fail))
  rename_i c0
  refine works_w (src_new (S := []) (c := c0)) (by omega) (fun hs ws S1 ok h1 h4 w1 hs1 K1 => ?_)
  have fw := fine_worksS ok
  (repeat' (first | refine Bs_by (x := .lst (hs.map dS)) rfl ?_ | refine Bs_by (x := .lst (ws.map dWork)) rfl ?_ | (with_reducible (first | apply G_vvs | apply G_vv0 | apply G_kk | apply G_bi | apply G_ca | apply G_a1 | apply G_a0 | apply Z_seq | apply Z_set | apply St_s | apply St_0 | apply G_ix | apply G_cm | apply G_tCm | apply Bl_bl | apply Z_if | apply Z_ret | apply G_bl | apply G_tTr | apply G_tNot | apply G_tAnd | apply G_tOr | apply G_isn | apply G_me | apply G_lsv | apply G_tu | apply G_lsm | apply G_nt | apply G_ng | apply G_cm2 | apply G_ie | apply G_sl | apply G_andE | apply G_orE | apply G_p0 | apply G_p1 | apply G_iv | apply G_r1 | apply G_r2 | apply G_lcv | apply G_lcv1 | apply G_lcm | apply G_lcm1 | apply Z_exp | apply Z_pass | apply Z_brk | apply Z_cnt | apply Z_ret0 | apply Z_tup | apply Z_sub | apply Z_while | apply Z_for | apply Z_raise | apply FnP_self | apply Bn_add | apply Bn_sub | apply Bn_and | apply Cp_lt | apply Cp_le | apply Cp_gt | apply Cp_ge | apply Cp_eqi | apply Cp_nei | apply Cp_is | apply Cp_isn | apply Tr_bl | apply Tr_int | apply Tr_lst | apply Tr_tup | apply Tr_non | apply Io_int | apply Bs_int | apply Bs_intb | apply Bs_len | apply Bs_lent | apply Bs_min | apply Bs_max | apply Bs_abs | apply Md_bits | apply Mt_bits | apply It_lst | apply It_tup | apply Br_not | apply Bd_b1 | apply G_di0 | apply Sl_lst | apply Sl_tup | apply Wp_0 | apply Wp_s | apply Sn_0 | apply Sn_s | apply Ct_mk1 | apply Ct_mk | apply Tn_mk | apply G_zen | apply G_zzp | apply G_rvs | apply G_lset | apply G_dct | apply G_k0 | apply G_k1 | apply G_dis | apply En_lst | apply Zp_tup | apply Zp_lst | apply Rv_lst | apply Rv_tup | apply Ky_str | apply Ky_int | apply Md_split | apply Md_join | apply Md_idx | apply Ts_0 | apply Ts_s | apply Cp_eqb | apply Cp_neb | apply Z_try)) | refine Ln_mk (Nat.le_of_ble_eq_true rfl) ?_ | refine Bn_mod (by first | decide | omega) ?_ | refine Bd_bT rfl ?_ | refine Ix_by rfl ?_ | refine Is_by (k := true) rfl ?_ | refine Is_by (k := false) rfl ?_ | refine R1_mk (by first | decide | omega) ?_ | refine Bn_mulS (by omega) (by omega) ?_ | refine Bn_fdivS (by omega) (by omega) ?_ | (apply Ix_ref; assumption; exact rfl) | (apply Sd_ref; assumption; exact rfl; intro _ _ _ _) | (apply Bs_lenr; assumption) | (apply Md_app; assumption) | refine Br_t rfl ?_ | refine Br_f rfl ?_ | refine Br_t (decide_eq_true (by omega)) ?_ | refine Br_f (decide_eq_false (by omega)) ?_ | (with_reducible refine Br_dec (fun _ => ?_) (fun _ => ?_)) | fail))
  refine Lp_inv (fun i σ S' => ∃ (ls : List Nat) (h : List Wh) (as : Int) (x1 x7 x8 x9 x10 x11 x12 x13 x14 : Option D), σ = [some (.lst (ns.map D.int)), x1, some (.tup [.lst (hs.map dS), .lst (ws.map dWork)]), some (.tup [.lst (hs.map dS), .lst (ws.map dWork)]), some (.ref S1.length), some (dHand h), some (.int as), x7, x8, x9, x10, x11, x12, x13, x14] ∧ Md S' S1.length ls h ∧ okHd ws h ∧ (∀ w ∈ h, lfOk ws w) ∧ h.length ≤ i) ⟨[], [], _, _, _, _, _, _, _, _, _, _, rfl, ⟨by simp, rfl, List.nodup_nil, fun i l w h => by simp at h⟩, fun w hw => by simp at hw, fun w hw => by simp at hw, Nat.le_refl _⟩ ?_ ?_ ?_
  · rintro i d σ S2 hd ⟨ls, h, as, x1, x7, x8, x9, x10, x11, x12, x13, x14, rfl, m2, oh, ol, hl1⟩
    have il : i < ns.length := by
      have q : i < (cut (ns.map D.int) (some 1) (some 61)).length := (List.getElem?_eq_some_iff.mp hd).1
      have := cut_len (xs := ns.map D.int) (lo := some 1) (hi := some 61)
      rw [List.length_map] at this
      omega
    have : ∃ c, d = .int c := by
      obtain ⟨a, _, rfl⟩ := List.mem_map.mp (cut_mem (List.mem_of_getElem? hd))
      exact ⟨a, rfl⟩
    obtain ⟨c, rfl⟩ := this
    (repeat' (first | (with_reducible (first | apply G_vvs | apply G_vv0 | apply G_kk | apply G_bi | apply G_ca | apply G_a1 | apply G_a0 | apply Z_seq | apply Z_set | apply St_s | apply St_0 | apply G_ix | apply G_cm | apply G_tCm | apply Bl_bl | apply Z_if | apply Z_ret | apply G_bl | apply G_tTr | apply G_tNot | apply G_tAnd | apply G_tOr | apply G_isn | apply G_me | apply G_lsv | apply G_tu | apply G_lsm | apply G_nt | apply G_ng | apply G_cm2 | apply G_ie | apply G_sl | apply G_andE | apply G_orE | apply G_p0 | apply G_p1 | apply G_iv | apply G_r1 | apply G_r2 | apply G_lcv | apply G_lcv1 | apply G_lcm | apply G_lcm1 | apply Z_exp | apply Z_pass | apply Z_brk | apply Z_cnt | apply Z_ret0 | apply Z_tup | apply Z_sub | apply Z_while | apply Z_for | apply Z_raise | apply FnP_self | apply Bn_add | apply Bn_sub | apply Bn_and | apply Cp_lt | apply Cp_le | apply Cp_gt | apply Cp_ge | apply Cp_eqi | apply Cp_nei | apply Cp_is | apply Cp_isn | apply Tr_bl | apply Tr_int | apply Tr_lst | apply Tr_tup | apply Tr_non | apply Io_int | apply Bs_int | apply Bs_intb | apply Bs_len | apply Bs_lent | apply Bs_min | apply Bs_max | apply Bs_abs | apply Md_bits | apply Mt_bits | apply It_lst | apply It_tup | apply Br_not | apply Bd_b1 | apply G_di0 | apply Sl_lst | apply Sl_tup | apply Wp_0 | apply Wp_s | apply Sn_0 | apply Sn_s | apply Ct_mk1 | apply Ct_mk | apply Tn_mk | apply G_zen | apply G_zzp | apply G_rvs | apply G_lset | apply G_dct | apply G_k0 | apply G_k1 | apply G_dis | apply En_lst | apply Zp_tup | apply Zp_lst | apply Rv_lst | apply Rv_tup | apply Ky_str | apply Ky_int | apply Md_split | apply Md_join | apply Md_idx | apply Ts_0 | apply Ts_s | apply Cp_eqb | apply Cp_neb | apply Z_try)) | refine Ln_mk (Nat.le_of_ble_eq_true rfl) ?_ | refine Bn_mod (by first | decide | omega) ?_ | refine Bd_bT rfl ?_ | refine Ix_by rfl ?_ | refine Is_by (k := true) rfl ?_ | refine Is_by (k := false) rfl ?_ | refine R1_mk (by first | decide | omega) ?_ | refine Bn_mulS (by omega) (by omega) ?_ | refine Bn_fdivS (by omega) (by omega) ?_ | (apply Ix_ref; assumption; exact rfl) | (apply Sd_ref; assumption; exact rfl; intro _ _ _ _) | (apply Bs_lenr; assumption) | (apply Md_app; assumption) | refine Br_t rfl ?_ | refine Br_f rfl ?_ | refine Br_t (decide_eq_true (by omega)) ?_ | refine Br_f (decide_eq_false (by omega)) ?_ | (with_reducible refine Br_dec (fun _ => ?_) (fun _ => ?_)) | fail))
    refine draw_w (src_new (S := S2) (c := c)) (by omega) (by decide) (by decide) (fun way S3 a0 a1 hs3 l3 o3 => ?_)
    have m3 := m2.app.kp (src_new (S := S2) (c := c)) (Kp.same l3 o3)
    have rl := runL_nil m3.len
    (repeat' (first | (with_reducible refine plain_w m3 (by omega) (fun T => ?_)) | (with_reducible refine running_c m3.app (by omega) ?_) | with_reducible refine Z_ifm (fun σ S' => ∃ (ls' : List Nat) (g : List Wh) (as' : Int) (x12 x13 x14 : Option D), σ = [some (.lst (ns.map D.int)), some (.ref S2.length), some (.tup [.lst (hs.map dS), .lst (ws.map dWork)]), some (.tup [.lst (hs.map dS), .lst (ws.map dWork)]), some (.ref S1.length), some (dHand h), some (.int as'), some (.int c), some (.int way), some (.tup [dHand h, dHand h]), some (.lst (runL ls h)), some (dHand g), x12, x13, x14] ∧ Md S' S1.length ls' g ∧ okHd ws g ∧ (∀ w ∈ g, lfOk ws w) ∧ g.length ≤ h.length + 1) ?_ ?_ | refine Cp_eqnil (seqL_ref m3.app.at_) m3.app.toPy ?_ | refine Cp_eqnil (d := .lst (runL ls h)) (xs := runL ls h) rfl (runL_py m3.app) ?_ | refine Br_t (decide_eq_true (by assumption)) ?_ | refine Br_f (decide_eq_false (by assumption)) ?_ | (with_reducible refine Br_dec (fun _ => ?_) (fun _ => ?_)) | refine Br_t rfl ?_ | refine Br_f rfl ?_ | refine Br_any (fun _ => ?_) (fun _ => ?_) | (with_reducible (first | apply G_vvs | apply G_vv0 | apply G_kk | apply G_bi | apply G_ca | apply G_a1 | apply G_a0 | apply Z_seq | apply Z_set | apply St_s | apply St_0 | apply G_ix | apply G_cm | apply G_tCm | apply Bl_bl | apply Z_if | apply Z_ret | apply G_bl | apply G_tTr | apply G_tNot | apply G_tAnd | apply G_tOr | apply G_isn | apply G_me | apply G_lsv | apply G_tu | apply G_lsm | apply G_nt | apply G_ng | apply G_cm2 | apply G_ie | apply G_sl | apply G_andE | apply G_orE | apply G_p0 | apply G_p1 | apply G_iv | apply G_r1 | apply G_r2 | apply G_lcv | apply G_lcv1 | apply G_lcm | apply G_lcm1 | apply Z_exp | apply Z_pass | apply Z_brk | apply Z_cnt | apply Z_ret0 | apply Z_tup | apply Z_sub | apply Z_while | apply Z_for | apply Z_raise | apply FnP_self | apply Bn_add | apply Bn_sub | apply Bn_and | apply Cp_lt | apply Cp_le | apply Cp_gt | apply Cp_ge | apply Cp_eqi | apply Cp_nei | apply Cp_is | apply Cp_isn | apply Tr_bl | apply Tr_int | apply Tr_lst | apply Tr_tup | apply Tr_non | apply Io_int | apply Bs_int | apply Bs_intb | apply Bs_len | apply Bs_lent | apply Bs_min | apply Bs_max | apply Bs_abs | apply Md_bits | apply Mt_bits | apply It_lst | apply It_tup | apply Br_not | apply Bd_b1 | apply G_di0 | apply Sl_lst | apply Sl_tup | apply Wp_0 | apply Wp_s | apply Sn_0 | apply Sn_s | apply Ct_mk1 | apply Ct_mk | apply Tn_mk | apply G_zen | apply G_zzp | apply G_rvs | apply G_lset | apply G_dct | apply G_k0 | apply G_k1 | apply G_dis | apply En_lst | apply Zp_tup | apply Zp_lst | apply Rv_lst | apply Rv_tup | apply Ky_str | apply Ky_int | apply Md_split | apply Md_join | apply Md_idx | apply Ts_0 | apply Ts_s | apply Cp_eqb | apply Cp_neb | apply Z_try)) | refine Ln_mk (Nat.le_of_ble_eq_true rfl) ?_ | refine Bn_mod (by first | decide | omega) ?_ | refine Bd_bT rfl ?_ | refine Ix_by rfl ?_ | refine Is_by (k := true) rfl ?_ | refine Is_by (k := false) rfl ?_ | refine R1_mk (by first | decide | omega) ?_ | refine Bn_mulS (by omega) (by omega) ?_ | refine Bn_fdivS (by omega) (by omega) ?_ | (apply Ix_ref; assumption; exact rfl) | (apply Sd_ref; assumption; exact rfl; intro _ _ _ _) | (apply Bs_lenr; assumption) | (apply Md_app; assumption) | refine Br_t rfl ?_ | refine Br_f rfl ?_ | refine Br_t (decide_eq_true (by omega)) ?_ | refine Br_f (decide_eq_false (by omega)) ?_ | (with_reducible refine Br_dec (fun _ => ?_) (fun _ => ?_)) | fail))
    · refine ltaken_w hs3.app (by omega) m3.app ok h1 h4 w1 (by omega) (fun nm x own S5 ls' hm oo m5 => ?_)
      (repeat' (first | (with_reducible (first | apply G_vvs | apply G_vv0 | apply G_kk | apply G_bi | apply G_ca | apply G_a1 | apply G_a0 | apply Z_seq | apply Z_set | apply St_s | apply St_0 | apply G_ix | apply G_cm | apply G_tCm | apply Bl_bl | apply Z_if | apply Z_ret | apply G_bl | apply G_tTr | apply G_tNot | apply G_tAnd | apply G_tOr | apply G_isn | apply G_me | apply G_lsv | apply G_tu | apply G_lsm | apply G_nt | apply G_ng | apply G_cm2 | apply G_ie | apply G_sl | apply G_andE | apply G_orE | apply G_p0 | apply G_p1 | apply G_iv | apply G_r1 | apply G_r2 | apply G_lcv | apply G_lcv1 | apply G_lcm | apply G_lcm1 | apply Z_exp | apply Z_pass | apply Z_brk | apply Z_cnt | apply Z_ret0 | apply Z_tup | apply Z_sub | apply Z_while | apply Z_for | apply Z_raise | apply FnP_self | apply Bn_add | apply Bn_sub | apply Bn_and | apply Cp_lt | apply Cp_le | apply Cp_gt | apply Cp_ge | apply Cp_eqi | apply Cp_nei | apply Cp_is | apply Cp_isn | apply Tr_bl | apply Tr_int | apply Tr_lst | apply Tr_tup | apply Tr_non | apply Io_int | apply Bs_int | apply Bs_intb | apply Bs_len | apply Bs_lent | apply Bs_min | apply Bs_max | apply Bs_abs | apply Md_bits | apply Mt_bits | apply It_lst | apply It_tup | apply Br_not | apply Bd_b1 | apply G_di0 | apply Sl_lst | apply Sl_tup | apply Wp_0 | apply Wp_s | apply Sn_0 | apply Sn_s | apply Ct_mk1 | apply Ct_mk | apply Tn_mk | apply G_zen | apply G_zzp | apply G_rvs | apply G_lset | apply G_dct | apply G_k0 | apply G_k1 | apply G_dis | apply En_lst | apply Zp_tup | apply Zp_lst | apply Rv_lst | apply Rv_tup | apply Ky_str | apply Ky_int | apply Md_split | apply Md_join | apply Md_idx | apply Ts_0 | apply Ts_s | apply Cp_eqb | apply Cp_neb | apply Z_try)) | refine Ln_mk (Nat.le_of_ble_eq_true rfl) ?_ | refine Bn_mod (by first | decide | omega) ?_ | refine Bd_bT rfl ?_ | refine Ix_by rfl ?_ | refine Is_by (k := true) rfl ?_ | refine Is_by (k := false) rfl ?_ | refine R1_mk (by first | decide | omega) ?_ | refine Bn_mulS (by omega) (by omega) ?_ | refine Bn_fdivS (by omega) (by omega) ?_ | (apply Ix_ref; assumption; exact rfl) | (apply Sd_ref; assumption; exact rfl; intro _ _ _ _) | (apply Bs_lenr; assumption) | (apply Md_app; assumption) | refine Br_t rfl ?_ | refine Br_f rfl ?_ | refine Br_t (decide_eq_true (by omega)) ?_ | refine Br_f (decide_eq_false (by omega)) ?_ | (with_reducible refine Br_dec (fun _ => ?_) (fun _ => ?_)) | fail))
      exact ⟨ls', _, as, _, _, _, rfl, m5, taken_ok oh hm oo, fun w hw => (List.mem_append.mp hw).elim (ol w) (fun z => by rw [List.mem_singleton.mp z]; exact lf_new), by simp⟩
    · refine ltaken_w hs3.app (by omega) m3.app ok h1 h4 w1 (by omega) (fun nm x own S5 ls' hm oo m5 => ?_)
      (repeat' (first | (with_reducible (first | apply G_vvs | apply G_vv0 | apply G_kk | apply G_bi | apply G_ca | apply G_a1 | apply G_a0 | apply Z_seq | apply Z_set | apply St_s | apply St_0 | apply G_ix | apply G_cm | apply G_tCm | apply Bl_bl | apply Z_if | apply Z_ret | apply G_bl | apply G_tTr | apply G_tNot | apply G_tAnd | apply G_tOr | apply G_isn | apply G_me | apply G_lsv | apply G_tu | apply G_lsm | apply G_nt | apply G_ng | apply G_cm2 | apply G_ie | apply G_sl | apply G_andE | apply G_orE | apply G_p0 | apply G_p1 | apply G_iv | apply G_r1 | apply G_r2 | apply G_lcv | apply G_lcv1 | apply G_lcm | apply G_lcm1 | apply Z_exp | apply Z_pass | apply Z_brk | apply Z_cnt | apply Z_ret0 | apply Z_tup | apply Z_sub | apply Z_while | apply Z_for | apply Z_raise | apply FnP_self | apply Bn_add | apply Bn_sub | apply Bn_and | apply Cp_lt | apply Cp_le | apply Cp_gt | apply Cp_ge | apply Cp_eqi | apply Cp_nei | apply Cp_is | apply Cp_isn | apply Tr_bl | apply Tr_int | apply Tr_lst | apply Tr_tup | apply Tr_non | apply Io_int | apply Bs_int | apply Bs_intb | apply Bs_len | apply Bs_lent | apply Bs_min | apply Bs_max | apply Bs_abs | apply Md_bits | apply Mt_bits | apply It_lst | apply It_tup | apply Br_not | apply Bd_b1 | apply G_di0 | apply Sl_lst | apply Sl_tup | apply Wp_0 | apply Wp_s | apply Sn_0 | apply Sn_s | apply Ct_mk1 | apply Ct_mk | apply Tn_mk | apply G_zen | apply G_zzp | apply G_rvs | apply G_lset | apply G_dct | apply G_k0 | apply G_k1 | apply G_dis | apply En_lst | apply Zp_tup | apply Zp_lst | apply Rv_lst | apply Rv_tup | apply Ky_str | apply Ky_int | apply Md_split | apply Md_join | apply Md_idx | apply Ts_0 | apply Ts_s | apply Cp_eqb | apply Cp_neb | apply Z_try)) | refine Ln_mk (Nat.le_of_ble_eq_true rfl) ?_ | refine Bn_mod (by first | decide | omega) ?_ | refine Bd_bT rfl ?_ | refine Ix_by rfl ?_ | refine Is_by (k := true) rfl ?_ | refine Is_by (k := false) rfl ?_ | refine R1_mk (by first | decide | omega) ?_ | refine Bn_mulS (by omega) (by omega) ?_ | refine Bn_fdivS (by omega) (by omega) ?_ | (apply Ix_ref; assumption; exact rfl) | (apply Sd_ref; assumption; exact rfl; intro _ _ _ _) | (apply Bs_lenr; assumption) | (apply Md_app; assumption) | refine Br_t rfl ?_ | refine Br_f rfl ?_ | refine Br_t (decide_eq_true (by omega)) ?_ | refine Br_f (decide_eq_false (by omega)) ?_ | (with_reducible refine Br_dec (fun _ => ?_) (fun _ => ?_)) | fail))
      exact ⟨ls', _, as, _, _, _, rfl, m5, taken_ok oh hm oo, fun w hw => (List.mem_append.mp hw).elim (ol w) (fun z => by rw [List.mem_singleton.mp z]; exact lf_new), by simp⟩
    · refine lans_w hs3.app (by omega) m3.app oh (by omega) (fun a n S5 m5 => ?_)
      (repeat' (first | (with_reducible (first | apply G_vvs | apply G_vv0 | apply G_kk | apply G_bi | apply G_ca | apply G_a1 | apply G_a0 | apply Z_seq | apply Z_set | apply St_s | apply St_0 | apply G_ix | apply G_cm | apply G_tCm | apply Bl_bl | apply Z_if | apply Z_ret | apply G_bl | apply G_tTr | apply G_tNot | apply G_tAnd | apply G_tOr | apply G_isn | apply G_me | apply G_lsv | apply G_tu | apply G_lsm | apply G_nt | apply G_ng | apply G_cm2 | apply G_ie | apply G_sl | apply G_andE | apply G_orE | apply G_p0 | apply G_p1 | apply G_iv | apply G_r1 | apply G_r2 | apply G_lcv | apply G_lcv1 | apply G_lcm | apply G_lcm1 | apply Z_exp | apply Z_pass | apply Z_brk | apply Z_cnt | apply Z_ret0 | apply Z_tup | apply Z_sub | apply Z_while | apply Z_for | apply Z_raise | apply FnP_self | apply Bn_add | apply Bn_sub | apply Bn_and | apply Cp_lt | apply Cp_le | apply Cp_gt | apply Cp_ge | apply Cp_eqi | apply Cp_nei | apply Cp_is | apply Cp_isn | apply Tr_bl | apply Tr_int | apply Tr_lst | apply Tr_tup | apply Tr_non | apply Io_int | apply Bs_int | apply Bs_intb | apply Bs_len | apply Bs_lent | apply Bs_min | apply Bs_max | apply Bs_abs | apply Md_bits | apply Mt_bits | apply It_lst | apply It_tup | apply Br_not | apply Bd_b1 | apply G_di0 | apply Sl_lst | apply Sl_tup | apply Wp_0 | apply Wp_s | apply Sn_0 | apply Sn_s | apply Ct_mk1 | apply Ct_mk | apply Tn_mk | apply G_zen | apply G_zzp | apply G_rvs | apply G_lset | apply G_dct | apply G_k0 | apply G_k1 | apply G_dis | apply En_lst | apply Zp_tup | apply Zp_lst | apply Rv_lst | apply Rv_tup | apply Ky_str | apply Ky_int | apply Md_split | apply Md_join | apply Md_idx | apply Ts_0 | apply Ts_s | apply Cp_eqb | apply Cp_neb | apply Z_try)) | refine Ln_mk (Nat.le_of_ble_eq_true rfl) ?_ | refine Bn_mod (by first | decide | omega) ?_ | refine Bd_bT rfl ?_ | refine Ix_by rfl ?_ | refine Is_by (k := true) rfl ?_ | refine Is_by (k := false) rfl ?_ | refine R1_mk (by first | decide | omega) ?_ | refine Bn_mulS (by omega) (by omega) ?_ | refine Bn_fdivS (by omega) (by omega) ?_ | (apply Ix_ref; assumption; exact rfl) | (apply Sd_ref; assumption; exact rfl; intro _ _ _ _) | (apply Bs_lenr; assumption) | (apply Md_app; assumption) | refine Br_t rfl ?_ | refine Br_f rfl ?_ | refine Br_t (decide_eq_true (by omega)) ?_ | refine Br_f (decide_eq_false (by omega)) ?_ | (with_reducible refine Br_dec (fun _ => ?_) (fun _ => ?_)) | fail))
      exact ⟨ls, _, as, _, _, _, rfl, m5, ans_ok oh, lf_ans ol, by unfold ansH; rw [List.length_map]; omega⟩
    · refine lans_w hs3.app (by omega) m3.app oh (by omega) (fun a n S5 m5 => ?_)
      (repeat' (first | (with_reducible (first | apply G_vvs | apply G_vv0 | apply G_kk | apply G_bi | apply G_ca | apply G_a1 | apply G_a0 | apply Z_seq | apply Z_set | apply St_s | apply St_0 | apply G_ix | apply G_cm | apply G_tCm | apply Bl_bl | apply Z_if | apply Z_ret | apply G_bl | apply G_tTr | apply G_tNot | apply G_tAnd | apply G_tOr | apply G_isn | apply G_me | apply G_lsv | apply G_tu | apply G_lsm | apply G_nt | apply G_ng | apply G_cm2 | apply G_ie | apply G_sl | apply G_andE | apply G_orE | apply G_p0 | apply G_p1 | apply G_iv | apply G_r1 | apply G_r2 | apply G_lcv | apply G_lcv1 | apply G_lcm | apply G_lcm1 | apply Z_exp | apply Z_pass | apply Z_brk | apply Z_cnt | apply Z_ret0 | apply Z_tup | apply Z_sub | apply Z_while | apply Z_for | apply Z_raise | apply FnP_self | apply Bn_add | apply Bn_sub | apply Bn_and | apply Cp_lt | apply Cp_le | apply Cp_gt | apply Cp_ge | apply Cp_eqi | apply Cp_nei | apply Cp_is | apply Cp_isn | apply Tr_bl | apply Tr_int | apply Tr_lst | apply Tr_tup | apply Tr_non | apply Io_int | apply Bs_int | apply Bs_intb | apply Bs_len | apply Bs_lent | apply Bs_min | apply Bs_max | apply Bs_abs | apply Md_bits | apply Mt_bits | apply It_lst | apply It_tup | apply Br_not | apply Bd_b1 | apply G_di0 | apply Sl_lst | apply Sl_tup | apply Wp_0 | apply Wp_s | apply Sn_0 | apply Sn_s | apply Ct_mk1 | apply Ct_mk | apply Tn_mk | apply G_zen | apply G_zzp | apply G_rvs | apply G_lset | apply G_dct | apply G_k0 | apply G_k1 | apply G_dis | apply En_lst | apply Zp_tup | apply Zp_lst | apply Rv_lst | apply Rv_tup | apply Ky_str | apply Ky_int | apply Md_split | apply Md_join | apply Md_idx | apply Ts_0 | apply Ts_s | apply Cp_eqb | apply Cp_neb | apply Z_try)) | refine Ln_mk (Nat.le_of_ble_eq_true rfl) ?_ | refine Bn_mod (by first | decide | omega) ?_ | refine Bd_bT rfl ?_ | refine Ix_by rfl ?_ | refine Is_by (k := true) rfl ?_ | refine Is_by (k := false) rfl ?_ | refine R1_mk (by first | decide | omega) ?_ | refine Bn_mulS (by omega) (by omega) ?_ | refine Bn_fdivS (by omega) (by omega) ?_ | (apply Ix_ref; assumption; exact rfl) | (apply Sd_ref; assumption; exact rfl; intro _ _ _ _) | (apply Bs_lenr; assumption) | (apply Md_app; assumption) | refine Br_t rfl ?_ | refine Br_f rfl ?_ | refine Br_t (decide_eq_true (by omega)) ?_ | refine Br_f (decide_eq_false (by omega)) ?_ | (with_reducible refine Br_dec (fun _ => ?_) (fun _ => ?_)) | fail))
      exact ⟨ls, _, as, _, _, _, rfl, m5, ans_ok oh, lf_ans ol, by unfold ansH; rw [List.length_map]; omega⟩
    · rename_i re
      have rr : runsH h = true := by
        rw [rl] at re
        simpa using re
      have sn : sOk cHere = true := by decide
      refine stepped_w (ask := (cHere, as)) ok (by omega) oh rr (fun T2 => ?_)
      have ot := step_t ok (ask := (cHere, as)) oh rr
      (repeat' (first | refine lstep_w (ask := (cHere, as)) m3.app.app ok oh ol (by omega) rr (fun S5 ls' m5 => ?_) | refine what_ask ot (fun b => ?_) | refine what_ne ot ?_ | (with_reducible (first | apply G_vvs | apply G_vv0 | apply G_kk | apply G_bi | apply G_ca | apply G_a1 | apply G_a0 | apply Z_seq | apply Z_set | apply St_s | apply St_0 | apply G_ix | apply G_cm | apply G_tCm | apply Bl_bl | apply Z_if | apply Z_ret | apply G_bl | apply G_tTr | apply G_tNot | apply G_tAnd | apply G_tOr | apply G_isn | apply G_me | apply G_lsv | apply G_tu | apply G_lsm | apply G_nt | apply G_ng | apply G_cm2 | apply G_ie | apply G_sl | apply G_andE | apply G_orE | apply G_p0 | apply G_p1 | apply G_iv | apply G_r1 | apply G_r2 | apply G_lcv | apply G_lcv1 | apply G_lcm | apply G_lcm1 | apply Z_exp | apply Z_pass | apply Z_brk | apply Z_cnt | apply Z_ret0 | apply Z_tup | apply Z_sub | apply Z_while | apply Z_for | apply Z_raise | apply FnP_self | apply Bn_add | apply Bn_sub | apply Bn_and | apply Cp_lt | apply Cp_le | apply Cp_gt | apply Cp_ge | apply Cp_eqi | apply Cp_nei | apply Cp_is | apply Cp_isn | apply Tr_bl | apply Tr_int | apply Tr_lst | apply Tr_tup | apply Tr_non | apply Io_int | apply Bs_int | apply Bs_intb | apply Bs_len | apply Bs_lent | apply Bs_min | apply Bs_max | apply Bs_abs | apply Md_bits | apply Mt_bits | apply It_lst | apply It_tup | apply Br_not | apply Bd_b1 | apply G_di0 | apply Sl_lst | apply Sl_tup | apply Wp_0 | apply Wp_s | apply Sn_0 | apply Sn_s | apply Ct_mk1 | apply Ct_mk | apply Tn_mk | apply G_zen | apply G_zzp | apply G_rvs | apply G_lset | apply G_dct | apply G_k0 | apply G_k1 | apply G_dis | apply En_lst | apply Zp_tup | apply Zp_lst | apply Rv_lst | apply Rv_tup | apply Ky_str | apply Ky_int | apply Md_split | apply Md_join | apply Md_idx | apply Ts_0 | apply Ts_s | apply Cp_eqb | apply Cp_neb | apply Z_try)) | refine Ln_mk (Nat.le_of_ble_eq_true rfl) ?_ | refine Bn_mod (by first | decide | omega) ?_ | refine Bd_bT rfl ?_ | refine Ix_by rfl ?_ | refine Is_by (k := true) rfl ?_ | refine Is_by (k := false) rfl ?_ | refine R1_mk (by first | decide | omega) ?_ | refine Bn_mulS (by omega) (by omega) ?_ | refine Bn_fdivS (by omega) (by omega) ?_ | (apply Ix_ref; assumption; exact rfl) | (apply Sd_ref; assumption; exact rfl; intro _ _ _ _) | (apply Bs_lenr; assumption) | (apply Md_app; assumption) | refine Br_t rfl ?_ | refine Br_f rfl ?_ | refine Br_t (decide_eq_true (by omega)) ?_ | refine Br_f (decide_eq_false (by omega)) ?_ | (with_reducible refine Br_dec (fun _ => ?_) (fun _ => ?_)) | fail))
      exact ⟨ls', _, _, _, _, _, rfl, m5, step_ok oh sn rr, lf_step oh ol rr, by have := step_len ws (cHere, as) h; omega⟩
    · rintro σ S5 ⟨ls', g, as', x12, x13, x14, rfl, m5, og, lg, gl⟩
      have fh : fine 3 (dHand h) = true := fine_hand ok oh
      have fg : fine 3 (dHand g) = true := fine_hand ok og
      have rl' := runL_nil m5.len
      (repeat' (first | refine Ix_by (x' := dHand h) rfl ?_ | refine Cp_ne (EqOk.of fh (by decide)) (EqOk.of fh (by decide)) (fun _ => ?_) (fun z => absurd rfl z) | refine Is_by (k := true) rfl ?_ | (with_reducible refine plain_w m5 (by omega) (fun T => ?_)) | refine Cp_ne (EqOk.of fg (by decide)) (EqOk.of fg (by decide)) (fun _ => ?_) (fun z => absurd rfl z) | (with_reducible refine running_c m5.app (by omega) ?_) | refine Cp_nenil (d := .lst (runL ls' g)) (xs := runL ls' g) rfl (runL_py m5.app) ?_ | (with_reducible refine runs_w (by omega) rfl ?_) | (with_reducible (first | apply G_vvs | apply G_vv0 | apply G_kk | apply G_bi | apply G_ca | apply G_a1 | apply G_a0 | apply Z_seq | apply Z_set | apply St_s | apply St_0 | apply G_ix | apply G_cm | apply G_tCm | apply Bl_bl | apply Z_if | apply Z_ret | apply G_bl | apply G_tTr | apply G_tNot | apply G_tAnd | apply G_tOr | apply G_isn | apply G_me | apply G_lsv | apply G_tu | apply G_lsm | apply G_nt | apply G_ng | apply G_cm2 | apply G_ie | apply G_sl | apply G_andE | apply G_orE | apply G_p0 | apply G_p1 | apply G_iv | apply G_r1 | apply G_r2 | apply G_lcv | apply G_lcv1 | apply G_lcm | apply G_lcm1 | apply Z_exp | apply Z_pass | apply Z_brk | apply Z_cnt | apply Z_ret0 | apply Z_tup | apply Z_sub | apply Z_while | apply Z_for | apply Z_raise | apply FnP_self | apply Bn_add | apply Bn_sub | apply Bn_and | apply Cp_lt | apply Cp_le | apply Cp_gt | apply Cp_ge | apply Cp_eqi | apply Cp_nei | apply Cp_is | apply Cp_isn | apply Tr_bl | apply Tr_int | apply Tr_lst | apply Tr_tup | apply Tr_non | apply Io_int | apply Bs_int | apply Bs_intb | apply Bs_len | apply Bs_lent | apply Bs_min | apply Bs_max | apply Bs_abs | apply Md_bits | apply Mt_bits | apply It_lst | apply It_tup | apply Br_not | apply Bd_b1 | apply G_di0 | apply Sl_lst | apply Sl_tup | apply Wp_0 | apply Wp_s | apply Sn_0 | apply Sn_s | apply Ct_mk1 | apply Ct_mk | apply Tn_mk | apply G_zen | apply G_zzp | apply G_rvs | apply G_lset | apply G_dct | apply G_k0 | apply G_k1 | apply G_dis | apply En_lst | apply Zp_tup | apply Zp_lst | apply Rv_lst | apply Rv_tup | apply Ky_str | apply Ky_int | apply Md_split | apply Md_join | apply Md_idx | apply Ts_0 | apply Ts_s | apply Cp_eqb | apply Cp_neb | apply Z_try)) | refine Ln_mk (Nat.le_of_ble_eq_true rfl) ?_ | refine Bn_mod (by first | decide | omega) ?_ | refine Bd_bT rfl ?_ | refine Ix_by rfl ?_ | refine Is_by (k := true) rfl ?_ | refine Is_by (k := false) rfl ?_ | refine R1_mk (by first | decide | omega) ?_ | refine Bn_mulS (by omega) (by omega) ?_ | refine Bn_fdivS (by omega) (by omega) ?_ | (apply Ix_ref; assumption; exact rfl) | (apply Sd_ref; assumption; exact rfl; intro _ _ _ _) | (apply Bs_lenr; assumption) | (apply Md_app; assumption) | refine Br_t rfl ?_ | refine Br_f rfl ?_ | refine Br_t (decide_eq_true (by omega)) ?_ | refine Br_f (decide_eq_false (by omega)) ?_ | (with_reducible refine Br_dec (fun _ => ?_) (fun _ => ?_)) | fail))
      rw [rl', Bool.not_not]
      refine Br_f (by cases runsH g <;> rfl) ?_
      (repeat' (first | (with_reducible (first | apply G_vvs | apply G_vv0 | apply G_kk | apply G_bi | apply G_ca | apply G_a1 | apply G_a0 | apply Z_seq | apply Z_set | apply St_s | apply St_0 | apply G_ix | apply G_cm | apply G_tCm | apply Bl_bl | apply Z_if | apply Z_ret | apply G_bl | apply G_tTr | apply G_tNot | apply G_tAnd | apply G_tOr | apply G_isn | apply G_me | apply G_lsv | apply G_tu | apply G_lsm | apply G_nt | apply G_ng | apply G_cm2 | apply G_ie | apply G_sl | apply G_andE | apply G_orE | apply G_p0 | apply G_p1 | apply G_iv | apply G_r1 | apply G_r2 | apply G_lcv | apply G_lcv1 | apply G_lcm | apply G_lcm1 | apply Z_exp | apply Z_pass | apply Z_brk | apply Z_cnt | apply Z_ret0 | apply Z_tup | apply Z_sub | apply Z_while | apply Z_for | apply Z_raise | apply FnP_self | apply Bn_add | apply Bn_sub | apply Bn_and | apply Cp_lt | apply Cp_le | apply Cp_gt | apply Cp_ge | apply Cp_eqi | apply Cp_nei | apply Cp_is | apply Cp_isn | apply Tr_bl | apply Tr_int | apply Tr_lst | apply Tr_tup | apply Tr_non | apply Io_int | apply Bs_int | apply Bs_intb | apply Bs_len | apply Bs_lent | apply Bs_min | apply Bs_max | apply Bs_abs | apply Md_bits | apply Mt_bits | apply It_lst | apply It_tup | apply Br_not | apply Bd_b1 | apply G_di0 | apply Sl_lst | apply Sl_tup | apply Wp_0 | apply Wp_s | apply Sn_0 | apply Sn_s | apply Ct_mk1 | apply Ct_mk | apply Tn_mk | apply G_zen | apply G_zzp | apply G_rvs | apply G_lset | apply G_dct | apply G_k0 | apply G_k1 | apply G_dis | apply En_lst | apply Zp_tup | apply Zp_lst | apply Rv_lst | apply Rv_tup | apply Ky_str | apply Ky_int | apply Md_split | apply Md_join | apply Md_idx | apply Ts_0 | apply Ts_s | apply Cp_eqb | apply Cp_neb | apply Z_try)) | refine Ln_mk (Nat.le_of_ble_eq_true rfl) ?_ | refine Bn_mod (by first | decide | omega) ?_ | refine Bd_bT rfl ?_ | refine Ix_by rfl ?_ | refine Is_by (k := true) rfl ?_ | refine Is_by (k := false) rfl ?_ | refine R1_mk (by first | decide | omega) ?_ | refine Bn_mulS (by omega) (by omega) ?_ | refine Bn_fdivS (by omega) (by omega) ?_ | (apply Ix_ref; assumption; exact rfl) | (apply Sd_ref; assumption; exact rfl; intro _ _ _ _) | (apply Bs_lenr; assumption) | (apply Md_app; assumption) | refine Br_t rfl ?_ | refine Br_f rfl ?_ | refine Br_t (decide_eq_true (by omega)) ?_ | refine Br_f (decide_eq_false (by omega)) ?_ | (with_reducible refine Br_dec (fun _ => ?_) (fun _ => ?_)) | fail))
      exact ⟨ls', g, as', _, _, _, _, _, _, _, _, _, rfl, m5.app, og, lg, by omega⟩
  · rintro σ S2 ⟨ls, h, as, x1, x7, x8, x9, x10, x11, x12, x13, x14, rfl, m2, oh, ol, hl1⟩
    (repeat' (first | refine Cp_eq (EqOk.of fw (by decide)) (EqOk.of fw (by decide)) (fun _ => ?_) (fun z => absurd rfl z) | refine runs_w (h := []) (by decide) rfl ?_ | (with_reducible (first | apply G_vvs | apply G_vv0 | apply G_kk | apply G_bi | apply G_ca | apply G_a1 | apply G_a0 | apply Z_seq | apply Z_set | apply St_s | apply St_0 | apply G_ix | apply G_cm | apply G_tCm | apply Bl_bl | apply Z_if | apply Z_ret | apply G_bl | apply G_tTr | apply G_tNot | apply G_tAnd | apply G_tOr | apply G_isn | apply G_me | apply G_lsv | apply G_tu | apply G_lsm | apply G_nt | apply G_ng | apply G_cm2 | apply G_ie | apply G_sl | apply G_andE | apply G_orE | apply G_p0 | apply G_p1 | apply G_iv | apply G_r1 | apply G_r2 | apply G_lcv | apply G_lcv1 | apply G_lcm | apply G_lcm1 | apply Z_exp | apply Z_pass | apply Z_brk | apply Z_cnt | apply Z_ret0 | apply Z_tup | apply Z_sub | apply Z_while | apply Z_for | apply Z_raise | apply FnP_self | apply Bn_add | apply Bn_sub | apply Bn_and | apply Cp_lt | apply Cp_le | apply Cp_gt | apply Cp_ge | apply Cp_eqi | apply Cp_nei | apply Cp_is | apply Cp_isn | apply Tr_bl | apply Tr_int | apply Tr_lst | apply Tr_tup | apply Tr_non | apply Io_int | apply Bs_int | apply Bs_intb | apply Bs_len | apply Bs_lent | apply Bs_min | apply Bs_max | apply Bs_abs | apply Md_bits | apply Mt_bits | apply It_lst | apply It_tup | apply Br_not | apply Bd_b1 | apply G_di0 | apply Sl_lst | apply Sl_tup | apply Wp_0 | apply Wp_s | apply Sn_0 | apply Sn_s | apply Ct_mk1 | apply Ct_mk | apply Tn_mk | apply G_zen | apply G_zzp | apply G_rvs | apply G_lset | apply G_dct | apply G_k0 | apply G_k1 | apply G_dis | apply En_lst | apply Zp_tup | apply Zp_lst | apply Rv_lst | apply Rv_tup | apply Ky_str | apply Ky_int | apply Md_split | apply Md_join | apply Md_idx | apply Ts_0 | apply Ts_s | apply Cp_eqb | apply Cp_neb | apply Z_try)) | refine Ln_mk (Nat.le_of_ble_eq_true rfl) ?_ | refine Bn_mod (by first | decide | omega) ?_ | refine Bd_bT rfl ?_ | refine Ix_by rfl ?_ | refine Is_by (k := true) rfl ?_ | refine Is_by (k := false) rfl ?_ | refine R1_mk (by first | decide | omega) ?_ | refine Bn_mulS (by omega) (by omega) ?_ | refine Bn_fdivS (by omega) (by omega) ?_ | (apply Ix_ref; assumption; exact rfl) | (apply Sd_ref; assumption; exact rfl; intro _ _ _ _) | (apply Bs_lenr; assumption) | (apply Md_app; assumption) | refine Br_t rfl ?_ | refine Br_f rfl ?_ | refine Br_t (decide_eq_true (by omega)) ?_ | refine Br_f (decide_eq_false (by omega)) ?_ | (with_reducible refine Br_dec (fun _ => ?_) (fun _ => ?_)) | fail))
    exact Fn_law (fun _ => rfl)
  · show (cut (ns.map D.int) (some 1) (some 61)).length < 100000
    have := cut_len (xs := ns.map D.int) (lo := some 1) (hi := some 61)
    rw [List.length_map] at this
    omega
theorem plain (ns : List Int) (h : ns.length ≤ 63) : ∃ S, RL.φ [.lst (ns.map D.int)] [] = .ok (.bl true) S := law_true (lawx h)
end QL

namespace QL
open PySem Q
def lo0 : List Str := ["body_of", "waits", "runs", "first_running", "taken", "answered", "spun", "done", "stepped", "_law_cell_at", "_law_mixed", "_law_draw", "_law_one", "_law_names", "_law_statement", "_law_body", "_law_works", "_law_plain", "_law_called", "_law_step"]
def lo1 : List Str := ["_law_taken", "_law_answered"]
abbrev loose : List Str := lo0 ++ lo1
abbrev RO : PySem.W.OpenRow := PySem.W.OpenLaw.row PySem.Challenge.rw_allquiet_k21_whole_steps_reckoned
abbrev fa : List He.Fa := facts (rs ++ [R22]) frees excs
abbrev fn : List He.DefD := (rs ++ [R22]).map DefR.d
abbrev hk : PySem.W.Hook := hookE 4 fa fn cs kt frees
def ob (s : PySem.W.SharedT) : He.AlD × Bool := obsE 4 fa fn cs kt frees (HandSHeadRun.getT s)
theorem ob_eq (s : PySem.W.SharedT) : ob s = hk.obs s.abs := obsE_eq (HandSHeadRun.getT_eq s)
theorem run (w : World) : HandSHeadRun.RunEq RO (PySem.W.view RO.prog [25]) hk ob 8000 loose w := by
  intro os
  kernel_rfl
end QL
open PySem PySem.W PySem.Calls PyProof.Rows
theorem PySem.Challenge.cw_allquiet_k21_whole_steps_reckoned_holds : PySem.Challenge.rw_allquiet_k21_whole_steps_reckoned.Holds := by
  w_on; o_law
  refine HandSHeadRun.head_any (r := OpenLaw.row PySem.Challenge.rw_allquiet_k21_whole_steps_reckoned) (q := view (OpenLaw.row PySem.Challenge.rw_allquiet_k21_whole_steps_reckoned).prog [25]) (H := QL.hk) (ob := QL.ob) (M := 8000) (loose := QL.loose) (d := HandSHeadRun.topDef (OpenLaw.row PySem.Challenge.rw_allquiet_k21_whole_steps_reckoned).prog 25) (kwd := []) QL.ob_eq
    (by kernel_rfl) (fun s => by kernel_rfl) QL.run (by kernel_rfl) (by kernel_rfl) (by kernel_rfl) (by rfl) (by first | assumption | decide +kernel) (by decide +kernel) ⟨rfl, rfl, rfl, rfl, rfl, by decide +kernel⟩ ?hw ?hc
  case hw => w_witness2
  case hc => exact Q.law_walk (l := PySem.Challenge.rw_allquiet_k21_whole_steps_reckoned) (n := 63) (k := 4) (x := "_law_script") (fuel := 100) (rs := QL.rs) (r := QL.R22) (cs := QL.cs) (frees := QL.frees) (excs := QL.excs) (muts := QL.muts) (kt := QL.kt) rfl (by decide) (by kernel_rfl) ⟨rfl, by decide, by decide⟩ (by kernel_rfl) rfl QL.steps QL.k22 QL.e22 QL.plain
