import PyProof.Rows.All
import Wide.All
import OpenK.AllK
import Wide.FinOn
import HandS.Base
import HandS.Call
import HandS.List
import HandS.Comp
import HandS.Ends
import HandS.Dict
import HandS.Iter
import HandS.Text
import HandS.Words
import HandS.WordsList
import HandS.WordsDict
import HandS.Exc
import HandS.ExcOwn
import HandS.TryOnly
import HandS.WordsExc
import HandS.Wide
import HandS.WideBits
import HandS.IsInst
import HandS.Flow
import HandS.Strs
import HandS.Style
import HandS.TupAny
import HandS.Deep
import HandS.Codes
import HandS.Defaults
import HandS.CallSlots
import HandS.HeadHook2
import HandS.HeadHook4
import HandS.HeadEnd
import HandS.Head2
import HandS.TupMul
import HandS.Zip
import HandS.More
import HandS.RaiseMore
import HandS.SortInts
import HandS.NoneIn
import KE.KRevSl
import HandS.StrMore
import HandS.CallSlots
import HandS.ExcOwn
import HandS.HeadEnd
import PyProof.ReprRoads
import HandS.Spec
import KE.KEqDict
import KE.DataEq
import HandS.DictComp
import HandS.Comp
import HandS.Exc
import HandS.ExcOwn
import KE.GoesMore
import HandS.Zip
import HandS.ExcIs
import HandS.TryOnly
import HandS.FStr
import HandS.Style
import KE.IntTextText
import PySem.Challenge.RW_allquiet_k32_which_rule_fits
set_option Elab.async false
set_option linter.all false
set_option maxRecDepth 100000
set_option maxHeartbeats 0
/-! QS: set(texts), its length. -/
namespace Q
open PySem PySem.Spec PyProof.Rows L2
/-- each text once, as first met -/
def onceS : List Str → List Str → List Str
  | acc, [] => acc
  | acc, x :: xs => onceS (if x ∈ acc then acc else acc ++ [x]) xs
theorem onceS_le : ∀ (xs acc : List Str), (onceS acc xs).length ≤ acc.length + xs.length
  | [], acc => by simp [onceS]
  | x :: xs, acc => by
    have := onceS_le xs (if x ∈ acc then acc else acc ++ [x])
    unfold onceS
    rw [List.length_cons]
    split at this
    · rename_i h; rw [if_pos h]; omega
    · rename_i h; rw [if_neg h]; rw [List.length_append, List.length_singleton] at this; omega
theorem onceS_snoc (x : Str) : ∀ (xs acc : List Str), onceS acc (xs ++ [x]) = (if x ∈ onceS acc xs then onceS acc xs else onceS acc xs ++ [x])
  | [], acc => rfl
  | y :: ys, acc => by
    show onceS _ (ys ++ [x]) = _
    rw [onceS_snoc x ys]
    rfl
section
variable {prog : Program} {w : World} {A : Around} {I : Addr} {fp wr : List Addr} {G : Array GenState → Array GenState → Prop} {n : Nat} {P : Nat → Value → Prop} {St : Nat → Shared → Prop}
abbrev HasS (prog : Program) (w : World) (h : Heap) (a : Addr) (zs : List Str) : Prop := h.SetOf (PySem.strKind prog w) a (fun k => decide (k ∈ zs)) zs.length
theorem fill_texts {R : Result → Shared → Prop} (W : WalksS prog w A.in1 I fp wr G n P St) (a : Addr) (na : a ∉ fp) (xs : List Str) (hn : xs.length = n) (hb : n + 1 < scanBound) (hv : ∀ i v, P i v → ∃ x t, xs[i]? = some x ∧ v = .str x t) :
    ∀ (m i : Nat) (s : Shared), i + m = n → St i s → HasS prog w s.heap a (onceS [] (xs.take i)) →
      (∀ s', Moved (a :: wr) G s s' → HasS prog w s'.heap a (onceS [] xs) → R (.ok (.ret .none)) s') →
      codeAny (model prog w) A (.builtin "set.update.loop" ⟨[.ref a, .ref I], []⟩) R s := by
  have naw : a ∉ wr := fun q => na (W.sub _ q)
  have up : ∀ b ∈ wr, b ∈ a :: wr := fun b q => List.mem_cons_of_mem _ q
  have stay : ∀ {s s' : Shared} {zs : List Str}, Moved wr G s s' → HasS prog w s.heap a zs → HasS prog w s'.heap a zs := by
    rintro s s' zs mv ⟨o, es, ep, tb, q, more⟩
    exact ⟨o, es, ep, tb, mv.heap a _ naw q, more⟩
  intro m
  induction m with
  | zero =>
    intro i s him st hs k
    obtain rfl : i = n := by omega
    refine codeAny_builtin PyProof.Rows.F.entry_set_update_loop ?_
    rw [Around.under_plainId PyProof.Rows.F.plain_set_update_loop _]
    show wpAny _ A.in1 (pyNext (.ref I) >>= _) _ _ s
    refine wpAny_bind (W.done s _ _ st fun s1 mv => ?_)
    show wpAny _ A.in1 (ret Value.none) _ _ s1
    refine wpAny_pure (k s1 (mv.mono up) ?_)
    have := stay mv hs
    rwa [List.take_of_length_le (by omega)] at this
  | succ m ih =>
    intro i s him st hs k
    refine codeAny_builtin PyProof.Rows.F.entry_set_update_loop ?_
    rw [Around.under_plainId PyProof.Rows.F.plain_set_update_loop _]
    show wpAny _ A.in1 (pyNext (.ref I) >>= _) _ _ s
    refine wpAny_bind (W.item i s _ _ (by omega) st fun v s1 hp st1 mv => ?_)
    obtain ⟨x, t, hx, rfl⟩ := hv i v hp
    have hs1 := stay mv hs
    show wpAny _ A.in1 (holding [Value.str x t] (setAdd a (.str x t)) >>= _) _ _ s1
    refine wpAny_bind (wpAny_holding ?_)
    unfold setAdd
    refine wpAny_holding ?_
    refine wpAny_bind ((PySem.strKind prog w).pyHash (k := x) (strKind_is _ _ _ _) ?_)
    have room : (onceS [] (xs.take i)).length + 1 < scanBound := by
      have h1 := onceS_le (xs.take i) []
      rw [List.length_nil, List.length_take] at h1
      omega
    refine wpAny_setAddHashed_of (knd := PySem.strKind prog w) (s := { s1 with toks := s1.toks + 1 }) (strKind_is _ _ _ _) rfl hs1 room fun h2 sb new => ?_
    have ht : xs.take (i + 1) = xs.take i ++ [x] := by rw [List.take_succ, hx]; rfl
    have new2 : HasS prog w h2 a (onceS [] (xs.take (i + 1))) := by
      rw [ht, onceS_snoc]
      refine PyProof.Rows.SetOf_congr new (fun k' => ?_) ?_
      · show (decide (k' ∈ onceS [] (xs.take i)) || decide (k' = x)) = _
        split
        · rename_i c
          by_cases e : k' = x
          · subst e; simp [c]
          · simp [e]
        · simp only [List.mem_append, List.mem_singleton, Bool.decide_or]
      · show (if decide (x ∈ onceS [] (xs.take i)) = true then _ else _) = _
        split
        · rename_i c; rw [if_pos (of_decide_eq_true c)]
        · rename_i c; rw [if_neg (fun z => c (decide_eq_true z))]; simp
    refine wpAny_pure ⟨plainId_quiet PyProof.Rows.F.plain_set_update_loop _, ih (i + 1) _ (by omega) (W.frame _ s1 _ _ st1 (Nat.le_succ _) fun b q o e => ?_) new2 fun s3 mv3 hs3 => ?_⟩
    · rw [sb.2 b (fun z : b = a => na (by rw [← z]; exact q))]; exact e
    · refine k s3 (Moved.trans W.gtrans ((mv.mono up).then_heap (Nat.le_succ _) fun b o q e => ?_) mv3) hs3
      rw [sb.2 b (fun z : b = a => q (by rw [z]; exact List.mem_cons_self))]; exact e
end
theorem strs_get : ∀ {xs : List Str} {us : List Value}, Vals (xs.map V.str) us → ∀ (i : Nat) (v : Value), us[i]? = some v → ∃ x t, xs[i]? = some x ∧ v = .str x t
  | [], _, .nil, i, v, h => by simp at h
  | x :: xs, _, .cons r rs, 0, v, h => by
    obtain ⟨t, rfl⟩ := r
    simp at h; exact ⟨x, t, rfl, h.symm⟩
  | x :: xs, _, .cons r rs, i + 1, v, h => by
    obtain ⟨y, t, h1, h2⟩ := strs_get rs i v (by simpa using h)
    exact ⟨y, t, by simpa using h1, h2⟩
section
variable {prog : Program} {w : World} {A : Around} {E : Value → Shared → Prop} {s : Shared}
theorem set_of_list {l : Addr} {its : List Value} {xs : List Str} {Q : Value → Shared → Prop} (hh : A.handled = none) (hl : s.heap.IsList l its.toArray) (rel : Vals (xs.map V.str) its) (hb : its.length + 1 < scanBound)
    (k : ∀ (h' : Heap) (tk : Nat), HasS prog w h' s.heap.objs.size (onceS [] xs) → (∀ b o, b < s.heap.objs.size → s.heap.get? b = some o → h'.get? b = some o) → Q (.ref s.heap.objs.size) { s with heap := h', toks := tk }) :
    wpAny (model prog w) A (call (.type "set") [.ref l]) Q E s := by
  obtain ⟨first, others, mro⟩ := PySem.F.called_set.mro
  have f1 := PySem.F.called_set.made
  have f2 := PySem.F.called_set.sub
  refine wpAny_call (codeAny_of_tree ?_)
  show wpAny _ _ (callAny (.type "set") _) _ _ _
  refine wpAny_pure ⟨Code.quiet_builtin _ (by decide +kernel), codeAny_builtin PySem.F.entry_type_call ?_⟩
  rw [Around.under_plain (weight_type_call_type "set" [.ref l] []) rfl]
  have f3 := PySem.F.called_set.notType
  have f4 := PySem.F.called_set.canCreate
  have f5 := PySem.F.typeCall_set_1 (.ref l)
  repeat (any_goals (first | assumption | wp_step))
  refine codeAny_mono (code_set_new_1 (.ref l) (E := E) (Q₁ := fun u s1 => ∃ b : Bool, u = .ref s.heap.objs.size ∧ s1 = { s with heap := s.heap.push ⟨.type "set", none, .set #[] 0 (.fresh 0 0 b), #[]⟩ }) fun b => ⟨b, rfl, rfl⟩) fun r s1 got => ?_
  cases r with
  | error e => exact got
  | ok fl =>
    cases fl with
    | ret u =>
      obtain ⟨bt, rfl, rfl⟩ := got
      have stands : (s.heap.push ⟨.type "set", none, .set #[] 0 (.fresh 0 0 bt), #[]⟩).get? s.heap.objs.size = some ⟨.type "set", none, .set #[] 0 (.fresh 0 0 bt), #[]⟩ := Heap.get?_push_size _ rfl
      have ty : Shared.TypeIs { s with heap := s.heap.push ⟨.type "set", none, .set #[] 0 (.fresh 0 0 bt), #[]⟩ } (.ref s.heap.objs.size) "set" := ⟨_, stands, rfl⟩
      have f6 := PySem.F.called_set.init.lookup
      have f7 := PySem.F.called_set.init.bind (.ref s.heap.objs.size)
      repeat (any_goals (first | assumption | wp_step))
      refine codeAny_mono (codeAny_call_builtin (R := wants (fun r s2 => r = .none ∧ ∃ h2 t2, s2 = { s with heap := h2, toks := t2 } ∧ HasS prog w h2 s.heap.objs.size (onceS [] xs) ∧
          (∀ b o, b < s.heap.objs.size → s.heap.get? b = some o → h2.get? b = some o)) E) PySem.F.called_set.init.plain PySem.F.entry_set_init (check_set_init_1 ty ?_)) fun r2 s2 got2 => ?_
      · obtain ⟨⟨c0, d0, t0, z0⟩, ho, hc, m0, hd⟩ := hl
        simp only at hc hd
        subst hc; subst hd
        have lt : l < s.heap.objs.size := Heap.lt_size ho
        have ho2 : (s.heap.push ⟨.type "set", none, .set #[] 0 (.fresh 0 0 bt), #[]⟩).get? l = some { cls := .type "list", dict := d0, data := .seq its.toArray m0, slots := z0 } := Heap.get?_push_of_some _ ho
        have f8 := PySem.F.sub_list_set
        have f9 := PySem.F.sub_list_frozenset
        have f10 : (Value.type "list" == Value.type "dict") = false := by decide
        have src : (s.heap.push ⟨.type "set", none, .set #[] 0 (.fresh 0 0 bt), #[]⟩).IsList l its.toArray := ⟨_, ho2, rfl, m0, rfl⟩
        unfold Builtin.«set.__init__» noKeywords Builtin.Frozenset.updateFrom
        generalize hIter : pyIter = iter
        wp_walk
        subst hIter
        refine wpAny_pyIter_list src ?_
        refine wpAny_bind (wpAny_runValue ?_)
        have calm : A.in1.in1.in1.handled = none := by simp [hh]
        have far : l ≠ (s.heap.push ⟨.type "set", none, .set #[] 0 (.fresh 0 0 bt), #[]⟩).objs.size := by
          rw [Heap.size_push]; exact Nat.ne_of_lt (Nat.lt_succ_of_lt lt)
        have out : s.heap.objs.size ∉ [(s.heap.push ⟨.type "set", none, .set #[] 0 (.fresh 0 0 bt), #[]⟩).objs.size, l] := by
          rw [Heap.size_push]
          intro z
          rcases List.mem_cons.mp z with z | z
          · exact absurd z (Nat.ne_of_lt (Nat.lt_succ_self _))
          · exact absurd (List.mem_singleton.mp z) (Nat.ne_of_gt lt)
        have le := rel.length
        rw [List.length_map] at le
        refine fill_texts ((Walks.list calm _ l far its.toArray).toS) s.heap.objs.size out xs (by rw [List.size_toArray]; exact le) (by rw [List.size_toArray]; exact hb)
          (fun i v hv => strs_get rel i v (by simpa using hv)) its.toArray.size 0 _ (by omega) ⟨⟨_, Heap.get?_push_size _ rfl, rfl, rfl⟩, (src.push _)⟩ ?start ?goal
        case start =>
          have at2 : ((s.heap.push ⟨.type "set", none, .set #[] 0 (.fresh 0 0 bt), #[]⟩).push { cls := .type "list_iterator", data := .fields #[.ref l, .int 0 0] }).get? s.heap.objs.size
              = some ⟨.type "set", none, .set #[] 0 (.fresh 0 0 bt), #[]⟩ := Heap.get?_push_of_some _ stands
          exact PyProof.Rows.SetOf_congr ((PyProof.Rows.setObjOf_fresh (knd := PySem.strKind prog w) bt).setOf at2 (by unfold scanBound; omega)) (fun _ => by simp [onceS]) rfl
        case goal =>
          intro s3 mv hs3
          obtain ⟨h3, g3, d3, t3, o3⟩ := s3
          obtain rfl : g3 = s.gens := mv.gens
          obtain rfl : d3 = s.drawn := mv.drawn
          obtain rfl : o3 = s.os := mv.os
          show wpAny _ _ _ _ _ _
          refine wpAny_pure ?_
          show wpAny _ _ (ret Value.none) _ _ _
          refine wpAny_pure ⟨rfl, h3, t3, rfl, hs3, fun b o lb e => ?_⟩
          refine mv.heap b o (fun z => ?_) (Heap.get?_push_of_some _ (Heap.get?_push_of_some _ e))
          rw [Heap.size_push] at z
          rcases List.mem_cons.mp z with z | z
          · exact absurd z (Nat.ne_of_lt lb)
          · exact absurd (List.mem_singleton.mp z) (Nat.ne_of_lt (Nat.lt_succ_of_lt lb))
      · cases r2 with
        | error e => exact got2
        | ok fl2 =>
          cases fl2 with
          | ret r =>
            obtain ⟨rfl, h2, t2, rfl, hs2, keep⟩ := got2
            repeat (any_goals (first | assumption | wp_step))
            exact k _ _ hs2 keep
          | _ => exact got2.elim
    | _ => exact got.elim
theorem set_of_tuple {l : Addr} {its : List Value} {xs : List Str} {Q : Value → Shared → Prop} (hh : A.handled = none) (hl : s.heap.IsTuple l its.toArray) (rel : Vals (xs.map V.str) its) (hb : its.length + 1 < scanBound)
    (k : ∀ (h' : Heap) (tk : Nat), HasS prog w h' s.heap.objs.size (onceS [] xs) → (∀ b o, b < s.heap.objs.size → s.heap.get? b = some o → h'.get? b = some o) → Q (.ref s.heap.objs.size) { s with heap := h', toks := tk }) :
    wpAny (model prog w) A (call (.type "set") [.ref l]) Q E s := by
  obtain ⟨first, others, mro⟩ := PySem.F.called_set.mro
  have f1 := PySem.F.called_set.made
  have f2 := PySem.F.called_set.sub
  refine wpAny_call (codeAny_of_tree ?_)
  show wpAny _ _ (callAny (.type "set") _) _ _ _
  refine wpAny_pure ⟨Code.quiet_builtin _ (by decide +kernel), codeAny_builtin PySem.F.entry_type_call ?_⟩
  rw [Around.under_plain (weight_type_call_type "set" [.ref l] []) rfl]
  have f3 := PySem.F.called_set.notType
  have f4 := PySem.F.called_set.canCreate
  have f5 := PySem.F.typeCall_set_1 (.ref l)
  repeat (any_goals (first | assumption | wp_step))
  refine codeAny_mono (code_set_new_1 (.ref l) (E := E) (Q₁ := fun u s1 => ∃ b : Bool, u = .ref s.heap.objs.size ∧ s1 = { s with heap := s.heap.push ⟨.type "set", none, .set #[] 0 (.fresh 0 0 b), #[]⟩ }) fun b => ⟨b, rfl, rfl⟩) fun r s1 got => ?_
  cases r with
  | error e => exact got
  | ok fl =>
    cases fl with
    | ret u =>
      obtain ⟨bt, rfl, rfl⟩ := got
      have stands : (s.heap.push ⟨.type "set", none, .set #[] 0 (.fresh 0 0 bt), #[]⟩).get? s.heap.objs.size = some ⟨.type "set", none, .set #[] 0 (.fresh 0 0 bt), #[]⟩ := Heap.get?_push_size _ rfl
      have ty : Shared.TypeIs { s with heap := s.heap.push ⟨.type "set", none, .set #[] 0 (.fresh 0 0 bt), #[]⟩ } (.ref s.heap.objs.size) "set" := ⟨_, stands, rfl⟩
      have f6 := PySem.F.called_set.init.lookup
      have f7 := PySem.F.called_set.init.bind (.ref s.heap.objs.size)
      repeat (any_goals (first | assumption | wp_step))
      refine codeAny_mono (codeAny_call_builtin (R := wants (fun r s2 => r = .none ∧ ∃ h2 t2, s2 = { s with heap := h2, toks := t2 } ∧ HasS prog w h2 s.heap.objs.size (onceS [] xs) ∧
          (∀ b o, b < s.heap.objs.size → s.heap.get? b = some o → h2.get? b = some o)) E) PySem.F.called_set.init.plain PySem.F.entry_set_init (check_set_init_1 ty ?_)) fun r2 s2 got2 => ?_
      · obtain ⟨⟨c0, d0, t0, z0⟩, ho, hc, m0, hd⟩ := hl
        simp only at hc hd
        subst hc; subst hd
        have lt : l < s.heap.objs.size := Heap.lt_size ho
        have ho2 : (s.heap.push ⟨.type "set", none, .set #[] 0 (.fresh 0 0 bt), #[]⟩).get? l = some { cls := .type "tuple", dict := d0, data := .seq its.toArray m0, slots := z0 } := Heap.get?_push_of_some _ ho
        have f8 := PySem.F.sub_tuple_set
        have f9 := PySem.F.sub_tuple_frozenset
        have f10 : (Value.type "tuple" == Value.type "dict") = false := by decide
        have src : (s.heap.push ⟨.type "set", none, .set #[] 0 (.fresh 0 0 bt), #[]⟩).IsTuple l its.toArray := ⟨_, ho2, rfl, m0, rfl⟩
        unfold Builtin.«set.__init__» noKeywords Builtin.Frozenset.updateFrom
        generalize hIter : pyIter = iter
        wp_walk
        subst hIter
        refine wpAny_pyIter_tuple src ?_
        refine wpAny_bind (wpAny_runValue ?_)
        have calm : A.in1.in1.in1.handled = none := by simp [hh]
        have far : l ≠ (s.heap.push ⟨.type "set", none, .set #[] 0 (.fresh 0 0 bt), #[]⟩).objs.size := by
          rw [Heap.size_push]; exact Nat.ne_of_lt (Nat.lt_succ_of_lt lt)
        have out : s.heap.objs.size ∉ [(s.heap.push ⟨.type "set", none, .set #[] 0 (.fresh 0 0 bt), #[]⟩).objs.size, l] := by
          rw [Heap.size_push]
          intro z
          rcases List.mem_cons.mp z with z | z
          · exact absurd z (Nat.ne_of_lt (Nat.lt_succ_self _))
          · exact absurd (List.mem_singleton.mp z) (Nat.ne_of_gt lt)
        have le := rel.length
        rw [List.length_map] at le
        refine fill_texts ((Walks.tuple calm _ l far its.toArray).toS) s.heap.objs.size out xs (by rw [List.size_toArray]; exact le) (by rw [List.size_toArray]; exact hb)
          (fun i v hv => strs_get rel i v (by simpa using hv)) its.toArray.size 0 _ (by omega) ⟨⟨_, Heap.get?_push_size _ rfl, rfl, rfl⟩, (src.push _)⟩ ?start ?goal
        case start =>
          have at2 : ((s.heap.push ⟨.type "set", none, .set #[] 0 (.fresh 0 0 bt), #[]⟩).push { cls := .type "tuple_iterator", data := .fields #[.ref l, .int 0 0] }).get? s.heap.objs.size
              = some ⟨.type "set", none, .set #[] 0 (.fresh 0 0 bt), #[]⟩ := Heap.get?_push_of_some _ stands
          exact PyProof.Rows.SetOf_congr ((PyProof.Rows.setObjOf_fresh (knd := PySem.strKind prog w) bt).setOf at2 (by unfold scanBound; omega)) (fun _ => by simp [onceS]) rfl
        case goal =>
          intro s3 mv hs3
          obtain ⟨h3, g3, d3, t3, o3⟩ := s3
          obtain rfl : g3 = s.gens := mv.gens
          obtain rfl : d3 = s.drawn := mv.drawn
          obtain rfl : o3 = s.os := mv.os
          show wpAny _ _ _ _ _ _
          refine wpAny_pure ?_
          show wpAny _ _ (ret Value.none) _ _ _
          refine wpAny_pure ⟨rfl, h3, t3, rfl, hs3, fun b o lb e => ?_⟩
          refine mv.heap b o (fun z => ?_) (Heap.get?_push_of_some _ (Heap.get?_push_of_some _ e))
          rw [Heap.size_push] at z
          rcases List.mem_cons.mp z with z | z
          · exact absurd z (Nat.ne_of_lt lb)
          · exact absurd (List.mem_singleton.mp z) (Nat.ne_of_lt (Nat.lt_succ_of_lt lb))
      · cases r2 with
        | error e => exact got2
        | ok fl2 =>
          cases fl2 with
          | ret r =>
            obtain ⟨rfl, h2, t2, rfl, hs2, keep⟩ := got2
            repeat (any_goals (first | assumption | wp_step))
            exact k _ _ hs2 keep
          | _ => exact got2.elim
    | _ => exact got.elim
end
section
variable {X : Cx}
/-- len(set(x)), x texts -/
def tLenSetS (K : PySem.W.Frag) (ta : TE) : TE := fun σ H Q => ta σ H fun x H1 => ∃ l, ∃ xs : List Str, x = .ref l ∧ (SqL K H1 l (xs.map V.str) ∨ SqT K H1 l (xs.map V.str)) ∧ xs.length ≤ 1000 ∧ Q (.int (onceS [] xs).length) H1
theorem pe_lenSetS {a : Expr} {ta : TE} {p p2 q pos : Pos} (hc : X.calm = true) (hg : Gl X "len") (hm : X.mg "len" = none) (hg2 : Gl X "set") (hm2 : X.mg "set" = none) (ha : PE X a ta)
    (na : starEach [a] X.env = (false, eval a X.env) :: starEach [] X.env) : PE X (.Call (.Name "len" p) [.Call (.Name "set" p2) [a] [] q] [] pos) (tLenSetS X.K ta) := by
  refine ⟨fun pins s σ H Q I h => ?_⟩
  refine Call_ (ld_blt I hg hm boot_len ?_)
  refine PyProof.Rows.callWith_builtin1 (PyProof.Rows.args_cons ?_ rfl) rfl rfl
  refine Call_ (ld_blt I hg2 hm2 boot_set ?_)
  refine PyProof.Rows.callWith_type1 (PyProof.Rows.args_cons (thn (ha.run pins s σ H _ I h) fun v s1 ⟨x, H1, I1, r1, q1⟩ => PyProof.Rows.args_nil ?_) na) na rfl
  obtain ⟨l, xs, rfl, hq, z, q1⟩ := q1
  cases r1
  have fin : ∀ (h' : Heap) (tk : Nat), HasS X.prog X.w h' s1.heap.objs.size (onceS [] xs) → (∀ b o, b < s1.heap.objs.size → s1.heap.get? b = some o → h'.get? b = some o) →
      wpAny (model X.prog X.w) X.A (spliced (backTo pos (starEach [] X.env))) (fun vs s2 => wpAny (model X.prog X.w) X.A (call (.builtin "len") (Value.ref s1.heap.objs.size :: vs)) (EP X pins σ Q) X.xe s2) X.xe { s1 with heap := h', toks := tk } := fun h' tk hS keep => by
    refine PyProof.Rows.args_nil ?_
    obtain ⟨o, es, ep, t, ho, hex, hd, _, _, _, hf, hn⟩ := hS
    have I2 : Inv X pins σ H1 { s1 with heap := h', toks := tk } := I1.kept fun b o e => keep b o (Heap.lt_size e) e
    have := onceS_le xs []
    rw [List.length_nil] at this
    refine call_len_set ho hex hd hf (by rw [hn]; omega) ⟨.int (onceS [] xs).length, H1, I2.tok _, ⟨_, by rw [hn]⟩, q1⟩
  rcases hq with hq | hq
  · obtain ⟨its, r, pl, hz⟩ := I1.list hq
    have := r.length
    rw [List.length_map] at this
    exact set_of_list (I1.ok.hd hc) pl.isList r (by unfold scanBound; omega) fun h' tk hS keep => fin h' tk hS keep
  · obtain ⟨its, r, pl, hz⟩ := I1.tuple hq
    have := r.length
    rw [List.length_map] at this
    exact set_of_tuple (I1.ok.hd hc) pl r (by unfold scanBound; omega) fun h' tk hS keep => fin h' tk hS keep
end
end Q
/-! QR (read between Q2 and Q3): rules that HandS has not. -/
namespace Q
open PySem PySem.Spec PyProof.Rows L2
section
variable {X : Cx}
/-! ### a text, a tuple, a list times a number -/
theorem fold_reps {α : Type} (l : List α) : ∀ (m : Nat) (acc : List α), List.foldl (fun u v => u ++ v) acc.toArray (List.replicate m l.toArray) = (acc ++ (List.replicate m l).flatten).toArray
  | 0, acc => by simp
  | m + 1, acc => by
    rw [List.replicate_succ, List.foldl_cons, List.append_toArray, fold_reps l m (acc ++ l), List.replicate_succ, List.flatten_cons, List.append_assoc]
theorem reps_len {α : Type} (l : List α) : ∀ m : Nat, (List.replicate m l).flatten.length = l.length * m
  | 0 => by simp
  | m + 1 => by rw [List.replicate_succ, List.flatten_cons, List.length_append, reps_len l m, Nat.mul_succ, Nat.add_comm]
theorem vals_reps {xs : List V} {us : List Value} (r : Vals xs us) : ∀ m : Nat, Vals (List.replicate m xs).flatten (List.replicate m us).flatten
  | 0 => .nil
  | m + 1 => by rw [List.replicate_succ, List.replicate_succ, List.flatten_cons, List.flatten_cons]; exact r.append (vals_reps r m)
/-- x * k -/
def timesS (x : Str) (k : Int) : Str := if k = 1 then x else if x.length = 0 then (if k < 1 then Str.empty else x) else ⟨(List.replicate k.toNat x.cps.toList).flatten.toArray⟩
def rMulS : R2 := fun x y H Q => ∃ z k, x = .str z ∧ y = .int k ∧ -1000000 ≤ k ∧ k ≤ 1000000 ∧ z.length * k.toNat ≤ 1000000 ∧ Q (.str (timesS z k)) H
theorem op_mulS : OpR X (binaryOp .Mult) rMulS := by
  intro pins s σ H x y v u Q I rx ry h
  obtain ⟨z, k, rfl, rfl, k0, k1, kz, q⟩ := h
  obtain ⟨t1, rfl⟩ := rx
  obtain ⟨t2, rfl⟩ := ry
  have e9 : List.foldl (fun u v => u ++ v) #[] (List.replicate k.toNat z.cps) = (List.replicate k.toNat z.cps.toList).flatten.toArray := by
    have := fold_reps z.cps.toList k.toNat []
    rw [List.nil_append] at this
    exact this
  have sz : (Str.mk (List.foldl (fun u v => u ++ v) #[] (List.replicate k.toNat z.cps))).length = z.length * k.toNat := by
    rw [e9]
    show (List.replicate k.toNat z.cps.toList).flatten.toArray.size = _
    rw [List.size_toArray, reps_len]
    simp [Str.length]
  refine PySem.P.mul_str (by rw [decide_eq_false (by omega), decide_eq_false (by omega)]; rfl) (fun p1 _ => ?_) (fun _ _ => ?_) ?_
  · have e1 : ((z.length : Nat) : Int) * 1 ≤ z.length * k := Int.mul_le_mul_of_nonneg_left (by omega) (by omega)
    have e2 : ((z.length * k.toNat : Nat) : Int) = (z.length : Int) * k := by rw [Int.natCast_mul]; congr 1; omega
    have e3 : (9223372036854 : Int) ≤ (2 ^ 63 - 1) / k := by
      rw [Int.le_ediv_iff_mul_le (by omega)]
      omega
    omega
  · unfold Builtin.Str.tooLong
    exact decide_eq_false (by rw [sizeLine_eq]; omega)
  · by_cases c1 : k < 1
    · rw [if_pos c1]
      have e : timesS z k = Str.empty := by
        unfold timesS
        rw [if_neg (by omega), if_pos c1]
        split
        · rfl
        · have : k.toNat = 0 := by omega
          rw [this]; rfl
      rw [e] at q
      exact ⟨by decide, .str _, H, I.tok _, ⟨_, rfl⟩, q⟩
    · rw [if_neg c1]
      unfold timesS at q
      by_cases c2 : k = 1
      · rw [if_pos c2] at q
        rw [if_pos (by rw [c2]; rfl)]
        exact ⟨.str _, H, I, ⟨_, rfl⟩, q⟩
      · rw [if_neg c2] at q
        by_cases c3 : z.length = 0
        · rw [if_pos c3, if_neg c1] at q
          rw [if_pos (by rw [Bool.or_eq_true, beq_iff_eq, beq_iff_eq]; exact .inr c3)]
          exact ⟨.str _, H, I, ⟨_, rfl⟩, q⟩
        · rw [if_neg c3, ← e9] at q
          rw [if_neg (by rw [Bool.or_eq_true, beq_iff_eq, beq_iff_eq]; omega)]
          exact ⟨by rw [sz, sizeLine_eq]; omega, .str _, H, I.tok _, ⟨_, rfl⟩, q⟩
theorem tup_times (l : Addr) (items : Array Value) (n : Nat) (dd : Option Addr) (sl : Array (Option Value)) (x : Int) (u : Tok) (b0 : -1000000 ≤ x) (b1 : x ≤ 1000000) (bz : items.size * x.toNat ≤ 1000000) :
    Meets (Builtin.«tuple.__mul__» ⟨[.ref l, .int x u], []⟩) (fun _ R s => s.heap.get? l = some { cls := .type "tuple", dict := dd, data := .seq items n, slots := sl } ∧
      ((x = 1 ∨ items.isEmpty = true) → R (.ok (.ret (Value.ref l))) s) ∧
      (¬ (x = 1 ∨ items.isEmpty = true) → R (.ok (.ret (Value.ref s.heap.objs.size))) { s with heap := s.heap.push { cls := Value.type "tuple", data := Data.seq (List.foldl (fun a b => a ++ b) #[] (List.replicate x.toNat items)) }, toks := s.toks })) :=
  .of_wp fun prog w A R s h => by
    obtain ⟨hp, g, d, tk, os⟩ := s
    obtain ⟨hl, h1, h2⟩ := h
    have f1 := AutoSeq1.idx_int
    have c0 : (decide (x < -(2 ^ 63)) || decide (x ≥ 2 ^ 63)) = false := by rw [decide_eq_false (by omega), decide_eq_false (by omega)] <;> rfl
    have sz9 : (List.foldl (fun a b => a ++ b) #[] (List.replicate x.toNat items)).size = items.size * x.toNat := by
      have := fold_reps items.toList x.toNat []
      rw [List.nil_append] at this
      rw [show List.foldl (fun a b => a ++ b) #[] (List.replicate x.toNat items) = _ from this, List.size_toArray, reps_len]
      simp
    wp_walk using wpAny_loadPart' hl
    by_cases c1 : (items.isEmpty || x == 1) = true
    · have c1' : x = 1 ∨ items.isEmpty = true := by
        rw [Bool.or_eq_true, beq_iff_eq] at c1
        exact c1.symm
      repeat (first
        | exact ⟨_, rfl, h1 c1'⟩
        | (refine wpAny_ite_false (decide_eq_false (by rw [c0]; exact Bool.false_ne_true)) ?_; wp_walk using wpAny_loadPart' hl)
        | (refine wpAny_ite_true (decide_eq_true c1) ?_; wp_walk using wpAny_loadPart' hl))
    · have c1' : ¬ (x = 1 ∨ items.isEmpty = true) := fun z => c1 (by rw [Bool.or_eq_true, beq_iff_eq]; exact z.symm)
      by_cases c2 : (decide (x ≤ 0) || items.isEmpty) = true
      · have e0 : List.foldl (fun a b => a ++ b) #[] (List.replicate x.toNat items) = #[] := by
          rw [Bool.or_eq_true, decide_eq_true_eq] at c2
          have : x.toNat = 0 := by
            rcases c2 with c2 | c2
            · omega
            · exact absurd (.inr c2) c1'
          rw [this]; rfl
        have h3 := h2 c1'
        rw [e0] at h3
        repeat (first
          | exact ⟨_, rfl, h3⟩
          | (refine wpAny_ite_false (decide_eq_false (by rw [c0]; exact Bool.false_ne_true)) ?_; wp_walk using wpAny_loadPart' hl)
          | (refine wpAny_ite_false (decide_eq_false c1) ?_; wp_walk using wpAny_loadPart' hl)
          | (refine wpAny_ite_true (decide_eq_true c2) ?_; wp_walk using wpAny_loadPart' hl))
      · have hx0 : 0 ≤ x := by
          rw [Bool.or_eq_true, decide_eq_true_eq] at c2
          omega
        have hm : ((items.size : Nat) : Int) * x ≤ 1000000 := by
          have e2 : ((items.size * x.toNat : Nat) : Int) = (items.size : Int) * x := by rw [Int.natCast_mul]; congr 1; omega
          omega
        have c4 : Builtin.Tuple.tupleTooMany (((items.size : Nat) : Int) * x) = false := by
          unfold Builtin.Tuple.tupleTooMany
          rw [sizeLine_eq]
          exact decide_eq_false (by omega)
        repeat (first
          | exact ⟨_, rfl, h2 c1'⟩
          | (refine wpAny_ite_false (decide_eq_false (by rw [c0]; exact Bool.false_ne_true)) ?_; wp_walk using wpAny_loadPart' hl)
          | (refine wpAny_ite_false (decide_eq_false c1) ?_; wp_walk using wpAny_loadPart' hl)
          | (refine wpAny_ite_false (decide_eq_false c2) ?_; wp_walk using wpAny_loadPart' hl)
          | (refine wpAny_ite_false (decide_eq_false (by omega)) ?_; wp_walk using wpAny_loadPart' hl)
          | (refine wpAny_ite_false (decide_eq_false (by rw [c4]; exact Bool.false_ne_true)) ?_; wp_walk using wpAny_loadPart' hl)
          | (refine wpAny_ite_false (decide_eq_false (by rw [sz9, sizeLine_eq]; omega)) ?_; wp_walk using wpAny_loadPart' hl))
def rMulT (K : PySem.W.Frag) : R2 := fun x y H Q => ∃ l k xs, x = .ref l ∧ y = .int k ∧ SqT K H l xs ∧ -1000000 ≤ k ∧ k ≤ 1000000 ∧ xs.length * k.toNat ≤ 1000000 ∧
  ((k = 1 ∨ xs = []) → Q (.ref l) H) ∧ (¬ (k = 1 ∨ xs = []) → ∀ p, H p = none → Q (.ref p) (upd H p (.tup (List.replicate k.toNat xs).flatten)))
theorem op_mulT : OpR X (binaryOp .Mult) (rMulT X.K) := by
  intro pins s σ H x y v u Q I rx ry h
  obtain ⟨l, k, xs, rfl, rfl, hT, b0, b1, bz, q1, q2⟩ := h
  cases rx
  obtain ⟨t, rfl⟩ := ry
  obtain ⟨its, r, ⟨⟨cls, dd, data, sl⟩, ho, hc, n, hd⟩, hs⟩ := I.tuple hT
  simp only at hc hd
  subst hc hd
  have hle : its.length = xs.length := r.length.symm
  have hem : its.toArray.isEmpty = true ↔ xs = [] := by
    rw [Array.isEmpty_iff_size_eq_zero, List.size_toArray, hle, List.length_eq_zero_iff]
  refine wpAny_binaryOp_repeat_ref (T := "tuple") (U := "int") (by decide) ⟨_, ho, rfl⟩ (fun s' => typeIs_int s' k t) noFill_tuple_mul F.fills_int_mul F.slot_int_rmul repeat_tuple F.slot_int_index.lookup
    (call_meets F.slot_int_rmul (typeIs_int s k t) F.entry_int_rmul (F.args_int_rmul_2 _ _) (int_rmul_tuple k t l its.toArray n dd sl)
      ⟨ho, rfl, ⟨_, ho, rfl⟩, call_meets F.slot_tuple_mul ⟨_, ho, rfl⟩ F.entry_tuple_mul (F.args_tuple_mul_2 _ _) (tup_times l its.toArray n dd sl k t b0 b1 (by rw [List.size_toArray, hle]; exact bz)) ⟨ho, fun c => ?_, fun c => ?_⟩⟩)
  · exact ⟨.ref l, H, I, rfl, q1 (c.imp id hem.mp)⟩
  · have e9 : List.foldl (fun u v => u ++ v) #[] (List.replicate k.toNat its.toArray) = (List.replicate k.toNat its).flatten.toArray := by
      have := fold_reps its k.toNat []
      rw [List.nil_append] at this
      exact this
    rw [e9]
    refine ⟨.ref s.heap.objs.size, _, I.laid (t' := s.toks) (o := .tup (List.replicate k.toNat xs).flatten) (fun b ob q => Heap.get?_push_of_some _ q) (Nat.le_refl _) ?_, rfl, q2 (fun z => c (z.imp id hem.mpr)) _ (I.hok.fresh (Nat.le_refl _))⟩
    exact ⟨by rw [reps_len, sizeLine_eq]; omega, _, vals_reps r k.toNat, IsTup.new _ _⟩
theorem rmul_lst (a : Int) (t : Tok) (l : Addr) (items : Array Value) (n : Nat) (dd : Option Addr) (sl : Array (Option Value)) :
    Meets (Builtin.«int.__rmul__» ⟨[.int a t, .ref l], []⟩) (fun _ R s => s.heap.get? l = some { cls := .type "list", dict := dd, data := .seq items n, slots := sl } ∧ R (.ok (.ret Value.notImplemented)) s) :=
  .of_wp fun prog w A R s h => by obtain ⟨hp, g, d, tk, os⟩ := s; obtain ⟨at_, h⟩ := h; wp_walk using wpAny_loadPart' at_; exact ⟨_, rfl, h⟩
theorem lst_times (l : Addr) (items : Array Value) (n : Nat) (dd : Option Addr) (sl : Array (Option Value)) (x : Int) (u : Tok) (b0 : -1000000 ≤ x) (b1 : x ≤ 1000000) (bz : items.size * x.toNat ≤ 1000000) :
    Meets (Builtin.«list.__mul__» ⟨[.ref l, .int x u], []⟩) (fun _ R s => s.heap.get? l = some { cls := .type "list", dict := dd, data := .seq items n, slots := sl } ∧
      R (.ok (.ret (Value.ref s.heap.objs.size))) { s with heap := s.heap.push { cls := Value.type "list", data := Data.seq (List.foldl (fun a b => a ++ b) #[] (List.replicate (if items.isEmpty = true then 0 else x.toNat) items)) }, toks := s.toks }) :=
  .of_wp fun prog w A R s h => by
    obtain ⟨hp, g, d, tk, os⟩ := s
    obtain ⟨hl, h1⟩ := h
    have f1 := AutoSeq1.idx_int
    have hfit : ¬ (!Builtin.List.listFitsIndex x) = true := by
      rw [fitsIndex_both (by omega) (by omega)]
      exact Bool.false_ne_true
    have sz9 : (List.foldl (fun a b => a ++ b) #[] (List.replicate (if items.isEmpty = true then 0 else x.toNat) items)).size ≤ items.size * x.toNat := by
      have := fold_reps items.toList (if items.isEmpty = true then 0 else x.toNat) []
      rw [List.nil_append] at this
      rw [show List.foldl (fun a b => a ++ b) #[] (List.replicate (if items.isEmpty = true then 0 else x.toNat) items) = _ from this, List.size_toArray, reps_len]
      split
      · omega
      · simp
    have hlong : ¬ Builtin.List.listTooLong (items.size * x.toNat) = true := by
      rw [notLongL (by rw [sizeLine_eq]; omega)]
      exact Bool.false_ne_true
    wp_walk using wpAny_loadPart' hl
    repeat (first
      | exact ⟨_, rfl, h1⟩
      | (refine wpAny_ite_false (decide_eq_false (by omega)) ?_; wp_walk using wpAny_loadPart' hl)
      | (refine wpAny_ite_false (decide_eq_false hlong) ?_; wp_walk using wpAny_loadPart' hl)
      | (refine wpAny_ite_false (decide_eq_false (by have := sizeLine_eq; omega)) ?_; wp_walk using wpAny_loadPart' hl))
def rMulL (K : PySem.W.Frag) : R2 := fun x y H Q => ∃ l k xs, x = .ref l ∧ y = .int k ∧ SqL K H l xs ∧ -1000000 ≤ k ∧ k ≤ 1000000 ∧ xs.length * k.toNat ≤ 1000000 ∧
  ∀ p, H p = none → Q (.ref p) (upd H p (.lst (List.replicate k.toNat xs).flatten))
theorem op_mulL : OpR X (binaryOp .Mult) (rMulL X.K) := by
  intro pins s σ H x y v u Q I rx ry h
  obtain ⟨l, k, xs, rfl, rfl, hL, b0, b1, bz, q⟩ := h
  cases rx
  obtain ⟨t, rfl⟩ := ry
  obtain ⟨its, r, ⟨⟨cls, dd, data, sl⟩, n, ho, hc, _, hd⟩, hs⟩ := I.list hL
  simp only at hc hd
  subst hc hd
  have hle : its.length = xs.length := r.length.symm
  refine wpAny_binaryOp_repeat_ref (T := "list") (U := "int") (by decide) ⟨_, ho, rfl⟩ (fun s' => typeIs_int s' k t) noFill_list_mul F.fills_int_mul F.slot_int_rmul repeat_list F.slot_int_index.lookup
    (call_meets F.slot_int_rmul (typeIs_int s k t) F.entry_int_rmul (F.args_int_rmul_2 _ _) (rmul_lst k t l its.toArray n dd sl)
      ⟨ho, rfl, ⟨_, ho, rfl⟩, call_meets F.slot_list_mul ⟨_, ho, rfl⟩ F.entry_list_mul (F.args_list_mul_2 _ _) (lst_times l its.toArray n dd sl k t b0 b1 (by rw [List.size_toArray, hle]; exact bz)) ⟨ho, ?_⟩⟩)
  have e9 : ∀ m : Nat, List.foldl (fun u v => u ++ v) #[] (List.replicate m its.toArray) = (List.replicate m its).flatten.toArray := fun m => by
    have := fold_reps its m []
    rw [List.nil_append] at this
    exact this
  have e8 : List.foldl (fun u v => u ++ v) #[] (List.replicate (if its.toArray.isEmpty = true then 0 else k.toNat) its.toArray) = (List.replicate k.toNat its).flatten.toArray := by
    rw [e9]
    cases its with
    | nil => simp
    | cons a r' => rw [if_neg (by simp)]
  rw [e8]
  exact ⟨.ref _, _, I.lnew (t' := s.toks) (vals_reps r k.toNat) (by rw [reps_len, sizeLine_eq]; omega), rfl, q _ I.fresh⟩
/-! ### x in t -/
def rInT (K : PySem.W.Frag) (neg : Bool) : R2 := fun x y H Q => ∃ d ds, Dp K H x d ∧ Dp K H y (.tuple ds) ∧ SeqAt.shaped d = true ∧ SeqAt.shaped (.tuple ds) = true ∧ Q (.bl (if neg then !ds.any fun z => PyData.eqv z d else ds.any fun z => PyData.eqv z d)) H
theorem op_inT (hu : X.A.units + 65 < cLine) : OpR X (compareOp .In) (rInT X.K false) := by
  intro pins s σ H x y v u Q I rx ry h
  obtain ⟨d, ds, hd, he, sd, se, q⟩ := h
  obtain ⟨as, r1⟩ := Dp.reads I d x v hd rx
  obtain ⟨bs, r2⟩ := Dp.reads I (.tuple ds) y u he ry
  exact SeqAt.in_tuple_reads r2 r1 (SeqAt.canLay_of_shaped se) (SeqAt.canLay_of_shaped sd) (room_in_shaped sd hu) ⟨.bl _, H, I, rfl, q⟩
theorem op_ninT (hu : X.A.units + 65 < cLine) : OpR X (compareOp .NotIn) (rInT X.K true) := by
  intro pins s σ H x y v u Q I rx ry h
  obtain ⟨d, ds, hd, he, sd, se, q⟩ := h
  obtain ⟨as, r1⟩ := Dp.reads I d x v hd rx
  obtain ⟨bs, r2⟩ := Dp.reads I (.tuple ds) y u he ry
  exact SeqAt.notIn_tuple_reads r2 r1 (SeqAt.canLay_of_shaped se) (SeqAt.canLay_of_shaped sd) (room_in_shaped sd hu) ⟨.bl _, H, I, rfl, q⟩
/-! ### lists of unlike lengths -/
def rLnD (K : PySem.W.Frag) (neg : Bool) : R2 := fun x y H Q => ∃ a b xs ys, x = .ref a ∧ y = .ref b ∧ SqL K H a xs ∧ SqL K H b ys ∧ xs.length ≠ ys.length ∧ Q (.bl neg) H
theorem op_eqLn (hu : X.A.units < cLine) : OpR X (compareOp .Eq) (rLnD X.K false) := by
  intro pins s σ H x y v u Q I rx ry h
  obtain ⟨a, b, xs, ys, rfl, rfl, h1, h2, hl, q⟩ := h
  cases rx
  cases ry
  obtain ⟨its, r1, p1, _⟩ := I.list h1
  obtain ⟨jts, r2, p2, _⟩ := I.list h2
  have l1 := r1.length
  have l2 := r2.length
  exact SeqAt.eq_list_lengthsAt p1.isList p2.isList (by rw [bne_iff_ne, List.size_toArray, List.size_toArray]; omega) hu ⟨.bl false, H, I, rfl, q⟩
theorem op_neLn (hu : X.A.units < cLine) : OpR X (compareOp .NotEq) (rLnD X.K true) := by
  intro pins s σ H x y v u Q I rx ry h
  obtain ⟨a, b, xs, ys, rfl, rfl, h1, h2, hl, q⟩ := h
  cases rx
  cases ry
  obtain ⟨its, r1, p1, _⟩ := I.list h1
  obtain ⟨jts, r2, p2, _⟩ := I.list h2
  have l1 := r1.length
  have l2 := r2.length
  exact SeqAt.RcNeAt.lists_lengths p1.isList p2.isList (by rw [bne_iff_ne, List.size_toArray, List.size_toArray]; omega) hu _ _ _ _ ⟨.bl true, H, I, rfl, q⟩
/-! ### dicts as operands -/
def rInK (neg : Bool) : R2 := fun x y H Q => ∃ a o, y = .ref a ∧ DGet H a x o ∧ Q (.bl (if neg then !o.isSome else o.isSome)) H
theorem op_inK (hu : X.A.units + 65 < cLine) : OpR X (compareOp .In) (rInK false) := by
  intro pins s σ H x y v u Q I rx ry h
  obtain ⟨a, o, rfl, g, q⟩ := h
  cases ry
  exact d_in (by omega) I g rx fun s2 I2 => ⟨.bl o.isSome, H, I2, rfl, q⟩
theorem op_ninK (hu : X.A.units + 65 < cLine) : OpR X (compareOp .NotIn) (rInK true) := by
  intro pins s σ H x y v u Q I rx ry h
  obtain ⟨a, o, rfl, g, q⟩ := h
  cases ry
  exact d_notIn (by omega) I g rx fun s2 I2 => ⟨.bl (!o.isSome), H, I2, rfl, q⟩
def rIxK : R2 := fun x y H Q => ∃ a v, x = .ref a ∧ DGet H a y (some v) ∧ Q v H
theorem ix_key (hu : X.A.units + 65 < cLine) : IxR X rIxK := by
  intro value slice pins s σ H x y v u Q I rx ry h hs
  obtain ⟨a, z, rfl, g, q⟩ := h
  cases rx
  have hT := dict_typeIs I g
  have body : wpAny (model X.prog X.w) X.A (getItem (.ref a) u) (EP X pins σ Q) X.xe s := d_getItem (by omega) I g ry fun w' s2 I2 r2 => ⟨z, H, I2, r2, q⟩
  unfold subscriptTail
  refine wpAny_bind ?_
  rw [getitemInPython_of_ne hT.not_modules]
  refine wpAny_bind (wpAny_specialOf hT PySem.F.slot_dict_getitem.lookup ?_)
  have last : wpAny (model X.prog X.w) X.A (subscripted slice false (.ref a) u) (fun r s3 => wpAny (model X.prog X.w) X.A (letTemporaryGo value (.ref a) r >>= fun _ => pure r) (EP X pins σ Q) X.xe s3) X.xe s := by
    rw [hs]
    exact wpAny_operating (wpAny_mono body (fun r s3 h3 => wpAny_bind (wpAny_letTemporaryGo (wpAny_pure h3))) fun _ _ e => e)
  first
    | exact wpAny_pure (wpAny_bind last)
    | exact wpAny_bind (wpAny_pure (wpAny_bind last))
    | exact wpAny_bind last
def rSetK : V → V → V → Hp → (Hp → Prop) → Prop := fun o i v H Q => ∃ a H', o = .ref a ∧ DPut H a i v H' ∧ Q H'
theorem set_key (hu : X.A.units + 65 < cLine) : PSet X rSetK := by
  intro pins s σ H o i v ov iv u Q I ro ri rv h
  obtain ⟨a, H', rfl, g, q⟩ := h
  cases ro
  exact d_setItem (by omega) I g ri rv fun s2 I2 => ⟨H', I2, q⟩
/-! ### list(text); d.get -/
theorem cr_listS (hc : X.calm = true) : CallR X (.type "list") (fun xs H Q => ∃ z : Str, xs = [.str z] ∧ z.length ≤ sizeLine ∧ ∀ l, H l = none → Q (.ref l) (upd H l (.lst (z.cps.toList.map fun c => .str ⟨#[c]⟩)))) := by
  intro pins s σ H xs us Q I r h
  obtain ⟨z, rfl, hz, q⟩ := h
  cases r with
  | cons r0 rr =>
    cases rr
    obtain ⟨t, rfl⟩ := r0
    refine PySem.call_list_str (I.ok.hd hc) z t (fun h' tk acc c keep at_ items => ?_) hz
    have rel : ∀ (ys : List Nat) (us : List Value), us.length = ys.length → (∀ (i : Nat) (c : Nat), ys[i]? = some c → ∃ u, us[i]? = some (.str ⟨#[c]⟩ u)) → Vals (ys.map fun c => V.str ⟨#[c]⟩) us := by
      intro ys
      induction ys with
      | nil =>
        intro us hl _
        rw [List.length_nil, List.length_eq_zero_iff] at hl
        subst hl
        exact .nil
      | cons y ys ih =>
        intro us hl hg
        cases us with
        | nil => cases hl
        | cons v us =>
          obtain ⟨u, hu⟩ := hg 0 y rfl
          simp at hu
          refine .cons ⟨u, hu⟩ (ih us (by simpa using hl) fun i c hi => ?_)
          obtain ⟨u2, hu2⟩ := hg (i + 1) c (by simpa using hi)
          exact ⟨u2, by simpa using hu2⟩
    have hv : Vals (z.cps.toList.map fun c => V.str ⟨#[c]⟩) acc.toList := by
      refine rel _ _ (by simp [items.1]) fun i c hi => ?_
      have lt := (List.getElem?_eq_some_iff.mp hi).1
      have lt2 : i < acc.size := by rw [items.1]; simpa using lt
      obtain ⟨c2, u, h1, h2⟩ := items.2 i acc[i] (by simp [lt2])
      rw [← Array.getElem?_toList, hi] at h1
      cases h1
      exact ⟨u, by rw [Array.getElem?_toList, ← h2]; simp [lt2]⟩
    have new : ObjOk X.prog X.w (upd H s.heap.objs.size (.lst (z.cps.toList.map fun c => V.str ⟨#[c]⟩))) h' s.heap.objs.size (.lst (z.cps.toList.map fun c => V.str ⟨#[c]⟩)) :=
      ⟨by rw [List.length_map]; simpa [Str.length] using hz, acc.toList, c, hv, by simpa using at_⟩
    exact ⟨.ref s.heap.objs.size, _, I.laid (t' := tk) (o := .lst (z.cps.toList.map fun c => V.str ⟨#[c]⟩)) keep (Nat.le_refl _) new, rfl, q _ (I.hok.fresh (Nat.le_refl _))⟩
def rGetD : V → List V → Hp → VK → Prop := fun x xs H Q => ∃ a y o, x = .ref a ∧ DGet H a y o ∧ ((xs = [y] ∧ Q (o.getD .non) H) ∨ ∃ z, xs = [y, z] ∧ Q (o.getD z) H)
theorem mt_getD (hu : X.A.units + 65 < cLine) : MtR X "dict.get" rGetD := by
  intro pins s σ H x xs v us Q I rx rxs h
  obtain ⟨a, y, o, rfl, g, h⟩ := h
  cases rx
  rcases h with ⟨rfl, q⟩ | ⟨z, rfl, q⟩
  · cases rxs with
    | cons r1 rr =>
      cases rr
      exact d_get1 (by omega) I g r1 fun w' s3 I3 rw' => ⟨_, H, I3, rw', q⟩
  · cases rxs with
    | cons r1 rr =>
      cases rr with
      | cons r2 rr =>
        cases rr
        exact d_get2 (by omega) I g r1 r2 fun w' s3 I3 rw' => ⟨_, H, I3, rw', q⟩
/-! ### x[::-1] of a list -/
theorem pe_revL {e : Expr} {te : TE} {p2 p3 p4 pos : Pos} {j : Nat} (he : PE X e te) (hp : PE X (.UnaryOp .USub (.Constant (.int 1) j p3) p4) (tC (.int (-1)))) :
    PE X (.Subscript e (.Slice none none (some (.UnaryOp .USub (.Constant (.int 1) j p3) p4)) p2) pos) (fun σ H Q => te σ H fun x H1 => ∃ a xs, x = .ref a ∧ SqL X.K H1 a xs ∧ ∀ p, H1 p = none → Q (.ref p) (upd H1 p (.lst xs.reverse))) := by
  refine ⟨fun pins s σ H Q I h => ?_⟩
  refine Subscript_ (thn (he.run pins s σ H _ I h) fun v s1 ⟨x, H1, I1, r1, q1⟩ => ?_)
  refine wpAny_Slice ?_
  rw [evalPart_none]
  refine wpAny_pure ?_
  refine wpAny_pure ?_
  show wpAny (model X.prog X.w) X.A (eval (.UnaryOp .USub (.Constant (.int 1) j p3) p4) X.env) _ _ _
  refine thn (hp.run pins s1 σ H1 (fun y H' => y = .int (-1) ∧ H' = H1) I1 ⟨rfl, rfl⟩) fun vs s2 ⟨y, H2, I2, ry, ey, eH⟩ => ?_
  subst ey eH
  obtain ⟨t, rfl⟩ := ry
  obtain ⟨a, xs, rfl, hx, q⟩ := q1
  cases r1
  have I4 : Inv X pins σ H2 { s2 with heap := s2.heap.push { cls := .type "slice", data := .fields #[.none, .none, .int (-1) t] } } := I2.kept (t' := s2.toks) fun b ob q => Heap.get?_push_of_some _ q
  obtain ⟨its, r, ht, hz⟩ := I4.list hx
  have hlen := r.length
  show wpAny (model X.prog X.w) X.A (subscriptTail e (.Slice none none (some (.UnaryOp .USub (.Constant (.int 1) j p3) p4)) p2) (.ref a) (.ref s2.heap.objs.size)) (EP X pins σ Q) X.xe { s2 with heap := s2.heap.push { cls := .type "slice", data := .fields #[.none, .none, .int (-1) t] } }
  refine tail_any ht.isList.typeIs slot_list_getitem.lookup ?_ (by with_unfolding_all rfl)
  refine wpAny_getItem_list_slice ht.isList (Heap.IsSliceOf.new ..) .none .none (.int _ _) (by decide) ?_ (by rw [List.size_toArray] <;> omega)
  rw [W.krv_pick]
  refine ⟨.ref (s2.heap.push { cls := .type "slice", data := .fields #[.none, .none, .int (-1) t] }).objs.size, _, I4.laid (t' := s2.toks) (o := .lst xs.reverse) (fun b ob q => Heap.get?_push_of_some _ q) (Nat.le_refl _) ?_, rfl, q _ (I4.hok.fresh (Nat.le_refl _))⟩
  refine ⟨by rw [List.length_reverse]; exact hz, its.reverse, 0, r.reverse, ?_⟩
  have := Heap.get?_push_size (s2.heap.push { cls := .type "slice", data := .fields #[.none, .none, .int (-1) t] }) (o := { cls := .type "list", data := .seq its.reverse.toArray 0 }) rfl
  exact this
end
/-! ### l.count(x) -/
section
variable {X : Cx}
def rCountD (K : PySem.W.Frag) : V → List V → Hp → VK → Prop := fun x xs H Q => ∃ (a : Addr) (y : V) (d : PyData) (ds : List PyData), x = V.ref a ∧ xs = [y] ∧ Dp K H (V.ref a) (.list ds) ∧ Dp K H y d ∧
  SeqAt.shaped (.list ds) = true ∧ SeqAt.shaped d = true ∧ Q (.int (ds.countP fun z => PyData.eqv z d)) H
theorem mt_countD (hu : X.A.units + 65 < cLine) : MtR X "list.count" (rCountD X.K) := by
  intro pins s σ H x xs v us Q I rx rxs h
  obtain ⟨a, y, d, ds, rfl, rfl, hl, hy, sl, sd, q⟩ := h
  cases rx
  cases rxs with
  | cons ry rt =>
    rename_i uy ut
    cases rt
    obtain ⟨bs, r1⟩ := Dp.reads I d y uy hy ry
    have hxs : PyData.canLayAll0 ds = true := SeqAt.canLay_of_shaped sl
    have hroom : X.A.units + 1 + min (PyData.depthAll ds) d.depth < cLine := room_in_shaped sd hu
    cases hl with
    | lst hs ha =>
      obtain ⟨its, rv, ⟨⟨cls, dd, data, sls⟩, n, ho, hc, hdn, hdt⟩, hlen⟩ := I.list hs
      simp only at hc hdt
      subst hc hdt
      obtain ⟨as, h4⟩ := Dp.readsAll I ds _ its ha rv
      have hmap : its.map (SeqAt.readOf s.heap) = ds := SeqAt.readsAll_map ds its as hxs h4
      have e : (its.toArray.toList.countP fun u => PyData.eqv (SeqAt.readOf s.heap u) d) = ds.countP fun z => PyData.eqv z d := by
        rw [show its.toArray.toList = its from rfl, ← hmap, List.countP_map]
        rfl
      refine call_meets PySem.F.slot_list_count ⟨_, ho, rfl⟩ PySem.F.entry_list_count (PySem.F.args_list_count_2 _ _)
        (SeqAt.list_countAt a its.toArray n dd sls uy (fun u => PyData.eqv (SeqAt.readOf s.heap u) d)) ⟨ho, SeqAt.items_eqAt (vs := its.toArray) (show ReadsAll s.heap its.toArray.toList ds as from h4) r1 hxs (SeqAt.canLay_of_shaped sd) hroom, ?_⟩
      rw [e]
      exact ⟨.int _, H, I.tok _, ⟨_, rfl⟩, q⟩
end
end Q
/-! QG (read between QR and QM): the promise of a def where no repr is under way; own Room and FnOk stand ahead of the library's. -/
namespace Q
open PySem PySem.Spec PyProof.Rows L2
/-- room for calls, and no guard below -/
structure Room (k : Nat) (A : Around) : Prop extends L2.Room k A where
  gd : A.guards = some []
theorem Room.mono {j k : Nat} {A : Around} (r : Room k A) (h : j ≤ k) : Room j A := ⟨r.toRoom.mono h, r.gd⟩
theorem Room.deeper {k : Nat} {A : Around} (r : Room (k + 1) A) (env : Env) : Room k (A.deeper env) := ⟨r.toRoom.deeper env, r.gd⟩
theorem Room.make {k : Nat} {A : Around} (r : Room (k + 1) A) (C : Addr) (us : List Value) (kw : List (Str × Value)) : Room k (A.under (.builtin "type.__call__" ⟨.ref C :: us, kw⟩)) :=
  ⟨r.toRoom.make C us kw, by
    have := r.gd
    first
    | exact this
    | (simp only [Around.under, this]; rfl)
    | (simp [Around.under, Code.guards, Code.isGuard, guardIds, this])⟩
/-- what a def promises where no guard is below -/
structure FnOk (P : Program) (w : World) (K : PySem.W.Frag) (mg : Str → Option Value) (base : Heap) (CX : CXT) (k : Nat) (f : Addr) (fd : FuncData) (ps : List Str) (sp : Sp) : Prop where
  len : ∀ vs H Qv E, sp vs H Qv E → vs.length = ps.length
  run : ∀ (A : Around) (outer : List Env) (s : Shared) (H : Hp) (args : Args) (us : List Value) (vs : List V) (Qv : VK) (E : XK), Room k A → Env0 P w K mg base A outer s H → BindsTo s fd args (ps.zip us) → Vals vs us → sp vs H Qv E →
    codeAny (model P w) A (.call (.ref f) args) (CR CX outer P w H s Qv E) s
theorem FnOk.mono {P : Program} {w : World} {K : PySem.W.Frag} {mg : Str → Option Value} {base : Heap} {CX : CXT} {j k : Nat} {f : Addr} {fd : FuncData} {ps : List Str} {sp : Sp} (F : FnOk P w K mg base CX j f fd ps sp) (h : j ≤ k) :
    FnOk P w K mg base CX k f fd ps sp := ⟨F.len, fun A outer s H args us vs Qv E hr => F.run A outer s H args us vs Qv E (hr.mono h)⟩
section
variable {X : Cx} {CX : CXT} {k : Nat} {f : Addr} {fd : FuncData} {ps : List Str} {sp : Sp} {dvs : List V} {ds : List Value} {E : L2.St → XK} {x : Str} {p pos : Pos} {e : Expr} {es : List Expr} {t : TA}
theorem run_fnSD {pins : List (Addr × Obj)} {σ : L2.St} {H : Hp} {s : Shared} {Qv : VK} {us : List Value} {vs : List V} (F : FnOk X.prog X.w X.K X.mg X.base CX k f fd ps sp) (hr : Room k X.A) (hb : Binds X.K fd ps ds) (hd : Vals dvs ds)
    (hx : PassesAt CX X σ (E σ)) (I : Inv X pins σ H s) (r : Vals vs us) (h : sp (vs ++ dvs) H Qv (E σ)) : wpAny (model X.prog X.w) X.A (call (.ref f) us) (EP X pins σ Qv) X.xe s := by
  have rd : Vals (vs ++ dvs) (us ++ ds) := r.append hd
  have n : (us ++ ds).length = ps.length := rd.length ▸ F.len _ _ _ _ h
  have go := F.run X.A X.stack s H ⟨us, []⟩ (us ++ ds) (vs ++ dvs) Qv (E σ) hr I.env0 (hb s us I.kIn n) rd h
  refine wpAny_call (codeAny_mono go fun out s' q => ?_)
  match out, q with
  | .error e, q => exact hx pins H s e s' I q
  | .ok (.ret u), q => exact I.after q
  | .ok .next, q => exact q.elim
  | .ok .brk, q => exact q.elim
  | .ok .cont, q => exact q.elim
theorem pe_callSD (F : FnOk X.prog X.w X.K X.mg X.base CX k f fd ps sp) (hr : Room k X.A) (hg : Gl X x) (hm : X.mg x = some (.ref f)) (hk : PySem.W.keepIn X.K (.ref f) = true) (hb : Binds X.K fd ps ds) (hd : Vals dvs ds)
    (hx : ∀ σ, PassesAt CX X σ (E σ)) (ha : PA X (e :: es) t) (hdb : (x == ("__debug__" : Str)) = false) (he : starEach (e :: es) X.env = (false, eval e X.env) :: starEach es X.env)
    (hpl : (backTo pos (starEach es X.env)).any (·.1) = false) : PE X (.Call (.Name x p) (e :: es) [] pos) (tCallSD sp dvs E t) :=
  ⟨fun pins s σ H Qv I h => wpAny_Call_Name_kw (ld_glob I hg hm (PySem.W.callWith_K (h₀ := X.base) I.ok.mod.kin hk (thn (ha.run pos pins s σ H _ I h) fun us s1 ⟨vs, H1, I1, r, q⟩ => ⟨I1.kIn, run_fnSD F hr hb hd (hx σ) I1 r q⟩) he hpl) hdb)⟩
end
section
variable {P : Program} {w : World} {K : PySem.W.Frag} {mg : Str → Option Value} {base : Heap} {x qual : Str} {params : Arguments} {body : List Stmt} {scope : Scope} {dvs : List V} {kws : List (Str × V)} {f : Addr} {fd : FuncData}
/-- a def's promise from its body's reading -/
theorem fnG {CX : CXT} {N ps : List Str} {k : Nat} {sp : Sp} (F : FunD K x qual params body scope dvs kws f fd) (sc : FnScope N ps scope) (len : ∀ vs H Qv E, sp vs H Qv E → vs.length = ps.length)
    (hb0 : ∀ (cdv : Value) (A : Around) (outer : List Env) (s : Shared) (H : Hp) (vs : List V) (Qv : VK) (E : XK), Room k (A.deeper (envOfC qual scope s.heap.objs.size f cdv)) → sp vs H Qv E →
      ∃ t, PSs (cxOf CX P w K mg base N qual scope f cdv A outer s H E) body t ∧ t { nx := fun _ H' => Qv .non H', rt := Qv } (start N vs) H) : FnOk P w K mg base CX (k + 1) f fd ps sp := by
  obtain ⟨oc, od, dV, kV, doc, pm, an, cdv, ct, osl, efd, lk, hcd, -, -⟩ := F.ex
  subst efd
  refine ⟨len, fun A outer s H args us vs Qv E hr e0 hbd r hsp => ?_⟩
  have n0 := len _ _ _ _ hsp
  have lim : s.heap.NoLimit := e0.mod.nolimit.keeps fun b o e => (e0.bs b o e).1
  have kin : K.In s.heap := e0.mod.kin.keeps fun b o e => (e0.bs b o e).1
  have kinds : ∀ y ∈ ps.zip us, scope.names.lookup y.1 = some .local ∨ (scope.names.lookup y.1 = some .cell ∧ ((cellsFrom (s.heap.objs.size + 1) scope.names []).lookup y.1).isSome = true) := by
    rintro ⟨a, v⟩ hy
    exact (sc.par a (List.of_mem_zip hy).1).imp id fun q => ⟨q, PySem.W.cellsFrom_some _ _ _ (.inl q)⟩
  refine codeAny_call_function hr.toRoom.depth (kin _ _ lk) rfl sc.co sc.gen rfl (PySem.W.codeRec_of kin hcd) (hbd _ _ _ _ (wpAny_newFunctionEnv_cells sc.kind kinds fun env he s1 z => ?_))
  subst he
  obtain ⟨t, ht, hq⟩ := hb0 cdv A outer s H vs Qv E (hr.deeper _) hsp
  have I : Inv (cxOf CX P w K mg base N qual scope f cdv A outer s H E) [] (start N vs) H s1 := inv_start sc hr.hd e0 n0 r z
  refine ⟨lim.keeps z.toInCall.keep, codeAny_func (wpAny_mono (ht.run [] s1 (start N vs) H _ I hq) (fun fl s' hs => ?_) fun _ _ hs => hs)⟩
  match fl, hs with
  | .ret u, ⟨v, σ', H', J, rv, q⟩ => exact ⟨v, H', J.os, J.bare, J.base, J.hok, rv, q⟩
  | .next, ⟨σ', H', J, q⟩ => exact ⟨V.non, H', J.os, J.bare, J.base, J.hok, rfl, q⟩
  | .brk, ⟨_, _, _, q⟩ => exact q.elim
  | .cont, ⟨_, _, _, q⟩ => exact q.elim
end
/-- the law's call behind the top: no guard is below -/
theorem law_callG {P : Program} {w : World} {K : PySem.W.Frag} {mg mb : Str → Option Value} {CX : CXT} {k : Nat} {fa a : Addr} {fd : FuncData} {x : Str} {sp : Sp} {s₁ : Shared} {vs : List Value} {ns : List Int}
    (KX : K.In s₁.heap) (hns : s₁.heap.Ns mainGlobals mg) (hb : s₁.heap.Ns builtinsNs mb) (hbb : ∀ x : Str, x ≠ "__name__" → mb x = bootBuiltins x) (hlim : s₁.heap.NoLimit) (hg : s₁.gens = #[])
    (ha : s₁.heap.get? a = some { cls := .type "list", data := .seq vs.toArray }) (hi : IntsAre vs ns) (hl : ns.length ≤ sizeLine) (hr : Room k callerA) (F : ∀ base : Heap, K.In base → base.Ns mainGlobals mg → FnOk P w K mg base CX k fa fd [x] sp)
    (hbind : ∀ (s : Shared) (u : Value), BindsTo s fd ⟨[u], []⟩ [(x, u)]) (hsp : ∀ H : Hp, Only H → SqL K H a (ns.map V.int) → sp [.ref a] H (fun v _ => v = .bl true) fun _ _ _ => False) (hCX : ∀ H e s', CX [] H s₁ (fun _ _ _ => False) e s' → False) :
    codeAny (model P w) callerA (.call (.ref fa) ⟨[.ref a], []⟩) (fun r s' => r = .ok (.ret (.bool true)) ∧ OldK s₁.heap s'.heap ∧ s'.os = s₁.os ∧ AllBare s'.gens) s₁ := by
  have rv : Vals (ns.map V.int) vs := vals_ints hi
  have nl := hi.length
  have main : ∀ H : Hp, Only H → SqL K H a (ns.map V.int) → HOk P w H s₁.heap → (∀ b, H b ≠ none → b = a) → (H a ≠ none → K.lookup a = none) →
      codeAny (model P w) callerA (.call (.ref fa) ⟨[.ref a], []⟩) (fun r s' => r = .ok (.ret (.bool true)) ∧ OldK s₁.heap s'.heap ∧ s'.os = s₁.os ∧ AllBare s'.gens) s₁ := by
    intro H only sq ok one kn
    have only_a : ∀ {b : Addr}, H b = none ∨ b = a := fun {b} => by
      cases q : H b with
      | none => exact .inl rfl
      | some u => exact .inr (one b (by rw [q]; simp))
    have dic : ∀ {b : Addr} {o : Obj} {es : Array DictEntry} {ep : Nat}, s₁.heap.get? b = some o → o.data = .dict es ep → H b = none := fun {b o es ep} e d => by
      rcases only_a (b := b) with q | rfl
      · exact q
      · rw [ha] at e
        cases e
        cases (show Data.seq vs.toArray _ = Data.dict es ep from d)
    have nsk : ∀ {b : Addr} {m : Str → Option Value}, s₁.heap.Ns b m → (hidT s₁.heap H).Ns b m := fun ⟨o, es, ep, e, d, r⟩ => ⟨o, es, ep, hidT_get e (dic e d), d, r⟩
    have kin : K.In (hidT s₁.heap H) := fun b o e => hidT_get (KX b o e) (by
      rcases only_a (b := b) with q | rfl
      · exact q
      · cases q : H b with
        | none => rfl
        | some u =>
          rw [kn (by rw [q]; simp)] at e
          cases e)
    obtain ⟨mc, c1, c2⟩ := hlim
    have env : Env0 P w K mg (hidT s₁.heap H) callerA [] s₁ H := ⟨rfl, ⟨kin, nsk hns, ⟨mb, nsk hb, hbb⟩, ⟨mc, nsk c1, c2⟩⟩, fun b o e => of_hidT e, Nat.le_of_eq (hidT_size _ _), trivial, fun b z => (by cases (show b ∈ ([] : List Addr) from z)), ok, .of_eq hg⟩
    have go := (F _ kin (nsk hns)).run callerA [] s₁ H ⟨[.ref a], []⟩ [.ref a] [.ref a] _ _ hr env (hbind s₁ (.ref a)) (.cons rfl .nil) (hsp H only sq)
    refine codeAny_mono go fun out s' q => ?_
    match out, q with
    | .error e, q => exact (hCX H e s' q).elim
    | .ok .next, q => exact q.elim
    | .ok .brk, q => exact q.elim
    | .ok .cont, q => exact q.elim
    | .ok (.ret u), ⟨v, H', os, bare, un, ok', rv', q⟩ =>
      have q : v = .bl true := q
      subst q
      obtain rfl : u = Value.bool true := rv'
      refine ⟨rfl, OldK.of_keep fun b o e => ?_, os, bare⟩
      cases q : H b with
      | none => exact un.keep b o e q (fun z => (by cases (show b ∈ ([] : List Addr) from z))) (by simp)
      | some u =>
        rcases only b with z | ⟨ob, xs, z⟩
        · rw [q] at z
          cases z
        · have h1 := (ok b _ z).1
          have h2 := (ok' b _ (un.frzs b ob _ z)).1
          rw [e] at h1
          cases h1
          exact h2
  cases lk : K.lookup a with
  | some o =>
    have e := KX a o lk
    rw [ha] at e
    cases e
    exact main (fun _ => none) (fun _ => .inl rfl) (.inr ⟨_, vs.toArray, _, lk, rfl, rfl, rfl, by rw [List.size_toArray, nl]; exact hl, by simpa using rv⟩) (fun b u z => by cases (show (none : Option HO) = some u from z)) (fun b z => (z rfl).elim) fun z => (z rfl).elim
  | none =>
    have at_a : ∀ {b : Addr} {u : HO}, (if b = a then some (HO.frz { cls := .type "list", data := .seq vs.toArray } (.lst (ns.map V.int))) else none) = some u → b = a ∧ u = .frz { cls := .type "list", data := .seq vs.toArray } (.lst (ns.map V.int)) := fun {b u} z => by
      by_cases hb : b = a
      · rw [if_pos hb] at z
        cases z
        exact ⟨hb, rfl⟩
      · rw [if_neg hb] at z
        cases z
    refine main (fun b => if b = a then some (.frz { cls := .type "list", data := .seq vs.toArray } (.lst (ns.map V.int))) else none) (fun b => ?_) (.inl (.inr ⟨{ cls := .type "list", data := .seq vs.toArray }, if_pos rfl⟩)) (fun b u z => ?_) (fun b z => ?_) fun _ => lk
    · by_cases hb : b = a
      · exact .inr ⟨_, _, if_pos hb⟩
      · exact .inl (if_neg hb)
    · obtain ⟨rfl, rfl⟩ := at_a z
      exact ⟨ha, by rw [List.length_map]; exact hl, vs, _, rv, ha⟩
    · cases q : (if b = a then some (HO.frz { cls := .type "list", data := .seq vs.toArray } (.lst (ns.map V.int))) else none) with
      | none => exact (z q).elim
      | some u => exact (at_a q).1
/-- a law from its def's promise -/
theorem walk_ofG {l : PySem.W.OpenLaw} {n k : Nat} {q : Program} {loose : List Str} {XP : (Str → Option Value) → Heap → Prop} {YP : World → Heap → Prop} {d : DefRec} {CX : CXT} {x : Str} (hn : l.most = some n) (hn2 : n ≤ sizeLine) (hdf : d.params.defaults = []) (hr : Room k callerA)
    (F : ∀ (w : World) (mg : Str → Option Value) (fa : Addr) (h : Heap), YP w h → h.Ns mainGlobals mg → mg d.name = some (.ref fa) → ∃ (K : PySem.W.Frag) (fd : FuncData) (sp : Sp), K.In h ∧ (∀ (s : Shared) (u : Value), BindsTo s fd ⟨[u], []⟩ [(x, u)]) ∧
      (∀ (H : Hp) (a : Addr) (ns : List Int), ns.length ≤ n → Only H → SqL K H a (ns.map V.int) → sp [.ref a] H (fun v _ => v = .bl true) fun _ _ _ => False) ∧ ∀ base : Heap, K.In base → base.Ns mainGlobals mg → FnOk l.prog w K mg base CX k fa fd [x] sp)
    (hCX : ∀ (H : Hp) (s : Shared) (e : Value) (s' : Shared), CX [] H s (fun _ _ _ => False) e s' → False) : PySem.W.WalkO q loose XP YP l.row.toRowW d [] (fun f vs => PySem.call f vs) :=
  Att.attach_call hn hdf fun w s₀ s₁ mg mb fa o pm cd doc a vs ns G Y ho hd hcd hmg hobj hints hlen hg => by
    obtain ⟨K, fd, sp, KX, hb, hsp, hF⟩ := F w mg fa _ Y G.T.g hmg
    exact law_callG KX G.T.g G.T.b G.T.builtins G.T.nolimit hg hobj hints (Nat.le_trans hlen hn2) hr hF hb (fun H hO hS => hsp H a ns hlen hO hS) fun H e s' => hCX H s₁ e s'
end Q
/-! QP (read between QG and QM): repr of numbers, texts, tuples, lists, dicts. -/
namespace Q
open PySem PySem.Spec PyProof.Rows L2
def pdKey : L2.Key → PyData
  | .inl i => .int i
  | .inr x => .str x
mutual
/-- a value that reads as such data -/
inductive Rdv (K : PySem.W.Frag) (H : Hp) : V → PyData → Prop
  | non : Rdv K H .non .none
  | bl (b : Bool) : Rdv K H (.bl b) (.bool b)
  | int (i : Int) : Rdv K H (.int i) (.int i)
  | str (x : Str) : Rdv K H (.str x) (.str x)
  | tup {a : Addr} {vs : List V} {ds : List PyData} : SqT K H a vs → Rdvs K H vs ds → Rdv K H (.ref a) (.tuple ds)
  | lst {a : Addr} {vs : List V} {ds : List PyData} : SqL K H a vs → Rdvs K H vs ds → Rdv K H (.ref a) (.list ds)
  | dic {a : Addr} {kvs : List (L2.Key × V)} {ds : List PyData} : H a = some (.dK kvs) → Rdvs K H (kvs.map (·.2)) ds → Rdv K H (.ref a) (.dict ((kvs.map fun p => pdKey p.1).zip ds))
inductive Rdvs (K : PySem.W.Frag) (H : Hp) : List V → List PyData → Prop
  | nil : Rdvs K H [] []
  | cons {v : V} {d : PyData} {vs : List V} {ds : List PyData} : Rdv K H v d → Rdvs K H vs ds → Rdvs K H (v :: vs) (d :: ds)
end
theorem Rdvs.length {K : PySem.W.Frag} {H : Hp} : ∀ {vs : List V} {ds : List PyData}, Rdvs K H vs ds → vs.length = ds.length
  | _, _, .nil => rfl
  | _, _, .cons _ rs => congrArg Nat.succ rs.length
section
variable {P : Program} {w : World} {K : PySem.W.Frag} {H : Hp} {h : Heap}
/-- an item that reads, and shows -/
def Shw (P : Program) (w : World) (h : Heap) (u : Value) (d : PyData) : Prop :=
  (∃ as, Reads h u d as) ∧ (d.showable = true → d.shown.length ≤ sizeLine → ∃ bs, ReadAtMost h d.depth bs ∧ ReprK P w bs h d.depth u d.shown)
def Shws (P : Program) (w : World) (h : Heap) (us : List Value) (ds : List PyData) : Prop :=
  (∃ as, ReadsAll h us ds as) ∧ (PyData.showableAll ds = true → (∀ t ∈ PyData.shownAll ds, t.length ≤ sizeLine) → ∃ bs, ReadAtMost h (PyData.depthAll ds) bs ∧ ReprAllK P w bs h (PyData.depthAll ds) us (PyData.shownAll ds))
theorem Shws.nil : Shws P w h [] [] := ⟨⟨_, .nil⟩, fun _ _ => ⟨[], (fun _ z => by cases z), by simp only [PyData.shownAll]; exact .nil⟩⟩
theorem Shws.cons {u : Value} {d : PyData} {us : List Value} {ds : List PyData} (a : Shw P w h u d) (b : Shws P w h us ds) : Shws P w h (u :: us) (d :: ds) := by
  obtain ⟨⟨as, ra⟩, fa⟩ := a
  obtain ⟨⟨bs, rb⟩, fb⟩ := b
  refine ⟨⟨_, .cons ra rb⟩, fun hs hz => ?_⟩
  simp only [PyData.showableAll, Bool.and_eq_true] at hs
  simp only [PyData.shownAll, List.mem_cons, forall_eq_or_imp] at hz
  obtain ⟨c1, m1, k1⟩ := fa hs.1 hz.1
  obtain ⟨c2, m2, k2⟩ := fb hs.2 hz.2
  simp only [PyData.depthAll, PyData.shownAll]
  have le1 : d.depth ≤ max d.depth (PyData.depthAll ds) := Nat.le_max_left ..
  have le2 : PyData.depthAll ds ≤ max d.depth (PyData.depthAll ds) := Nat.le_max_right ..
  exact ⟨c1 ++ c2, (m1.mono le1).append (m2.mono le2), .cons ((k1.more fun _ z => List.mem_append_left _ z).level_le le1) (k2.more_le (fun _ z => List.mem_append_right _ z) le2)⟩
theorem shw_tup {a : Addr} {o : Obj} {its : List Value} {n : Nat} {ds : List PyData} (e1 : h.get? a = some o) (e2 : o.cls = .type "tuple") (e3 : o.data = .seq its.toArray n) (b : Shws P w h its ds) : Shw P w h (.ref a) (.tuple ds) := by
  obtain ⟨⟨as, ra⟩, fa⟩ := b
  have r : Reads h (.ref a) (.tuple ds) as := .tuple e1 e2 e3 ra
  refine ⟨⟨_, r⟩, fun hs hz => ?_⟩
  simp only [PyData.showable] at hs
  simp only [PyData.shown] at hz
  obtain ⟨bs, m, k⟩ := fa hs fun t ht => Nat.le_trans (tupleText_mem_le ht) hz
  have na : a ∉ bs := not_mem_of_deeper r (by simp only [PyData.depth]; omega) m
  refine ⟨a :: bs, ReadAtMost.cons r (by simp only [PyData.depth]; omega) m, ?_⟩
  simp only [PyData.depth, PyData.shown]
  exact ReprK.tuple e1 e2 e3 na (by simpa using k)
theorem shw_lst {a : Addr} {o : Obj} {its : List Value} {n : Nat} {ds : List PyData} (e1 : h.get? a = some o) (e2 : o.cls = .type "list") (e3 : o.data = .seq its.toArray n) (b : Shws P w h its ds) : Shw P w h (.ref a) (.list ds) := by
  obtain ⟨⟨as, ra⟩, fa⟩ := b
  have r : Reads h (.ref a) (.list ds) (a :: as) := .list e1 e2 e3 ra
  refine ⟨⟨_, r⟩, fun hs hz => ?_⟩
  simp only [PyData.showable] at hs
  simp only [PyData.shown] at hz
  obtain ⟨bs, m, k⟩ := fa hs fun t ht => Nat.le_trans (listText_mem_le ht) hz
  have na : a ∉ bs := not_mem_of_deeper r (by simp only [PyData.depth]; omega) m
  refine ⟨a :: bs, ReadAtMost.cons r (by simp only [PyData.depth]; omega) m, ?_⟩
  simp only [PyData.depth, PyData.shown]
  cases its with
  | nil =>
    cases ra
    simp only [PyData.shownAll, listText_nil]
    exact ReprK.listEmpty e1 e2 e3
  | cons u us => exact ReprK.list e1 e2 e3 na (by simpa using k.length_eq) fun i y e => k.item i y (by simpa using e)
theorem pairs_shw : ∀ {es : List DictEntry} {kvs : List (L2.Key × V)} {vs : List (L2.Key × Value)}, Pairs (mixKind P w) es vs → KV kvs vs →
    (∃ as, ReadsAll h (es.map (·.key)) (kvs.map fun p => pdKey p.1) as) ∧ es.map (·.val) = vs.map (·.2) ∧ Shws P w h (es.map (·.key)) (kvs.map fun p => pdKey p.1)
  | [], _, _, .nil, .nil => ⟨⟨_, .nil⟩, rfl, .nil⟩
  | e :: es, _, _, .cons (kv := kv) q ev qs, .cons (a := p) r rs => by
    obtain ⟨⟨as, ra⟩, e2, s2⟩ := pairs_shw qs rs
    have hk : keyIs kv.1 e.key = true := q
    have hp : p.1 = kv.1 := r.1
    have one : Shw P w h e.key (pdKey p.1) := by
      rw [hp]
      rcases keyIs_shape hk with ⟨i, t, e1, e3⟩ | ⟨x, t, e1, e3⟩
      · rw [e1, e3]
        refine ⟨⟨_, .int i t⟩, fun hs _ => ⟨[], (fun _ z => by cases z), ?_⟩⟩
        show ReprK P w [] h 0 (.int i t) (PyData.int i).shown
        simp only [PyData.shown]
        exact .of_is (ReprIs.int t (by simpa [pdKey, PyData.showable] using hs)) _ _ _
      · rw [e1, e3]
        refine ⟨⟨_, .str x t⟩, fun _ hz => ⟨[], (fun _ z => by cases z), ?_⟩⟩
        show ReprK P w [] h 0 (.str x t) (PyData.str x).shown
        simp only [pdKey, PyData.shown] at hz ⊢
        exact .of_is (ReprIs.str x t hz) _ _ _
    have all := Shws.cons one s2
    exact ⟨all.1, by rw [List.map_cons, List.map_cons, e2, ev], all⟩
theorem kv_vals : ∀ {kvs : List (L2.Key × V)} {vs : List (L2.Key × Value)}, KV kvs vs → Vals (kvs.map (·.2)) (vs.map (·.2))
  | _, _, .nil => .nil
  | _, _, .cons r rs => .cons r.2 (kv_vals rs)
/-- a dict, its entries shown -/
theorem dic_in {a : Addr} {kvs : List (L2.Key × V)} {ds : List PyData} (hok : HOk P w H h) (e : H a = some (.dK kvs)) (hl : kvs.length = ds.length) (b : ∀ us, Vals (kvs.map (·.2)) us → Shws P w h us ds) :
    ∃ (o : Obj) (es : Array DictEntry) (ep : Nat) (as : List Addr), h.get? a = some o ∧ o.cls = .type "dict" ∧ o.data = .dict es ep ∧ (a == sysModules) = false ∧ Reads h (.ref a) (.dict ((kvs.map fun p => pdKey p.1).zip ds)) as ∧
      (PyData.showableKv ((kvs.map fun p => pdKey p.1).zip ds) = true → (dictText (PyData.shownKv ((kvs.map fun p => pdKey p.1).zip ds))).length ≤ sizeLine →
        ∃ bs, ReadAtMost h (PyData.depthKv ((kvs.map fun p => pdKey p.1).zip ds)) bs ∧ a ∉ bs ∧ ReprEntriesK P w bs h (PyData.depthKv ((kvs.map fun p => pdKey p.1).zip ds)) es.toList (PyData.shownKv ((kvs.map fun p => pdKey p.1).zip ds))) := by
  obtain ⟨-, hsy, vs, kv, o, es, ep, e1, e2, e3, -, pr, -⟩ := hok a _ e
  obtain ⟨⟨as, ra⟩, ev, sk⟩ := pairs_shw (h := h) pr kv
  have sv := b _ (kv_vals kv)
  rw [← ev] at sv
  obtain ⟨⟨cs, rc⟩, fc⟩ := sv
  have z1 : (((kvs.map fun p => pdKey p.1).zip ds).map (·.1)) = kvs.map fun p => pdKey p.1 := List.map_fst_zip (by rw [List.length_map]; omega)
  have z2 : (((kvs.map fun p => pdKey p.1).zip ds).map (·.2)) = ds := List.map_snd_zip (by rw [List.length_map]; omega)
  generalize (kvs.map fun p => pdKey p.1).zip ds = kd at *
  rw [← z1] at ra sk
  rw [← z2] at rc fc
  have r : Reads h (.ref a) (.dict kd) _ := .dict e1 e2.1 e3 ra rc
  refine ⟨o, es, ep, _, e1, e2.1, e3, hsy, r, fun hs hz => ?_⟩
  obtain ⟨s1, s2⟩ := PyData.showableKv_split kd hs
  obtain ⟨b1, m1, k1⟩ := sk.2 s1 fun t ht => let ⟨p, hp, hl⟩ := PyData.shownKv_key_le kd t ht; Nat.le_trans hl (Nat.le_trans (dictText_mem_le hp) hz)
  obtain ⟨b2, m2, k2⟩ := fc s2 fun t ht => let ⟨p, hp, hl⟩ := PyData.shownKv_val_le kd t ht; Nat.le_trans hl (Nat.le_trans (dictText_mem_le hp) hz)
  have l1 := PyData.depthAll_keys_le kd
  have l2 := PyData.depthAll_vals_le kd
  have m : ReadAtMost h (PyData.depthKv kd) (b1 ++ b2) := (m1.mono l1).append (m2.mono l2)
  refine ⟨b1 ++ b2, m, not_mem_of_deeper r (by simp only [PyData.depth]; omega) m, ?_⟩
  rw [PyData.shownKv_eq]
  exact ReprEntriesK.of_two es.toList _ _ (k1.more_le (fun _ z => List.mem_append_left _ z) l1) (k2.more_le (fun _ z => List.mem_append_right _ z) l2)
theorem shw_dic {a : Addr} {kvs : List (L2.Key × V)} {ds : List PyData} (hok : HOk P w H h) (e : H a = some (.dK kvs)) (hl : kvs.length = ds.length) (b : ∀ us, Vals (kvs.map (·.2)) us → Shws P w h us ds) :
    Shw P w h (.ref a) (.dict ((kvs.map fun p => pdKey p.1).zip ds)) := by
  obtain ⟨o, es, ep, as, e1, e2, e3, hsy, r, f⟩ := dic_in hok e hl b
  refine ⟨⟨_, r⟩, fun hs hz => ?_⟩
  simp only [PyData.showable] at hs
  simp only [PyData.shown] at hz
  obtain ⟨bs, m, na, k⟩ := f hs hz
  refine ⟨a :: bs, ReadAtMost.cons r (by simp only [PyData.depth]; omega) m, ?_⟩
  simp only [PyData.depth, PyData.shown]
  exact ReprK.dict e1 e2 e3 hsy na k
mutual
theorem Rdv.shw (hok : HOk P w H h) (KX : K.In h) : ∀ {v : V} {d : PyData} {u : Value}, Rdv K H v d → RelV v u → Shw P w h u d
  | _, _, _, .non, r => by
    cases r
    exact ⟨⟨_, .none⟩, fun _ _ => ⟨[], (fun _ z => by cases z), by simp only [PyData.shown]; exact .of_is ReprIs.none _ _ _⟩⟩
  | _, _, _, .bl b, r => by
    cases r
    exact ⟨⟨_, .bool b⟩, fun _ _ => ⟨[], (fun _ z => by cases z), by simp only [PyData.shown]; exact .of_is (ReprIs.bool b) _ _ _⟩⟩
  | _, _, _, .int i, r => by
    obtain ⟨t, rfl⟩ := r
    exact ⟨⟨_, .int i t⟩, fun hs _ => ⟨[], (fun _ z => by cases z), by simp only [PyData.shown]; exact .of_is (ReprIs.int t (by simpa [PyData.showable] using hs)) _ _ _⟩⟩
  | _, _, _, .str x, r => by
    obtain ⟨t, rfl⟩ := r
    exact ⟨⟨_, .str x t⟩, fun _ hz => ⟨[], (fun _ z => by cases z), by simp only [PyData.shown] at hz ⊢; exact .of_is (ReprIs.str x t hz) _ _ _⟩⟩
  | _, _, _, .tup q rs, r => by
    cases r
    obtain ⟨its, o, n, hv, e1, e2, e3⟩ := sqT_at hok KX q
    exact shw_tup e1 e2 e3 (Rdvs.shw hok KX rs hv)
  | _, _, _, .lst q rs, r => by
    cases r
    obtain ⟨its, o, n, hv, e1, e2, e3⟩ := sqL_at hok KX q
    exact shw_lst e1 e2 e3 (Rdvs.shw hok KX rs hv)
  | _, _, _, .dic q rs, r => by
    cases r
    exact shw_dic hok q (by have := rs.length; rw [List.length_map] at this; exact this) fun us hv => Rdvs.shw hok KX rs hv
theorem Rdvs.shw (hok : HOk P w H h) (KX : K.In h) : ∀ {vs : List V} {ds : List PyData} {us : List Value}, Rdvs K H vs ds → Vals vs us → Shws P w h us ds
  | _, _, _, .nil, r => by
    cases r
    exact .nil
  | _, _, _, .cons q qs, r => by
    cases r with
    | cons r rs => exact .cons (Rdv.shw hok KX q r) (Rdvs.shw hok KX qs rs)
end
end
/-- what repr answers to -/
def rRepr (K : PySem.W.Frag) : List V → Hp → VK → Prop := fun xs H Q => ∃ v d, xs = [v] ∧ Rdv K H v d ∧ d.showable = true ∧ d.shown.length ≤ sizeLine ∧ d.depth ≤ 60 ∧ Q (.str d.shown) H
section
variable {X : Cx}
theorem call_repr (hg : X.A.guards = some []) (hu : X.A.units + 65 < cLine) : CallR X (.builtin "repr") (rRepr X.K) := by
  intro pins s σ H xs us Q I r h
  obtain ⟨v, d, rfl, rd, hs, hz, hd, q⟩ := h
  obtain ⟨u, rfl, rv⟩ := vals1 r
  have kin := I.kIn
  have hok := I.hok
  have end_ : ∀ (h' : Heap) (t : Tok) (tk : Nat), (∀ b o, s.heap.get? b = some o → h'.get? b = some o) → EP X pins σ Q (.str d.shown t) { s with heap := h', toks := tk } := fun h' t tk k => ⟨.str _, H, I.kept k, ⟨_, rfl⟩, q⟩
  cases rd with
  | non =>
    cases rv
    simp only [PyData.shown] at q
    exact PySem.P.repr_of_none ⟨.str _, H, I.tok _, ⟨_, rfl⟩, q⟩
  | bl b =>
    cases rv
    simp only [PyData.shown] at q
    exact PySem.P.repr_of_bool ⟨.str _, H, I.tok _, ⟨_, rfl⟩, q⟩
  | int i =>
    obtain ⟨t, rfl⟩ := rv
    simp only [PyData.shown] at q
    exact PySem.P.repr_of_int (by simpa [PyData.showable] using hs) ⟨.str _, H, I.tok _, ⟨_, rfl⟩, q⟩
  | str x =>
    obtain ⟨t, rfl⟩ := rv
    simp only [PyData.shown] at q hz
    exact PySem.P.repr_of_str ⟨.str _, H, I.tok _, ⟨_, rfl⟩, q⟩ hz
  | @tup a vs ds sq rs =>
    cases rv
    obtain ⟨its, o, n, hv, e1, e2, e3⟩ := sqT_at hok kin sq
    obtain ⟨⟨as, ra⟩, f⟩ := Rdvs.shw hok kin rs hv
    simp only [PyData.showable] at hs
    simp only [PyData.shown] at hz end_
    simp only [PyData.depth] at hd
    obtain ⟨bs, m, k⟩ := f hs fun t ht => Nat.le_trans (tupleText_mem_le ht) hz
    have rr : Reads s.heap (.ref a) (.tuple ds) as := .tuple e1 e2 e3 ra
    have na : a ∉ bs := not_mem_of_deeper rr (by simp only [PyData.depth]; omega) m
    refine call_repr_slot (by omega) ⟨o, e1, e2⟩ F.slot_tuple_repr (call_tuple_reprK e1 e2 e3 na (by simpa using k) hg (fun b _ => Clear.nil b) (by show X.A.units + 1 + _ < cLine; omega) (fun _ _ z => z) (fun h' u tk hk => ⟨_, _, rfl, end_ h' u tk hk⟩) hz)
  | @lst a vs ds sq rs =>
    cases rv
    obtain ⟨its, o, n, hv, e1, e2, e3⟩ := sqL_at hok kin sq
    obtain ⟨⟨as, ra⟩, f⟩ := Rdvs.shw hok kin rs hv
    simp only [PyData.showable] at hs
    simp only [PyData.shown] at hz end_
    simp only [PyData.depth] at hd
    obtain ⟨bs, m, k⟩ := f hs fun t ht => Nat.le_trans (listText_mem_le ht) hz
    have rr : Reads s.heap (.ref a) (.list ds) (a :: as) := .list e1 e2 e3 ra
    have na : a ∉ bs := not_mem_of_deeper rr (by simp only [PyData.depth]; omega) m
    refine call_repr_slot (by omega) ⟨o, e1, e2⟩ F.slot_list_repr.toG ?_
    cases its with
    | nil =>
      cases ra
      simp only [PyData.shownAll, listText_nil] at end_
      exact call_list_repr_empty ⟨o, e1, e2⟩ e1 e3 ⟨_, _, rfl, end_ s.heap _ _ fun _ _ z => z⟩
    | cons u us => exact call_list_reprK e1 e2 e3 na (by simpa using k.length_eq) (fun i y e => k.item i y (by simpa using e)) hg (fun b _ => Clear.nil b) (by show X.A.units + 1 + _ < cLine; omega) (fun _ _ z => z) (fun h' u tk hk => ⟨_, _, rfl, end_ h' u tk hk⟩) hz
  | @dic a kvs ds e rs =>
    cases rv
    obtain ⟨o, es, ep, as, e1, e2, e3, hsy, rr, f⟩ := dic_in hok e (by have := rs.length; rw [List.length_map] at this; exact this) fun us hv => Rdvs.shw hok kin rs hv
    simp only [PyData.showable] at hs
    simp only [PyData.shown] at hz end_
    simp only [PyData.depth] at hd
    obtain ⟨bs, m, na, k⟩ := f hs hz
    exact call_repr_slot (by omega) ⟨o, e1, e2⟩ F.slot_dict_repr (call_dict_reprK e1 e2 e3 hsy na k hg (fun b _ => Clear.nil b) (by show X.A.units + 1 + _ < cLine; omega) (fun _ _ z => z) (fun h' u tk hk => ⟨_, _, rfl, end_ h' u tk hk⟩) hz)
end
end Q
/-! QD (read between QP and QM): == and != of dicts whose values are data. -/
namespace Q
open PySem PySem.Spec PyProof.Rows L2
/-- each key of the one dict looked up in the other, ls -/
inductive HitsV (K : PySem.W.Frag) (H : Hp) (ls : List (L2.Key × V)) : List (L2.Key × V) → Bool → Prop
  | nil : HitsV K H ls [] true
  | miss {k : L2.Key} {v : V} {r : List (L2.Key × V)} : valV ls k = none → HitsV K H ls ((k, v) :: r) false
  | hit {k : L2.Key} {v y : V} {r : List (L2.Key × V)} {d e : PyData} {b : Bool} : valV ls k = some y → Dp K H v d → Dp K H y e → SeqAt.shaped d = true → SeqAt.shaped e = true → HitsV K H ls r b → HitsV K H ls ((k, v) :: r) (PyData.eqv d e && b)
def rKqK (K : PySem.W.Frag) (neg : Bool) : R2 := fun x y H Q => ∃ a b ks ls r, x = .ref a ∧ y = .ref b ∧ H a = some (.dK ks) ∧ H b = some (.dK ls) ∧ (ks.length = ls.length → HitsV K H ls ks r) ∧
  Q (.bl (if neg = true then !(ks.length == ls.length && r) else (ks.length == ls.length && r))) H
section
variable {X : Cx}
theorem HitsV.keq {pins : List (Addr × Obj)} {σ : L2.St} {H : Hp} {s : Shared} (I : Inv X pins σ H s) (hu : X.A.units + 65 < cLine) {ls : List (L2.Key × V)} {vb : List (L2.Key × Value)} (rb : KV ls vb) :
    ∀ {ks : List (L2.Key × V)} {r : Bool}, HitsV X.K H ls ks r → ∀ {va : List (L2.Key × Value)}, KV ks va → PySem.W.KeqHits X.A.in1 s vb va r := by
  intro ks r hs
  induction hs with
  | nil =>
    intro va t
    cases t
    exact .nil
  | miss e =>
    intro va t
    cases t with
    | @cons _ q _ _ h t =>
    obtain ⟨k', v'⟩ := q
    have hk : _ = k' := h.1
    have rr := rb.val k'
    rw [← hk] at rr
    simp only at rr
    rw [e] at rr
    refine .miss ?_
    rw [← hk]
    simp only
    revert rr
    cases valueAt vb _ with
    | none => exact fun _ => rfl
    | some y => exact fun z => z.elim
  | @hit k v y r d e' b e d1 d2 s1 s2 hs ih =>
    intro va t
    cases t with
    | @cons _ q _ _ h t =>
    obtain ⟨k', v'⟩ := q
    have hk : k = k' := h.1
    have rr := rb.val k
    rw [e] at rr
    obtain ⟨u, hu1, ru⟩ := rr.some_of
    rw [hk] at hu1
    obtain ⟨as, r1⟩ := Dp.reads I _ _ v' d1 h.2
    obtain ⟨bs, r2⟩ := Dp.reads I _ _ u d2 ru
    refine .hit hu1 (SeqAt.eqAt_plain _ _ _ s v' u as bs r1 r2 (PyData.plain_of_canLay0 _ (SeqAt.canLay_of_shaped s1)) (PyData.plain_of_canLay0 _ (SeqAt.canLay_of_shaped s2)) ?_) (ih t)
    exact SeqAt.room_of_shaped s1 (by show X.A.units + 1 + 64 < cLine; omega)
theorem op_eqK (hu : X.A.units + 65 < cLine) : OpR X (compareOp .Eq) (rKqK X.K false) := by
  intro pins s σ H x y v u Q I rx ry h
  obtain ⟨a, b, ks, ls, r, rfl, rfl, ea, eb, hh, q⟩ := h
  cases rx
  cases ry
  obtain ⟨-, ya, va, ra, da⟩ := I.hok a _ ea
  obtain ⟨-, yb, vb, rb, db⟩ := I.hok b _ eb
  have l1 := ra.length
  have l2 := rb.length
  refine PySem.W.keq_eq (knd := mixKind X.prog X.w) (r := r) ya yb da db (by omega) (fun e => HitsV.keq I hu rb (hh (by omega)) ra) ⟨.bl _, H, I, rfl, ?_⟩
  rw [← l1, ← l2]
  exact q
theorem op_neK (hu : X.A.units + 65 < cLine) : OpR X (compareOp .NotEq) (rKqK X.K true) := by
  intro pins s σ H x y v u Q I rx ry h
  obtain ⟨a, b, ks, ls, r, rfl, rfl, ea, eb, hh, q⟩ := h
  cases rx
  cases ry
  obtain ⟨-, ya, va, ra, da⟩ := I.hok a _ ea
  obtain ⟨-, yb, vb, rb, db⟩ := I.hok b _ eb
  have l1 := ra.length
  have l2 := rb.length
  refine PySem.W.keq_ne (knd := mixKind X.prog X.w) (r := r) ya yb da db (by omega) (fun e => HitsV.keq I hu rb (hh (by omega)) ra) ⟨.bl _, H, I, rfl, ?_⟩
  rw [← l1, ← l2]
  exact q
/-- two texts, of no matter what signs -/
def rEqS (neg : Bool) : R2 := fun x y H Q => ∃ a b : Str, x = .str a ∧ y = .str b ∧ Q (.bl (if neg = true then !(a == b) else (a == b))) H
theorem op_eqS (hu : X.A.units + 65 < cLine) : OpR X (compareOp .Eq) (rEqS false) := by
  intro pins s σ H x y v u Q I rx ry h
  obtain ⟨a, b, rfl, rfl, q⟩ := h
  obtain ⟨t, rfl⟩ := rx
  obtain ⟨t', rfl⟩ := ry
  exact SeqAt.eq_plain (Reads.str a t) (Reads.str b t') rfl rfl (by simp only [PyData.depth]; omega) ⟨.bl _, H, I, rfl, q⟩
theorem op_neS (hu : X.A.units + 65 < cLine) : OpR X (compareOp .NotEq) (rEqS true) := by
  intro pins s σ H x y v u Q I rx ry h
  obtain ⟨a, b, rfl, rfl, q⟩ := h
  obtain ⟨t, rfl⟩ := rx
  obtain ⟨t', rfl⟩ := ry
  exact SeqAt.ne_plain (Reads.str a t) (Reads.str b t') rfl rfl (by simp only [PyData.depth]; omega) ⟨.bl _, H, I, rfl, q⟩
end
end Q
/-! QM (read between QR and Q1): instances are made, methods are called, whatever class the thing is of. -/
namespace Q
open PySem PySem.Spec PyProof.Rows L2
section
variable {X : Cx} {CX : CXT} {k : Nat} {f C : Addr} {fd : FuncData} {ps : List Str} {sp : Sp} {E : L2.St → XK} {x m : Str} {p pos apos : Pos} {e o : Expr} {es : List Expr} {ta : TE} {t : TA}
theorem PE.or {e : Expr} {t1 t2 : TE} (h1 : PE X e t1) (h2 : PE X e t2) : PE X e (fun σ H Q => t1 σ H Q ∨ t2 σ H Q) := ⟨fun pins s σ H Q I h => h.elim (h1.run pins s σ H Q I) (h2.run pins s σ H Q I)⟩
/-- C(..): a new instance and its dict, then __init__ -/
def tMakeS (C : Addr) (sp : Sp) (E : L2.St → XK) (t : TA) : TE := fun σ H Q => t σ H fun vs H1 => ∀ x dx, H1 x = none → H1 dx = none → dx ≠ x →
  sp (.ref x :: vs) (upd (upd H1 dx (.own x)) x (.ins C dx [])) (fun v H2 => v = .non ∧ Q (.ref x) H2) (E σ)
theorem run_makeS {pins : List (Addr × Obj)} {σ : L2.St} {H : Hp} {s : Shared} {Q : VK} {us ds : List Value} {vs dvs : List V} (M : Mk X.K C f) (F : FnOk X.prog X.w X.K X.mg X.base CX k f fd ps sp) (hr : Room (k + 1) X.A) (hb : Binds X.K fd ps ds) (hd : Vals dvs ds)
    (hx : PassesAt CX X σ (E σ)) (I : Inv X pins σ H s) (r : Vals vs us)
    (h : ∀ x dx, H x = none → H dx = none → dx ≠ x → sp (.ref x :: (vs ++ dvs)) (upd (upd H dx (.own x)) x (.ins C dx [])) (fun v H2 => v = .non ∧ Q (.ref x) H2) (E σ)) :
    wpAny (model X.prog X.w) X.A (call (.ref C) us) (EP X pins σ Q) X.xe s := by
  have hq := h (s.heap.objs.size + 1) s.heap.objs.size (I.hok.fresh (Nat.le_succ _)) (I.hok.fresh (Nat.le_refl _)) (Nat.ne_of_lt (Nat.lt_succ_self _))
  have I2 := Inv.made (C := C) I
  have r2 : Vals (V.ref (s.heap.objs.size + 1) :: (vs ++ dvs)) (Value.ref (s.heap.objs.size + 1) :: (us ++ ds)) := .cons rfl (r.append hd)
  have hl : (Value.ref (s.heap.objs.size + 1) :: us ++ ds).length = ps.length := by
    have e := r2.length
    rw [F.len _ _ _ _ hq] at e
    exact e.symm
  refine wpAny_call (make_map (f := f) I.kIn M.makes M.init (beq_iff_eq.mp M.fn) (codeAny_mono (F.run _ X.stack _ _ ⟨Value.ref (s.heap.objs.size + 1) :: us, []⟩ (Value.ref (s.heap.objs.size + 1) :: (us ++ ds)) _ _ (E σ) (hr.make C us [])
    (I2.env0.make C us []) (hb _ (Value.ref (s.heap.objs.size + 1) :: us) I2.kIn hl) r2 hq) fun r s' hq' => ?_))
  cases r with
  | error e => exact hx pins _ _ e s' I2 hq'
  | ok fl =>
    cases fl with
    | ret u =>
      obtain ⟨v, H', I3, rv, ev, q3⟩ := I2.after hq'
      subst ev
      exact ⟨rv, ⟨V.ref (s.heap.objs.size + 1), H', I3, rfl, q3⟩⟩
    | next => exact False.elim hq'
    | brk => exact False.elim hq'
    | cont => exact False.elim hq'
theorem pe_makeS (M : Mk X.K C f) (F : FnOk X.prog X.w X.K X.mg X.base CX k f fd ps sp) (hr : Room (k + 1) X.A) (hg : Gl X x) (hm : X.mg x = some (.ref C)) (hb : Binds X.K fd ps []) (hx : ∀ σ, PassesAt CX X σ (E σ))
    (ha : PA X (e :: es) t) (hdb : (x == ("__debug__" : Str)) = false := by decide) (he : starEach (e :: es) X.env = (false, eval e X.env) :: starEach es X.env := by rfl) (hpl : (backTo pos (starEach es X.env)).any (·.1) = false := by rfl) :
    PE X (.Call (.Name x p) (e :: es) [] pos) (tMakeS C sp E t) := by
  refine ⟨fun pins s σ H Q I h => ?_⟩
  refine wpAny_Call_Name_kw (ld_glob I hg hm ?_ hdb)
  refine PySem.W.callWith_K (h₀ := X.base) I.ok.mod.kin M.kp (thn (ha.run pos pins s σ H _ I h) fun us s1 ⟨vs, H1, I1, r, q⟩ => ⟨I1.kIn, ?_⟩) he hpl
  exact run_makeS (dvs := []) M F hr hb .nil (hx σ) I1 r (fun x dx a b c => by rw [List.append_nil]; exact q x dx a b c)
theorem pe_makeS0 (M : Mk X.K C f) (F : FnOk X.prog X.w X.K X.mg X.base CX k f fd ps sp) (hr : Room (k + 1) X.A) (hg : Gl X x) (hm : X.mg x = some (.ref C)) (hb : Binds X.K fd ps []) (hx : ∀ σ, PassesAt CX X σ (E σ))
    (hdb : (x == ("__debug__" : Str)) = false := by decide) : PE X (.Call (.Name x p) [] [] pos) (tMakeS C sp E tNil) := by
  refine ⟨fun pins s σ H Q I h => ?_⟩
  refine wpAny_Call_Name_kw (ld_glob I hg hm ?_ hdb)
  exact PySem.W.callWith_K0 I.kIn M.kp (run_makeS (us := []) (vs := []) (dvs := []) M F hr hb .nil (hx σ) I .nil h)
/-- a method as it may be called here -/
def MethOk (X : Cx) (CX : CXT) (C : Addr) (m : Str) (sp : Sp) : Prop := ∃ f fd ps k, Cls X.K C ∧ Meth X.K C m f ∧ FnOk X.prog X.w X.K X.mg X.base CX k f fd ps sp ∧ Room k X.A ∧ Binds X.K fd ps []
/-- o.m(..), o of any class whose method is known -/
def tMethA (X : Cx) (CX : CXT) (m : Str) (E : L2.St → XK) (ta : TE) (t : TA) : TE := fun σ H Q => ta σ H fun x H1 => ∃ a C dx fs sp, x = .ref a ∧ H1 a = some (.ins C dx fs) ∧ fs.lookup m = none ∧ MethOk X CX C m sp ∧
  t σ H1 fun vs H2 => sp (x :: vs) H2 Q (E σ)
theorem pe_methG {args : List Expr} (he : PE X o ta) (hbase : attributeBase o m X.env (eval o X.env) = eval o X.env)
    (hfew : ((backTo pos (starEach args X.env)).all (fun x => !x.1) && (backToKw pos (keywordEach [] X.env)).all (fun x => x.1.isSome)
      && decide (args.length + ([] : List Keyword).length + (if ([] : List Keyword).isEmpty then 0 else 1) < 30)) = true)
    (hline : (apos.endLine == pos.line) = true)
    (hc : ∀ (pins : List (Addr × Obj)) (s : Shared) (σ : L2.St) (H : Hp) (a f : Addr) (fd : FuncData) (ps : List Str) (k : Nat) (sp : Sp) (Q : VK), Inv X pins σ H s → PySem.W.keepIn X.K (.ref f) = true → FnOk X.prog X.w X.K X.mg X.base CX k f fd ps sp → Room k X.A → Binds X.K fd ps [] → (t σ H fun vs H2 => sp (.ref a :: vs) H2 Q (E σ)) →
      wpAny (model X.prog X.w) X.A (callWith pos (.ref f) [.ref a] (backTo pos (starEach args X.env)) (backToKw pos (keywordEach [] X.env))) (EP X pins σ Q) X.xe s) :
    PE X (.Call (.Attribute o m apos) args [] pos) (tMethA X CX m E ta t) := by
  refine ⟨fun pins s σ H Q I h => ?_⟩
  rw [arm_eval_Call, hbase]
  refine wpAny_bind (thn (he.run pins s σ H _ I h) fun u s1 ⟨x, H1, I1, rx, a, C, dx, fs, sp, ex, ea, l, ⟨f, fd, ps, k, c, hm, F, hr, hb⟩, q⟩ => ?_)
  subst ex
  obtain rfl : u = Value.ref a := rx
  refine wpAny_bind (wpAny_standAt ?_)
  have hform : methodCallForm (args.length + ([] : List Keyword).length) (backTo pos (starEach args X.env)) (backToKw pos (keywordEach [] X.env)) = true := hfew
  have hpos : methodCallPos true o X.env apos pos = pure pos := by unfold methodCallPos; simp [hline]
  unfold methodCall
  rw [hform]
  refine wpAny_bind (wpAny_holding (getmeth_ok I1 ea c hm l ?_))
  exact wpAny_bind (wpAny_of_eq hpos (hc pins s1 σ H1 a f fd ps k sp Q I1 hm.kp F hr hb q))
theorem pe_methA (he : PE X o ta) (hbase : attributeBase o m X.env (eval o X.env) = eval o X.env) (hfew : ((backTo pos (starEach (e :: es) X.env)).all (fun x => !x.1) && (backToKw pos (keywordEach [] X.env)).all (fun x => x.1.isSome)
      && decide ((e :: es).length + ([] : List Keyword).length + (if ([] : List Keyword).isEmpty then 0 else 1) < 30)) = true) (hline : (apos.endLine == pos.line) = true) (hx : ∀ σ, PassesAt CX X σ (E σ)) (ha : PA X (e :: es) t)
    (hst : starEach (e :: es) X.env = (false, eval e X.env) :: starEach es X.env) (hpl : (backTo pos (starEach es X.env)).any (·.1) = false) :
    PE X (.Call (.Attribute o m apos) (e :: es) [] pos) (tMethA X CX m E ta t) :=
  pe_methG he hbase hfew hline fun pins s σ H a f fd ps k sp Q I hk F hr hb q =>
    PySem.W.callWith_K (first := [.ref a]) (h₀ := X.base) I.ok.mod.kin hk (thn (ha.run pos pins s σ H _ I q) fun us s2 ⟨vs, H2, I2, r, q2⟩ => ⟨I2.kIn,
      run_fnSD (us := .ref a :: us) (vs := .ref a :: vs) (dvs := []) F hr hb .nil (hx σ) I2 (.cons rfl r) (by rw [List.append_nil]; exact q2)⟩) hst hpl
theorem pe_methA0 (he : PE X o ta) (hbase : attributeBase o m X.env (eval o X.env) = eval o X.env) (hline : (apos.endLine == pos.line) = true) (hx : ∀ σ, PassesAt CX X σ (E σ)) :
    PE X (.Call (.Attribute o m apos) [] [] pos) (tMethA X CX m E ta tNil) :=
  pe_methG he hbase rfl hline fun pins s σ H a f fd ps k sp Q I hk F hr hb q =>
    PySem.W.callWith_K0 (first := [.ref a]) I.kIn hk (run_fnSD (us := [.ref a]) (vs := [.ref a]) (dvs := []) F hr hb .nil (hx σ) I (.cons rfl .nil) q)
end
end Q
/-! QX: errors that leave a comprehension. -/
namespace Q
open PySem PySem.Spec PyProof.Rows L2
section ground
variable {h h' B B' : Heap} {l : List PySem.Env} {a C : Addr} {Z : Obj → Prop} {L : Addr}
theorem funs_less (k : ∀ b, B.get? b = none → B'.get? b = none) : ∀ {l : List PySem.Env}, h.FunFrames B l → h.FunFrames B' l
  | [], _ => trivial
  | _ :: _, ⟨q, ⟨L, o, e1, e2, e3⟩, r⟩ => ⟨q, ⟨L, o, e1, k L e2, e3⟩, funs_less k r⟩
theorem stays_less (k : ∀ b o, B'.get? b = some o → B.get? b = some o) (st : B.StaysIn h) : B'.StaysIn h := fun b o e => st b o (k b o e)
/-- flown in, or noted at L -/
def AirZ (B : Heap) (l : List PySem.Env) (a : Addr) (Z : Obj → Prop) (L : Addr) (h : Heap) : Prop := HandSPX.FlyingZ B l a Z h ∨ HandSPX.HeldZ B l a Z L h
theorem less_none (k : ∀ b o, B'.get? b = some o → B.get? b = some o) {b : Addr} (e : B.get? b = none) : B'.get? b = none := by
  cases q : B'.get? b with
  | none => rfl
  | some o => rw [k b o q] at e; cases e
theorem traced_less {fl : Value} (k : ∀ b o, B'.get? b = some o → B.get? b = some o) (t : HandSPX.TracedZ h B a Z fl) : HandSPX.TracedZ h B' a Z fl := by
  obtain ⟨oe, vs, T, oT, ts, q1, q2, q3, q4, q5, q6⟩ := t
  exact ⟨oe, vs, T, oT, ts, q1, q2, q3, q4, less_none k q5, q6⟩
theorem AirZ.less (k : ∀ b o, B'.get? b = some o → B.get? b = some o) (x : AirZ B l a Z L h) : AirZ B' l a Z L h := by
  rcases x with ⟨q1, q2, q3, q4⟩ | ⟨q1, q2, q3, q4⟩
  · exact .inl ⟨stays_less k q1, less_none k q2, funs_less (fun _ e => less_none k e) q3, traced_less k q4⟩
  · exact .inr ⟨stays_less k q1, less_none k q2, funs_less (fun _ e => less_none k e) q3, traced_less k q4⟩
/-- a change at C, which is no record and not of the ground -/
theorem held_but {m : Str → Option Value} (x : HandSPX.HeldZ B l a Z L h) (hC : B.get? C = none) (hn : h.Ns C m) (hl : ∀ b ∈ frs l, b ≠ C) (sb : Heap.SameBut C h h') : HandSPX.HeldZ B l a Z L h' := by
  obtain ⟨oC, es, ep, g1, g2, -⟩ := hn
  obtain ⟨q1, q2, q3, oe, vs, T, oT, ts, he, hz, hd, h1, hnT, hTe, hT, hdT, h3⟩ := x
  have na : a ≠ C := fun z => by
    rw [z, g1] at he; cases he
    rw [g2] at hd; cases hd
  have nT : T ≠ C := fun z => by
    rw [z, g1] at hT; cases hT
    rw [g2] at hdT; cases hdT
  refine ⟨fun b o e => ?_, q2, ?_, oe, vs, T, oT, ts, (sb.2 a na).trans he, hz, hd, h1, hnT, hTe, (sb.2 T nT).trans hT, hdT, h3⟩
  · have nb : b ≠ C := fun z => by rw [z, hC] at e; cases e
    exact (sb.2 b nb).trans (q1 b o e)
  · clear he hT
    induction l with
    | nil => trivial
    | cons e r ih =>
      obtain ⟨k, ⟨F, o, f1, f2, f3, f4⟩, rr⟩ := q3
      have mF : F ∈ frs (e :: r) := by
        show F ∈ (e :: r).filterMap (·.frame)
        rw [List.filterMap_cons, f1]
        exact List.mem_cons_self ..
      refine ⟨k, ⟨F, o, f1, f2, (sb.2 F (hl F mF)).trans f3, f4⟩, ih (fun b hb => hl b ?_) rr⟩
      show b ∈ (e :: r).filterMap (·.frame)
      rw [List.filterMap_cons, f1]
      exact List.mem_cons_of_mem _ hb
end ground
/-- an error over X, the slots at σ -/
def Air (X : Cx) (L : Addr) (pins : List (Addr × Obj)) (σ : L2.St) (w : XK) (u : Value) (s' : Shared) : Prop :=
  ∃ (a : Addr) (B : Heap) (sI : Shared) (H : Hp) (cls : Value) (d : Option Addr), u = .ref a ∧ Inv X pins σ H sI ∧ (∀ b o, sI.heap.get? b = some o → b ∉ frs X.stack → B.get? b = some o) ∧ sI.heap.UpToSlots s'.heap ∧
    AirZ B X.stack a (Zc cls d) L s'.heap ∧ H a = none ∧ s'.os = sI.os ∧ AllBare s'.gens ∧ w cls d H
/-- what a context takes of errors, in a def's body or in a block of it -/
structure TakesA (X : Cx) (W : WX) : Prop where
  out : ∃ (e0 : PySem.Env) (outer : List PySem.Env) (L : Addr), X.stack = e0 :: outer ∧ X.env.frame = some L ∧ e0.frame = some L ∧ ∀ pins σ u s', Air X L pins σ (fun cls d H => W cls d σ H) u s' → X.xe u s'
theorem takesA_of {X : Cx} {W : WX} (tk : Takes X W) (hs : X.stack = X.env :: X.outer) (hf : X.env.frame = some X.env.locals) : TakesA X W := by
  refine ⟨⟨X.env, X.outer, X.env.locals, hs, hf, hf, ?_⟩⟩
  rintro pins σ u s' ⟨a, B, sI, H, cls, d, e, I, nb, up, sky, na, os, ag, w⟩
  exact tk u s' ⟨a, B, sI, pins, σ, H, cls, d, e, I, nb, up, sky.elim (fun z => .inr (.inl z)) (fun z => .inr (.inr z)), na, os, ag, w⟩
theorem air_call {X : Cx} {pins : List (Addr × Obj)} {σ : L2.St} {H : Hp} {s s' : Shared} {E : XK} {u : Value} (L : Addr) (I : Inv X pins σ H s) (c : L2.CX X.prog X.w X.stack H s E u s') : ∃ pins', Air X L pins' σ E u s' := by
  have x := XE.of_call (W := fun cls d σ1 H1 => σ1 = σ ∧ E cls d H1) I (fun _ _ _ h => ⟨rfl, h⟩) c
  obtain ⟨a0, B0, H0, cls0, d0, rfl, ⟨-, -, -, oe, vs, T, oT, ts, he, -, hd, h1, -, -, hT, hdT, h3⟩, -⟩ := c
  obtain ⟨a, B, sI, pins', σ', H', cls, d, e, I', nb, up, sky, na, os, ag, rfl, w⟩ := x
  cases e
  refine ⟨pins', a0, B, sI, H', cls, d, rfl, I', nb, up, .inl ?_, na, os, ag, w⟩
  rcases sky with ⟨-, -, -, oe', vs', he', -, hd', h1'⟩ | fl | ⟨-, -, -, oe', vs', T', oT', ts', he', -, hd', h1', -, -, hT', hdT', h3'⟩
  · rw [he] at he'; cases he'
    rw [hd] at hd'; cases hd'
    rw [h1] at h1'; cases h1'
  · exact fl
  · rw [he] at he'; cases he'
    rw [hd] at hd'; cases hd'
    rw [h1] at h1'; cases h1'
    rw [hT] at hT'; cases hT'
    rw [hdT] at hdT'; cases hdT'
    rw [h3] at h3'
    cases h3'
theorem passA {X : Cx} {W : WX} (tk : TakesA X W) (σ : L2.St) : PassesAt (L2.CX X.prog X.w) X σ (WE W σ) := fun pins H s e s' I c => by
  obtain ⟨e0, outer, L, -, -, -, t⟩ := tk.out
  obtain ⟨pins', q⟩ := air_call L I c
  exact t pins' σ e s' q
/-- a comprehension's block that lets errors out -/
abbrev _root_.L2.Cx.blkA (X : Cx) (s : Shared) (H : Hp) (scope : Scope) (ce : PySem.Env) (fp : List Addr) (xb : Value → Shared → Prop) : Cx := (X.blk s H scope ce fp).tr [] xb
section block
variable {X : Cx} {pins : List (Addr × Obj)} {σ : L2.St} {H : Hp} {s : Shared} {L C : Addr} {w : XK} {u : Value}
/-- .. C, the block's own dict, not among what is kept -/
def AirC (X : Cx) (L : Addr) (pins : List (Addr × Obj)) (σ : L2.St) (C : Addr) (w : XK) (u : Value) (s' : Shared) : Prop :=
  ∃ (a : Addr) (B : Heap) (sI : Shared) (H : Hp) (cls : Value) (d : Option Addr), u = .ref a ∧ Inv X pins σ H sI ∧ (∀ b o, sI.heap.get? b = some o → b ∉ frs X.stack → B.get? b = some o) ∧ sI.heap.UpToSlots s'.heap ∧
    AirZ B X.stack a (Zc cls d) L s'.heap ∧ H a = none ∧ s'.os = sI.os ∧ AllBare s'.gens ∧ w cls d H ∧ B.get? C = none ∧ sI.heap.get? C = none ∧ (∃ m, s'.heap.Ns C m) ∧ ∀ b ∈ frs X.stack, b ≠ C
theorem air_down {scope : Scope} {ce : PySem.Env} {fp : List Addr} {xb : Value → Shared → Prop} {pins' : List (Addr × Obj)} {σ' : L2.St} {s' : Shared} (I3 : Inv X pins σ H s) (f3 : ∀ b ∈ fp, FpOk X pins H b ∧ b < s.heap.objs.size) (cL : ce.locals = s.heap.objs.size)
    (x : Air (X.blkA s H scope ce fp xb) L pins' σ' w u s') : AirC X L pins σ s.heap.objs.size w u s' := by
  obtain ⟨a, B, sI, H', cls, d, rfl, I6, nb, up, sky, na, os, ag, hw⟩ := x
  have I7 : Inv X pins σ H' sI := I3.call' (ch := fp) I6.os I6.base I6.hok I6.bare fun b hb => by
    obtain ⟨⟨-, q2, -, q4, q5, q6⟩, -⟩ := f3 b hb
    exact ⟨q4, q2, q5, q6⟩
  have nC : H' s.heap.objs.size = none := by
    have z : H' ce.locals = none := I6.free
    rw [cL] at z
    exact z
  obtain ⟨p0, p1, p2, p3, p4, p5⟩ := I3.fpOk (Nat.le_refl _) nC
  obtain ⟨G, g1, g2⟩ := restrict sI.heap fun b => decide (b ≠ s.heap.objs.size)
  obtain ⟨B', b1, b2⟩ := restrict B fun b => decide (b ≠ s.heap.objs.size)
  have gC : G.get? s.heap.objs.size = none := g2 _ (decide_eq_false (by simp))
  have gn : ∀ b o, b ≠ s.heap.objs.size → sI.heap.get? b = some o → G.get? b = some o := fun b o hb e => (g1 b (decide_eq_true hb)).trans e
  have go : ∀ b o, G.get? b = some o → b ≠ s.heap.objs.size ∧ sI.heap.get? b = some o := fun b o e => by
    have hb : b ≠ s.heap.objs.size := fun z => by rw [z, gC] at e; cases e
    exact ⟨hb, by rw [← g1 b (decide_eq_true hb)]; exact e⟩
  have I8 : Inv X pins σ H' { sI with heap := G } := I7.turned (t' := sI.toks) gn p0 p1 p3 p4 p5
  obtain ⟨m, hn, -⟩ := I6.loc
  have hn : sI.heap.Ns ce.locals m := hn
  rw [cL] at hn
  refine ⟨a, B', { sI with heap := G }, H', cls, d, rfl, I8, fun b o e hb => ?_, fun b o e hf => ?_, sky.less fun b o e => ?_, na, os, ag, hw, b2 _ (decide_eq_false (by simp)), gC, ⟨m, Heap.UpToSlots.ns up hn⟩, fun b hb z => ?_⟩
  · obtain ⟨h1, h2⟩ := go b o e
    exact (b1 b (decide_eq_true h1)).trans (nb b o h2 hb)
  · exact up b o (go b o e).2 hf
  · cases q : decide (b ≠ s.heap.objs.size) with
    | true => rw [b1 b q] at e; exact e
    | false => rw [b2 b q] at e; cases e
  · rcases List.mem_cons.mp (I3.stkSub b hb) with q | q
    · exact p1 (z.symm.trans q)
    · exact p2 (z ▸ q)
/-- what is left to be shown behind a comprehension's block -/
def postX (M : Model) (A : Around) (E : Value → Shared → Prop) (use : Option (Value → Sem Unit)) (Q : Value → Shared → Prop) (acc : Value) (C : Addr) (fr : Option Addr) (r : Result) (s' : Shared) : Prop := match r with
  | .ok f => compPost M A E use Q acc C (.ok f) s'
  | .error x => ∃ m, s'.heap.Ns C m ∧ ∀ h', Heap.SameBut C s'.heap h' → ∀ ce : PySem.Env, ce.locals = C → ce.frame = fr →
      wpAny M A (PySem.passOn "comprehension.variables-let-go" x ce : Sem Value) (fun _ _ => False) E { s' with heap := h' }
theorem air_out {e0 ce : PySem.Env} {outer : List PySem.Env} {use : Option (Value → Sem Unit)} {Qf : Value → Shared → Prop} {acc : Value} {s' : Shared} (hst : X.stack = e0 :: outer) (hfr : X.A.frames = some X.stack) (hf0 : e0.frame = some L) (hce : ce.frame = some L)
    (tA : ∀ u s', Air X L pins σ w u s' → X.xe u s') (x : AirC X L pins σ C w u s') : notedBy (model X.prog X.w) X.A ce (fun e s'' => postX (model X.prog X.w) X.A X.xe use Qf acc C (some L) (.error e) s'') u s' := by
  obtain ⟨a, B, sI, H', cls, d, rfl, I, nb, up, sky, na, os, ag, hw, bC, sC, ⟨m, hn⟩, fC⟩ := x
  rw [hst] at sky hfr
  have en : noteFrame (.ref a) ce = noteFrame (.ref a) e0 := by
    unfold noteFrame PySem.frameOf
    rw [hce, hf0]
  have fin : ∀ h1, HandSPX.HeldZ B (e0 :: outer) a (Zc cls d) L h1 → s'.heap.UpToSlots h1 → postX (model X.prog X.w) X.A X.xe use Qf acc C (some L) (.error (.ref a)) { s' with heap := h1 } := by
    intro h1 hh up1
    have hn1 : h1.Ns C m := Heap.UpToSlots.ns up1 hn
    refine ⟨m, hn1, fun h2 sb cv _ cf => ?_⟩
    have hh2 := held_but hh bC hn1 (by rw [← hst]; exact fC) sb
    obtain ⟨-, -, -, oe, vs, T, oT, ts, he, -, hd, v1, -⟩ := id hh2
    unfold PySem.passOn
    refine wpAny_bind (wpAny_field he hd v1 ?_)
    rw [if_neg (by simp)]
    rw [cf]
    refine wpAny_bind (HandSPX.setFlight_onZ hh2 fun h3 hh3 up3 => wpAny_throw (tA _ _ ⟨a, B, sI, H', cls, d, rfl, I, nb, ?_, .inr (by rw [hst]; exact hh3), na, os, ag, hw⟩))
    have u2 : sI.heap.UpToSlots h2 := fun b o e hf => by
      have nbC : b ≠ C := fun z => by rw [z, sC] at e; cases e
      obtain ⟨sl, q⟩ := (up.trans up1) b o e hf
      exact ⟨sl, (sb.2 b nbC).trans q⟩
    exact u2.trans up3
  show wpAny _ _ (noteFrame (.ref a) ce) _ _ _
  rw [en]
  rcases sky with fl | hh
  · exact HandSPX.looks_onZ Zc.steady hfr hf0 fl fin
  · exact HandSPX.againZ hf0 hh.2.2.2 (fin s'.heap hh (Heap.UpToSlots.refl _))
end block
section comp
variable {M : Model} {A : Around} {E : Value → Shared → Prop} {s : Shared} {env : PySem.Env}
theorem comp_freeX {e : Expr} {scope : Scope} {pos : Pos} {mk fst : Sem Value} {g : Comprehension} {gs : List Comprehension} {cl : List (Str × Addr)} {use : Option (Value → Sem Unit)} {Q : Value → Shared → Prop} (hcl : clausesOf e = g :: gs)
    (hs : ∀ x, foldedSetIterable g.iter env x = pure x) (hclos : closureFor scope env = pure cl) (hkind : scope.kind = .function) (hnames : ∀ y ∈ scope.names, y.2 = .local → scope.names.lookup y.1 = some .local)
    (h : wpAny M A fst (fun x z1 => wpAny M A (pyIter x) (fun it z2 => wpAny M A mk (fun acc z3 => wpAny M A (newFunctionEnv scope env.globals cl [] env.qual none .none (some env)) (fun ce z4 => ce.frame = env.frame ∧
      codeAny M A (.compStart e 0 it acc { ce with scope := relabel scope env }) (postX M A E use Q acc ce.locals env.frame) z4) E z3) E z2) E z1) E s) : wpAny M A (comprehension e scope env pos mk false fst use) Q E s := by
  unfold comprehension
  rw [hclos, hcl]
  have keep : ∀ {e : Value} {z : Shared}, E e z → E e z := fun q => q
  refine wpAny_bind (wpAny_mono h (fun x z1 q1 => ?_) fun _ _ q => q)
  refine wpAny_bind (wpAny_standAt (wpAny_bind (wpAny_of_eq (hs x) (wpAny_bind (wpAny_holding (wpAny_mono q1 (fun it z2 q2 => ?_) fun _ _ q => q))))))
  refine wpAny_standIf (wpAny_bind (wpAny_mono q2 (fun acc z3 q3 => ?_) fun _ _ q => q))
  refine wpAny_bind (wpAny_pure (wpAny_bind (wpAny_mono q3 (fun ce z4 q4 => ?_) fun _ _ q => q)))
  obtain ⟨cf, q4⟩ := q4
  dsimp only
  have loc : ∀ y ∈ (scope.names.filter fun y => (y.2 == .local || y.2 == .cell) && y.1 != (".0" : Str)).reverse, y.2 = .local → PySem.Env.kindOf { ce with scope := relabel scope env } y.1 = some .local := fun y hy hl =>
    lookup_relabel_local (hnames y (List.mem_filter.mp (List.mem_reverse.mp hy)).1 hl)
  refine wpAny_holding (wpAny_bind (wpAny_attempt (wpAny_holding (wpAny_run (codeAny_mono q4 fun r z5 hr => ?_)))))
  cases r with
  | ok f =>
    cases use with
    | none =>
      obtain ⟨m, n5, r5⟩ := hr
      refine wpAny_bind (wpAny_holding (wpAny_comp_letGo (cenv := { ce with scope := relabel scope env }) hkind _ z5 m loc n5 fun h6 m6 _ sb => ?_))
      exact wpAny_pure (r5 h6 sb)
    | some u =>
      refine wpAny_bind (wpAny_rule (wpAny_bind (wpAny_holding (wpAny_mono hr (fun _ z6 r6 => ?_) fun _ _ q => q))))
      obtain ⟨m, n6, r7⟩ := r6
      refine wpAny_bind (wpAny_comp_letGo (cenv := { ce with scope := relabel scope env }) hkind _ z6 m (fun y hy hl => ?_) n6 fun h7 m7 _ sb => wpAny_pure (r7 h7 sb))
      rcases List.mem_append.mp hy with q | q
      · exact loc y (List.mem_of_mem_drop q) hl
      · exact loc y (List.mem_of_mem_take q) hl
  | error x =>
    obtain ⟨m, n5, r5⟩ : ∃ m, z5.heap.Ns ce.locals m ∧ ∀ h', Heap.SameBut ce.locals z5.heap h' → ∀ cv : PySem.Env, cv.locals = ce.locals → cv.frame = env.frame → wpAny M A (PySem.passOn "comprehension.variables-let-go" x cv : Sem Value) (fun _ _ => False) E { z5 with heap := h' } := by
      cases use <;> exact hr
    refine wpAny_bind (wpAny_holding (wpAny_comp_letGo (cenv := { ce with scope := relabel scope env }) hkind _ z5 m loc n5 fun h6 m6 _ sb => ?_))
    exact wpAny_mono (r5 h6 sb _ rfl cf) (fun _ _ z => z.elim) fun _ _ z => z
end comp
section core
variable {X : Cx}
theorem thnM {α : Type} {t : Sem α} {P P' : α → Shared → Prop} {M : Model} {A : Around} {E : Value → Shared → Prop} {s : Shared} (h : wpAny M A t P E s) {E' : Value → Shared → Prop} (hQ : ∀ a s, P a s → P' a s) (hE : ∀ u s, E u s → E' u s) : wpAny M A t P' E' s := wpAny_mono h hQ hE
/-- what a block's parts may suppose of what it takes -/
def BlkT (X : Cx) (w : XK) (scope : Scope) (P : Cx → Prop) : Prop := ∀ (s : Shared) (H : Hp) (C : Addr) (cl : List (Str × Addr)) (fp : List Addr) (xb : Value → Shared → Prop),
  TakesA (X.blkA s H scope (compEnvC scope cl C X.env) fp xb) (fun cls d _ H => w cls d H) → P (X.blkA s H scope (compEnvC scope cl C X.env) fp xb)
theorem lcX {pins : List (Addr × Obj)} {s : Shared} {σ : L2.St} {H : Hp} {Q : VK} {elt tg iter : Expr} {ifs : List Expr} {scope : Scope} {own : List (Str × Nat)} {pos pos' : Pos} {wi : TI} {g : TG} {tt : TT} {te : TE} {use : Option (Value → Sem Unit)} {Qf : Value → Shared → Prop}
    {w : XK} {L : Addr} {e0 : PySem.Env} {outer : List PySem.Env} (hst : X.stack = e0 :: outer) (hxf : X.env.frame = some L) (hf0 : e0.frame = some L) (tA : ∀ pins u s', Air X L pins σ w u s' → X.xe u s')
    (hc : X.calm = true) (hN : X.N.Nodup) (I : Inv X pins σ H s) (hi : PI X tg iter wi) (ok : BlkOk X.N X.env.scope scope own)
    (hg : BlkT X w scope fun Y => PG Y tg g) (ht : BlkT X w scope fun Y => PTs Y ifs tt) (he : BlkT X w scope fun Y => PE Y elt te)
    (hs : ∀ x, foldedSetIterable iter X.env x = pure x) (h : tLc wi g tt te (own.map (·.2)) σ H Q)
    (hRR : ∀ D C s' m H', Inv X pins σ H' s' → Q (.ref D) H' → s'.heap.Ns C m → FpOk X pins H' C → compPost (model X.prog X.w) X.A X.xe use Qf (.ref D) C (.ok .next) s') :
    wpAny (model X.prog X.w) X.A (comprehension (.ListComp elt [⟨tg, iter, ifs, 0⟩] scope pos) scope X.env pos' (newList []) false (eval iter X.env) use) Qf X.xe s := by
  have cells : ∀ y ∈ scope.names, y.2 = .free → ∃ c, X.env.cells.lookup y.1 = some c := fun y hy e => (ok.free y hy e).elim (fun k => I.ok.has _ (.inl k)) fun k => I.ok.has _ (.inr k)
  refine comp_freeX (use := use) rfl hs (closure_ok cells) ok.kind (fun y hy e => (ok.uniq y hy).trans (congrArg some e)) (thn (hi.run pins s σ H _ I h) fun xv s1 hx => thn hx fun itv s2 h2 => ?_)
  obtain ⟨it, fp, tn, J, H2, rfl, I2, T, st2, f2, q⟩ := h2
  refine wpAny_newObj_type (newEnv_comp ⟨rfl, ?_⟩) (by show 0 ≤ sizeLine; decide)
  -- the new list at D
  have hDn : H2 s2.heap.objs.size = none := I2.hok.fresh (Nat.le_refl _)
  obtain ⟨W, ⟨m0, w0⟩, turn⟩ := q _ hDn
  obtain ⟨D, eD⟩ : ∃ D, D = s2.heap.objs.size := ⟨_, rfl⟩
  rw [← eD] at hDn w0 turn
  obtain ⟨s3, e3⟩ : ∃ s3 : Shared, s3 = { s2 with heap := s2.heap.push { cls := .type "list", data := .seq ([] : List Value).toArray } } := ⟨_, rfl⟩
  have hp3 : s3.heap = s2.heap.push { cls := .type "list", data := .seq ([] : List Value).toArray } := by rw [e3]
  have I3 : Inv X pins σ (upd H2 D (.lst [])) s3 := by
    rw [e3]
    exact I2.laid (t' := s2.toks) (fun b o e => Heap.get?_push_of_some _ e) (Nat.le_of_eq eD.symm) ⟨Nat.zero_le _, [], 0, .nil, by rw [eD]; exact Heap.get?_push_size _ rfl⟩
  have lt2 : ∀ b ∈ fp, b < s2.heap.objs.size := fun b hb => by
    obtain ⟨o, e, -⟩ := T.obj _ _ st2 b hb
    exact Heap.lt_size e
  have f3 : ∀ b ∈ fp, FpOk X pins (upd H2 D (.lst [])) b ∧ b < s3.heap.objs.size := fun b hb => by
    have l2 := lt2 b hb
    obtain ⟨z1, z2⟩ := f2 b hb
    refine ⟨⟨(upd_ne (by rw [eD]; exact Nat.ne_of_lt l2)).trans z1, z2⟩, ?_⟩
    rw [hp3, Heap.size_push]
    exact Nat.lt_succ_of_lt l2
  have st3 : tn 0 s3.heap := T.keep _ _ _ st2 fun b _ o e => by rw [hp3]; exact Heap.get?_push_of_some _ e
  have I4 := block_start I3 ok hN f3
  -- the block's own wish of errors
  obtain ⟨ce, ec⟩ : ∃ ce, ce = compEnvC scope (cellsFrom (s3.heap.objs.size + 1) scope.names (cloFrom X.env.cells scope.names [])) s3.heap.objs.size X.env := ⟨_, rfl⟩
  have cL : ce.locals = s3.heap.objs.size := by rw [ec]; rfl
  have cF : ce.frame = some L := by rw [ec]; exact hxf
  obtain ⟨xb, exb⟩ : ∃ xb, xb = AirC X L pins σ s3.heap.objs.size w := ⟨_, rfl⟩
  have tk : TakesA (X.blkA s3 (upd H2 D (.lst [])) scope ce fp xb) (fun cls d _ H => w cls d H) := ⟨⟨e0, outer, L, hst, cF, hf0, fun p' σ' u s' x => by
    show xb u s'
    rw [exb]
    exact air_down I3 f3 cL x⟩⟩
  have pg := hg s3 (upd H2 D (.lst [])) s3.heap.objs.size (cellsFrom (s3.heap.objs.size + 1) scope.names (cloFrom X.env.cells scope.names [])) fp xb (by rw [← ec]; exact tk)
  have pt := ht s3 (upd H2 D (.lst [])) s3.heap.objs.size (cellsFrom (s3.heap.objs.size + 1) scope.names (cloFrom X.env.cells scope.names [])) fp xb (by rw [← ec]; exact tk)
  have pe := he s3 (upd H2 D (.lst [])) s3.heap.objs.size (cellsFrom (s3.heap.objs.size + 1) scope.names (cloFrom X.env.cells scope.names [])) fp xb (by rw [← ec]; exact tk)
  rw [← ec] at pg pt pe I4
  show codeAny _ _ (.compStart (.ListComp elt [⟨tg, iter, ifs, 0⟩] scope pos) 0 (.ref it) (.ref s2.heap.objs.size) (compEnvC scope (cellsFrom (({ s2 with heap := s2.heap.push { cls := .type "list", data := .seq ([] : List Value).toArray } } : Shared).heap.objs.size + 1) scope.names (cloFrom X.env.cells scope.names [])) ({ s2 with heap := s2.heap.push { cls := .type "list", data := .seq ([] : List Value).toArray } } : Shared).heap.objs.size X.env)) _ _
  rw [← e3, ← ec, ← eD]
  have nfp : ∀ b ∈ fp, (upd H2 D (.lst [])) b = none := fun b hb => (f3 b hb).1.1
  obtain ⟨H3, e4⟩ : ∃ H3, H3 = upd H2 D (.lst []) := ⟨_, rfl⟩
  rw [← e4] at I3 I4 f3 nfp w0 tk pg pt pe
  obtain ⟨s4, e5⟩ : ∃ s4 : Shared, s4 = { s3 with heap := pushCells (s3.heap.push { cls := .type "dict", data := .dict #[] }) scope.names } := ⟨_, rfl⟩
  rw [← e5] at I4
  show codeAny (model X.prog X.w) X.A (.compStart (.ListComp elt [⟨tg, iter, ifs, 0⟩] scope pos) 0 (.ref it) (.ref D) ce) (postX (model X.prog X.w) X.A X.xe use Qf (.ref D) s3.heap.objs.size X.env.frame) { s3 with heap := pushCells (s3.heap.push { cls := .type "dict", data := .dict #[] }) scope.names }
  rw [← e5, hxf]
  have I4 : Inv (X.blkA s3 H3 scope ce fp xb) [] (wipe σ (own.map (·.2))) H3 s4 := I4.toTry xb
  have st4 : tn 0 s4.heap := T.keep _ _ _ st3 fun b _ o e => by rw [e5]; exact pushCells_keeps _ _ _ _ (Heap.get?_push_of_some _ e)
  have still : ∀ {σ' : L2.St} {H' : Hp} {s' : Shared}, Inv (X.blkA s3 H3 scope ce fp xb) [] σ' H' s' → (∀ b ∈ fp, H' b = none) → ∀ b ∈ fp, FpOk (X.blkA s3 H3 scope ce fp xb) [] H' b := fun {σ' H' s'} I' hn b hb =>
    ⟨hn b hb, (I'.ok.exf b hb).1, I'.ok.exfs b hb, .inl hb, fun x c e => (I'.ok.exf b hb).2 x c e, fun p hp => absurd (show p ∈ ([] : List (Addr × Obj)) ++ [] from hp) (by simp)⟩
  have air : ∀ u s', xb u s' → notedBy (model X.prog X.w) X.A ce (fun e s'' => postX (model X.prog X.w) X.A X.xe use Qf (.ref D) s3.heap.objs.size (some L) (.error e) s'') u s' := fun u s' x => by
    rw [exb] at x
    exact air_out hst I.ok.frames hf0 cF (tA pins) x
  have loop : codeAny (model X.prog X.w) X.A (.compLoop (.ListComp elt [⟨tg, iter, ifs, 0⟩] scope pos) 0 (.ref it) (.ref D) ce) (postX (model X.prog X.w) X.A X.xe use Qf (.ref D) s3.heap.objs.size (some L)) s4 := by
    refine compLoop_any (fun n s' => ∃ i H', Inv (X.blkA s3 H3 scope ce fp xb) [] (wipe σ (own.map (·.2))) H' s' ∧ tn i s'.heap ∧ (∀ b ∈ fp, H' b = none) ∧ W i n H') ?_ m0 ⟨0, H3, I4, st4, nfp, w0⟩
    rintro n s5 ⟨i, H5, I5, st5, n5, w5⟩
    rcases turn i n H5 w5 with ⟨stop, qq⟩ | ⟨go, Nx, hNx, step⟩
    · refine thnF (T.done (X.blkA s3 H3 scope ce fp xb) rfl rfl rfl hc i [] s5 _ H5 (fun _ _ => False) I5 (still I5 n5) st5 stop) fun r s6 z => ?_
      obtain ⟨rfl, I6⟩ := z
      have I7 : Inv X pins σ H5 s6 := I3.call' (ch := fp) I6.os I6.base I6.hok I6.bare fun b hb => by
        obtain ⟨⟨-, z2, -, z4, z5, z6⟩, -⟩ := f3 b hb
        exact ⟨z4, z2, z5, z6⟩
      have nC : H5 s3.heap.objs.size = none := by
        have z : H5 ce.locals = none := I6.free
        rw [cL] at z
        exact z
      obtain ⟨m, hn, -⟩ := I6.loc
      have hn : s6.heap.Ns ce.locals m := hn
      rw [cL] at hn
      exact hRR D s3.heap.objs.size s6 m H5 I7 qq hn (I3.fpOk (Nat.le_refl _) nC)
    · refine thnF (T.item (X.blkA s3 H3 scope ce fp xb) rfl rfl rfl hc i [] s5 _ H5 (fun _ _ => False) I5 (still I5 n5) st5 go) fun r s6 z => ?_
      obtain ⟨u, rfl, h6⟩ := z
      refine thnF h6 fun _ s7 z => ?_
      obtain ⟨x, H7, I7, r7, y7, st7, n7⟩ := z
      have I7' := I7.pinned (still I7 n7) (T.obj _ _ st7)
      refine thnM (pg.run _ s7 _ H7 x u _ I7' r7 (step x H7 y7)) (fun _ s8 z => ?_) air
      obtain ⟨σ8, H8, I8, hw8, q8⟩ := z
      refine thnM (pt.run _ s8 σ8 H8 _ I8 q8) (fun b s9 z => ?_) air
      obtain ⟨H9, I9, q9⟩ := z
      have fin : ∀ {s' : Shared} {H' : Hp}, Inv (X.blkA s3 H3 scope ce fp xb) ([] ++ pinsAt fp s7.heap) σ8 H' s' → Nx H' → ∃ m, m < n ∧ ∃ i H', Inv (X.blkA s3 H3 scope ce fp xb) [] (wipe σ (own.map (·.2))) H' s' ∧ tn i s'.heap ∧ (∀ b ∈ fp, H' b = none) ∧ W i m H' := fun {s' H'} I' nx => by
        obtain ⟨m', hm, w'⟩ := hNx H' nx
        have same : ∀ b ∈ fp, ∀ o, s7.heap.get? b = some o → s'.heap.get? b = some o ∧ H' b = none := fun b hb o e => by
          obtain ⟨z1, z2, -⟩ := I'.pin (b, o) (List.mem_append_right _ (List.mem_append_right _ (mem_pinsAt hb e)))
          exact ⟨z1, z2⟩
        refine ⟨m', hm, i + 1, H', (I'.unpinned (pins := [])).weak (by rw [← hw8, wipe_length]) (fun j v e => ?_), T.keep _ _ _ st7 fun b hb o e => (same b hb o e).1, fun b hb => ?_, w'⟩
        · rw [← hw8] at e
          exact (wipe_some e).1
        · obtain ⟨o, e, -⟩ := T.obj _ _ st7 b hb
          exact (same b hb o e).2
      cases b with
      | false =>
        rw [if_neg (by simp)] at q9
        rw [if_neg (by simp)]
        exact fin I9 q9
      | true =>
        rw [if_pos rfl] at q9
        rw [if_pos rfl]
        refine thnM (pe.run _ s9 σ8 H9 _ I9 q9) (fun z s10 z2 => ?_) air
        obtain ⟨yv, H10, I10, r10, acc, hD10, hz10, nx⟩ := z2
        exact app_ok (X := X.blkA s3 H3 scope ce fp xb) I10 hD10 hz10 r10 fun s11 I11 => fin I11 nx
  exact codeAny_compStart_list loop (T.self X.A 0 _ _ _ st4 loop)
def tLcX (wi : TI) (g : TG) (tt : L2.St → TT) (te : L2.St → TE) (vs : List Nat) : TE := fun σ H Q => tLc wi g (tt σ) (te σ) vs σ H Q
section
variable {W : WX} {elt tg iter : Expr} {ifs : List Expr} {scope : Scope} {own : List (Str × Nat)} {pos : Pos} {wi : TI} {g : TG} {tt : L2.St → TT} {te : L2.St → TE}
theorem pe_lcX (tk : TakesA X W) (hc : X.calm = true) (hN : X.N.Nodup) (hi : PI X tg iter wi) (ok : BlkOk X.N X.env.scope scope own) (hg : ∀ σ, BlkT X (WE W σ) scope fun Y => PG Y tg g) (ht : ∀ σ, BlkT X (WE W σ) scope fun Y => PTs Y ifs (tt σ))
    (he : ∀ σ, BlkT X (WE W σ) scope fun Y => PE Y elt (te σ)) (hs : ∀ x, foldedSetIterable iter X.env x = pure x := by intro _; rfl) : PE X (.ListComp elt [⟨tg, iter, ifs, 0⟩] scope pos) (tLcX wi g tt te (own.map (·.2))) := by
  obtain ⟨e0, outer, L, hst, hxf, hf0, t⟩ := tk.out
  refine ⟨fun pins s σ H Q I h => ?_⟩
  rw [eval_ListComp]
  refine lcX hst hxf hf0 (fun p u s' x => t p σ u s' x) hc hN I hi ok (hg σ) (ht σ) (he σ) hs h fun D C s' m H' I' q hn f => ?_
  obtain ⟨f0, f1, -, f3, f4, f5⟩ := f
  exact ⟨m, hn, fun h'' sb => ⟨.ref D, H', I'.turned (t' := s'.toks) (fun b o hb e => (sb.2 b hb).trans e) f0 f1 f3 f4 f5, rfl, q⟩⟩
theorem ps_setLcX (tk : TakesA X W) {i : Nat} {y : Str} {py spos : Pos} (hc : X.calm = true) (hN : X.N.Nodup) (hy : X.N[i]? = some y) (hyl : X.env.scope.names.lookup y = some .local)
    (hsw : swapsWith (.ListComp elt [⟨tg, iter, ifs, 0⟩] scope pos) (some (.Name y py)) spos.line X.env = pure true) (hi : PI X tg iter wi) (ok : BlkOk X.N X.env.scope scope own) (hg : ∀ σ, BlkT X (WE W σ) scope fun Y => PG Y tg g) (ht : ∀ σ, BlkT X (WE W σ) scope fun Y => PTs Y ifs (tt σ))
    (he : ∀ σ, BlkT X (WE W σ) scope fun Y => PE Y elt (te σ)) (hs : ∀ x, foldedSetIterable iter X.env x = pure x := by intro _; rfl) :
    PS X (.Assign [.Name y py] (.ListComp elt [⟨tg, iter, ifs, 0⟩] scope pos) spos) (tAsg (tLcX wi g tt te (own.map (·.2))) (gName i)) := by
  obtain ⟨e0, outer, L, hst, hxf, hf0, t⟩ := tk.out
  refine ⟨fun pins s σ H D I h => ?_⟩
  rw [exec_Assign_Name_used _ _ _ _ hsw]
  refine wpAny_bind (wpAny_standAt (wpAny_bind ?_))
  show wpAny _ X.A (do let _ ← comprehension (.ListComp elt [⟨tg, iter, ifs, 0⟩] scope pos) scope X.env (firstIterPos [⟨tg, iter, ifs, 0⟩] pos) (newList []) false (eval iter X.env) (some (assign (.Name y py) X.env))) _ _ s
  have h : tLc wi g (tt σ) (te σ) (own.map (·.2)) σ H (fun x H1 => gName i x σ H1 D.nx) := h
  refine wpAny_bind (thn (lcX (Qf := fun _ s' => SP X pins D .next s') hst hxf hf0 (fun p u s' x => t p σ u s' x) hc hN I hi ok (hg σ) (ht σ) (he σ) hs h fun A1 C s' m H' I' q hn f => ?_) fun _ s' hq => wpAny_pure (wpAny_pure hq))
  obtain ⟨f0, f1, -, f3, f4, f5⟩ := f
  show wpAny _ _ (assign (.Name y py) X.env (.ref A1)) _ _ _
  refine wpAny_assign_Name (store_ok2 (v := V.ref A1) I' hN hy (.inl hyl) rfl (fun s2 I2 z => ?_) (.inr hyl))
  obtain ⟨a, sb, ha⟩ := z
  have ne : C ≠ a := by
    rcases ha with z | z
    · rw [z]; exact f1
    · exact fun e => f4 y a z e.symm
  exact ⟨m, hn.sameBut sb ne, fun h3 sb3 => ⟨_, H', I2.turned (t' := s2.toks) (fun b o hb e => (sb3.2 b hb).trans e) f0 f1 f3 f4 f5, q⟩⟩
end
end core
end Q
/-! QZ: zip of a list with a tuple, either way round (by the kit's iterators of any kind). -/
namespace Q
open PySem PySem.Spec PyProof.Rows L2
/-- true: a list, false: a tuple -/
def sqK (b : Bool) (K : PySem.W.Frag) (H : Hp) (a : Addr) (xs : List V) : Prop := match b with
  | true => SqL K H a xs
  | false => SqT K H a xs
def iterK (b : Bool) (h : Heap) (j a : Addr) (i : Nat) : Prop := match b with
  | true => h.IsListIter j a i
  | false => h.IsTupleIter j a i
def seqK (b : Bool) (h : Heap) (a : Addr) (us : Array Value) : Prop := match b with
  | true => h.IsList a us
  | false => h.IsTuple a us
theorem sqK_seq {X : Cx} {pins : List (Addr × Obj)} {σ : L2.St} {H : Hp} {s : Shared} {b : Bool} {a : Addr} {xs : List V} (I : Inv X pins σ H s) (h : sqK b X.K H a xs) : ∃ us, Vals xs us ∧ seqK b s.heap a us.toArray := by
  cases b with
  | true =>
    obtain ⟨us, r, p, _⟩ := I.list h
    exact ⟨us, r, p.isList⟩
  | false =>
    obtain ⟨us, r, p, _⟩ := I.tuple h
    exact ⟨us, r, p⟩
theorem sqK_inj {X : Cx} {pins : List (Addr × Obj)} {σ : L2.St} {H : Hp} {s : Shared} {b : Bool} {a : Addr} {xs ys : List V} (I : Inv X pins σ H s) (h : sqK b X.K H a xs) (g : sqK b X.K H a ys) : xs = ys := by
  cases b with
  | true => exact I.list_inj h g
  | false => exact I.tuple_inj h g
theorem iterK_obj {b : Bool} {h : Heap} {j a : Addr} {i : Nat} (t : iterK b h j a i) : ∃ o, h.get? j = some o ∧ ∀ v, o.data ≠ .cell v := by
  cases b with
  | true =>
    obtain ⟨o, e, _, d⟩ := t
    exact ⟨o, e, fun v q => by rw [d] at q; cases q⟩
  | false =>
    obtain ⟨o, e, _, d⟩ := t
    exact ⟨o, e, fun v q => by rw [d] at q; cases q⟩
theorem iterK_at {b : Bool} {h h' : Heap} {j a : Addr} {i : Nat} (t : iterK b h j a i) (k : ∀ o, h.get? j = some o → h'.get? j = some o) : iterK b h' j a i := by
  cases b with
  | true => exact Heap.IsListIter.at t k
  | false => exact Heap.IsTupleIter.at t k
theorem drawsK {P : Program} {w : World} {A : Around} (hh : A.handled = none) (b : Bool) (j a : Addr) (hne : a ≠ j) (us : Array Value) :
    Draws P w A j [j, a] us.size (fun i v => us[i]? = some v) (fun i h => iterK b h j a i ∧ seqK b h a us) := by
  cases b with
  | true => exact .list hh j a hne us
  | false => exact .tuple hh j a hne us
/-- an iterator whose row is at its end -/
theorem drawsE {P : Program} {w : World} {A : Around} (hh : A.handled = none) (b : Bool) (j a : Addr) (us : Array Value) (i : Nat) (hx : us[i]? = none) :
    Draws P w A j [j, a] i (fun _ _ => True) (fun k h => k = i ∧ (iterK b h j a i ∧ seqK b h a us)) where
  live := fun k h t => by
    obtain ⟨o, e, _⟩ := iterK_obj t.2.1
    exact ⟨o, e⟩
  frame := fun k h h' t kk => ⟨t.1, iterK_at t.2.1 (fun o e => kk j (by simp) o e), by
    cases b with
    | true => exact Heap.IsList.at t.2.2 fun o e => kk a (by simp) o e
    | false => exact Heap.IsTuple.at t.2.2 fun o e => kk a (by simp) o e⟩
  item := fun k s Q E lt t _ => absurd lt (by rw [t.1]; exact Nat.lt_irrefl _)
  done := fun s Q E t hE => by
    cases b with
    | true => exact wpAny_nextOf_list_end hh t.2.1 t.2.2 hx hE
    | false => exact wpAny_nextOf_tuple_end hh t.2.1 t.2.2 hx hE
theorem sep_of {z TI TO j1 j2 a b : Addr} (D : ZipApart z TI TO j1 j2 a b) : ZipSep2 z TI TO j1 j2 [j1, a] [j2, b] where
  TIz := D.TIz
  TOz := D.TOz
  TITO := D.TITO
  TIi1 := D.TIi1
  mem1 := by simp
  zf1 := by simp [D.i1z.symm, D.l1z.symm]
  Tf1 := by simp [D.TOi1, D.l1TO.symm]
  TIi2 := D.TIi2
  mem2 := by simp
  zf2 := by simp [D.i2z.symm, D.l2z.symm]
  Tf2 := by simp [D.TOi2, D.l2TO.symm]
  sep1_2 := by simp [D.i12, D.l2i1.symm]
  sep2_1 := by simp [D.i12.symm, D.l1i2.symm]
/-- two rows side by side, each as it stands at the turn -/
def ItzK (b1 b2 : Bool) (K : PySem.W.Frag) (a b : Addr) : It where
  go := fun i H => ∃ xs ys x y, sqK b1 K H a xs ∧ sqK b2 K H b ys ∧ xs[i]? = some x ∧ ys[i]? = some y
  yld := fun i H v H' => ∃ p x y, v = V.ref p ∧ H p = none ∧ H' = upd H p (.tup [x, y]) ∧ (∀ xs, sqK b1 K H a xs → xs[i]? = some x) ∧ ∀ ys, sqK b2 K H b ys → ys[i]? = some y
  stop := fun i H => ∃ xs ys : List V, sqK b1 K H a xs ∧ sqK b2 K H b ys ∧ (xs.length ≤ i ∨ ys.length ≤ i)
theorem turn_zipK {P : Program} {w : World} {K : PySem.W.Frag} {es : List Expr} {n : Nat} {tp : Pos} {b1 b2 : Bool} {a b z TI TO j1 j2 : Addr} (D : ZipApart z TI TO j1 j2 a b) :
    Turn P w K (.Tuple es n tp) (ItzK b1 b2 K a b) [z, TI, TO, j1, j2] z (fun i h => IsZip h z TI TO .none ∧ IsPair h TI (.ref j1) (.ref j2) ∧ (∃ x y, IsPair h TO x y) ∧ iterK b1 h j1 a i ∧ iterK b2 h j2 b i) where
  mem := List.mem_cons_self ..
  obj := fun i h t c hc => by
    obtain ⟨t1, t2, ⟨x, y, t3⟩, t4, t5⟩ := t
    simp only [List.mem_cons, List.not_mem_nil, or_false] at hc
    rcases hc with rfl | rfl | rfl | rfl | rfl
    · exact ⟨_, t1, fun v => nofun⟩
    · exact ⟨_, t2, fun v => nofun⟩
    · exact ⟨_, t3, fun v => nofun⟩
    · exact iterK_obj t4
    · exact iterK_obj t5
  keep := fun i h h' t k => by
    obtain ⟨t1, t2, ⟨x, y, t3⟩, t4, t5⟩ := t
    exact ⟨k z (by simp) _ t1, k TI (by simp) _ t2, ⟨x, y, k TO (by simp) _ t3⟩, iterK_at t4 (fun o e => k j1 (by simp) o e), iterK_at t5 (fun o e => k j2 (by simp) o e)⟩
  item := by
    intro X e1 e2 e3 calm i pins s σ H E I fresh t g
    subst e1 e2 e3
    obtain ⟨t1, t2, ⟨x0, y0, t3⟩, t4, t5⟩ := t
    obtain ⟨xs, ys, x, y, g1, g2, g3, g4⟩ := g
    obtain ⟨us, r1, p1⟩ := sqK_seq I g1
    obtain ⟨vs, r2, p2⟩ := sqK_seq I g2
    obtain ⟨u, hu, ru⟩ := r1.get g3
    obtain ⟨v, hv, rv⟩ := r2.get g4
    have lz : z < s.heap.objs.size := Heap.lt_size t1
    have lu : i < us.toArray.size := by have := (List.getElem?_eq_some_iff.mp hu).1; simpa using this
    have lv : i < vs.toArray.size := by have := (List.getElem?_eq_some_iff.mp hv).1; simpa using this
    have hh : X.A.in1.handled = none := I.ok.hd calm
    refine wpAny_pyNext_zipD2_item (sep_of D) (drawsK hh b1 j1 a D.l1i1 us.toArray) (drawsK hh b2 j2 b D.l2i2 vs.toArray) t1 t2 t3 ⟨t4, p1⟩ ⟨t5, p2⟩ lu lv
      fun u' v' h1 tk pu pv q1 q2 q3 q4 q5 q6 kept => ?_
    have eu : u' = u := by
      have z1 : us[i]? = some u' := by simpa using pu
      rw [hu] at z1
      exact (Option.some.inj z1).symm
    have ev : v' = v := by
      have z1 : vs[i]? = some v' := by simpa using pv
      rw [hv] at z1
      exact (Option.some.inj z1).symm
    subst eu ev
    refine ⟨_, rfl, wpAny_letOwnedTupleGo_zip (s := { s with heap := h1, toks := tk }) q1 fun h2 z2 same => ?_⟩
    have at2 : h2.get? s.heap.objs.size = some { cls := .type "tuple", data := .seq #[u', v'] } := by
      rw [same.2 _ (Nat.ne_of_gt lz)]
      exact q5
    have isnew : ObjOk X.prog X.w (upd H s.heap.objs.size (.tup [x, y])) h2 s.heap.objs.size (.tup [x, y]) :=
      ⟨(by decide : 2 ≤ sizeLine), [u', v'], .cons ru (.cons rv .nil), ⟨_, at2, rfl, _, rfl⟩⟩
    have far : ∀ c o, c ∉ [z, TI, TO, j1, j2] → s.heap.get? c = some o → h2.get? c = some o := fun c o hc e => by
      simp only [List.mem_cons, List.not_mem_nil, or_false, not_or] at hc
      rw [same.2 _ hc.1]
      exact kept c o hc.1 hc.2.2.1 hc.2.2.2.1 hc.2.2.2.2 e
    have I2 : Inv X pins σ (upd H s.heap.objs.size (.tup [x, y])) { s with heap := h2, toks := tk } := I.turnedNew (t' := tk) far fresh (Nat.le_refl _) isnew
    refine ⟨.ref s.heap.objs.size, _, I2, rfl, ⟨_, x, y, rfl, I.hok.fresh (Nat.le_refl _), rfl, fun l hl => by rw [sqK_inj I hl g1]; exact g3, fun l hl => by rw [sqK_inj I hl g2]; exact g4⟩, ⟨z2, ?_, ⟨u', v', ?_⟩, ?_, ?_⟩, fun c hc => ?_⟩
    · show h2.get? TI = _
      rw [same.2 _ D.TIz]
      exact kept _ _ D.TIz D.TITO D.TIi1 D.TIi2 t2
    · show h2.get? TO = _
      rw [same.2 _ D.TOz]
      exact q2
    · exact iterK_at q3.1 fun o e => by rw [same.2 _ D.i1z]; exact e
    · exact iterK_at q4.1 fun o e => by rw [same.2 _ D.i2z]; exact e
    · have lt : c < s.heap.objs.size := by
        simp only [List.mem_cons, List.not_mem_nil, or_false] at hc
        rcases hc with rfl | rfl | rfl | rfl | rfl
        · exact lz
        · exact Heap.lt_size t2
        · exact Heap.lt_size t3
        · obtain ⟨_, e, _⟩ := iterK_obj t4
          exact Heap.lt_size e
        · obtain ⟨_, e, _⟩ := iterK_obj t5
          exact Heap.lt_size e
      rw [upd_ne (Nat.ne_of_lt lt)]
      exact (fresh c hc).1
  done := by
    intro X e1 e2 e3 calm i pins s σ H E I fresh t g
    subst e1 e2 e3
    obtain ⟨t1, t2, ⟨x0, y0, t3⟩, t4, t5⟩ := t
    obtain ⟨xs, ys, g1, g2, g3⟩ := g
    obtain ⟨us, r1, p1⟩ := sqK_seq I g1
    obtain ⟨vs, r2, p2⟩ := sqK_seq I g2
    have hh : X.A.in1.handled = none := I.ok.hd calm
    have far : ∀ h' tk, (∀ c o, c ≠ z → c ≠ TO → c ≠ j1 → c ≠ j2 → s.heap.get? c = some o → h'.get? c = some o) → (none : Option Value) = none ∧ Inv X pins σ H { s with heap := h', toks := tk } := fun h' tk kept =>
      ⟨rfl, I.turnedL (t' := tk) (ch := [z, TI, TO, j1, j2]) (fun c o hc e => by
        simp only [List.mem_cons, List.not_mem_nil, or_false, not_or] at hc
        exact kept c o hc.1 hc.2.2.1 hc.2.2.2.1 hc.2.2.2.2 e) fresh⟩
    have lu := r1.length
    have lv := r2.length
    by_cases c1 : xs.length ≤ i
    · have n1 : us.toArray[i]? = none := by simp; omega
      by_cases c2 : ys.length ≤ i
      · have n2 : vs.toArray[i]? = none := by simp; omega
        exact wpAny_pyNext_zipD2_end (sep_of D) (drawsE hh b1 j1 a us.toArray i n1) (drawsE hh b2 j2 b vs.toArray i n2) t1 t2 t3 ⟨rfl, t4, p1⟩ ⟨rfl, t5, p2⟩ (Nat.le_refl _) (Nat.le_refl _) (.inl rfl) far
      · exact wpAny_pyNext_zipD2_end (sep_of D) (drawsE hh b1 j1 a us.toArray i n1) (drawsK hh b2 j2 b D.l2i2 vs.toArray) t1 t2 t3 ⟨rfl, t4, p1⟩ ⟨t5, p2⟩ (Nat.le_refl _) (by simp; omega) (.inl rfl) far
    · have c2 : ys.length ≤ i := g3.resolve_left c1
      have n2 : vs.toArray[i]? = none := by simp; omega
      exact wpAny_pyNext_zipD2_end (sep_of D) (drawsK hh b1 j1 a D.l1i1 us.toArray) (drawsE hh b2 j2 b vs.toArray i n2) t1 t2 t3 ⟨t4, p1⟩ ⟨rfl, t5, p2⟩ (by simp; omega) (Nat.le_refl _) (.inr rfl) far
  self := fun A i s Q E t h => wpAny_pyIter_zip t.1 h
/-! ### zip called -/
def itObj (b : Bool) (a : Addr) : Obj := match b with
  | true => { cls := .type "list_iterator", data := .fields #[.ref a, .int 0 0] }
  | false => { cls := .type "tuple_iterator", data := .fields #[.ref a, .int 0 0] }
def hz1 (b1 : Bool) (h : Heap) (a : Addr) : Heap := h.push (itObj b1 a)
def hz2 (b1 b2 : Bool) (h : Heap) (a b : Addr) : Heap := (hz1 b1 h a).push (itObj b2 b)
def hz3 (b1 b2 : Bool) (h : Heap) (a b : Addr) : Heap := (hz2 b1 b2 h a b).push { cls := .type "tuple", data := .seq #[.ref h.objs.size, .ref (hz1 b1 h a).objs.size] }
def hz4 (b1 b2 : Bool) (h : Heap) (a b : Addr) : Heap := (hz3 b1 b2 h a b).push { cls := .type "tuple", data := .seq #[.none, .none] }
def hz5 (b1 b2 : Bool) (h : Heap) (a b : Addr) : Heap := (hz4 b1 b2 h a b).push { cls := .type "zip", data := .fields #[.none, .bool false, .bool false, .ref (hz2 b1 b2 h a b).objs.size, .ref (hz3 b1 b2 h a b).objs.size] }
theorem zip_newK (b1 b2 : Bool) (a b : Addr) (us vs : Array Value) :
    Meets (Builtin.«zip.__new__» ⟨[.type "zip", .ref a, .ref b], []⟩) (fun _ R s => seqK b1 s.heap a us ∧ seqK b2 s.heap b vs ∧ R (.ok (.ret (.ref (hz4 b1 b2 s.heap a b).objs.size))) { s with heap := hz5 b1 b2 s.heap a b }) :=
  .of_wp fun prog w A R s hyp => by
    obtain ⟨hp, gn, dr, tk, os⟩ := s
    obtain ⟨ha, hb, hR⟩ := hyp
    have sz := sub_zip
    cases b1 <;> cases b2
    · have A1 : Heap.IsTuple (Shared.heap ⟨hp, gn, dr, tk, os⟩) a us := ha
      have B1 : Heap.IsTuple (Shared.heap ⟨hp.push { cls := .type "tuple_iterator", data := .fields #[.ref a, .int 0 0] }, gn, dr, tk, os⟩) b vs := Heap.IsTuple.push hb _
      wp_walk using wpAny_pyIter_tuple A1, wpAny_pyIter_tuple B1
      exact ⟨_, rfl, hR⟩
    · have A1 : Heap.IsTuple (Shared.heap ⟨hp, gn, dr, tk, os⟩) a us := ha
      have B1 : Heap.IsList (Shared.heap ⟨hp.push { cls := .type "tuple_iterator", data := .fields #[.ref a, .int 0 0] }, gn, dr, tk, os⟩) b vs := Heap.IsList.push hb _
      wp_walk using wpAny_pyIter_tuple A1, wpAny_pyIter_list B1
      exact ⟨_, rfl, hR⟩
    · have A1 : Heap.IsList (Shared.heap ⟨hp, gn, dr, tk, os⟩) a us := ha
      have B1 : Heap.IsTuple (Shared.heap ⟨hp.push { cls := .type "list_iterator", data := .fields #[.ref a, .int 0 0] }, gn, dr, tk, os⟩) b vs := Heap.IsTuple.push hb _
      wp_walk using wpAny_pyIter_list A1, wpAny_pyIter_tuple B1
      exact ⟨_, rfl, hR⟩
    · have A1 : Heap.IsList (Shared.heap ⟨hp, gn, dr, tk, os⟩) a us := ha
      have B1 : Heap.IsList (Shared.heap ⟨hp.push { cls := .type "list_iterator", data := .fields #[.ref a, .int 0 0] }, gn, dr, tk, os⟩) b vs := Heap.IsList.push hb _
      wp_walk using wpAny_pyIter_list A1, wpAny_pyIter_list B1
      exact ⟨_, rfl, hR⟩
theorem itObj_ok (b : Bool) {h : Heap} {j a : Addr} (e : h.get? j = some (itObj b a)) : iterK b h j a 0 := by
  cases b <;> exact ⟨_, e, rfl, rfl⟩
theorem itObj_free (b : Bool) (a : Addr) : (itObj b a).isFreed = false := by cases b <;> rfl
theorem call_zipK {prog : Program} {w : World} {A : Around} {E : Value → Shared → Prop} {s : Shared} {b1 b2 : Bool} {a b : Addr} {us vs : Array Value} {Q : Value → Shared → Prop} (ha : seqK b1 s.heap a us) (hb : seqK b2 s.heap b vs)
    (h : ∀ h', IsZip h' (s.heap.objs.size + 4) (s.heap.objs.size + 2) (s.heap.objs.size + 3) .none → IsPair h' (s.heap.objs.size + 2) (.ref s.heap.objs.size) (.ref (s.heap.objs.size + 1)) → IsPair h' (s.heap.objs.size + 3) .none .none →
      iterK b1 h' s.heap.objs.size a 0 → iterK b2 h' (s.heap.objs.size + 1) b 0 → (∀ c o, s.heap.get? c = some o → h'.get? c = some o) → Q (.ref (s.heap.objs.size + 4)) { s with heap := h' }) :
    wpAny (model prog w) A (call (.type "zip") [.ref a, .ref b]) Q E s := by
  refine callType_new F.called_zip (by decide) (F.typeCall_zip_2 _ _) (F.newCall_zip_2 _ _) (fun obj => F.args_object_init_3 obj _ _) F.entry_zip_new (zip_newK b1 b2 a b us vs) ⟨ha, hb, ?_⟩
  have n1 : (hz1 b1 s.heap a).objs.size = s.heap.objs.size + 1 := Heap.size_push ..
  have n2 : (hz2 b1 b2 s.heap a b).objs.size = s.heap.objs.size + 2 := by rw [hz2, Heap.size_push, n1]
  have n3 : (hz3 b1 b2 s.heap a b).objs.size = s.heap.objs.size + 3 := by rw [hz3, Heap.size_push, n2]
  have n4 : (hz4 b1 b2 s.heap a b).objs.size = s.heap.objs.size + 4 := by rw [hz4, Heap.size_push, n3]
  have up : ∀ {h : Heap} {c : Addr} {o o' : Obj}, h.get? c = some o → (h.push o').get? c = some o := fun e => Heap.get?_push_of_some _ e
  have k5 : ∀ {c o}, (hz4 b1 b2 s.heap a b).get? c = some o → (hz5 b1 b2 s.heap a b).get? c = some o := up
  have k4 : ∀ {c o}, (hz3 b1 b2 s.heap a b).get? c = some o → (hz5 b1 b2 s.heap a b).get? c = some o := fun e => k5 (up e)
  have k3 : ∀ {c o}, (hz2 b1 b2 s.heap a b).get? c = some o → (hz5 b1 b2 s.heap a b).get? c = some o := fun e => k4 (up e)
  have k2 : ∀ {c o}, (hz1 b1 s.heap a).get? c = some o → (hz5 b1 b2 s.heap a b).get? c = some o := fun e => k3 (up e)
  have k1 : ∀ {c o}, s.heap.get? c = some o → (hz5 b1 b2 s.heap a b).get? c = some o := fun e => k2 (up e)
  have f5 : (hz5 b1 b2 s.heap a b).get? (hz4 b1 b2 s.heap a b).objs.size = some _ := Heap.get?_push_size _ rfl
  have f4 : (hz5 b1 b2 s.heap a b).get? (hz3 b1 b2 s.heap a b).objs.size = some _ := k5 (Heap.get?_push_size _ rfl)
  have f3 : (hz5 b1 b2 s.heap a b).get? (hz2 b1 b2 s.heap a b).objs.size = some _ := k4 (Heap.get?_push_size _ rfl)
  have f2 : (hz5 b1 b2 s.heap a b).get? (hz1 b1 s.heap a).objs.size = some (itObj b2 b) := k3 (Heap.get?_push_size _ (itObj_free b2 b))
  have f1 : (hz5 b1 b2 s.heap a b).get? s.heap.objs.size = some (itObj b1 a) := k2 (Heap.get?_push_size _ (itObj_free b1 a))
  rw [n2, n3, n4] at f5
  rw [n3] at f4
  rw [n1, n2] at f3
  rw [n1] at f2
  show _ ∧ _
  rw [n4]
  exact ⟨⟨_, f5, rfl⟩, h _ f5 f3 f4 (itObj_ok b1 f1) (itObj_ok b2 f2) fun c o e => k1 e⟩
def iZipK (K : PySem.W.Frag) (ta : TA) : TI := fun σ H R => ta σ H fun vs H1 => ∃ a b xs ys b1 b2, vs = [V.ref a, V.ref b] ∧ sqK b1 K H1 a xs ∧ sqK b2 K H1 b ys ∧ R (ItzK b1 b2 K a b) H1
theorem seqK_lt {b : Bool} {h : Heap} {a : Addr} {us : Array Value} (t : seqK b h a us) : a < h.objs.size := by
  cases b with
  | true => obtain ⟨_, e, _⟩ := t; exact Heap.lt_size e
  | false => obtain ⟨_, e, _⟩ := t; exact Heap.lt_size e
theorem pi_zipK {X : Cx} {e e2 : Expr} {ta : TA} {p pos tp : Pos} {es : List Expr} {n : Nat} (hg : Gl X "zip") (hm : X.mg "zip" = none) (ha : PA X [e, e2] ta)
    (hs : starEach [e, e2] X.env = (false, eval e X.env) :: starEach [e2] X.env := by rfl) (hp : (backTo pos (starEach [e2] X.env)).any (·.1) = false := by rfl) :
    PI X (.Tuple es n tp) (.Call (.Name "zip" p) [e, e2] [] pos) (iZipK X.K ta) := by
  refine ⟨fun pins s σ H R I g => Call_ (ld_blt I hg hm PyProof.Rows.boot_zip (PyProof.Rows.callWith_type1 (thn (ha.run pos pins s σ H _ I g) fun us s1 got => ?_) hs hp))⟩
  obtain ⟨vs, H1, I1, rr, a, b, xs, ys, b1, b2, rfl, g1, g2, gR⟩ := got
  cases rr with
  | cons r1 rr =>
    cases rr with
    | cons r2 rr =>
      cases rr
      cases r1
      cases r2
      obtain ⟨us1, _, p1⟩ := sqK_seq I1 g1
      obtain ⟨us2, _, p2⟩ := sqK_seq I1 g2
      refine call_zipK p1 p2 fun h' z1 z2 z3 z4 z5 kept => wpAny_pyIter_zip z1 ?_
      have I2 : Inv X pins σ H1 { s1 with heap := h' } := I1.kept (t' := s1.toks) kept
      refine ⟨s1.heap.objs.size + 4, [s1.heap.objs.size + 4, s1.heap.objs.size + 2, s1.heap.objs.size + 3, s1.heap.objs.size, s1.heap.objs.size + 1], _, _, H1, rfl, I2, turn_zipK (PySem.W.ktu_apart s1.heap.objs.size a b (seqK_lt p1) (seqK_lt p2)), ⟨z1, z2, ⟨_, _, z3⟩, z4, z5⟩, fun c hc => ?_, gR⟩
      have le : s1.heap.objs.size ≤ c := by
        simp only [List.mem_cons, List.not_mem_nil, or_false] at hc
        rcases hc with rfl | rfl | rfl | rfl | rfl <;> omega
      exact I1.fpOk le (I1.hok.fresh le)
end Q
/-! Q1: a plain interpreter of the program's own syntax, over plain data. Tuples and lists that nobody changes are values; lists that are changed, and instances, stand in a store. -/
namespace Q
open PySem L2

/-- data -/
inductive D where
  | non | bl (b : Bool) | int (i : Int) | str (x : Str) | tup (xs : List D) | lst (xs : List D) | ref (l : Nat)

def isStar' : Expr → Bool
  | .Starred .. => true
  | _ => false
/-- what stands in the store -/
inductive Ob where
  | lst (xs : List D) | ins (C : Str) (fs : List (Str × D)) | dic (kvs : List (L2.Key × D)) | dead

abbrev Store := List Ob
abbrev Env := List (Option D)

inductive Out (α : Type) where
  | ok (a : α) (S : Store) | exc (c : Str) (S : Store) | bad
def Out.bind {α β : Type} (r : Out α) (f : α → Store → Out β) : Out β := match r with
  | .ok a S => f a S
  | .exc c S => .exc c S
  | .bad => .bad
def ofO {α : Type} (S : Store) : Option α → Out α
  | some a => .ok a S
  | none => .bad
/-- what an operation of values gives, with the store behind it -/
def ofP {α : Type} : Option (α × Store) → Out α
  | some (a, S) => .ok a S
  | none => .bad

inductive Fl where
  | nx (σ : Env) (S : Store) | rt (d : D) (S : Store) | bk (σ : Env) (S : Store) | ct (σ : Env) (S : Store) | exc (c : Str) (σ : Env) (S : Store) | bad
def Fl.seq (r : Fl) (f : Env → Store → Fl) : Fl := match r with
  | .nx σ S => f σ S
  | r => r
/-- an expression's value, in a statement -/
def Out.use {α : Type} (r : Out α) (σ : Env) (f : α → Store → Fl) : Fl := match r with
  | .ok a S => f a S
  | .exc c S => .exc c σ S
  | .bad => .bad

abbrev Fn := List D → Store → Out D
structure Cfg where
  funs : Str → Option Fn
  vars : Str → Option D
  free : Str → Bool
  mutl : Pos → Bool
  flds : Str → List Str := fun _ => []
  meths : Str → List (Str × Fn) := fun _ => []
  mks : Str → Option Fn := fun _ => none
  excs : Str → Bool := fun _ => false
  hot : Option (Nat × Str) := none
  kits : Str → Str → Option Bool := fun _ _ => none
  mutb : Pos → Bool := fun _ => false
  dks : Str → Option (List Str) := fun _ => none
/-- where an error is held: no calls, no loops -/
def Cfg.hotC (c : Cfg) (i : Nat) (x : Str) : Cfg := { c with funs := fun _ => none, meths := fun _ => [], mks := fun _ => none, excs := fun _ => false, free := fun f => c.free f && (f == "isinstance" || f == "int"), hot := some (i, x) }
def Cfg.calm (c : Cfg) : Bool := c.hot.isNone
def Cfg.hotAt (c : Cfg) (i : Nat) : Bool := match c.hot with
  | some (j, _) => i == j
  | none => false

/-! ### operations -/
def seqL (S : Store) : D → Option (List D)
  | .lst xs => some xs
  | .ref l => (match S[l]? with
    | some (.lst xs) => some xs
    | _ => none)
  | _ => none
def seqT : D → Option (List D)
  | .tup xs => some xs
  | _ => none
def seqO (S : Store) (d : D) : Option (List D) := match d with
  | .tup xs => some xs
  | d => seqL S d
/-- a dict's key -/
def keyD : D → Option L2.Key
  | .int i => some (.inl i)
  | .str x => some (.inr x)
  | _ => none
def valG {α : Type} (kvs : List (L2.Key × α)) (k : L2.Key) : Option α := (kvs.find? fun kv => decide (kv.1 = k)).map (·.2)
def putG {α : Type} (kvs : List (L2.Key × α)) (k : L2.Key) (v : α) : List (L2.Key × α) :=
  if (kvs.any fun kv => decide (kv.1 = k)) = true then kvs.map (fun kv => if kv.1 = k then (kv.1, v) else kv) else kvs ++ [(k, v)]
def mergeG {α : Type} (kvs more : List (L2.Key × α)) : List (L2.Key × α) := more.foldl (fun acc kv => putG acc kv.1 kv.2) kvs
def dicOf (S : Store) : D → Option (List (L2.Key × D))
  | .ref l => (match S[l]? with
    | some (.dic kvs) => some kvs
    | _ => none)
  | _ => none
def truth (S : Store) : D → Option Bool
  | .non => some false
  | .bl b => some b
  | .int i => some (i != 0)
  | .str x => if x.length ≤ 16777216 then some ((x.length : Int) != 0) else none
  | d => (match seqO S d with
    | some xs => some (!xs.isEmpty)
    | none => none)
def arith (op : Operator) (i j : Int) : Option Int := match op with
  | .Add => some (i + j)
  | .Sub => some (i - j)
  | .Mult => if i.natAbs.log2 + j.natAbs.log2 < 1000000 then some (i * j) else none
  | .FloorDiv => if 0 < j ∧ j.natAbs.log2 < 9000 then some (i / j) else none
  | .Mod => if 0 < j then some (i % j) else none
  | .Pow => if 0 ≤ j ∧ j ≤ 1000000 ∧ i.natAbs < 2 ^ 64 then some (i ^ j.toNat) else none
  | .LShift => if 0 ≤ j ∧ (Builtin.Int.intBits i : Int) + j ≤ 2 ^ 27 then some (i * 2 ^ j.toNat) else none
  | .RShift => if 0 ≤ j then some (i / 2 ^ j.toNat) else none
  | .BitAnd => some (Builtin.bitAnd i j)
  | _ => none
def catD (S : Store) (op : Operator) (x y : D) : Option D := match op with
  | .Add => (match seqL S x, seqL S y with
    | some xs, some ys => if xs.length ≤ 16777216 ∧ ys.length ≤ 16777216 ∧ xs.length + ys.length ≤ 16777216 then some (.lst (xs ++ ys)) else none
    | _, _ => none)
  | .Mult => (match seqL S x, y with
    | some xs, .int k => if -1000000 ≤ k ∧ k ≤ 1000000 ∧ xs.length * k.toNat ≤ 1000000 then some (.lst (List.replicate k.toNat xs).flatten) else none
    | _, _ => none)
  | _ => none
def binD (S : Store) (op : Operator) (x y : D) : Option D := match x, y with
  | .int i, .int j => (arith op i j).map D.int
  | .str a, .int k => (match op with
    | .Mult => if -1000000 ≤ k ∧ k ≤ 1000000 ∧ a.length * k.toNat ≤ 1000000 then some (.str (timesS a k)) else none
    | _ => none)
  | .tup xs, .int k => (match op with
    | .Mult => if -1000000 ≤ k ∧ k ≤ 1000000 ∧ xs.length * k.toNat ≤ 1000000 then some (.tup (List.replicate k.toNat xs).flatten) else none
    | _ => none)
  | .str a, .str b => (match op with
    | .Add => if a.length + b.length ≤ 16777216 then some (.str (a ++ b)) else none
    | _ => none)
  | .tup xs, .tup ys => (match op with
    | .Add => if xs.length + ys.length ≤ 16777216 then some (.tup (xs ++ ys)) else none
    | _ => none)
  | x, y => catD S op x y
mutual
def toPy : D → Option PyData
  | .non => some .none
  | .bl b => some (.bool b)
  | .int i => some (.int i)
  | .str x => some (.str x)
  | .tup xs => (match toPys xs with
    | some ys => some (.tuple ys)
    | none => none)
  | .lst xs => (match toPys xs with
    | some ys => some (.list ys)
    | none => none)
  | .ref _ => none
def toPys : List D → Option (List PyData)
  | [] => some []
  | x :: xs => (match toPy x, toPys xs with
    | some y, some ys => some (y :: ys)
    | _, _ => none)
end
/-- lists of the store that stand in a thing, looked up -/
def res : Nat → Store → D → D
  | 0, _, d => d
  | n + 1, S, .ref l => (match S[l]? with
    | some (.lst xs) => .lst (xs.map (res n S))
    | _ => .ref l)
  | n + 1, S, .tup xs => .tup (xs.map (res n S))
  | n + 1, S, .lst xs => .lst (xs.map (res n S))
  | _ + 1, _, d => d
def toPyS (S : Store) (d : D) : Option PyData := toPy (res 8 S d)
/-- each key of the one dict looked up in the other -/
def hitsD (S : Store) (ls : List (L2.Key × D)) : List (L2.Key × D) → Option Bool
  | [] => some true
  | kx :: r => (match valG ls kx.1 with
    | none => some false
    | some y => (match toPyS S kx.2 with
      | none => none
      | some a => (match toPyS S y with
        | none => none
        | some b => if SeqAt.shaped a = true ∧ SeqAt.shaped b = true then (match hitsD S ls r with
          | some t => some (PyData.eqv a b && t)
          | none => none) else none)))
def dicEqD (S : Store) (x y : D) : Option Bool := match dicOf S x with
  | none => none
  | some ks => (match dicOf S y with
    | none => none
    | some ls => if ks.length = ls.length then hitsD S ls ks else some false)
def strEqD (x y : D) : Option Bool := match x with
  | .str a => (match y with
    | .str b => some (a == b)
    | _ => none)
  | _ => none
def eqD (S : Store) (x y : D) : Option Bool := match toPyS S x, toPyS S y with
  | some a, some b => if SeqAt.shaped a = true ∧ SeqAt.shaped b = true then some (PyData.eqv a b) else strEqD x y
  | _, _ => (match seqL S x, seqL S y with
    | some xs, some ys => if xs.length = ys.length then none else some false
    | _, _ => dicEqD S x y)
def inSeq (S : Store) (x y : D) : Option Bool := match toPyS S x, toPyS S y with
  | some a, some (.list bs) => if SeqAt.shaped a = true ∧ SeqAt.shaped (.list bs) = true then some (bs.any fun z => PyData.eqv z a) else none
  | some a, some (.tuple bs) => if SeqAt.shaped a = true ∧ SeqAt.shaped (.tuple bs) = true then some (bs.any fun z => PyData.eqv z a) else none
  | _, _ => none
def inObj (S : Store) (x y : D) : Option Bool := match dicOf S y with
  | some kvs => (match keyD x with
    | some k => some (valG kvs k).isSome
    | none => none)
  | none => inSeq S x y
def inD (S : Store) (x y : D) : Option Bool := match x, y with
  | .str a, .str b => some (!(Builtin.Str.occurrences b a 0 b.length 1).isEmpty)
  | x, y => inObj S x y
def cmpI (op : CmpOp) (i j : Int) : Option Bool := match op with
  | .Lt => some (decide (i < j))
  | .LtE => some (decide (i ≤ j))
  | .Gt => some (decide (j < i))
  | .GtE => some (decide (j ≤ i))
  | _ => none
def cmpS (op : CmpOp) (i j : Str) : Option Bool := match op with
  | .Lt => some (decide (i.cps.toList < j.cps.toList))
  | .Gt => some (decide (j.cps.toList < i.cps.toList))
  | _ => none
def isD (x y : D) : Option Bool := match x, y with
  | .bl a, .bl b => some (decide (a = b))
  | .non, .non => some true
  | _, .non => some false
  | _, _ => none
def cmpD (S : Store) (op : CmpOp) (x y : D) : Option Bool := match op with
  | .Eq => eqD S x y
  | .NotEq => (eqD S x y).map (! ·)
  | .Is => isD x y
  | .IsNot => (isD x y).map (! ·)
  | .In => inD S x y
  | .NotIn => (inD S x y).map (! ·)
  | op => (match x, y with
    | .int i, .int j => cmpI op i j
    | .str i, .str j => cmpS op i j
    | _, _ => none)
/-- the place of an index -/
def ixS (S : Store) (x i : D) : Option D := match i with
  | .int k => (match x with
    | .str z => if z.length ≤ 16777216 then (match L2.atI z.cps.toList k with
      | some c => some (.str ⟨#[c]⟩)
      | none => none) else none
    | x => (match seqO S x with
      | some xs => L2.atI xs k
      | none => none))
  | _ => none
def ixD (S : Store) (x i : D) : Option D := match dicOf S x with
  | some kvs => (match keyD i with
    | some k => valG kvs k
    | none => none)
  | none => ixS S x i
def cut {α : Type} (xs : List α) (lo hi : Option Int) : List α := (xs.drop (HT.sIx xs.length 0 lo)).take (HT.sIx xs.length xs.length hi - HT.sIx xs.length 0 lo)
def slD (S : Store) (x : D) (lo hi : Option Int) : Option D := match x with
  | .str z => if z.length ≤ 16777216 then some (.str (Txt.slice z lo hi)) else none
  | .tup xs => some (.tup (cut xs lo hi))
  | x => (match seqL S x with
    | some xs => some (.lst (cut xs lo hi))
    | none => none)
def revD (S : Store) (x : D) : Option D := match seqL S x with
  | some xs => some (.lst xs.reverse)
  | none => (match seqT x with
    | some xs => some (.tup xs.reverse)
    | none => none)
def isTy (S : Store) (x : D) (t : Str) : Option Bool := match x with
  | .non => some false
  | .bl _ => some (t == "bool" || t == "int")
  | .int _ => some (t == "int")
  | .str _ => some (t == "str")
  | .tup _ => some (t == "tuple")
  | .lst _ => some (t == "list")
  | .ref l => (match S[l]? with
    | some (.lst _) => some (t == "list")
    | some (.dic _) => some (t == "dict")
    | _ => none)
def tyOk (t : Str) : Bool := t == "int" || t == "bool" || t == "str" || t == "tuple" || t == "list" || t == "dict"
def lenD (S : Store) (x : D) : Option D := match x with
  | .str z => if z.length ≤ 16777216 then some (.int z.length) else none
  | x => (match seqO S x with
    | some xs => some (.int xs.length)
    | none => none)
def blsOf : List D → Option (List Bool)
  | [] => some []
  | .bl b :: xs => (match blsOf xs with
    | some bs => some (b :: bs)
    | none => none)
  | _ => none
def intsOf : List D → Option (List Int)
  | [] => some []
  | .int b :: xs => (match intsOf xs with
    | some bs => some (b :: bs)
    | none => none)
  | _ => none
def strsOf : List D → Option (List Str)
  | [] => some []
  | .str b :: xs => (match strsOf xs with
    | some bs => some (b :: bs)
    | none => none)
  | _ => none
/-- the built-ins' ids, types and rules, by name -/
inductive Blt where
  | len | int | list | tuple | all | abs | min | max | str | any | sum | repr
def bltOf (f : Str) : Option Blt :=
  if f == "len" then some .len else if f == "int" then some .int else if f == "list" then some .list else if f == "tuple" then some .tuple else if f == "all" then some .all else if f == "abs" then some .abs
  else if f == "min" then some .min else if f == "max" then some .max else if f == "str" then some .str else if f == "any" then some .any else if f == "sum" then some .sum else if f == "repr" then some .repr else none
/-- a built-in called by its name -/
def intD : D → Option D
  | .int i => some (.int i)
  | .bl b => some (.int (if b then 1 else 0))
  | .str x => (match PySem.intText? x with
    | some n => if x.length ≤ 640 then some (.int n) else none
    | none => none)
  | _ => none
def absD : D → Option D
  | .int i => some (.int (if i < 0 then -i else i))
  | _ => none
def listD (S : Store) (x : D) : Option D := match x with
  | .str z => if z.length ≤ 16777216 then some (.lst (z.cps.toList.map fun c => .str ⟨#[c]⟩)) else none
  | x => (match seqO S x with
    | some ys => some (.lst ys)
    | none => none)
def tupleD (S : Store) (x : D) : Option D := match seqO S x with
  | some ys => some (.tup ys)
  | none => none
def allD (S : Store) (x : D) : Option D := match seqL S x with
  | some ys => (match blsOf ys with
    | some bs => some (.bl (bs.all id))
    | none => none)
  | none => none
def anyD (S : Store) (x : D) : Option D := match seqL S x with
  | some ys => (match blsOf ys with
    | some bs => some (.bl (bs.any id))
    | none => none)
  | none => none
def sumD (S : Store) (x : D) : Option D := match seqL S x with
  | some ys => (match intsOf ys with
    | some bs => some (.int bs.sum)
    | none => none)
  | none => none
def minD : D → D → Option D
  | .int i, .int j => some (.int (if j < i then j else i))
  | _, _ => none
def maxD : D → D → Option D
  | .int i, .int j => some (.int (if j > i then j else i))
  | _, _ => none
def strD : D → Option D
  | .int i => if i.natAbs.log2 < 1920 then some (.str (toString i)) else none
  | .str x => some (.str x)
  | _ => none
/-- a thing as data, lists of the store looked into so deep -/
def optAll {α : Type} : List (Option α) → Option (List α)
  | [] => some []
  | some x :: xs => (match optAll xs with
    | some ys => some (x :: ys)
    | none => none)
  | none :: _ => none
def pdMap (f : List PyData → PyData) : Option (List PyData) → Option PyData
  | some ds => some (f ds)
  | none => none
def pdD (S : Store) : Nat → D → Option PyData
  | 0, _ => none
  | n + 1, d => (match d with
    | .non => some .none
    | .bl b => some (.bool b)
    | .int i => some (.int i)
    | .str x => some (.str x)
    | .tup ds => pdMap .tuple (optAll (ds.map (pdD S n)))
    | .lst ds => pdMap .list (optAll (ds.map (pdD S n)))
    | .ref l => (match S[l]? with
      | some (.lst ds) => pdMap .list (optAll (ds.map (pdD S n)))
      | some (.dic kvs) => pdMap (fun ds => .dict ((kvs.map fun p => pdKey p.1).zip ds)) (optAll ((kvs.map (·.2)).map (pdD S n)))
      | _ => none))
def reprD (S : Store) (x : D) : Option D := match pdD S 60 x with
  | some p => if p.showable = true ∧ p.shown.length ≤ 1000000 then some (.str p.shown) else none
  | none => none
def Blt.sem1 (S : Store) (b : Blt) (x : D) : Option D := match b with
  | .len => lenD S x
  | .int => intD x
  | .list => listD S x
  | .tuple => tupleD S x
  | .all => allD S x
  | .abs => absD x
  | .str => strD x
  | .any => anyD S x
  | .sum => sumD S x
  | .repr => reprD S x
  | _ => none
def Blt.sem2 (b : Blt) (x y : D) : Option D := match b with
  | .min => minD x y
  | .max => maxD x y
  | _ => none
def Blt.sem (S : Store) (b : Blt) (xs : List D) : Option D := match xs with
  | [x] => b.sem1 S x
  | [x, y] => b.sem2 x y
  | _ => none
/-- len(set(x)) of texts -/
def lenSetD (S : Store) (x : D) : Option D := match seqO S x with
  | some ys => (match strsOf ys with
    | some zs => if zs.length ≤ 1000 then some (.int (onceS [] zs).length) else none
    | none => none)
  | none => none
def lenSet? : List Expr → Option (Expr × Str)
  | [.Call (.Name f _) [a] [] _] => if f == "set" && !isStar' a then some (a, f) else none
  | _ => none
/-- pairs of keys and values -/
def pairsD : List D → Option (List (L2.Key × D))
  | [] => some []
  | .tup [k, v] :: xs => (match keyD k, pairsD xs with
    | some k, some r => some ((k, v) :: r)
    | _, _ => none)
  | _ => none
/-- dict(x) -/
def dictD (S : Store) (x : D) : Option (D × Store) := match dicOf S x with
  | some kvs => some (.ref S.length, S ++ [.dic kvs])
  | none => (match seqL S x with
    | some xs => (match pairsD xs with
      | some kvs => some (.ref S.length, S ++ [.dic (mergeG [] kvs)])
      | none => none)
    | none => none)
/-- methods of built-in types -/
inductive MId where
  | bitLength | append | split | join | index | pop | insert | clear | upper | partition | get | count | countL
/-- the method of a name, by what the thing is -/
def mIdD (S : Store) (x : D) (m : Str) : Option MId := match x with
  | .int _ => if m == "bit_length" then some .bitLength else none
  | .str _ => if m == "split" then some .split else if m == "join" then some .join else if m == "upper" then some .upper else if m == "partition" then some .partition else if m == "count" then some .count else none
  | x => (match seqL S x with
    | some _ => if m == "append" then some .append else if m == "index" then some .index else if m == "pop" then some .pop else if m == "insert" then some .insert else if m == "clear" then some .clear else if m == "count" then some .countL else none
    | none => (match dicOf S x with
      | some _ => if m == "get" then some .get else none
      | none => none))
/-- the first place of an equal item -/
def firstD (a : PyData) : Nat → List PyData → Option Nat
  | _, [] => none
  | i, z :: zs => if PyData.eqv z a = true then some i else firstD a (i + 1) zs
/-- called: the value, the store behind -/
def mthD (S : Store) (m : MId) (x : D) (xs : List D) : Option (D × Store) := match m with
  | .bitLength => (match x, xs with
    | .int i, [] => some (.int (Builtin.Int.intBits i : Nat), S)
    | _, _ => none)
  | .append => (match x, xs with
    | .ref l, [y] => (match S[l]? with
      | some (.lst ys) => if ys.length < 16777216 then some (.non, S.set l (.lst (ys ++ [y]))) else none
      | _ => none)
    | _, _ => none)
  | .split => (match x, xs with
    | .str a, [.str b] => if (b.length == 0) = false ∧ a.length + 2 ≤ 16777216 then some (.lst ((Txt.split a b).map D.str), S) else none
    | _, _ => none)
  | .join => (match x, xs with
    | .str a, [y] => (match seqO S y with
      | some ys => (match strsOf ys with
        | some zs => if (zs.map (·.length)).sum + zs.length * a.length ≤ 16777216 then some (.str (Txt.join a zs), S) else none
        | none => none)
      | none => none)
    | _, _ => none)
  | .upper => (match x, xs with
    | .str a, [] => if a.length ≤ 5592405 then some (.str (Txt.upper a), S) else none
    | _, _ => none)
  | .partition => (match x, xs with
    | .str a, [.str b] => if (b.length == 0) = false ∧ a.length ≤ 16777216 then some (.tup [.str (Txt.partition a b).1, .str (Txt.partition a b).2.1, .str (Txt.partition a b).2.2], S) else none
    | _, _ => none)
  | .count => (match x, xs with
    | .str a, [.str b] => some (.int (Txt.count a b), S)
    | _, _ => none)
  | .index => (match toPyS S x, xs with
    | some (.list ds), [y] => (match toPyS S y with
      | some a => if SeqAt.shaped (.list ds) = true ∧ SeqAt.shaped a = true then (match firstD a 0 ds with
        | some j => some (.int (j : Nat), S)
        | none => none) else none
      | none => none)
    | _, _ => none)
  | .countL => (match toPyS S x, xs with
    | some (.list ds), [y] => (match toPyS S y with
      | some a => if SeqAt.shaped (.list ds) = true ∧ SeqAt.shaped a = true then some (.int (ds.countP fun z => PyData.eqv z a), S) else none
      | none => none)
    | _, _ => none)
  | .pop => (match x, xs with
    | .ref l, [] => (match S[l]? with
      | some (.lst ys) => (match ys[ys.length - 1]? with
        | some y => some (y, S.set l (.lst ys.dropLast))
        | none => none)
      | _ => none)
    | .ref l, [.int i] => (match S[l]? with
      | some (.lst ys) => if 0 ≤ i ∧ i < ys.length ∧ i < 2 ^ 62 then (match ys[i.toNat]? with
        | some y => some (y, S.set l (.lst (ys.eraseIdx i.toNat)))
        | none => none) else none
      | _ => none)
    | _, _ => none)
  | .insert => (match x, xs with
    | .ref l, [.int i, y] => (match S[l]? with
      | some (.lst ys) => if ys.length < 16777216 ∧ 0 ≤ i ∧ i < 2 ^ 62 then some (.non, S.set l (.lst (ys.take i.toNat ++ [y] ++ ys.drop i.toNat))) else none
      | _ => none)
    | _, _ => none)
  | .clear => (match x, xs with
    | .ref l, [] => (match S[l]? with
      | some (.lst _) => some (.non, S.set l (.lst []))
      | _ => none)
    | _, _ => none)
  | .get => (match dicOf S x, xs with
    | some kvs, [y] => (match keyD y with
      | some k => some ((valG kvs k).getD .non, S)
      | none => none)
    | some kvs, [y, z] => (match keyD y with
      | some k => some ((valG kvs k).getD z, S)
      | none => none)
    | _, _ => none)
def setL (S : Store) (o i v : D) : Option Store := match o, i with
  | .ref l, .int k => (match S[l]? with
    | some (.lst xs) => (match L2.ixN xs.length k with
      | some j => some (S.set l (.lst (xs.set j v)))
      | none => none)
    | _ => none)
  | _, _ => none
def setD (S : Store) (o i v : D) : Option Store := match o, dicOf S o, keyD i with
  | .ref l, some kvs, some k => if kvs.length < 16777216 then some (S.set l (.dic (putG kvs k v))) else none
  | o, _, _ => setL S o i v

/-! ### instances -/
def insOf (S : Store) : D → Option (Str × List (Str × D))
  | .ref l => (match S[l]? with
    | some (.ins C fs) => some (C, fs)
    | _ => none)
  | _ => none
def putFD (f : Str) (d : D) : List (Str × D) → List (Str × D)
  | [] => [(f, d)]
  | (g, x) :: r => if g = f then (g, d) :: r else (g, x) :: putFD f d r
/-- x.f; cs: the classes of which it may be asked -/
def fldD (cs : List Str) (S : Store) (x : D) (f : Str) : Option D := match insOf S x with
  | some (C, fs) => if cs.contains C then fs.lookup f else none
  | none => none
/-- x.f = v -/
def fldS (cs : List Str) (S : Store) (x v : D) (f : Str) : Option Store := match x with
  | .ref l => (match insOf S (.ref l) with
    | some (C, fs) => if cs.contains C && decide (fs.length < 1000) then some (S.set l (.ins C (putFD f v fs))) else none
    | none => none)
  | _ => none
/-- the def behind x.m -/
def methD (ts : List (Str × Fn)) (S : Store) (x : D) (m : Str) : Option Fn := match insOf S x with
  | some (C, fs) => if (fs.lookup m).isNone then ts.lookup C else none
  | none => none
/-- C(..) by its __init__ -/
def makeD (C : Str) (φ : Fn) (xs : List D) (S : Store) : Out D := match φ (.ref S.length :: xs) (S ++ [.ins C []]) with
  | .ok .non S' => .ok (.ref S.length) S'
  | .exc e S' => .exc e S'
  | _ => .bad

/-! ### names -/
inductive Nm where
  | slot (i : Nat) | glob | no
def Nm.isGlob : Nm → Bool
  | .glob => true
  | _ => false
/-- isinstance(a, T) -/
def isArgs : List Expr → Option (Expr × Str)
  | [a, .Name t _] => some (a, t)
  | _ => none
def nmOf (sc : Scope) (N : List Str) (x : Str) : Nm := match sc.names.lookup x with
  | some .local | some .cell | some .free => (match N.idxOf? x with
    | some i => .slot i
    | none => .no)
  | some .globalImplicit => .glob
  | _ => .no
/-- a name that is stored -/
def stOf (sc : Scope) (N : List Str) (x : Str) : Option Nat := match sc.names.lookup x with
  | some .local | some .cell => N.idxOf? x
  | _ => none
def plainName (x : Str) : Bool := !(x == ("__debug__" : Str)) && !(x == ("__classdict__" : Str)) && !(x == ("__name__" : Str))
/-- isinstance of the error that is held -/
def kitAll (c : Cfg) (N : List Str) (sc : Scope) (x : Str) : List Expr → Option Bool
  | [] => some false
  | .Name t _ :: es => if (nmOf sc N t).isGlob && plainName t then (match c.kits x t, kitAll c N sc x es with
    | some b, some r => some (b || r)
    | _, _ => none) else none
  | _ => none
def Nm.at_ (i : Nat) : Nm → Bool
  | .slot j => i == j
  | _ => false
def hotIs (c : Cfg) (N : List Str) (sc : Scope) : List Expr → Option Bool
  | [.Name e _, .Name t p] => (match c.hot with
    | some (i, x) => if (nmOf sc N e).at_ i && plainName e then kitAll c N sc x [.Name t p] else none
    | none => none)
  | [.Name e _, .Tuple es _ _] => (match c.hot with
    | some (i, x) => if (nmOf sc N e).at_ i && plainName e && decide (es.length ≤ 20) then kitAll c N sc x es else none
    | none => none)
  | _ => none
def litD : Const → Option D
  | .none => some .non
  | .bool b => some (.bl b)
  | .int i => some (.int i)
  | .str x => some (.str x)
  | _ => none
def isStar : Expr → Bool
  | .Starred .. => true
  | _ => false
/-- o.m(..) with nothing odd about o -/
def okBase : Expr → Bool
  | .Call (.Name _ _) [] [] _ => false
  | _ => true
def isTup : Expr → Bool
  | .Tuple .. => true
  | _ => false
def isSet : Expr → Bool
  | .Set .. => true
  | _ => false
def isSlice : Expr → Bool
  | .Slice .. => true
  | _ => false

/-- what is walked: the items, and which list must stay as it is meanwhile -/
structure Items where
  xs : List D
  at_ : Option Nat
  enum : Bool := false
def wrapI (e : Bool) (i : Nat) (d : D) : D := if e then .tup [.int (i : Nat), d] else d
/-- the item at a turn -/
def Items.get (it : Items) (S : Store) (i : Nat) : Option (Option D) := match it.at_ with
  | none => some (it.xs[i]?.map (wrapI it.enum i))
  | some l => (match S[l]? with
    | some (.lst xs) => some (xs[i]?.map (wrapI it.enum i))
    | _ => none)
def itersD (S : Store) (d : D) : Option Items := match d with
  | .tup xs => some ⟨xs, none, false⟩
  | .lst xs => some ⟨xs, none, false⟩
  | .str z => some ⟨z.cps.toList.map fun c => .str ⟨#[c]⟩, none, false⟩
  | .ref l => (match S[l]? with
    | some (.lst xs) => some ⟨xs, some l, false⟩
    | _ => none)
  | _ => none
/-- enumerate -/
def enumD (S : Store) (d : D) : Option Items := match d with
  | .lst xs => some ⟨xs, none, true⟩
  | .ref l => (match S[l]? with
    | some (.lst xs) => some ⟨xs, some l, true⟩
    | _ => none)
  | _ => none
def pairUp : List D → List D → List D
  | x :: xs, y :: ys => .tup [x, y] :: pairUp xs ys
  | _, _ => []
/-- zip -/
def zipD (x y : D) : Option Items := match x, y with
  | .lst xs, .lst ys => some ⟨pairUp xs ys, none, false⟩
  | .tup xs, .tup ys => some ⟨pairUp xs ys, none, false⟩
  | .lst xs, .tup ys => some ⟨pairUp xs ys, none, false⟩
  | .tup xs, .lst ys => some ⟨pairUp xs ys, none, false⟩
  | _, _ => none
def rangeD (lo hi : Int) : Items := ⟨(List.range (hi - lo).toNat).map fun (k : Nat) => .int (lo + k), none, false⟩
def small62 (i : Int) : Bool := decide (-(2 ^ 62) ≤ i) && decide (i < 2 ^ 62)

/-- the turns of a comprehension, from item i on -/
def compF (it : Items) (f : D → Store → Out (Option D)) : Nat → Nat → List D → Store → Out (List D)
  | 0, _, _, _ => .bad
  | m + 1, i, acc, S => match it.get S i with
    | none => .bad
    | some none => .ok acc S
    | some (some x) => (match f x S with
      | .ok (some y) S1 => if acc.length < 16777216 then compF it f m (i + 1) (acc ++ [y]) S1 else .bad
      | .ok none S1 => compF it f m (i + 1) acc S1
      | .exc c S1 => .exc c S1
      | .bad => .bad)
def loopMost : Nat := 100000
/-- a new list: a value, or in the store -/
def newL (c : Cfg) (pos : Pos) (xs : List D) (S : Store) : Out D :=
  if c.mutl pos then .ok (.ref S.length) (S ++ [.lst xs]) else .ok (.lst xs) S

/-- an operator's list, list(x): a value, or in the store -/
def biF (c : Cfg) (pos : Pos) (op : Operator) (x y : D) (S : Store) : Out D :=
  if c.mutb pos then (match catD S op x y with
    | some (.lst xs) => .ok (.ref S.length) (S ++ [.lst xs])
    | _ => .bad) else ofO S (binD S op x y)
def blF (c : Cfg) (pos : Pos) (b : Blt) (xs : List D) (S : Store) : Out D :=
  if c.mutb pos then (match b, xs with
    | .list, [x] => (match listD S x with
      | some (.lst ys) => .ok (.ref S.length) (S ++ [.lst ys])
      | _ => .bad)
    | _, _ => .bad) else ofO S (b.sem S xs)
/-- a method's new list into the store -/
def mtM (S : Store) (i : MId) (x : D) (xs : List D) : Out D := match i, mthD S i x xs with
  | .split, some (.lst ys, S') => .ok (.ref S'.length) (S' ++ [.lst ys])
  | _, _ => .bad
def mtF (c : Cfg) (pos : Pos) (i : MId) (x : D) (xs : List D) (S : Store) : Out D := if c.mutb pos then mtM S i x xs else ofP (mthD S i x xs)
/-- word in NAME, a dict of the top -/
def dkOf (c : Cfg) (N : List Str) (sc : Scope) : CmpOp → Expr → Option (List Str)
  | .In, .Name g _ => if plainName g && (nmOf sc N g).isGlob then c.dks g else none
  | _, _ => none
def dkIn (ks : List Str) (x : D) (S : Store) : Out D := match x with
  | .str z => .ok (.bl (ks.contains z)) S
  | _ => .bad
/-- a slice: a value, or in the store -/
def slF (c : Cfg) (pos : Pos) (S : Store) (x : D) (lo hi : Option Int) : Out D :=
  if c.mutl pos then (match slD S x lo hi with
    | some (.lst xs) => .ok (.ref S.length) (S ++ [.lst xs])
    | _ => .bad) else ofO S (slD S x lo hi)
/-- {x} -/
def fmtD : D → Option D
  | .int i => if i.natAbs.log2 < 1920 then some (.str (toString i)) else none
  | .str x => if x.length ≤ 16777216 then some (.str x) else none
  | _ => none
/-- the parts of f'..' one behind another -/
def joinF : List (Env → Store → Out D) → Str → Env → Store → Out D
  | [], acc, _, S => .ok (.str acc) S
  | f :: fs, acc, σ, S => (f σ S).bind fun x S1 => (match x with
    | .str y => if (acc ++ y).length ≤ 16777216 then joinF fs (acc ++ y) σ S1 else .bad
    | _ => .bad)

def wipeE (σ : Env) : List Nat → Env
  | [] => σ
  | i :: is => (wipeE σ is).set i none
/-- the names of a target: one name, or a tuple of names -/
def tgEach : List Expr → Option (List Str)
  | [] => some []
  | .Name x _ :: es => (match tgEach es with
    | some xs => some (x :: xs)
    | none => none)
  | _ => none
def tgNames : Expr → Option (List Str)
  | .Name x _ => some [x]
  | .Tuple es _ _ => tgEach es
  | _ => none
def slotsOf (sc : Scope) (N : List Str) : List Str → Option (List Nat)
  | [] => some []
  | x :: xs => (match stOf sc N x, slotsOf sc N xs with
    | some i, some is => some (i :: is)
    | _, _ => none)
/-- one name or a tuple of names gets an item -/
def setAll (σ : Env) : List Nat → List D → Env
  | i :: is, d :: ds => setAll (σ.set i (some d)) is ds
  | _, _ => σ
def seqU : D → Option (List D)
  | .tup xs => some xs
  | .lst xs => some xs
  | _ => none
/-- a tuple of names gets a tuple, or a list -/
def bT (is : List Nat) : Env → D → Option Env := fun σ d => match seqU d with
  | some ds => if ds.length = is.length then some (setAll σ is ds) else none
  | none => none
def bindTg (tg : Expr) (sc : Scope) (N : List Str) (σ : Env) (d : D) : Option Env := match tg with
  | .Name x _ => (match stOf sc N x with
    | some i => some (σ.set i (some d))
    | none => none)
  | .Tuple es _ _ => (match tgEach es with
    | some xs => (match slotsOf sc N xs with
      | some is => bT is σ d
      | none => none)
    | none => none)
  | _ => none

/-- one of two defs in a list display, by its place -/
def selF : D → Out D → Out D → Out D
  | .int k, a, b => if k = 0 then a else if k = 1 then b else .bad
  | _, _, _ => .bad
mutual
def ev (c : Cfg) (N : List Str) : Nat → Scope → Expr → Env → Store → Out D
  | 0, _, _, _, _ => .bad
  | n + 1, sc, e, σ, S => match e with
    | .Constant k _ _ => ofO S (litD k)
    | .Name x _ => if plainName x then (match nmOf sc N x with
      | .slot i => (match σ[i]? with
        | some (some d) => .ok d S
        | _ => .bad)
      | .glob => ofO S (c.vars x)
      | .no => .bad) else .bad
    | .BinOp a op b pos => (ev c N n sc a σ S).bind fun x S1 => (ev c N n sc b σ S1).bind fun y S2 => biF c pos op x y S2
    | .UnaryOp .Not a _ => (ev c N n sc a σ S).bind fun x S1 => ofO S1 ((truth S1 x).map fun b => .bl (!b))
    | .UnaryOp .USub a _ => (ev c N n sc a σ S).bind fun x S1 => (match x with
      | .int i => .ok (.int (-i)) S1
      | _ => .bad)
    | .BoolOp op es _ => evB c N n sc op es σ S
    | .Compare a [op] [b] _ => if isSet b then .bad else (match dkOf c N sc op b with
      | some ks => (ev c N n sc a σ S).bind fun x S1 => dkIn ks x S1
      | none => (ev c N n sc a σ S).bind fun x S1 => (ev c N n sc b σ S1).bind fun y S2 => ofO S2 ((cmpD S2 op x y).map D.bl))
    | .Compare a [op, op'] [b, b'] _ => if isSet b || isSet b' then .bad else (ev c N n sc a σ S).bind fun x S1 => (ev c N n sc b σ S1).bind fun y S2 => (match cmpD S2 op x y with
      | some true => (ev c N n sc b' σ S2).bind fun z S3 => ofO S3 ((cmpD S3 op' y z).map D.bl)
      | some false => .ok (.bl false) S2
      | none => .bad)
    | .IfExp t a b _ => (evT c N n sc t σ S).bind fun k S1 => if k = true then ev c N n sc a σ S1 else ev c N n sc b σ S1
    | .List es pos => (evA c N n sc es σ S).bind fun xs S1 => if xs.length ≤ 16777216 then newL c pos xs S1 else .bad
    | .Dict [] [] _ => .ok (.ref S.length) (S ++ [.dic []])
    | .Dict ks vs _ => if ks.all (·.isSome) = true ∧ ks.length = vs.length ∧ ks.length ≤ 15 then (evD c N n sc ks vs σ S).bind fun kvs S1 => .ok (.ref S1.length) (S1 ++ [.dic (mergeG [] kvs)]) else .bad
    | .Tuple es _ _ => (evA c N n sc es σ S).bind fun xs S1 => if xs.length ≤ 16777216 then .ok (.tup xs) S1 else .bad
    | .Subscript a (.Slice lo hi none _) pos => (ev c N n sc a σ S).bind fun x S1 => (evP c N n sc lo σ S1).bind fun l S2 => (evP c N n sc hi σ S2).bind fun h S3 => slF c pos S3 x l h
    | .FormattedValue a (-1) none _ => (ev c N n sc a σ S).bind fun x S1 => ofO S1 (fmtD x)
    | .JoinedStr es _ => if 2 ≤ es.length then joinF (es.map fun e => ev c N n sc e) Str.empty σ S else .bad
    | .Subscript a (.Slice none none (some (.UnaryOp .USub (.Constant (.int 1) _ _) _)) _) _ => (ev c N n sc a σ S).bind fun x S1 => ofO S1 (revD S1 x)
    | .Subscript a i _ => if isSlice i then .bad else (ev c N n sc a σ S).bind fun x S1 => (ev c N n sc i σ S1).bind fun y S2 => ofO S2 (ixD S2 x y)
    | .Call (.Name f _) args [] pos => if plainName f && !args.any isStar then (match nmOf sc N f with
      | .glob => (match c.funs f with
        | some φ => (evA c N n sc args σ S).bind fun xs S1 => φ xs S1
        | none => (match c.mks f with
        | some φ => (evA c N n sc args σ S).bind fun xs S1 => makeD f φ xs S1
        | none => if c.free f then (if f == "isinstance" then (match hotIs c N sc args with
            | some b => .ok (.bl b) S
            | none => (match isArgs args with
              | some (a, t) => if (nmOf sc N t).isGlob && (c.free t && tyOk t && plainName t) then (ev c N n sc a σ S).bind fun x S1 => ofO S1 ((isTy S1 x t).map D.bl) else .bad
              | none => .bad))
          else if f == "dict" then (evA c N n sc args σ S).bind fun xs S1 => (match xs with
            | [x] => ofP (dictD S1 x)
            | _ => .bad)
          else (match (if f == "len" then lenSet? args else none) with
            | some (a, g) => if c.free g && (nmOf sc N g).isGlob then (ev c N n sc a σ S).bind fun x S1 => ofO S1 (lenSetD S1 x) else .bad
            | none => (match bltOf f with
              | some b => (evA c N n sc args σ S).bind fun xs S1 => blF c pos b xs S1
              | none => .bad)))
          else .bad))
      | _ => .bad) else .bad
    | .Call (.Attribute o m apos) args [] cpos => if apos.endLine == cpos.line && (okBase o && (!args.any isStar && decide (args.length < 20))) then (ev c N n sc o σ S).bind fun x S1 => (match mIdD S1 x m with
      | some i => (evA c N n sc args σ S1).bind fun xs S2 => mtF c cpos i x xs S2
      | none => (match methD (c.meths m) S1 x m with
        | some φ => (evA c N n sc args σ S1).bind fun xs S2 => φ (x :: xs) S2
        | none => .bad)) else .bad
    | .Call (.Subscript (.List [.Name f _, .Name g _] _) i _) (a :: as) [] _ => if (plainName f && plainName g) && ((!(a :: as).any isStar && !isSlice i) && ((nmOf sc N f).isGlob && (nmOf sc N g).isGlob)) then (match c.funs f with
      | some φ => (match c.funs g with
        | some ψ => (ev c N n sc i σ S).bind fun y S1 => selF y ((evA c N n sc (a :: as) σ S1).bind fun xs S2 => φ xs S2) ((evA c N n sc (a :: as) σ S1).bind fun xs S2 => ψ xs S2)
        | none => .bad)
      | none => .bad) else .bad
    | .Attribute o f _ => if okBase o then (ev c N n sc o σ S).bind fun x S1 => ofO S1 (fldD (c.flds f) S1 x f) else .bad
    | .ListComp elt [⟨tg, iter, ifs, 0⟩] scope pos => (match tgNames tg with
      | some xs => (match slotsOf scope N xs with
        | some is => if !c.calm || (isSet iter || (!L2.blkC N sc scope (xs.zip is) || decide (2 ≤ ifs.length))) then .bad else (evI c N n (isTup tg) sc iter σ S).bind fun it S1 => (compF it (fun d S2 => match bindTg tg scope N (wipeE σ is) d with
            | some σ2 => (match ifs with
              | [] => (ev c N n scope elt σ2 S2).bind fun y S3 => .ok (some y) S3
              | [t] => (evT c N n scope t σ2 S2).bind fun k S3 => if k = true then (ev c N n scope elt σ2 S3).bind fun y S4 => .ok (some y) S4 else .ok none S3
              | _ => .bad)
            | none => .bad) loopMost 0 [] S1).bind fun ys S2 => newL c pos ys S2
        | none => .bad)
      | none => .bad)
    | _ => .bad
def evB (c : Cfg) (N : List Str) : Nat → Scope → BoolOp → List Expr → Env → Store → Out D
  | 0, _, _, _, _, _ => .bad
  | n + 1, sc, op, es, σ, S => match es with
    | [] => .bad
    | [a] => ev c N n sc a σ S
    | a :: b :: rest => (ev c N n sc a σ S).bind fun x S1 => (match truth S1 x with
      | some k => (match op with
        | .And => if k = true then evB c N n sc op (b :: rest) σ S1 else .ok x S1
        | .Or => if k = true then .ok x S1 else evB c N n sc op (b :: rest) σ S1)
      | none => .bad)
def evT (c : Cfg) (N : List Str) : Nat → Scope → Expr → Env → Store → Out Bool
  | 0, _, _, _, _ => .bad
  | n + 1, sc, e, σ, S => match e with
    | .UnaryOp .Not a _ => (evT c N n sc a σ S).bind fun k S1 => .ok (!k) S1
    | .BoolOp op es _ => evTs c N n sc op es σ S
    | .IfExp .. => .bad
    | .Compare .. => (ev c N n sc e σ S).bind fun x S1 => (match x with
      | .bl k => .ok k S1
      | _ => .bad)
    | e => (ev c N n sc e σ S).bind fun x S1 => ofO S1 (truth S1 x)
def evTs (c : Cfg) (N : List Str) : Nat → Scope → BoolOp → List Expr → Env → Store → Out Bool
  | 0, _, _, _, _, _ => .bad
  | n + 1, sc, op, es, σ, S => match es with
    | [] => .bad
    | [a] => evT c N n sc a σ S
    | a :: b :: rest => (evT c N n sc a σ S).bind fun k S1 => (match op with
      | .And => if k = true then evTs c N n sc op (b :: rest) σ S1 else .ok false S1
      | .Or => if k = true then .ok true S1 else evTs c N n sc op (b :: rest) σ S1)
def evA (c : Cfg) (N : List Str) : Nat → Scope → List Expr → Env → Store → Out (List D)
  | 0, _, _, _, _ => .bad
  | n + 1, sc, es, σ, S => match es with
    | [] => .ok [] S
    | a :: rest => if isStar a then .bad else (ev c N n sc a σ S).bind fun x S1 => (evA c N n sc rest σ S1).bind fun xs S2 => .ok (x :: xs) S2
def evD (c : Cfg) (N : List Str) : Nat → Scope → List (Option Expr) → List Expr → Env → Store → Out (List (L2.Key × D))
  | 0, _, _, _, _, _ => .bad
  | n + 1, sc, ks, vs, σ, S => match ks, vs with
    | [], [] => .ok [] S
    | some k :: ks, v :: vs => (ev c N n sc k σ S).bind fun x S1 => (ev c N n sc v σ S1).bind fun y S2 => (evD c N n sc ks vs σ S2).bind fun r S3 => (match keyD x with
      | some k => .ok ((k, y) :: r) S3
      | none => .bad)
    | _, _ => .bad
def evP (c : Cfg) (N : List Str) : Nat → Scope → Option Expr → Env → Store → Out (Option Int)
  | 0, _, _, _, _ => .bad
  | n + 1, sc, e, σ, S => match e with
    | none => .ok none S
    | some a => (ev c N n sc a σ S).bind fun x S1 => (match x with
      | .int i => .ok (some i) S1
      | _ => .bad)
def evI (c : Cfg) (N : List Str) : Nat → Bool → Scope → Expr → Env → Store → Out Items
  | 0, _, _, _, _, _ => .bad
  | n + 1, tp, sc, e, σ, S => match e with
    | .Call (.Name f _) [a] [] _ => if f == "range" && c.free f && (match nmOf sc N f with | .glob => true | _ => false) then
        (if isStar a then .bad else (ev c N n sc a σ S).bind fun x S1 => (match x with
          | .int j => if small62 j then .ok (rangeD 0 j) S1 else .bad
          | _ => .bad))
      else if tp && (f == "enumerate" && c.free f && (match nmOf sc N f with | .glob => true | _ => false)) then
        (if isStar a then .bad else (ev c N n sc a σ S).bind fun x S1 => ofO S1 (enumD S1 x))
      else (ev c N n sc e σ S).bind fun x S1 => ofO S1 (itersD S1 x)
    | .Call (.Name f _) [a, b] [] _ => if f == "range" && c.free f && (match nmOf sc N f with | .glob => true | _ => false) then
        (if isStar a || isStar b then .bad else (ev c N n sc a σ S).bind fun x S1 => (ev c N n sc b σ S1).bind fun y S2 => (match x, y with
          | .int i, .int j => if small62 i && small62 j then .ok (rangeD i j) S2 else .bad
          | _, _ => .bad))
      else if tp && (f == "zip" && c.free f && (match nmOf sc N f with | .glob => true | _ => false)) then
        (if isStar a || isStar b then .bad else (ev c N n sc a σ S).bind fun x S1 => (ev c N n sc b σ S1).bind fun y S2 => ofO S2 (zipD x y))
      else (ev c N n sc e σ S).bind fun x S1 => ofO S1 (itersD S1 x)
    | e => (ev c N n sc e σ S).bind fun x S1 => ofO S1 (itersD S1 x)
end

/-- what may be given to a name by =, as we serve it -/
def okSet (sc : Scope) (x : Str) (p : Pos) : Expr → Bool
  | .ListComp _ _ scope pos => decide (sc.names.lookup x = some .cell) || decide (sc.names.lookup x = some .local) && (p.line == pos.line && !(scope.names.any fun (n, k) => n == x && (k == .local || k == .cell)))
  | .SetComp .. => false
  | .DictComp .. => false
  | _ => true
/-- the turns of a for: at each turn the item is looked up anew -/
def forF (it : Items) (f : D → Env → Store → Fl) : Nat → Nat → Env → Store → Fl
  | 0, _, _, _ => .bad
  | m + 1, i, σ, S => match it.get S i with
    | none => .bad
    | some none => .nx σ S
    | some (some d) => (match f d σ S with
      | .nx σ1 S1 => forF it f m (i + 1) σ1 S1
      | .ct σ1 S1 => forF it f m (i + 1) σ1 S1
      | .bk σ1 S1 => .nx σ1 S1
      | r => r)
def whileF (t : Env → Store → Out Bool) (f : Env → Store → Fl) : Nat → Env → Store → Fl
  | 0, _, _ => .bad
  | m + 1, σ, S => (t σ S).use σ fun k S1 => if k = true then (match f σ S1 with
      | .nx σ1 S2 => whileF t f m σ1 S2
      | .ct σ1 S2 => whileF t f m σ1 S2
      | .bk σ1 S2 => .nx σ1 S2
      | r => r) else .nx σ S1

/-- one of several targets -/
def asg1 (c : Cfg) (N : List Str) (n : Nat) (sc : Scope) (tg : Expr) (d : D) (σ : Env) (S : Store) : Fl := match tg with
  | .Name x _ => (match stOf sc N x with
    | some i => if c.hotAt i then .bad else .nx (σ.set i (some d)) S
    | none => .bad)
  | .Attribute o f _ => (ev c N n sc o σ S).use σ fun x S2 => (match fldS (c.flds f) S2 x d f with
    | some S3 => .nx σ S3
    | none => .bad)
  | .Subscript o i _ => if isSlice i then .bad else (ev c N n sc o σ S).use σ fun x S2 => (ev c N n sc i σ S2).use σ fun y S3 => (match setD S3 x y d with
    | some S4 => .nx σ S4
    | none => .bad)
  | _ => .bad
def runT : List (D → Env → Store → Fl) → List D → Env → Store → Fl
  | [], [], σ, S => .nx σ S
  | g :: gs, d :: ds, σ, S => (g d σ S).seq (runT gs ds)
  | _, _, _, _ => .bad
def asgs (c : Cfg) (N : List Str) (n : Nat) (sc : Scope) (es : List Expr) : List D → Env → Store → Fl := runT (es.map (asg1 c N n sc))
def isNm : Expr → Bool
  | .Name .. => true
  | _ => false
def okTg : Expr → Bool
  | .Name .. => true
  | .Attribute .. => true
  | .Subscript .. => true
  | _ => false
def mixT (es : List Expr) : Bool := es.all okTg && !es.all isNm
def locS (sc : Scope) (x : Str) : Bool := match sc.names.lookup x with
  | some .local => true
  | _ => false
/-- a, b = x, y : the names are stored from the right, no pair is made -/
def parC (sc : Scope) : List Expr → List Expr → Bool
  | [.Name x px, .Name y py], [a, b] => (locS sc x && (locS sc y && (py.line == px.line && !(x == y)))) && (!isStar a && (!isStar b && (!(foldedForSure 8 a && foldedForSure 8 b) && !(constantsAlone 8 a && constantsAlone 8 b))))
  | [.Name x px, .Name y py, .Name z pz], [a, b, d] => (locS sc x && (locS sc y && (locS sc z && (py.line == px.line && (pz.line == px.line && (!(x == y) && (!(x == z) && !(y == z)))))))) &&
      (!isStar a && (!isStar b && (!isStar d && (!(foldedForSure 8 a && (foldedForSure 8 b && foldedForSure 8 d)) && !(constantsAlone 8 a && (constantsAlone 8 b && constantsAlone 8 d))))))
  | _, _ => false
def parV (sc : Scope) (es : List Expr) : Expr → Option (List Expr)
  | .Tuple vs _ _ => if parC sc es vs then some vs else none
  | _ => none
/-- the slot of an except clause's name -/
def heldAt (sc : Scope) (N : List Str) : Option Str → Option Nat
  | none => some N.length
  | some nm => if sc.names.lookup nm = some .local then N.idxOf? nm else none
/-- a suite's end: the error is let go -/
def hotEnd (i : Nat) : Fl → Fl
  | .nx σ S => .nx (σ.set i none) S
  | .bk σ S => .bk (σ.set i none) S
  | .ct σ S => .ct (σ.set i none) S
  | .rt d S => .rt d S
  | _ => .bad
mutual
def ex (c : Cfg) (N : List Str) (sc : Scope) : Nat → Stmt → Env → Store → Fl
  | 0, _, _, _ => .bad
  | n + 1, st, σ, S => match st with
    | .Pass _ => .nx σ S
    | .Break _ => .bk σ S
    | .Continue _ => .ct σ S
    | .Return none _ => .rt .non S
    | .Return (some e) _ => (ev c N n sc e σ S).use σ fun x S1 => .rt x S1
    | .Expr e _ => (match e with
      | .Call .. => (ev c N n sc e σ S).use σ fun _ S1 => .nx σ S1
      | _ => .bad)
    | .If t a b _ => (evT c N n sc t σ S).use σ fun k S1 => if k = true then exs c N sc n a σ S1 else exs c N sc n b σ S1
    | .Assign [.Name x p] e _ => if okSet sc x p e then (match stOf sc N x with
      | some i => if c.hotAt i then .bad else (ev c N n sc e σ S).use σ fun d S1 => .nx (σ.set i (some d)) S1
      | none => .bad) else .bad
    | .Assign [.Subscript o i _] e _ => if isSlice i then .bad else (ev c N n sc e σ S).use σ fun d S1 => (ev c N n sc o σ S1).use σ fun x S2 => (ev c N n sc i σ S2).use σ fun y S3 => (match setD S3 x y d with
      | some S4 => .nx σ S4
      | none => .bad)
    | .Assign [.Attribute o f _] e _ => (ev c N n sc e σ S).use σ fun d S1 => (ev c N n sc o σ S1).use σ fun x S2 => (match fldS (c.flds f) S2 x d f with
      | some S3 => .nx σ S3
      | none => .bad)
    | .Assign [.Tuple es k p] e _ => if !c.calm then .bad else (match tgNames (.Tuple es k p) with
      | some xs => (match slotsOf sc N xs with
        | some is => if isTup e then (match parV sc es e with
            | some vs => (evA c N n sc vs σ S).use σ fun ds S1 => if ds.length = is.length then .nx (setAll σ is ds) S1 else .bad
            | none => .bad)
          else (ev c N n sc e σ S).use σ fun d S1 => (match bindTg (.Tuple es k p) sc N σ d with
          | some σ1 => .nx σ1 S1
          | none => .bad)
        | none => .bad)
      | none => if mixT es then (ev c N n sc e σ S).use σ fun d S1 => (match seqT d with
          | some ds => if ds.length = es.length then asgs c N n sc es ds σ S1 else .bad
          | none => .bad) else .bad)
    | .While t body [] _ => whileF (evT c N n sc t) (exs c N sc n body) loopMost σ S
    | .For tg iter body [] _ => if !c.calm || isSet iter then .bad else (match tgNames tg with
      | some xs => (match slotsOf sc N xs with
        | some _ => (evI c N n (isTup tg) sc iter σ S).use σ fun it S1 => forF it (fun d σ1 S2 => match bindTg tg sc N σ1 d with
          | some σ2 => exs c N sc n body σ2 S2
          | none => .bad) loopMost 0 σ S1
        | none => .bad)
      | none => .bad)
    | .Raise (some (.Call (.Name x _) [.Constant (.str _) _ _] [] _)) none _ => if plainName x && c.excs x && (nmOf sc N x).isGlob then .exc x σ S else .bad
    | .Try body [.ExceptHandler (some (.Name y _)) nm (b0 :: suite) _] [] [] _ => if c.calm && (plainName y && ((nmOf sc N y).isGlob && (c.kits y y).isSome)) then (match heldAt sc N nm with
      | some i => (match exs c N sc n body σ S with
        | .exc x σ1 S1 => (match c.kits x y with
          | some true => if nm.isSome && decide (σ1.length ≤ i) then .bad else hotEnd i (exs (c.hotC i x) N sc n (b0 :: suite) (σ1.set i none) S1)
          | some false => .exc x σ1 S1
          | none => .bad)
        | r => r)
      | none => .bad) else .bad
    | _ => .bad
def exs (c : Cfg) (N : List Str) (sc : Scope) : Nat → List Stmt → Env → Store → Fl
  | 0, _, _, _ => .bad
  | n + 1, sts, σ, S => match sts with
    | [] => .nx σ S
    | [st] => ex c N sc n st σ S
    | st :: rest => (ex c N sc n st σ S).seq (exs c N sc n rest)
end

/-! ### a def -/
mutual
def below (n : Nat) : D → Bool
  | .ref l => decide (l < n)
  | .tup xs => belows n xs
  | .lst xs => belows n xs
  | _ => true
def belows (n : Nat) : List D → Bool
  | [] => true
  | x :: xs => below n x && belows n xs
end
def obBelow (n : Nat) : Ob → Bool
  | .lst xs => belows n xs
  | .ins _ fs => belows n (fs.map (·.2))
  | .dic kvs => belows n (kvs.map (·.2))
  | .dead => true
/-- what a def leaves: its own objects are forgotten where nothing names them; a list of its own that is handed back, unless it is to be changed further, becomes a value -/
def fin (frz : Bool) (n : Nat) (d : D) (S : Store) : Out D :=
  let d1 := if frz then (match d with
    | .ref l => if l < n then d else (match S[l]? with
      | some (.lst xs) => .lst xs
      | _ => d)
    | d => d) else d
  if S.length = n ∧ frz = false then .ok d1 S
  else if below n d1 && (S.take n).all (obBelow n) then .ok d1 (S.take n) else .ok d S
def finX (n : Nat) (c : Str) (S : Store) : Out D :=
  if S.length = n then .exc c S else if (S.take n).all (obBelow n) then .exc c (S.take n) else .exc c S
def runF (c : Cfg) (frz : Bool) (ps N : List Str) (sc : Scope) (fuel : Nat) (body : List Stmt) : Fn := fun args S =>
  if args.length = ps.length then (match exs c N sc fuel body (args.map some ++ List.replicate (N.length - args.length) none) S with
    | .nx _ S' => fin frz S.length .non S'
    | .rt d S' => fin frz S.length d S'
    | .exc x _ S' => finX S.length x S'
    | _ => .bad) else .bad
end Q
/-! Q2: plain data stand in the heap of HandS. -/
namespace Q
open PySem PySem.Spec PyProof.Rows L2

def KT (K : PySem.W.Frag) (a : Addr) (vs : List V) : Prop :=
  ∃ (o : Obj) (its : Array Value) (n : Nat), K.lookup a = some o ∧ o.cls = .type "tuple" ∧ o.data = .seq its n ∧ its.size ≤ sizeLine ∧ Vals vs its.toList
/-- the places of the store's objects, and places that somebody is just writing at -/
structure Pl where
  l : List Addr
  b : List Addr
  pin : Option (Nat × Addr)
/-- where the classes stand; the place and the address of the error that a suite holds -/
structure CA where
  ad : Str → Addr
  pin : Option (Nat × Addr)
instance : CoeFun CA (fun _ => Str → Addr) := ⟨CA.ad⟩
def Pl.has (ρ : Pl) (a : Addr) : Prop := a ∈ ρ.l ∨ a ∈ ρ.b
def TupAt (K : PySem.W.Frag) (ρ : Pl) (H : Hp) (a : Addr) (vs : List V) : Prop := (Rd H a (.tup vs) ∧ ¬ ρ.has a) ∨ KT K a vs
def KL (K : PySem.W.Frag) (a : Addr) (vs : List V) : Prop :=
  ∃ (o : Obj) (its : Array Value) (n : Nat), K.lookup a = some o ∧ o.cls = .type "list" ∧ o.dict = none ∧ o.data = .seq its n ∧ its.size ≤ sizeLine ∧ Vals vs its.toList
def LstAt (K : PySem.W.Frag) (ρ : Pl) (H : Hp) (a : Addr) (vs : List V) : Prop := (Rd H a (.lst vs) ∧ ¬ ρ.has a) ∨ KL K a vs

mutual
inductive Rep (K : PySem.W.Frag) (ρ : Pl) (H : Hp) : D → V → Prop
  | non : Rep K ρ H .non .non
  | bl (b : Bool) : Rep K ρ H (.bl b) (.bl b)
  | int (i : Int) : Rep K ρ H (.int i) (.int i)
  | str (x : Str) : Rep K ρ H (.str x) (.str x)
  | tup {ds : List D} {a : Addr} {vs : List V} : TupAt K ρ H a vs → Reps K ρ H ds vs → Rep K ρ H (.tup ds) (.ref a)
  | lst {ds : List D} {a : Addr} {vs : List V} : LstAt K ρ H a vs → Reps K ρ H ds vs → Rep K ρ H (.lst ds) (.ref a)
  | ref {l : Nat} {a : Addr} : ρ.l[l]? = some a → Rep K ρ H (.ref l) (.ref a)
inductive Reps (K : PySem.W.Frag) (ρ : Pl) (H : Hp) : List D → List V → Prop
  | nil : Reps K ρ H [] []
  | cons {d : D} {v : V} {ds : List D} {vs : List V} : Rep K ρ H d v → Reps K ρ H ds vs → Reps K ρ H (d :: ds) (v :: vs)
end

structure Ext (ρ : Pl) (H : Hp) (ρ' : Pl) (H' : Hp) : Prop where
  pre : ∃ τ, ρ'.l = ρ.l ++ τ ∧ ∀ a ∈ τ, H a = none
  lo : ∀ a, a ∈ ρ.b → a ∈ ρ'.b
  hi : ∀ a, a ∈ ρ'.b → a ∈ ρ.b ∨ H a = none
  keep : ∀ a o, a ∉ ρ.l → H a = some o → H' a = some o
  tr : ∀ a, H' a = none → H a = none
  pn : ρ'.pin = ρ.pin

section
variable {K : PySem.W.Frag} {cA : CA} {ρ ρ' ρ1 ρ2 : Pl} {H H' H1 H2 : Hp}
theorem Ext.refl : Ext ρ H ρ H := ⟨⟨[], by simp⟩, fun _ h => h, fun _ h => .inl h, fun _ _ _ e => e, fun _ e => e, rfl⟩
theorem Ext.trans (a : Ext ρ H ρ1 H1) (b : Ext ρ1 H1 ρ2 H2) : Ext ρ H ρ2 H2 := by
  obtain ⟨τ, e1, f1⟩ := a.pre
  obtain ⟨τ', e2, f2⟩ := b.pre
  refine ⟨⟨τ ++ τ', by rw [e2, e1, List.append_assoc], fun x hx => ?_⟩, fun x h => b.lo x (a.lo x h), fun x h => (b.hi x h).elim (a.hi x) fun z => .inr (a.tr x z), fun x o nx e => ?_, fun x e => a.tr x (b.tr x e), b.pn.trans a.pn⟩
  · rcases List.mem_append.mp hx with h | h
    · exact f1 x h
    · exact a.tr x (f2 x h)
  · refine b.keep x o (fun h => ?_) (a.keep x o nx e)
    rw [e1] at h
    rcases List.mem_append.mp h with h | h
    · exact nx h
    · rw [f1 x h] at e; cases e
theorem Ext.get (e : Ext ρ H ρ' H') {l : Nat} {a : Addr} (h : ρ.l[l]? = some a) : ρ'.l[l]? = some a := by
  obtain ⟨τ, e1, _⟩ := e.pre
  rw [e1, List.getElem?_append_left (List.getElem?_eq_some_iff.mp h).1]; exact h
theorem Ext.nmem (e : Ext ρ H ρ' H') {a : Addr} (h : ¬ ρ.has a) (t : H a ≠ none) : ¬ ρ'.has a := by
  obtain ⟨τ, e1, f⟩ := e.pre
  intro q
  rcases q with q | q
  · rw [e1] at q
    rcases List.mem_append.mp q with q | q
    · exact h (.inl q)
    · exact t (f a q)
  · exact (e.hi a q).elim (fun z => h (.inr z)) t
theorem Rd.ne {a : Addr} {u : HO} (h : Rd H a u) : H a ≠ none := by
  rcases h with h | ⟨o, h⟩ <;> rw [h] <;> simp
theorem Rd.ext (e : Ext ρ H ρ' H') {a : Addr} {u : HO} (h : Rd H a u) (n : ¬ ρ.has a) : Rd H' a u := by
  rcases h with h | ⟨o, h⟩
  · exact .inl (e.keep a _ (fun z => n (.inl z)) h)
  · exact .inr ⟨o, e.keep a _ (fun z => n (.inl z)) h⟩
theorem TupAt.ext (e : Ext ρ H ρ' H') {a : Addr} {vs : List V} (h : TupAt K ρ H a vs) : TupAt K ρ' H' a vs := by
  rcases h with ⟨h, n⟩ | h
  · exact .inl ⟨Rd.ext e h n, e.nmem n (Rd.ne h)⟩
  · exact .inr h
theorem LstAt.ext (e : Ext ρ H ρ' H') {a : Addr} {vs : List V} (h : LstAt K ρ H a vs) : LstAt K ρ' H' a vs := by
  rcases h with ⟨h, n⟩ | h
  · exact .inl ⟨Rd.ext e h n, e.nmem n (Rd.ne h)⟩
  · exact .inr h
theorem TupAt.sq {a : Addr} {vs : List V} (h : TupAt K ρ H a vs) : SqT K H a vs := by
  rcases h with ⟨h, _⟩ | h
  · exact .inl h
  · exact .inr h
theorem LstAt.sq {a : Addr} {vs : List V} (h : LstAt K ρ H a vs) : SqL K H a vs := by
  rcases h with ⟨h, _⟩ | h
  · exact .inl h
  · exact .inr h
mutual
theorem Rep.ext (e : Ext ρ H ρ' H') : ∀ {d : D} {v : V}, Rep K ρ H d v → Rep K ρ' H' d v
  | _, _, .non => .non
  | _, _, .bl b => .bl b
  | _, _, .int i => .int i
  | _, _, .str x => .str x
  | _, _, .tup h r => .tup (h.ext e) (Reps.ext e r)
  | _, _, .lst h r => .lst (h.ext e) (Reps.ext e r)
  | _, _, .ref h => .ref (e.get h)
theorem Reps.ext (e : Ext ρ H ρ' H') : ∀ {ds : List D} {vs : List V}, Reps K ρ H ds vs → Reps K ρ' H' ds vs
  | _, _, .nil => .nil
  | _, _, .cons r t => .cons (Rep.ext e r) (Reps.ext e t)
end
theorem Reps.length : ∀ {ds : List D} {vs : List V}, Reps K ρ H ds vs → ds.length = vs.length
  | _, _, .nil => rfl
  | _, _, .cons _ t => congrArg (· + 1) t.length
theorem Reps.get : ∀ {ds : List D} {vs : List V} {i : Nat} {d : D}, Reps K ρ H ds vs → ds[i]? = some d → ∃ v, vs[i]? = some v ∧ Rep K ρ H d v
  | _, _, _, _, .nil, e => by simp at e
  | _, _, 0, _, .cons r _, e => by simp at e; subst e; exact ⟨_, rfl, r⟩
  | _, _, i + 1, d, .cons _ t, e => by
    obtain ⟨v, h1, h2⟩ := Reps.get (i := i) (d := d) t (by simpa using e)
    exact ⟨v, by simpa using h1, h2⟩
theorem Reps.getV : ∀ {ds : List D} {vs : List V} {i : Nat} {v : V}, Reps K ρ H ds vs → vs[i]? = some v → ∃ d, ds[i]? = some d ∧ Rep K ρ H d v
  | _, _, _, _, .nil, e => by simp at e
  | _, _, 0, _, .cons r _, e => by simp at e; subst e; exact ⟨_, rfl, r⟩
  | _, _, i + 1, d, .cons _ t, e => by
    obtain ⟨v, h1, h2⟩ := Reps.getV (i := i) (v := d) t (by simpa using e)
    exact ⟨v, by simpa using h1, h2⟩
theorem Reps.append : ∀ {ds es : List D} {vs ws : List V}, Reps K ρ H ds vs → Reps K ρ H es ws → Reps K ρ H (ds ++ es) (vs ++ ws)
  | _, _, _, _, .nil, s => s
  | _, _, _, _, .cons r t, s => .cons r (Reps.append t s)
theorem Reps.take : ∀ {ds : List D} {vs : List V} (n : Nat), Reps K ρ H ds vs → Reps K ρ H (ds.take n) (vs.take n)
  | _, _, 0, _ => .nil
  | _, _, _ + 1, .nil => .nil
  | _, _, n + 1, .cons r t => .cons r (Reps.take n t)
theorem Reps.drop : ∀ {ds : List D} {vs : List V} (n : Nat), Reps K ρ H ds vs → Reps K ρ H (ds.drop n) (vs.drop n)
  | _, _, 0, r => r
  | _, _, _ + 1, .nil => .nil
  | _, _, n + 1, .cons r t => Reps.drop n t
theorem Reps.set {d : D} {v : V} (r : Rep K ρ H d v) : ∀ {ds : List D} {vs : List V} (i : Nat), Reps K ρ H ds vs → Reps K ρ H (ds.set i d) (vs.set i v)
  | _, _, _, .nil => .nil
  | _, _, 0, .cons _ t => .cons r t
  | _, _, i + 1, .cons q t => .cons q (Reps.set r i t)
theorem Reps.cut {ds : List D} {vs : List V} (r : Reps K ρ H ds vs) (lo hi : Option Int) : Reps K ρ H (Q.cut ds lo hi) (cutV vs lo hi) := by
  unfold Q.cut cutV
  rw [r.length]
  exact (r.drop _).take _

/-! ### the store -/
inductive FReps (K : PySem.W.Frag) (ρ : Pl) (H : Hp) {κ : Type} : List (κ × D) → List (κ × V) → Prop
  | nil : FReps K ρ H [] []
  | cons {k : κ} {d : D} {v : V} {ds : List (κ × D)} {vs : List (κ × V)} : Rep K ρ H d v → FReps K ρ H ds vs → FReps K ρ H ((k, d) :: ds) ((k, v) :: vs)
theorem FReps.ext {κ : Type} (e : Ext ρ H ρ' H') : ∀ {ds : List (κ × D)} {vs : List (κ × V)}, FReps K ρ H ds vs → FReps K ρ' H' ds vs
  | _, _, .nil => .nil
  | _, _, .cons r t => .cons (Rep.ext e r) (FReps.ext e t)
variable (K cA) in
def ObR (ρ : Pl) (H : Hp) (a : Addr) : Ob → Prop
  | .lst ds => ∃ vs, H a = some (.lst vs) ∧ Reps K ρ H ds vs
  | .ins C fs => ∃ dx vs, H a = some (.ins (cA C) dx vs) ∧ FReps K ρ H fs vs
  | .dic kvs => ∃ vs, H a = some (.dK vs) ∧ FReps K ρ H kvs vs
  | .dead => ∃ o, H a = some o
theorem ObR.tr {a : Addr} {o : Ob} (h : ObR K cA ρ H a o) : H a ≠ none := by
  cases o with
  | lst ds => obtain ⟨vs, e, _⟩ := h; rw [e]; simp
  | ins C fs => obtain ⟨_, vs, e, _⟩ := h; rw [e]; simp
  | dic kvs => obtain ⟨vs, e, _⟩ := h; rw [e]; simp
  | dead => obtain ⟨o, e⟩ := h; rw [e]; simp
theorem ObR.ext {a : Addr} {o : Ob} (h : ObR K cA ρ H a o) (e : Ext ρ H ρ' H') (s : ∀ u, H a = some u → H' a = some u) : ObR K cA ρ' H' a o := by
  cases o with
  | lst ds => obtain ⟨vs, q, r⟩ := h; exact ⟨vs, s _ q, r.ext e⟩
  | ins C fs => obtain ⟨dx, vs, q, r⟩ := h; exact ⟨dx, vs, s _ q, r.ext e⟩
  | dic kvs => obtain ⟨vs, q, r⟩ := h; exact ⟨vs, s _ q, r.ext e⟩
  | dead => obtain ⟨o, q⟩ := h; exact ⟨o, s _ q⟩
variable (K cA) in
structure StR (ρ : Pl) (H : Hp) (S : Store) : Prop where
  len : ρ.l.length = S.length
  nd : ρ.l.Nodup
  ob : ∀ (l : Nat) (o : Ob), S[l]? = some o → ∃ a, ρ.l[l]? = some a ∧ ObR K cA ρ H a o
  bl : ∀ a ∈ ρ.b, H a ≠ none ∧ a ∉ ρ.l
  pin : ρ.pin = cA.pin
theorem StR.at {S : Store} (s : StR K cA ρ H S) {l : Nat} {o : Ob} {a : Addr} (e : S[l]? = some o) (f : ρ.l[l]? = some a) : ObR K cA ρ H a o := by
  obtain ⟨b, g, r⟩ := s.ob l o e
  rw [f] at g; cases g; exact r
theorem StR.trk {S : Store} (s : StR K cA ρ H S) {a : Addr} (h : a ∈ ρ.l) : H a ≠ none := by
  obtain ⟨l, hl, e⟩ := List.getElem_of_mem h
  have hl' : l < S.length := by rw [← s.len]; exact hl
  have := s.at (l := l) (o := S[l]) (a := a) (List.getElem?_eq_getElem hl') (by rw [List.getElem?_eq_getElem hl, e])
  exact this.tr
theorem StR.freshL {S : Store} (s : StR K cA ρ H S) {p : Addr} (h : H p = none) : p ∉ ρ.l := fun q => s.trk q h
theorem StR.fresh {S : Store} (s : StR K cA ρ H S) {p : Addr} (h : H p = none) : ¬ ρ.has p := by
  rintro (q | q)
  · exact s.trk q h
  · exact (s.bl p q).1 h
/-- a new object that is a value -/
theorem ext_new {S : Store} (s : StR K cA ρ H S) {p : Addr} {u : HO} (h : H p = none) : Ext ρ H ρ (upd H p u) ∧ StR K cA ρ (upd H p u) S := by
  have e : Ext ρ H ρ (upd H p u) := by
    refine ⟨⟨[], by simp⟩, fun _ h => h, fun _ h => .inl h, fun a o _ q => ?_, fun a q => ?_, rfl⟩
    · rw [upd_ne (ne_of_none q h)]; exact q
    · by_cases z : a = p
      · rw [z]; exact h
      · rw [upd_ne z] at q; exact q
  refine ⟨e, s.len, s.nd, fun l o q => ?_, fun a q => ⟨fun z => (s.bl a q).1 (e.tr a z), (s.bl a q).2⟩, s.pin⟩
  obtain ⟨a, f, r⟩ := s.ob l o q
  exact ⟨a, f, r.ext e fun v z => by rw [upd_ne (ne_of_none z h)]; exact z⟩
def Pl.more (ρ : Pl) (p : Addr) : Pl := ⟨ρ.l ++ [p], ρ.b, ρ.pin⟩
/-- a new object in the store -/
theorem ext_alloc {S : Store} (s : StR K cA ρ H S) {p : Addr} {u : HO} {o : Ob} (h : H p = none) (r : ∀ ρ' H', Ext ρ H ρ' H' → H' p = some u → ObR K cA ρ' H' p o) :
    Ext ρ H (ρ.more p) (upd H p u) ∧ StR K cA (ρ.more p) (upd H p u) (S ++ [o]) := by
  have e : Ext ρ H (ρ.more p) (upd H p u) := by
    refine ⟨⟨[p], rfl, fun a q => ?_⟩, fun _ h => h, fun _ h => .inl h, fun a o _ q => ?_, fun a q => ?_, rfl⟩
    · rw [List.mem_singleton.mp q]; exact h
    · rw [upd_ne (ne_of_none q h)]; exact q
    · by_cases z : a = p
      · rw [z]; exact h
      · rw [upd_ne z] at q; exact q
  refine ⟨e, by simp [Pl.more, s.len], ?_, fun l o' q => ?_, fun a q => ⟨fun z => (s.bl a q).1 (e.tr a z), fun z => ?_⟩, s.pin⟩
  · show (ρ.l ++ [p]).Nodup
    rw [List.nodup_append]
    refine ⟨s.nd, by simp, fun a ha b hb z => ?_⟩
    rw [List.mem_singleton.mp hb] at z
    exact s.freshL h (z ▸ ha)
  · by_cases hl : l < S.length
    · rw [List.getElem?_append_left hl] at q
      obtain ⟨a, f, r'⟩ := s.ob l o' q
      exact ⟨a, e.get f, r'.ext e fun v z => by rw [upd_ne (ne_of_none z h)]; exact z⟩
    · rw [List.getElem?_append_right (Nat.le_of_not_lt hl)] at q
      have z : l - S.length = 0 := by
        have := (List.getElem?_eq_some_iff.mp q).1
        simp at this; omega
      rw [z] at q
      simp at q
      subst q
      refine ⟨p, ?_, r _ _ e upd_same⟩
      show (ρ.l ++ [p])[l]? = some p
      rw [List.getElem?_append_right (by rw [s.len]; exact Nat.le_of_not_lt hl), s.len, z]; rfl
  · have z : a ∈ ρ.l ++ [p] := z
    rcases List.mem_append.mp z with z | z
    · exact (s.bl a q).2 z
    · rw [List.mem_singleton.mp z] at q
      exact (s.bl p q).1 h
/-- an object of the store is changed -/
theorem ext_write {S : Store} (s : StR K cA ρ H S) {l : Nat} {a : Addr} {u : HO} {o : Ob} (h : ρ.l[l]? = some a) (r : ∀ H', Ext ρ H ρ H' → H' a = some u → ObR K cA ρ H' a o) :
    Ext ρ H ρ (upd H a u) ∧ StR K cA ρ (upd H a u) (S.set l o) := by
  have ha : a ∈ ρ.l := List.mem_of_getElem? h
  have e : Ext ρ H ρ (upd H a u) := by
    refine ⟨⟨[], by simp⟩, fun _ h => h, fun _ h => .inl h, fun b o n q => ?_, fun b q => ?_, rfl⟩
    · rw [upd_ne (fun z => n (by rw [z]; exact ha))]; exact q
    · by_cases z : b = a
      · rw [z, upd_same] at q; cases q
      · rw [upd_ne z] at q; exact q
  refine ⟨e, by simp [s.len], s.nd, fun l' o' q => ?_, fun b q => ⟨fun z => (s.bl b q).1 (e.tr b z), (s.bl b q).2⟩, s.pin⟩
  by_cases hl : l' = l
  · subst hl
    have hs : l' < S.length := by
      have := (List.getElem?_eq_some_iff.mp q).1
      simpa using this
    rw [List.getElem?_set_self hs] at q
    cases q
    exact ⟨a, h, r _ e upd_same⟩
  · rw [List.getElem?_set_ne (fun z => hl z.symm)] at q
    obtain ⟨b, f, r'⟩ := s.ob l' o' q
    refine ⟨b, f, r'.ext e fun v z => ?_⟩
    rw [upd_ne]; exact z
    intro w
    rw [w] at f
    obtain ⟨h1, e1⟩ := List.getElem?_eq_some_iff.mp f
    obtain ⟨h2, e2⟩ := List.getElem?_eq_some_iff.mp h
    exact hl ((List.getElem_inj s.nd).mp (e1.trans e2.symm))
/-! a place that is being written at -/
mutual
theorem Rep.turn {f : Hp → Hp} (k : ∀ a u, ¬ ρ.has a → Rd H a u → Rd (f H) a u) : ∀ {d : D} {v : V}, Rep K ρ H d v → Rep K ρ (f H) d v
  | _, _, .non => .non
  | _, _, .bl b => .bl b
  | _, _, .int i => .int i
  | _, _, .str x => .str x
  | _, _, .tup (.inl ⟨h, n⟩) r => .tup (.inl ⟨k _ _ n h, n⟩) (Reps.turn k r)
  | _, _, .tup (.inr h) r => .tup (.inr h) (Reps.turn k r)
  | _, _, .lst (.inl ⟨h, n⟩) r => .lst (.inl ⟨k _ _ n h, n⟩) (Reps.turn k r)
  | _, _, .lst (.inr h) r => .lst (.inr h) (Reps.turn k r)
  | _, _, .ref h => .ref h
theorem Reps.turn {f : Hp → Hp} (k : ∀ a u, ¬ ρ.has a → Rd H a u → Rd (f H) a u) : ∀ {ds : List D} {vs : List V}, Reps K ρ H ds vs → Reps K ρ (f H) ds vs
  | _, _, .nil => .nil
  | _, _, .cons r t => .cons (Rep.turn k r) (Reps.turn k t)
end
mutual
theorem Rep.pl {σ : Pl} (hl : ∀ (i : Nat) (a : Addr), ρ.l[i]? = some a → σ.l[i]? = some a) (hb : ∀ a, σ.has a → ρ.has a ∨ H a = none) : ∀ {d : D} {v : V}, Rep K ρ H d v → Rep K σ H d v
  | _, _, .non => .non
  | _, _, .bl b => .bl b
  | _, _, .int i => .int i
  | _, _, .str x => .str x
  | _, _, .tup (.inl ⟨h, n⟩) r => .tup (.inl ⟨h, fun z => (hb _ z).elim n fun z => Rd.ne h z⟩) (Reps.pl hl hb r)
  | _, _, .tup (.inr h) r => .tup (.inr h) (Reps.pl hl hb r)
  | _, _, .lst (.inl ⟨h, n⟩) r => .lst (.inl ⟨h, fun z => (hb _ z).elim n fun z => Rd.ne h z⟩) (Reps.pl hl hb r)
  | _, _, .lst (.inr h) r => .lst (.inr h) (Reps.pl hl hb r)
  | _, _, .ref h => .ref (hl _ _ h)
theorem Reps.pl {σ : Pl} (hl : ∀ (i : Nat) (a : Addr), ρ.l[i]? = some a → σ.l[i]? = some a) (hb : ∀ a, σ.has a → ρ.has a ∨ H a = none) : ∀ {ds : List D} {vs : List V}, Reps K ρ H ds vs → Reps K σ H ds vs
  | _, _, .nil => .nil
  | _, _, .cons r t => .cons (Rep.pl hl hb r) (Reps.pl hl hb t)
end
theorem FReps.pl {κ : Type} {σ : Pl} (hl : ∀ (i : Nat) (a : Addr), ρ.l[i]? = some a → σ.l[i]? = some a) (hb : ∀ a, σ.has a → ρ.has a ∨ H a = none) : ∀ {ds : List (κ × D)} {vs : List (κ × V)}, FReps K ρ H ds vs → FReps K σ H ds vs
  | _, _, .nil => .nil
  | _, _, .cons r t => .cons (Rep.pl hl hb r) (FReps.pl hl hb t)
theorem FReps.turn {κ : Type} {f : Hp → Hp} (k : ∀ a u, ¬ ρ.has a → Rd H a u → Rd (f H) a u) : ∀ {ds : List (κ × D)} {vs : List (κ × V)}, FReps K ρ H ds vs → FReps K ρ (f H) ds vs
  | _, _, .nil => .nil
  | _, _, .cons r t => .cons (Rep.turn k r) (FReps.turn k t)
theorem ObR.pl {σ : Pl} (hl : ∀ (i : Nat) (a : Addr), ρ.l[i]? = some a → σ.l[i]? = some a) (hb : ∀ a, σ.has a → ρ.has a ∨ H a = none) {a : Addr} {o : Ob} (h : ObR K cA ρ H a o) : ObR K cA σ H a o := by
  cases o with
  | lst ds => obtain ⟨vs, q, r⟩ := h; exact ⟨vs, q, r.pl hl hb⟩
  | ins C fs => obtain ⟨dx, vs, q, r⟩ := h; exact ⟨dx, vs, q, r.pl hl hb⟩
  | dic kvs => obtain ⟨vs, q, r⟩ := h; exact ⟨vs, q, r.pl hl hb⟩
  | dead => exact h
theorem ObR.turn {f : Hp → Hp} (k : ∀ a u, ¬ ρ.has a → Rd H a u → Rd (f H) a u) {a : Addr} {o : Ob} (ha : ∀ u, H a = some u → f H a = some u) (h : ObR K cA ρ H a o) : ObR K cA ρ (f H) a o := by
  cases o with
  | lst ds => obtain ⟨vs, q, r⟩ := h; exact ⟨vs, ha _ q, r.turn k⟩
  | ins C fs => obtain ⟨dx, vs, q, r⟩ := h; exact ⟨dx, vs, ha _ q, r.turn k⟩
  | dic kvs => obtain ⟨vs, q, r⟩ := h; exact ⟨vs, ha _ q, r.turn k⟩
  | dead => obtain ⟨o, q⟩ := h; exact ⟨o, ha _ q⟩
def Pl.lock (ρ : Pl) (p : Addr) : Pl := ⟨ρ.l, p :: ρ.b, ρ.pin⟩
/-- a new place is taken for writing -/
theorem lock_new {S : Store} (s : StR K cA ρ H S) {p : Addr} {u : HO} (h : H p = none) : Ext ρ H (ρ.lock p) (upd H p u) ∧ StR K cA (ρ.lock p) (upd H p u) S := by
  obtain ⟨e0, s'⟩ := ext_new (u := u) s h
  have e : Ext ρ H (ρ.lock p) (upd H p u) := ⟨e0.pre, fun a q => List.mem_cons_of_mem _ q, fun a q => by
    rcases List.mem_cons.mp q with z | z
    · exact .inr (by rw [z]; exact h)
    · exact .inl z, e0.keep, e0.tr, e0.pn⟩
  refine ⟨e, s.len, s.nd, fun l o q => ?_, fun a q => ?_, s.pin⟩
  · obtain ⟨a, f, r⟩ := s.ob l o q
    exact ⟨a, f, r.ext e fun v z => by rw [upd_ne (ne_of_none z h)]; exact z⟩
  · rcases List.mem_cons.mp q with z | z
    · rw [z]
      exact ⟨by rw [upd_same]; simp, s.freshL h⟩
    · exact s'.bl a z
/-- what is written at such a place changes nothing else -/
theorem lock_turn {S : Store} {p : Addr} {u : HO} (s : StR K cA ρ H S) (hp : p ∈ ρ.b) : StR K cA ρ (upd H p u) S ∧ (∀ {d v}, Rep K ρ H d v → Rep K ρ (upd H p u) d v) ∧ (∀ {d v}, Reps K ρ H d v → Reps K ρ (upd H p u) d v) := by
  have k : ∀ a u', ¬ ρ.has a → Rd H a u' → Rd (upd H p u) a u' := fun a u' n q => by
    have z : a ≠ p := fun z => n (.inr (by rw [z]; exact hp))
    rcases q with q | ⟨o, q⟩
    · exact .inl (by rw [upd_ne z]; exact q)
    · exact .inr ⟨o, by rw [upd_ne z]; exact q⟩
  refine ⟨⟨s.len, s.nd, fun l o q => ?_, fun a q => ⟨fun z => ?_, (s.bl a q).2⟩, s.pin⟩, fun r => r.turn (f := fun H => upd H p u) k, fun r => r.turn (f := fun H => upd H p u) k⟩
  · obtain ⟨a, f, r⟩ := s.ob l o q
    refine ⟨a, f, r.turn (f := fun H => upd H p u) k fun v z => ?_⟩
    show upd H p u a = _
    rw [upd_ne]; exact z
    intro w
    exact (s.bl p hp).2 (by rw [← w]; exact List.mem_of_getElem? f)
  · by_cases w : a = p
    · rw [w, upd_same] at z; cases z
    · rw [upd_ne w] at z; exact (s.bl a q).1 z
/-- such a place is let go -/
def Pl.drop (ρ : Pl) (p : Addr) : Pl := ⟨ρ.l, ρ.b.filter fun a => decide (a ≠ p), ρ.pin⟩
theorem unlock {S : Store} {p : Addr} (s : StR K cA ρ H S) : StR K cA (ρ.drop p) H S ∧ (∀ {d v}, Rep K ρ H d v → Rep K (ρ.drop p) H d v) ∧ (∀ {d v}, Reps K ρ H d v → Reps K (ρ.drop p) H d v) := by
  have hb : ∀ a, (ρ.drop p).has a → ρ.has a ∨ H a = none := fun a q => .inl (q.elim .inl fun q => .inr (List.mem_filter.mp q).1)
  refine ⟨⟨s.len, s.nd, fun l o q => ?_, fun a q => s.bl a (List.mem_filter.mp q).1, s.pin⟩, fun r => Rep.pl (ρ := ρ) (σ := ρ.drop p) (fun _ _ h => h) hb r, fun r => Reps.pl (ρ := ρ) (σ := ρ.drop p) (fun _ _ h => h) hb r⟩
  obtain ⟨a, f, r⟩ := s.ob l o q
  exact ⟨a, f, ObR.pl (ρ := ρ) (σ := ρ.drop p) (fun _ _ h => h) hb r⟩
/-- .. as an object of the store -/
theorem unlock_keep {S : Store} {p : Addr} {o : Ob} (s : StR K cA ρ H S) (hp : p ∈ ρ.b) (r : ∀ ρ', (∀ {d v}, Reps K ρ H d v → Reps K ρ' H d v) → ObR K cA ρ' H p o) :
    StR K cA ((ρ.drop p).more p) H (S ++ [o]) ∧ ((ρ.drop p).more p).l[S.length]? = some p := by
  have hpl : p ∉ ρ.l := (s.bl p hp).2
  have hl : ∀ (i : Nat) (a : Addr), ρ.l[i]? = some a → ((ρ.drop p).more p).l[i]? = some a := fun i a h => by
    show (ρ.l ++ [p])[i]? = some a
    rw [List.getElem?_append_left (List.getElem?_eq_some_iff.mp h).1]; exact h
  have hb : ∀ a, ((ρ.drop p).more p).has a → ρ.has a ∨ H a = none := fun a q => .inl (by
    rcases q with q | q
    · rcases List.mem_append.mp q with z | z
      · exact .inl z
      · rw [List.mem_singleton.mp z]; exact .inr hp
    · exact .inr (List.mem_filter.mp q).1)
  have hlast : ((ρ.drop p).more p).l[S.length]? = some p := by
    show (ρ.l ++ [p])[S.length]? = some p
    rw [List.getElem?_append_right (by rw [s.len]; exact Nat.le_refl _), s.len, Nat.sub_self]; rfl
  refine ⟨⟨by show (ρ.l ++ [p]).length = _; simp [s.len], ?_, fun l o' q => ?_, fun a q => ?_, s.pin⟩, hlast⟩
  · show (ρ.l ++ [p]).Nodup
    rw [List.nodup_append]
    refine ⟨s.nd, by simp, fun a ha b hb z => ?_⟩
    rw [List.mem_singleton.mp hb] at z
    exact hpl (z ▸ ha)
  · by_cases hl' : l < S.length
    · rw [List.getElem?_append_left hl'] at q
      obtain ⟨a, f, r'⟩ := s.ob l o' q
      exact ⟨a, hl _ _ f, ObR.pl (ρ := ρ) hl hb r'⟩
    · rw [List.getElem?_append_right (Nat.le_of_not_lt hl')] at q
      have z : l - S.length = 0 := by
        have := (List.getElem?_eq_some_iff.mp q).1
        simp at this; omega
      rw [z] at q
      simp at q
      subst q
      have e : l = S.length := by omega
      rw [e]
      exact ⟨p, hlast, r _ fun r => Reps.pl (ρ := ρ) hl hb r⟩
  · have q := List.mem_filter.mp q
    refine ⟨(s.bl a q.1).1, fun z => ?_⟩
    rcases List.mem_append.mp z with z | z
    · exact (s.bl a q.1).2 z
    · exact of_decide_eq_true q.2 (List.mem_singleton.mp z)
theorem FReps.mapR {κ : Type} (f : ∀ {d v}, Rep K ρ H d v → Rep K ρ' H' d v) : ∀ {ds : List (κ × D)} {vs : List (κ × V)}, FReps K ρ H ds vs → FReps K ρ' H' ds vs
  | _, _, .nil => .nil
  | _, _, .cons r t => .cons (f r) (FReps.mapR f t)
theorem unlock_keepD {S : Store} {p : Addr} {kvs : List (L2.Key × D)} {ws : List (L2.Key × V)} (s : StR K cA ρ H S) (hp : p ∈ ρ.b) (hv : H p = some (.dK ws)) (rs : FReps K ρ H kvs ws) :
    StR K cA ((ρ.drop p).more p) H (S ++ [.dic kvs]) ∧ ((ρ.drop p).more p).l[S.length]? = some p := by
  have hpl : p ∉ ρ.l := (s.bl p hp).2
  have hl : ∀ (i : Nat) (a : Addr), ρ.l[i]? = some a → ((ρ.drop p).more p).l[i]? = some a := fun i a h => by
    show (ρ.l ++ [p])[i]? = some a
    rw [List.getElem?_append_left (List.getElem?_eq_some_iff.mp h).1]; exact h
  have hb : ∀ a, ((ρ.drop p).more p).has a → ρ.has a ∨ H a = none := fun a q => .inl (by
    rcases q with q | q
    · rcases List.mem_append.mp q with z | z
      · exact .inl z
      · rw [List.mem_singleton.mp z]; exact .inr hp
    · exact .inr (List.mem_filter.mp q).1)
  have hlast : ((ρ.drop p).more p).l[S.length]? = some p := by
    show (ρ.l ++ [p])[S.length]? = some p
    rw [List.getElem?_append_right (by rw [s.len]; exact Nat.le_refl _), s.len, Nat.sub_self]; rfl
  refine ⟨⟨by show (ρ.l ++ [p]).length = _; simp [s.len], ?_, fun l o' q => ?_, fun a q => ?_, s.pin⟩, hlast⟩
  · show (ρ.l ++ [p]).Nodup
    rw [List.nodup_append]
    refine ⟨s.nd, by simp, fun a ha b hb z => ?_⟩
    rw [List.mem_singleton.mp hb] at z
    exact hpl (z ▸ ha)
  · by_cases hl' : l < S.length
    · rw [List.getElem?_append_left hl'] at q
      obtain ⟨a, f, r'⟩ := s.ob l o' q
      exact ⟨a, hl _ _ f, ObR.pl (ρ := ρ) hl hb r'⟩
    · rw [List.getElem?_append_right (Nat.le_of_not_lt hl')] at q
      have z : l - S.length = 0 := by
        have := (List.getElem?_eq_some_iff.mp q).1
        simp at this; omega
      rw [z] at q
      simp at q
      subst q
      have e : l = S.length := by omega
      rw [e]
      exact ⟨p, hlast, ws, hv, FReps.pl (ρ := ρ) hl hb rs⟩
  · have q := List.mem_filter.mp q
    refine ⟨(s.bl a q.1).1, fun z => ?_⟩
    rcases List.mem_append.mp z with z | z
    · exact (s.bl a q.1).2 z
    · exact of_decide_eq_true q.2 (List.mem_singleton.mp z)
theorem Ext.drop {p : Addr} (e : Ext ρ H ρ' H') (h : p ∉ ρ.b) : Ext ρ H (ρ'.drop p) H' :=
  ⟨e.pre, fun a q => List.mem_filter.mpr ⟨e.lo a q, decide_eq_true fun z => h (by rw [← z]; exact q)⟩, fun a q => e.hi a (List.mem_filter.mp q).1, e.keep, e.tr, e.pn⟩
theorem Ext.turn {p : Addr} {u : HO} (e : Ext ρ H ρ' H') (h : H p = none) : Ext ρ H ρ' (upd H' p u) := by
  refine ⟨e.pre, e.lo, e.hi, fun a o n q => ?_, fun a q => ?_, e.pn⟩
  · rw [upd_ne (ne_of_none q h)]; exact e.keep a o n q
  · by_cases z : a = p
    · rw [z]; exact h
    · rw [upd_ne z] at q; exact e.tr a q

/-! ### the slots -/
variable (K) in
structure EnvR (ρ : Pl) (H : Hp) (σd : Env) (σ : L2.St) : Prop where
  len : σd.length = σ.length
  get : ∀ (i : Nat) (d : D), σd[i]? = some (some d) → ∃ v, σ[i]? = some (some v) ∧ Rep K ρ H d v
  pin : ∀ (i : Nat) (a : Addr), ρ.pin = some (i, a) → σ[i]? = some (some (.ref a))
theorem EnvR.ext {σd : Env} {σ : L2.St} (r : EnvR K ρ H σd σ) (e : Ext ρ H ρ' H') : EnvR K ρ' H' σd σ :=
  ⟨r.len, fun i d h => let ⟨v, h1, h2⟩ := r.get i d h; ⟨v, h1, h2.ext e⟩, fun i a h => r.pin i a (e.pn ▸ h)⟩
theorem EnvR.set {σd : Env} {σ : L2.St} {i : Nat} {d : D} {v : V} (r : EnvR K ρ H σd σ) (q : Rep K ρ H d v) (hp : ∀ a, ρ.pin ≠ some (i, a)) : EnvR K ρ H (σd.set i (some d)) (σ.set i (some v)) := by
  refine ⟨by simp [r.len], fun j e h => ?_, fun j a h => by rw [List.getElem?_set_ne (fun z => hp a (by rw [z]; exact h))]; exact r.pin j a h⟩
  by_cases hj : i = j
  · subst hj
    have hl : i < σd.length := by
      have := (List.getElem?_eq_some_iff.mp h).1
      simpa using this
    rw [List.getElem?_set_self hl] at h
    cases h
    exact ⟨v, by rw [List.getElem?_set_self (by rw [← r.len]; exact hl)], q⟩
  · rw [List.getElem?_set_ne hj] at h
    obtain ⟨w, h1, h2⟩ := r.get j e h
    exact ⟨w, by rw [List.getElem?_set_ne hj]; exact h1, h2⟩
theorem EnvR.setN {σd : Env} {σ : L2.St} {i : Nat} (r : EnvR K ρ H σd σ) (hp : ∀ a, ρ.pin ≠ some (i, a)) : EnvR K ρ H (σd.set i none) (σ.set i none) := by
  refine ⟨by simp [r.len], fun j e h => ?_, fun j a h => by rw [List.getElem?_set_ne (fun z => hp a (by rw [z]; exact h))]; exact r.pin j a h⟩
  by_cases hj : i = j
  · subst hj
    have hl : i < σd.length := by
      have := (List.getElem?_eq_some_iff.mp h).1
      simpa using this
    rw [List.getElem?_set_self hl] at h
    cases h
  · rw [List.getElem?_set_ne hj] at h
    obtain ⟨w, h1, h2⟩ := r.get j e h
    exact ⟨w, by rw [List.getElem?_set_ne hj]; exact h1, h2⟩
theorem EnvR.wipe {σd : Env} {σ : L2.St} (r : EnvR K ρ H σd σ) (hp : ρ.pin = none) : ∀ is : List Nat, EnvR K ρ H (wipeE σd is) (L2.wipe σ is)
  | [] => r
  | i :: is => (EnvR.wipe r hp is).setN (fun a z => by rw [hp] at z; cases z)
end

/-! ### the readings that the interpreter gives -/
section
variable (K : PySem.W.Frag) (cA : CA)
/-- what an outcome leaves to be wished -/
def tO {α β : Type} (W : WX) (σ : L2.St) (ρ : Pl) (H : Hp) (R : Pl → Hp → α → β → Prop) (r : Out α) (Q : β → Hp → Prop) : Prop := match r with
  | .ok d S' => ∀ ρ' H' v, Ext ρ H ρ' H' → StR K cA ρ' H' S' → R ρ' H' d v → Q v H'
  | .exc x S' => ∀ ρ' H', Ext ρ H ρ' H' → StR K cA ρ' H' S' → W (.ref (cA x)) none σ H'
  | .bad => False
def tX {α β : Type} (R : Pl → Hp → α → β → Prop) (W : WX) (f : Env → Store → Out α) : L2.St → Hp → (β → Hp → Prop) → Prop := fun σ H Q =>
  ∃ ρ σd S, EnvR K ρ H σd σ ∧ StR K cA ρ H S ∧ tO K cA W σ ρ H R (f σd S) Q
abbrev RB : Pl → Hp → Bool → Bool → Prop := fun _ _ a b => a = b
abbrev RI : Pl → Hp → Option Int → Option Int → Prop := fun _ _ a b => a = b
abbrev tE (W : WX) (f : Env → Store → Out D) : TE := tX K cA (Rep K) W f
abbrev tT (W : WX) (f : Env → Store → Out Bool) : TT := tX K cA RB W f
abbrev tAs (W : WX) (f : Env → Store → Out (List D)) : TA := tX K cA (Reps K) W f
abbrev tP (W : WX) (f : Env → Store → Out (Option Int)) : TO := tX K cA RI W f
end
section
variable {K : PySem.W.Frag} {cA : CA} {ρ ρ' ρ1 ρ2 : Pl} {H H' H1 H2 : Hp} {W : WX} {σ : L2.St} {α β γ δ : Type}
theorem tO.ext {R : Pl → Hp → α → β → Prop} {r : Out α} {Q : β → Hp → Prop} (e : Ext ρ H ρ' H') (h : tO K cA W σ ρ H R r Q) : tO K cA W σ ρ' H' R r Q := by
  cases r with
  | ok d S => exact fun ρ2 H2 v e2 => h ρ2 H2 v (e.trans e2)
  | exc x S => exact fun ρ2 H2 e2 => h ρ2 H2 (e.trans e2)
  | bad => exact h
theorem tO.post {R : Pl → Hp → α → β → Prop} {r : Out α} {Q Q' : β → Hp → Prop} (h : tO K cA W σ ρ H R r Q) (hq : ∀ v H, Q v H → Q' v H) : tO K cA W σ ρ H R r Q' := by
  cases r with
  | ok d S => exact fun ρ2 H2 v e2 s r => hq _ _ (h ρ2 H2 v e2 s r)
  | exc x S => exact h
  | bad => exact h
/-- one step of two -/
theorem tO.bind {R : Pl → Hp → α → β → Prop} {R1 : Pl → Hp → γ → δ → Prop} {r : Out γ} {g : γ → Store → Out α} {Q : β → Hp → Prop}
    (h : tO K cA W σ ρ H R (r.bind g) Q) :
    tO K cA W σ ρ H R1 r fun v H1 => ∃ ρ1 d S1, Ext ρ H ρ1 H1 ∧ StR K cA ρ1 H1 S1 ∧ R1 ρ1 H1 d v ∧ tO K cA W σ ρ1 H1 R (g d S1) Q := by
  cases r with
  | ok d S => exact fun ρ1 H1 v e s r => ⟨ρ1, d, S, e, s, r, h.ext e⟩
  | exc x S => exact h
  | bad => exact h
theorem tO.ofO {R : Pl → Hp → α → β → Prop} {S : Store} {o : Option α} {Q : β → Hp → Prop} (h : tO K cA W σ ρ H R (_root_.Q.ofO S o) Q) : ∃ d, o = some d ∧ ∀ ρ' H' v, Ext ρ H ρ' H' → StR K cA ρ' H' S → R ρ' H' d v → Q v H' := by
  cases o with
  | none => exact h.elim
  | some d => exact ⟨d, rfl, h⟩
theorem tO.ofP {R : Pl → Hp → α → β → Prop} {o : Option (α × Store)} {Q : β → Hp → Prop} (h : tO K cA W σ ρ H R (_root_.Q.ofP o) Q) : ∃ d S', o = some (d, S') ∧ ∀ ρ' H' v, Ext ρ H ρ' H' → StR K cA ρ' H' S' → R ρ' H' d v → Q v H' := by
  cases o with
  | none => exact h.elim
  | some p => exact ⟨p.1, p.2, rfl, h⟩
end
end Q
/-! Q3: each operation on plain data is HandS's. -/
namespace Q
open PySem PySem.Spec PyProof.Rows L2

/-! ### two rules that want a wider reading: list + list where one may be locked -/
section
variable {X : Cx} {pins : List (Addr × Obj)} {σ : L2.St} {H : Hp} {s : Shared}
def rCatR (K : PySem.W.Frag) : R2 := fun x y H Q => ∃ l b xs zs, x = .ref l ∧ y = .ref b ∧ SqL K H l xs ∧ SqL K H b zs ∧ xs.length + zs.length ≤ sizeLine ∧ ∀ p, H p = none → Q (.ref p) (upd H p (.lst (xs ++ zs)))
theorem op_catR : OpR X (binaryOp .Add) (rCatR X.K) := by
  intro pins s σ H x y v u Q I rx ry h
  obtain ⟨l, b, xs, zs, rfl, rfl, hH, hB, hz, q⟩ := h
  cases rx
  cases ry
  obtain ⟨its, r, ⟨⟨cls, dd, data, sl⟩, n, ho, hc, _, hd⟩, _⟩ := I.list hH
  obtain ⟨its2, r2, ⟨⟨cls2, dd2, data2, sl2⟩, n2, ho2, hc2, _, hd2⟩, _⟩ := I.list hB
  simp only at hc hd hc2 hd2
  subst hc hd hc2 hd2
  refine PySem.concat_meets ⟨_, ho, rfl⟩ ⟨_, ho2, rfl⟩ PySem.noFill_list_add PySem.seq_list_add PySem.F.slot_list_add PySem.F.entry_list_add (PySem.F.args_list_add_2 _ _) (list_addW l b its.toArray its2.toArray n n2 dd dd2 sl sl2 (by rw [List.size_toArray, List.size_toArray, ← r.length, ← r2.length]; exact hz)) ⟨ho, ho2, ?_⟩
  have ea : its.toArray ++ its2.toArray = (its ++ its2).toArray := by simp
  rw [ea]
  exact ⟨.ref _, _, I.lnew (t' := s.toks) (r.append r2) (by rw [List.length_append]; omega), rfl, q _ I.fresh⟩
end

section
variable {X : Cx} {cA : CA} {ρ : Pl} {H : Hp} {S : Store}
/-- what an operation may suppose: d comes out, the store is S' -/
abbrev Kon (K : PySem.W.Frag) (cA : CA) (ρ : Pl) (H : Hp) (S' : Store) (d : D) (Q : VK) : Prop := ∀ ρ' H' v, Ext ρ H ρ' H' → StR K cA ρ' H' S' → Rep K ρ' H' d v → Q v H'
variable {K : PySem.W.Frag}

theorem line_eq : (sizeLine : Nat) = 16777216 := sizeLine_eq

/-- a list or a tuple, read -/
theorem seqL_at (st : StR K cA ρ H S) {d : D} {xs : List D} {v : V} (r : Rep K ρ H d v) (h : seqL S d = some xs) : ∃ a vs, v = .ref a ∧ SqL K H a vs ∧ Reps K ρ H xs vs := by
  cases r with
  | lst at_ rs =>
    rename_i ds a vs
    have e : ds = xs := Option.some.inj h
    subst e
    exact ⟨a, vs, rfl, at_.sq, rs⟩
  | ref e =>
    rename_i l a
    have h' : (match S[l]? with | some (.lst xs) => some xs | _ => none) = some xs := h
    cases q : S[l]? with
    | none => rw [q] at h'; cases h'
    | some o =>
      rw [q] at h'
      cases o with
      | lst ys =>
        have z : ys = xs := Option.some.inj h'
        subst z
        obtain ⟨vs, e1, e2⟩ := st.at q e
        exact ⟨a, vs, rfl, .inl (.inl e1), e2⟩
      | ins => cases h'
      | dic => cases h'
      | dead => cases h'
  | non => cases h
  | bl => cases h
  | int => cases h
  | str => cases h
  | tup => cases h
theorem seqL_sq (st : StR K cA ρ H S) {d : D} {xs : List D} {v : V} (r : Rep K ρ H d v) (h : seqL S d = some xs) : ∃ a vs, v = .ref a ∧ SqL K H a vs ∧ Reps K ρ H xs vs := by
  exact seqL_at st r h
theorem seqO_sq (st : StR K cA ρ H S) {d : D} {xs : List D} {v : V} (r : Rep K ρ H d v) (h : seqO S d = some xs) : ∃ a vs, v = .ref a ∧ (SqL K H a vs ∨ SqT K H a vs) ∧ Reps K ρ H xs vs := by
  cases d with
  | tup ds =>
    cases r with
    | tup at_ rs =>
      rename_i a vs
      have e : ds = xs := Option.some.inj h
      subst e
      exact ⟨a, vs, rfl, .inr at_.sq, rs⟩
  | _ =>
    obtain ⟨a, vs, e, q, rs⟩ := seqL_sq st r (show seqL S _ = some xs from h)
    exact ⟨a, vs, e, .inl q, rs⟩
theorem reps_nil {vs : List V} (r : Reps K ρ H [] vs) : vs = [] := by cases r; rfl
theorem reps_empty {ds : List D} {vs : List V} (r : Reps K ρ H ds vs) : vs.isEmpty = ds.isEmpty := by cases r <;> rfl

theorem tru_rep (st : StR K cA ρ H S) {d : D} {v : V} {k : Bool} (r : Rep K ρ H d v) (h : truth S d = some k) : TruV K v H k := by
  cases r with
  | non => exact (Option.some.inj h).symm
  | bl b => exact (Option.some.inj h).symm
  | int i => exact (Option.some.inj h).symm
  | str x =>
    have h' : (if x.length ≤ 16777216 then some ((x.length : Int) != 0) else none) = some k := h
    split at h'
    · rename_i hl
      exact ⟨by rw [line_eq]; exact hl, (Option.some.inj h').symm⟩
    · cases h'
  | tup at_ rs =>
    rename_i ds a vs
    have e : (!ds.isEmpty) = k := Option.some.inj h
    exact .inr (.inl ⟨vs, at_.sq, by rw [reps_empty rs]; exact e.symm⟩)
  | lst at_ rs =>
    rename_i ds a vs
    have e : (!ds.isEmpty) = k := Option.some.inj h
    exact .inl ⟨vs, at_.sq, by rw [reps_empty rs]; exact e.symm⟩
  | ref e =>
    rename_i l a
    have h' : (match seqO S (.ref l) with | some xs => some (!xs.isEmpty) | none => none) = some k := h
    cases q : seqO S (.ref l) with
    | none => rw [q] at h'; cases h'
    | some xs =>
      rw [q] at h'
      have e' : (!xs.isEmpty) = k := Option.some.inj h'
      obtain ⟨b, vs, ev, sq, rs⟩ := seqL_sq st (Rep.ref e) (show seqL S (.ref l) = some xs from q)
      cases ev
      exact .inl ⟨vs, sq, by rw [reps_empty rs]; exact e'.symm⟩

/-- a new tuple, a new list as values -/
theorem kon_tup {ds : List D} {vs : List V} {Q : VK} (st : StR K cA ρ H S) (k : Kon K cA ρ H S (.tup ds) Q) (rs : Reps K ρ H ds vs) : ∀ p, H p = none → Q (.ref p) (upd H p (.tup vs)) := fun p hp => by
  obtain ⟨e, s⟩ := ext_new (u := .tup vs) st hp
  exact k _ _ _ e s (.tup (.inl ⟨.inl upd_same, st.fresh hp⟩) (rs.ext e))
theorem kon_lst {ds : List D} {vs : List V} {Q : VK} (st : StR K cA ρ H S) (k : Kon K cA ρ H S (.lst ds) Q) (rs : Reps K ρ H ds vs) : ∀ p, H p = none → Q (.ref p) (upd H p (.lst vs)) := fun p hp => by
  obtain ⟨e, s⟩ := ext_new (u := .lst vs) st hp
  exact k _ _ _ e s (.lst (.inl ⟨.inl upd_same, st.fresh hp⟩) (rs.ext e))
theorem kon_here {d : D} {v : V} {Q : VK} (st : StR K cA ρ H S) (k : Kon K cA ρ H S d Q) (r : Rep K ρ H d v) : Q v H := k _ _ _ Ext.refl st r
/-- a new list in the store -/
theorem kon_ref {ds : List D} {vs : List V} {Q : VK} (st : StR K cA ρ H S) (k : Kon K cA ρ H (S ++ [.lst ds]) (.ref S.length) Q) (rs : Reps K ρ H ds vs) : ∀ p, H p = none → Q (.ref p) (upd H p (.lst vs)) := fun p hp => by
  obtain ⟨e, s⟩ := ext_alloc (u := .lst vs) (o := .lst ds) st hp fun ρ' H' e' q => ⟨vs, q, rs.ext e'⟩
  exact k _ _ _ e s (.ref (by show (ρ.l ++ [p])[S.length]? = some p; rw [List.getElem?_append_right (by rw [st.len]; exact Nat.le_refl _), st.len, Nat.sub_self]; rfl))

theorem Reps.times {ρ : Pl} {H : Hp} {ds : List D} {vs : List V} (r : Reps K ρ H ds vs) : ∀ m : Nat, Reps K ρ H (List.replicate m ds).flatten (List.replicate m vs).flatten
  | 0 => .nil
  | m + 1 => by rw [List.replicate_succ, List.replicate_succ, List.flatten_cons, List.flatten_cons]; exact r.append (Reps.times r m)
/-! ### operators -/
def rAdd (K : PySem.W.Frag) : R2 := fun x y H Q => rI0 (fun i j => .int (i + j)) x y H Q ∨ ((∃ i j, x = .str i ∧ y = .str j ∧ i.length + j.length ≤ sizeLine ∧ Q (.str (i ++ j)) H) ∨ (rCatA K x y H Q ∨ rCatR K x y H Q))
theorem op_addAll : OpR X (binaryOp .Add) (rAdd X.K) := OpR.or op_add (OpR.or op_add_str (OpR.or op_catA op_catR))
def rMult (K : PySem.W.Frag) : R2 := fun x y H Q => rI CMulW (fun i j => .int (i * j)) x y H Q ∨ (rMulS x y H Q ∨ (rMulT K x y H Q ∨ rMulL K x y H Q))
theorem op_mulAll : OpR X (binaryOp .Mult) (rMult X.K) := OpR.or op_mulW (OpR.or op_mulS (OpR.or op_mulT op_mulL))
def rOf (K : PySem.W.Frag) : Operator → R2
  | .Add => rAdd K
  | .Sub => rI0 fun i j => .int (i - j)
  | .Mult => rMult K
  | .FloorDiv => rI CDivW fun i j => .int (i / j)
  | .Mod => rI (fun _ j => 0 < j) fun i j => .int (i % j)
  | .Pow => rI CPow fun i j => .int (i ^ j.toNat)
  | .LShift => rI CShl fun i j => .int (i * 2 ^ j.toNat)
  | .RShift => rI (fun _ j => 0 ≤ j) fun i j => .int (i / 2 ^ j.toNat)
  | .BitAnd => rI0 fun i j => .int (Builtin.bitAnd i j)
  | _ => fun _ _ _ _ => False
theorem op_of (op : Operator) : OpR X (binaryOp op) (rOf X.K op) := by
  cases op with
  | Add => exact op_addAll
  | Sub => exact op_sub
  | Mult => exact op_mulAll
  | FloorDiv => exact op_fdivW
  | Mod => exact op_mod
  | Pow => exact op_pow
  | LShift => exact op_shlW
  | RShift => exact op_shr
  | BitAnd => exact op_and
  | _ => exact fun pins s σ H x y v u Q I rx ry h => h.elim
theorem arith_of {op : Operator} {i j n : Int} {Q : VK} (h : arith op i j = some n) (q : Q (.int n) H) : rOf K op (.int i) (.int j) H Q := by
  cases op with
  | Add => cases h; exact .inl ⟨i, j, rfl, rfl, q⟩
  | Sub => cases h; exact ⟨i, j, rfl, rfl, q⟩
  | BitAnd => cases h; exact ⟨i, j, rfl, rfl, q⟩
  | Mult =>
    simp only [arith] at h
    split at h <;> cases h
    rename_i c; exact .inl ⟨i, j, rfl, rfl, c, q⟩
  | FloorDiv =>
    simp only [arith] at h
    split at h <;> cases h
    rename_i c; exact ⟨i, j, rfl, rfl, c, q⟩
  | Mod =>
    simp only [arith] at h
    split at h <;> cases h
    rename_i c; exact ⟨i, j, rfl, rfl, c, q⟩
  | Pow =>
    simp only [arith] at h
    split at h <;> cases h
    rename_i c; exact ⟨i, j, rfl, rfl, c, q⟩
  | LShift =>
    simp only [arith] at h
    split at h <;> cases h
    rename_i c; exact ⟨i, j, rfl, rfl, c, q⟩
  | RShift =>
    simp only [arith] at h
    split at h <;> cases h
    rename_i c; exact ⟨i, j, rfl, rfl, c, q⟩
  | _ => cases h
theorem cat_of (st : StR K cA ρ H S) {op : Operator} {x y d : D} {vx vy : V} {Q : VK} (rx : Rep K ρ H x vx) (ry : Rep K ρ H y vy) (h : catD S op x y = some d) (k : ∀ zs vs, d = .lst zs → Reps K ρ H zs vs → ∀ p, H p = none → Q (.ref p) (upd H p (.lst vs))) : rOf K op vx vy H Q := by
  cases op with
  | Add =>
    simp only [catD] at h
    cases e1 : seqL S x with
    | none => rw [e1] at h; cases h
    | some xs =>
      cases e2 : seqL S y with
      | none => rw [e1, e2] at h; cases h
      | some ys =>
        rw [e1, e2] at h
        simp only at h
        split at h <;> cases h
        rename_i c
        obtain ⟨a, vs, rfl, ha, ra⟩ := seqL_at st rx e1
        obtain ⟨b, ws, rfl, hb, rb⟩ := seqL_at st ry e2
        exact .inr (.inr (.inr ⟨a, b, vs, ws, rfl, rfl, ha, hb, by rw [line_eq, ← ra.length, ← rb.length]; exact c.2.2, k _ _ rfl (ra.append rb)⟩))
  | Mult =>
    simp only [catD] at h
    cases e1 : seqL S x with
    | none => rw [e1] at h; cases h
    | some xs =>
      rw [e1] at h
      cases ry with
      | int n =>
        simp only at h
        split at h <;> cases h
        rename_i c
        obtain ⟨a, vs, rfl, ha, ra⟩ := seqL_at st rx e1
        exact .inr (.inr (.inr ⟨a, n, vs, rfl, rfl, ha, c.1, c.2.1, by rw [← ra.length]; exact c.2.2, k _ _ rfl (ra.times n.toNat)⟩))
      | _ => cases h
  | _ => cases h
theorem bin_of (st : StR K cA ρ H S) {op : Operator} {x y d : D} {vx vy : V} {Q : VK} (rx : Rep K ρ H x vx) (ry : Rep K ρ H y vy) (h : binD S op x y = some d) (k : Kon K cA ρ H S d Q) : rOf K op vx vy H Q := by
  have lists : catD S op x y = some d → rOf K op vx vy H Q := fun h => cat_of st rx ry h fun zs vs e r => kon_lst st (by rw [← e]; exact k) r
  cases rx with
  | int i =>
    cases ry with
    | int j =>
      simp only [binD] at h
      cases e : arith op i j with
      | none => rw [e] at h; cases h
      | some n =>
        rw [e] at h; cases h
        exact arith_of e (kon_here st k (.int n))
    | _ => exact lists h
  | str a =>
    cases ry with
    | str b =>
      simp only [binD] at h
      cases op with
      | Add =>
        simp only at h
        split at h <;> cases h
        rename_i c
        exact .inr (.inl ⟨a, b, rfl, rfl, by rw [line_eq]; exact c, kon_here st k (.str _)⟩)
      | _ => cases h
    | int n =>
      simp only [binD] at h
      cases op with
      | Mult =>
        simp only at h
        split at h <;> cases h
        rename_i c
        exact .inr (.inl ⟨a, n, rfl, rfl, c.1, c.2.1, c.2.2, kon_here st k (.str _)⟩)
      | _ => cases h
    | _ => exact lists h
  | tup at_ rs =>
    rename_i xs a vs
    cases ry with
    | int n =>
      simp only [binD] at h
      cases op with
      | Mult =>
        simp only at h
        split at h <;> cases h
        rename_i c
        refine .inr (.inr (.inl ⟨a, n, vs, rfl, rfl, at_.sq, c.1, c.2.1, by rw [← rs.length]; exact c.2.2, fun e => ?_, fun _ => kon_tup st k (rs.times n.toNat)⟩))
        have e2 : (List.replicate n.toNat xs).flatten = xs := by
          rcases e with e | e
          · rw [e]; simp
          · subst e
            cases rs
            simp
        rw [e2] at k
        exact kon_here st k (.tup at_ rs)
      | _ => cases h
    | tup at2 rs2 =>
      rename_i ys b ws
      simp only [binD] at h
      cases op with
      | Add =>
        simp only at h
        split at h <;> cases h
        rename_i c
        refine .inr (.inr (.inl ⟨a, b, vs, ws, rfl, rfl, at_.sq, at2.sq, by rw [line_eq, ← rs.length, ← rs2.length]; exact c, fun e => ?_, fun _ e => ?_, fun _ _ => kon_tup st k (rs.append rs2)⟩))
        · subst e
          cases rs
          exact kon_here st k (.tup at2 rs2)
        · subst e
          cases rs2
          rw [List.append_nil] at k
          exact kon_here st k (.tup at_ rs)
      | _ => cases h
    | _ => exact lists h
  | _ => exact lists h

/-! ### comparisons -/
mutual
theorem toPy_dp : ∀ {d : D} {v : V} {p : PyData}, Rep K ρ H d v → toPy d = some p → Dp K H v p
  | _, _, _, .non, h => by cases h; exact .non
  | _, _, _, .bl b, h => by cases h; exact .bl b
  | _, _, _, .int i, h => by cases h; exact .int i
  | _, _, _, .str x, h => by cases h; exact .str x
  | _, _, p, .tup (ds := ds) at_ rs, h => by
    simp only [toPy] at h
    cases e : toPys ds with
    | none => rw [e] at h; cases h
    | some ys => rw [e] at h; cases h; exact .tup at_.sq (toPys_dp rs e)
  | _, _, p, .lst (ds := ds) at_ rs, h => by
    simp only [toPy] at h
    cases e : toPys ds with
    | none => rw [e] at h; cases h
    | some ys => rw [e] at h; cases h; exact .lst at_.sq (toPys_dp rs e)
  | _, _, _, .ref _, h => by cases h
theorem toPys_dp : ∀ {ds : List D} {vs : List V} {ps : List PyData}, Reps K ρ H ds vs → toPys ds = some ps → DpAll K H vs ps
  | _, _, _, .nil, h => by cases h; exact .nil
  | _, _, ps, .cons (d := d) (ds := ds) r rs, h => by
    simp only [toPys] at h
    cases e1 : toPy d with
    | none => rw [e1] at h; cases h
    | some y =>
      cases e2 : toPys ds with
      | none => rw [e1, e2] at h; cases h
      | some ys => rw [e1, e2] at h; cases h; exact .cons (toPy_dp r e1) (toPys_dp rs e2)
end
theorem dpAll_res (n : Nat) (ih : ∀ {d : D} {v : V} {p : PyData}, Rep K ρ H d v → toPy (res n S d) = some p → Dp K H v p) : ∀ {ds : List D} {vs : List V} {ps : List PyData}, Reps K ρ H ds vs → toPys (ds.map (res n S)) = some ps → DpAll K H vs ps
  | _, _, _, .nil, h => by cases h; exact .nil
  | _, _, ps, .cons (d := d) (ds := ds) r rs, h => by
    simp only [List.map_cons, toPys] at h
    cases e1 : toPy (res n S d) with
    | none => rw [e1] at h; cases h
    | some y =>
      cases e2 : toPys (ds.map (res n S)) with
      | none => rw [e1, e2] at h; cases h
      | some ys => rw [e1, e2] at h; cases h; exact .cons (ih r e1) (dpAll_res n ih rs e2)
theorem res_dp (st : StR K cA ρ H S) : ∀ (n : Nat) {d : D} {v : V} {p : PyData}, Rep K ρ H d v → toPy (res n S d) = some p → Dp K H v p
  | 0, d, v, p, r, h => toPy_dp r h
  | n + 1, d, v, p, r, h => by
    cases r with
    | ref e =>
      rename_i l a
      cases q : S[l]? with
      | none => rw [res, q] at h; cases h
      | some o =>
        rw [res, q] at h
        cases o with
        | lst xs =>
          simp only [toPy] at h
          cases e2 : toPys (xs.map (res n S)) with
          | none => rw [e2] at h; cases h
          | some ys =>
            rw [e2] at h; cases h
            obtain ⟨vs, e3, rs⟩ := st.at q e
            exact .lst (.inl (.inl e3)) (dpAll_res n (res_dp st n) rs e2)
        | ins => cases h
        | dic => cases h
        | dead => cases h
    | tup at_ rs =>
      rename_i ds a vs
      simp only [res, toPy] at h
      cases e : toPys (ds.map (res n S)) with
      | none => rw [e] at h; cases h
      | some ys => rw [e] at h; cases h; exact .tup at_.sq (dpAll_res n (res_dp st n) rs e)
    | lst at_ rs =>
      rename_i ds a vs
      simp only [res, toPy] at h
      cases e : toPys (ds.map (res n S)) with
      | none => rw [e] at h; cases h
      | some ys => rw [e] at h; cases h; exact .lst at_.sq (dpAll_res n (res_dp st n) rs e)
    | non => exact toPy_dp (ρ := ρ) .non h
    | bl b => exact toPy_dp (ρ := ρ) (.bl b) h
    | int b => exact toPy_dp (ρ := ρ) (.int b) h
    | str b => exact toPy_dp (ρ := ρ) (.str b) h
theorem toPyS_dp (st : StR K cA ρ H S) {d : D} {v : V} {p : PyData} (r : Rep K ρ H d v) (h : toPyS S d = some p) : Dp K H v p := res_dp st 8 r h
/-! dicts -/
theorem FReps.val {kvs : List (L2.Key × D)} {vs : List (L2.Key × V)} (r : FReps K ρ H kvs vs) (k : L2.Key) : (valG kvs k).isSome = (valV vs k).isSome ∧ ∀ d, valG kvs k = some d → ∃ v, valV vs k = some v ∧ Rep K ρ H d v := by
  induction r with
  | nil => exact ⟨rfl, fun d h => by cases h⟩
  | @cons k' d v ds vs rd rs ih =>
    by_cases c : k' = k
    · have e1 : valG ((k', d) :: ds) k = some d := by unfold valG; rw [List.find?_cons, decide_eq_true (show (k', d).1 = k from c)]; rfl
      have e2 : valV ((k', v) :: vs) k = some v := valV_pos (p := (k', v)) c
      rw [e1, e2]
      exact ⟨rfl, fun d' h => by cases h; exact ⟨v, rfl, rd⟩⟩
    · have e1 : valG ((k', d) :: ds) k = valG ds k := by unfold valG; rw [List.find?_cons, decide_eq_false (show ¬ (k', d).1 = k from c)]
      have e2 : valV ((k', v) :: vs) k = valV vs k := valV_neg (p := (k', v)) c
      rw [e1, e2]
      exact ih
theorem keyD_rep {d : D} {v : V} {k : L2.Key} (r : Rep K ρ H d v) (h : keyD d = some k) : v = kV k := by
  cases r <;> cases h <;> rfl
theorem dicOf_at (st : StR K cA ρ H S) {d : D} {v : V} {kvs : List (L2.Key × D)} (r : Rep K ρ H d v) (h : dicOf S d = some kvs) : ∃ l a vs, d = .ref l ∧ v = .ref a ∧ S[l]? = some (.dic kvs) ∧ ρ.l[l]? = some a ∧ H a = some (.dK vs) ∧ FReps K ρ H kvs vs := by
  cases r with
  | ref e =>
    rename_i l a
    have h' : (match S[l]? with | some (.dic kvs) => some kvs | _ => none) = some kvs := h
    cases q : S[l]? with
    | none => rw [q] at h'; cases h'
    | some o =>
      rw [q] at h'
      cases o with
      | dic ks =>
        cases h'
        obtain ⟨vs, e1, e2⟩ := st.at q e
        exact ⟨l, a, vs, rfl, rfl, q, e, e1, e2⟩
      | ins => cases h'
      | lst => cases h'
      | dead => cases h'
  | non => cases h
  | bl => cases h
  | int => cases h
  | str => cases h
  | tup => cases h
  | lst => cases h
theorem hits_of (st : StR K cA ρ H S) {ls : List (L2.Key × D)} {lv : List (L2.Key × V)} (rl : FReps K ρ H ls lv) : ∀ {ks : List (L2.Key × D)} {kv : List (L2.Key × V)} {r : Bool}, FReps K ρ H ks kv → hitsD S ls ks = some r → HitsV K H lv kv r
  | _, _, _, .nil, h => by
    cases h
    exact .nil
  | _, _, _, .cons (k := k) (d := x) rd rs, h => by
    simp only [hitsD] at h
    obtain ⟨e1, e2⟩ := rl.val k
    cases q : valG ls k with
    | none =>
      rw [q] at h e1
      cases h
      refine .miss ?_
      cases z : valV lv k with
      | none => rfl
      | some w => rw [z] at e1; cases e1
    | some y =>
      rw [q] at h
      obtain ⟨w, f1, f2⟩ := e2 y q
      cases q1 : toPyS S x with
      | none => simp only [q1] at h; cases h
      | some p1 =>
        cases q2 : toPyS S y with
        | none => simp only [q1, q2] at h; cases h
        | some p2 =>
          simp only [q1, q2] at h
          split at h
          · next c =>
            split at h
            · next t et =>
              cases h
              exact .hit f1 (toPyS_dp st rd q1) (toPyS_dp st f2 q2) c.1 c.2 (hits_of st rl rs et)
            · cases h
          · cases h
/-- two dicts -/
def DicWay (K : PySem.W.Frag) (H : Hp) (vx vy : V) (b : Bool) : Prop := ∃ a a' ks ls r, vx = .ref a ∧ vy = .ref a' ∧ H a = some (.dK ks) ∧ H a' = some (.dK ls) ∧ (ks.length = ls.length → HitsV K H ls ks r) ∧ b = (ks.length == ls.length && r)
theorem FReps.length {κ : Type} : ∀ {ds : List (κ × D)} {vs : List (κ × V)}, FReps K ρ H ds vs → ds.length = vs.length
  | _, _, .nil => rfl
  | _, _, .cons _ rs => congrArg Nat.succ rs.length
theorem dicEq_of (st : StR K cA ρ H S) {x y : D} {vx vy : V} {b : Bool} (rx : Rep K ρ H x vx) (ry : Rep K ρ H y vy) (h : dicEqD S x y = some b) : DicWay K H vx vy b := by
  unfold dicEqD at h
  cases e1 : dicOf S x with
  | none => rw [e1] at h; cases h
  | some ks =>
    cases e2 : dicOf S y with
    | none => simp only [e1, e2] at h; cases h
    | some ls =>
      simp only [e1, e2] at h
      obtain ⟨l, a, kv, rfl, rfl, -, -, ha, rk⟩ := dicOf_at st rx e1
      obtain ⟨l', a', lv, rfl, rfl, -, -, hb, rl⟩ := dicOf_at st ry e2
      have n1 := rk.length
      have n2 := rl.length
      split at h
      · next c =>
        refine ⟨a, a', kv, lv, b, rfl, rfl, ha, hb, fun _ => hits_of st rl rk h, ?_⟩
        have : (kv.length == lv.length) = true := by rw [beq_iff_eq]; omega
        rw [this]; rfl
      · next c =>
        cases h
        refine ⟨a, a', kv, lv, false, rfl, rfl, ha, hb, fun z => absurd (by omega) c, ?_⟩
        rw [Bool.and_false]
/-- two texts -/
def StrWay (vx vy : V) (b : Bool) : Prop := ∃ x y : Str, vx = .str x ∧ vy = .str y ∧ b = (x == y)
theorem strEq_of {x y : D} {vx vy : V} {b : Bool} (rx : Rep K ρ H x vx) (ry : Rep K ρ H y vy) (h : strEqD x y = some b) : StrWay vx vy b := by
  cases rx with
  | str a =>
    cases ry with
    | str c => cases h; exact ⟨a, c, rfl, rfl, rfl⟩
    | _ => cases h
  | _ => cases h
theorem eqD_of (st : StR K cA ρ H S) {x y : D} {vx vy : V} {b : Bool} (rx : Rep K ρ H x vx) (ry : Rep K ρ H y vy) (h : eqD S x y = some b) :
    (∃ d e, Dp K H vx d ∧ Dp K H vy e ∧ SeqAt.shaped d = true ∧ SeqAt.shaped e = true ∧ b = PyData.eqv d e) ∨
    (∃ a a' xs ys, vx = .ref a ∧ vy = .ref a' ∧ SqL K H a xs ∧ SqL K H a' ys ∧ xs.length ≠ ys.length ∧ b = false) ∨ DicWay K H vx vy b ∨ StrWay vx vy b := by
  have two : (match seqL S x, seqL S y with | some xs, some ys => if xs.length = ys.length then none else some false | _, _ => dicEqD S x y) = some b →
      (∃ a a' xs ys, vx = .ref a ∧ vy = .ref a' ∧ SqL K H a xs ∧ SqL K H a' ys ∧ xs.length ≠ ys.length ∧ b = false) ∨ DicWay K H vx vy b ∨ StrWay vx vy b := fun h => by
    cases e1 : seqL S x with
    | none => rw [e1] at h; exact .inr (.inl (dicEq_of st rx ry h))
    | some xs =>
      cases e2 : seqL S y with
      | none => rw [e1, e2] at h; exact .inr (.inl (dicEq_of st rx ry h))
      | some ys =>
        rw [e1, e2] at h
        simp only at h
        split at h <;> cases h
        rename_i c
        obtain ⟨a, vs, rfl, q1, r1⟩ := seqL_at st rx e1
        obtain ⟨a', us, rfl, q2, r2⟩ := seqL_at st ry e2
        exact .inl ⟨a, a', vs, us, rfl, rfl, q1, q2, by rw [← r1.length, ← r2.length]; exact c, rfl⟩
  unfold eqD at h
  cases e1 : toPyS S x with
  | none => rw [e1] at h; exact .inr (two h)
  | some p =>
    cases e2 : toPyS S y with
    | none => rw [e1, e2] at h; exact .inr (two h)
    | some q =>
      rw [e1, e2] at h
      simp only at h
      split at h
      · next c =>
        cases h
        exact .inl ⟨p, q, toPyS_dp st rx e1, toPyS_dp st ry e2, c.1, c.2, rfl⟩
      · exact .inr (.inr (.inr (strEq_of rx ry h)))
/-- the comparisons' rules -/
def cOf (K : PySem.W.Frag) : CmpOp → R2
  | .Eq => fun x y H Q => rEqD K x y H Q ∨ (rLnD K false x y H Q ∨ (rKqK K false x y H Q ∨ rEqS false x y H Q))
  | .NotEq => fun x y H Q => rNeD K x y H Q ∨ (rLnD K true x y H Q ∨ (rKqK K true x y H Q ∨ rEqS true x y H Q))
  | .Lt => fun x y H Q => rI0 (fun i j => .bl (decide (i < j))) x y H Q ∨ ∃ i j, x = .str i ∧ y = .str j ∧ Q (.bl (decide (i.cps.toList < j.cps.toList))) H
  | .LtE => rI0 fun i j => .bl (decide (i ≤ j))
  | .Gt => fun x y H Q => rI0 (fun i j => .bl (decide (j < i))) x y H Q ∨ ∃ i j, x = .str i ∧ y = .str j ∧ Q (.bl (decide (j.cps.toList < i.cps.toList))) H
  | .GtE => rI0 fun i j => .bl (decide (j ≤ i))
  | .Is => fun x y H Q => rIsB x y H Q ∨ (y = .non ∧ Q (.bl (decide (x = .non))) H)
  | .IsNot => fun x y H Q => rNotB x y H Q ∨ (y = .non ∧ Q (.bl (!decide (x = .non))) H)
  | .In => fun x y H Q => (∃ i j, x = .str i ∧ y = .str j ∧ Q (.bl (!(Builtin.Str.occurrences j i 0 j.length 1).isEmpty)) H) ∨ (rInD K x y H Q ∨ (rInT K false x y H Q ∨ rInK false x y H Q))
  | .NotIn => fun x y H Q => (∃ i j, x = .str i ∧ y = .str j ∧ Q (.bl (!(!(Builtin.Str.occurrences j i 0 j.length 1).isEmpty))) H) ∨ (rNotInD K x y H Q ∨ (rInT K true x y H Q ∨ rInK true x y H Q))
theorem cmp_of (hu : X.A.units + 65 < cLine) (op : CmpOp) : OpR X (compareOp op) (cOf X.K op) := by
  cases op with
  | Eq => exact OpR.or (op_eqD (by omega)) (OpR.or (op_eqLn (by omega)) (OpR.or (op_eqK hu) (op_eqS hu)))
  | NotEq => exact OpR.or (op_neD (by omega)) (OpR.or (op_neLn (by omega)) (OpR.or (op_neK hu) (op_neS hu)))
  | Lt => exact OpR.or op_lt op_lt_str
  | LtE => exact op_le
  | Gt => exact OpR.or op_gt op_gt_str
  | GtE => exact op_ge
  | Is => exact OpR.or op_isBl op_isN
  | IsNot => exact OpR.or op_notBl op_notN
  | In => exact OpR.or op_in_str (OpR.or (op_inD hu) (OpR.or (op_inT hu) (op_inK hu)))
  | NotIn => exact OpR.or op_notin_str (OpR.or (op_notInD hu) (OpR.or (op_ninT hu) (op_ninK hu)))
theorem is_of {x y : D} {vx vy : V} {b : Bool} (rx : Rep K ρ H x vx) (ry : Rep K ρ H y vy) (h : isD x y = some b) : (∃ k l : Bool, vx = .bl k ∧ vy = .bl l ∧ b = decide (k = l)) ∨ (vy = .non ∧ b = decide (vx = .non)) := by
  cases ry with
  | bl l =>
    cases rx with
    | bl k => cases h; exact .inl ⟨k, l, rfl, rfl, rfl⟩
    | _ => cases h
  | non => cases rx <;> cases h <;> exact .inr ⟨rfl, by simp⟩
  | _ => cases rx <;> cases h
def InWay (K : PySem.W.Frag) (H : Hp) (vx vy : V) (b : Bool) : Prop :=
    (∃ i j, vx = .str i ∧ vy = .str j ∧ b = !(Builtin.Str.occurrences j i 0 j.length 1).isEmpty) ∨
    (∃ d ds, Dp K H vx d ∧ Dp K H vy (.list ds) ∧ SeqAt.shaped d = true ∧ SeqAt.shaped (.list ds) = true ∧ b = ds.any fun z => PyData.eqv z d) ∨
    (∃ d ds, Dp K H vx d ∧ Dp K H vy (.tuple ds) ∧ SeqAt.shaped d = true ∧ SeqAt.shaped (.tuple ds) = true ∧ b = ds.any fun z => PyData.eqv z d) ∨
    (∃ a o, vy = .ref a ∧ DGet H a vx o ∧ b = o.isSome)
/-- what comes of x in y -/
theorem in_of (st : StR K cA ρ H S) {x y : D} {vx vy : V} {b : Bool} (rx : Rep K ρ H x vx) (ry : Rep K ρ H y vy) (h : inD S x y = some b) :
    InWay K H vx vy b := by
  have objs : inObj S x y = some b → InWay K H vx vy b := fun h => by
    unfold inObj at h
    cases e : dicOf S y with
    | some kvs =>
      rw [e] at h
      simp only at h
      cases e2 : keyD x with
      | none => rw [e2] at h; cases h
      | some k =>
        rw [e2] at h; cases h
        obtain ⟨l, a, vs, rfl, rfl, _, _, e3, r3⟩ := dicOf_at st ry e
        rw [keyD_rep rx e2]
        exact .inr (.inr (.inr ⟨a, _, rfl, DGet.k e3, (r3.val k).1⟩))
    | none =>
      rw [e] at h
      have h : inSeq S x y = some b := h
      unfold inSeq at h
      cases e1 : toPyS S x with
      | none => rw [e1] at h; cases h
      | some p =>
        cases e2 : toPyS S y with
        | none => rw [e1, e2] at h; cases h
        | some q =>
          rw [e1, e2] at h
          cases q with
          | list bs =>
            simp only at h
            split at h
            case isFalse => cases h
            rename_i c
            cases h
            exact .inr (.inl ⟨p, bs, toPyS_dp st rx e1, toPyS_dp st ry e2, c.1, c.2, rfl⟩)
          | tuple bs =>
            simp only at h
            split at h
            case isFalse => cases h
            rename_i c
            cases h
            exact .inr (.inr (.inl ⟨p, bs, toPyS_dp st rx e1, toPyS_dp st ry e2, c.1, c.2, rfl⟩))
          | _ => cases h
  cases rx with
  | str i =>
    cases ry with
    | str j => cases h; exact .inl ⟨i, j, rfl, rfl, rfl⟩
    | _ => exact objs h
  | _ => exact objs h
theorem cmpr_of (st : StR K cA ρ H S) {op : CmpOp} {x y : D} {vx vy : V} {b : Bool} {Q : VK} (rx : Rep K ρ H x vx) (ry : Rep K ρ H y vy) (h : cmpD S op x y = some b) (q : Q (.bl b) H) : cOf K op vx vy H Q := by
  cases op with
  | Eq =>
    rcases eqD_of st rx ry h with ⟨d1, d2, h1, h2, h3, h4, rfl⟩ | ⟨a, a', xs, ys, h1, h2, h3, h4, h5, rfl⟩ | ⟨a, a', ks, ls, r, h1, h2, h3, h4, h5, rfl⟩ | ⟨a, c, h1, h2, rfl⟩
    · exact .inl ⟨d1, d2, h1, h2, h3, h4, q⟩
    · exact .inr (.inl ⟨a, a', xs, ys, h1, h2, h3, h4, h5, q⟩)
    · exact .inr (.inr (.inl ⟨a, a', ks, ls, r, h1, h2, h3, h4, h5, q⟩))
    · exact .inr (.inr (.inr ⟨a, c, h1, h2, q⟩))
  | NotEq =>
    simp only [cmpD] at h
    cases e : eqD S x y with
    | none => rw [e] at h; cases h
    | some b' =>
      rw [e] at h; cases h
      rcases eqD_of st rx ry e with ⟨d1, d2, h1, h2, h3, h4, rfl⟩ | ⟨a, a', xs, ys, h1, h2, h3, h4, h5, rfl⟩ | ⟨a, a', ks, ls, r, h1, h2, h3, h4, h5, rfl⟩ | ⟨a, c, h1, h2, rfl⟩
      · exact .inl ⟨d1, d2, h1, h2, h3, h4, q⟩
      · exact .inr (.inl ⟨a, a', xs, ys, h1, h2, h3, h4, h5, q⟩)
      · exact .inr (.inr (.inl ⟨a, a', ks, ls, r, h1, h2, h3, h4, h5, q⟩))
      · exact .inr (.inr (.inr ⟨a, c, h1, h2, q⟩))
  | Is =>
    rcases is_of rx ry h with ⟨k, l, rfl, rfl, rfl⟩ | ⟨rfl, rfl⟩
    · exact .inl ⟨k, l, rfl, rfl, q⟩
    · exact .inr ⟨rfl, q⟩
  | IsNot =>
    simp only [cmpD] at h
    cases e : isD x y with
    | none => rw [e] at h; cases h
    | some b' =>
      rw [e] at h; cases h
      rcases is_of rx ry e with ⟨k, l, rfl, rfl, rfl⟩ | ⟨rfl, rfl⟩
      · exact .inl ⟨k, l, rfl, rfl, q⟩
      · exact .inr ⟨rfl, q⟩
  | In =>
    rcases in_of st rx ry h with ⟨i, j, rfl, rfl, rfl⟩ | ⟨d, ds, h1, h2, h3, h4, rfl⟩ | ⟨d, ds, h1, h2, h3, h4, rfl⟩ | ⟨a, o, rfl, g, rfl⟩
    · exact .inl ⟨i, j, rfl, rfl, q⟩
    · exact .inr (.inl ⟨d, ds, h1, h2, h3, h4, q⟩)
    · exact .inr (.inr (.inl ⟨d, ds, h1, h2, h3, h4, q⟩))
    · exact .inr (.inr (.inr ⟨a, o, rfl, g, q⟩))
  | NotIn =>
    simp only [cmpD] at h
    cases e : inD S x y with
    | none => rw [e] at h; cases h
    | some b' =>
      rw [e] at h; cases h
      rcases in_of st rx ry e with ⟨i, j, rfl, rfl, rfl⟩ | ⟨d, ds, h1, h2, h3, h4, rfl⟩ | ⟨d, ds, h1, h2, h3, h4, rfl⟩ | ⟨a, o, rfl, g, rfl⟩
      · exact .inl ⟨i, j, rfl, rfl, q⟩
      · exact .inr (.inl ⟨d, ds, h1, h2, h3, h4, q⟩)
      · exact .inr (.inr (.inl ⟨d, ds, h1, h2, h3, h4, q⟩))
      · exact .inr (.inr (.inr ⟨a, o, rfl, g, q⟩))
  | Lt => cases rx <;> cases ry <;> first | (cases h; first | exact .inl ⟨_, _, rfl, rfl, q⟩ | exact .inr ⟨_, _, rfl, rfl, q⟩) | (cases h)
  | Gt => cases rx <;> cases ry <;> first | (cases h; first | exact .inl ⟨_, _, rfl, rfl, q⟩ | exact .inr ⟨_, _, rfl, rfl, q⟩) | (cases h)
  | LtE => cases rx <;> cases ry <;> first | (cases h; exact ⟨_, _, rfl, rfl, q⟩) | (cases h)
  | GtE => cases rx <;> cases ry <;> first | (cases h; exact ⟨_, _, rfl, rfl, q⟩) | (cases h)
end
end Q
/-! Q4: indices, slices, built-ins, methods, stores, walks. -/
namespace Q
open PySem PySem.Spec PyProof.Rows L2
section
variable {X : Cx} {K : PySem.W.Frag} {cA : CA} {ρ : Pl} {H : Hp} {S : Store}

/-! ### x[i] -/
theorem atI_rep {xs : List D} {vs : List V} {i : Int} {d : D} (rs : Reps K ρ H xs vs) (h : L2.atI xs i = some d) : ∃ v, L2.atI vs i = some v ∧ Rep K ρ H d v := by
  unfold L2.atI at h ⊢
  rw [rs.length] at h
  cases e : L2.ixN vs.length i with
  | none => rw [e] at h; cases h
  | some j =>
    rw [e] at h
    exact rs.get h
theorem ixS_of (st : StR K cA ρ H S) {x i d : D} {vx vi : V} {Q : VK} (rx : Rep K ρ H x vx) (ri : Rep K ρ H i vi) (h : ixS S x i = some d) (k : Kon K cA ρ H S d Q) : rIx K vx vi H Q := by
  have seqs : ∀ n : Int, (match seqO S x with | some xs => L2.atI xs n | none => none) = some d → rIx K vx (.int n) H Q := by
    intro n h
    cases e : seqO S x with
    | none => rw [e] at h; cases h
    | some xs =>
      rw [e] at h
      obtain ⟨a, vs, rfl, q, rs⟩ := seqO_sq st rx e
      obtain ⟨v, h1, h2⟩ := atI_rep rs h
      rcases q with q | q
      · exact .inl ⟨a, vs, n, v, rfl, rfl, q, h1, kon_here st k h2⟩
      · exact .inr (.inl ⟨a, vs, n, v, rfl, rfl, q, h1, kon_here st k h2⟩)
  cases ri with
  | int n =>
    cases rx with
    | str z =>
      simp only [ixS] at h
      split at h
      · rename_i c
        cases e : L2.atI z.cps.toList n with
        | none => rw [e] at h; cases h
        | some y =>
          rw [e] at h; cases h
          exact .inr (.inr ⟨z, n, y, rfl, rfl, by rw [line_eq]; exact c, e, kon_here st k (.str _)⟩)
      · cases h
    | _ => exact seqs n h
  | _ => cases h

def rIxA (K : PySem.W.Frag) : R2 := fun x y H Q => rIx K x y H Q ∨ rIxK x y H Q
theorem ix_all (hu : X.A.units + 65 < cLine) : IxR X (rIxA X.K) := ix_seq.or (ix_key hu)
theorem ix_of (st : StR K cA ρ H S) {x i d : D} {vx vi : V} {Q : VK} (rx : Rep K ρ H x vx) (ri : Rep K ρ H i vi) (h : ixD S x i = some d) (k : Kon K cA ρ H S d Q) : rIxA K vx vi H Q := by
  unfold ixD at h
  cases e : dicOf S x with
  | some kvs =>
    rw [e] at h
    simp only at h
    cases e2 : keyD i with
    | none => rw [e2] at h; cases h
    | some kk =>
      rw [e2] at h
      obtain ⟨l, a, vs, rfl, rfl, _, _, e3, r3⟩ := dicOf_at st rx e
      obtain ⟨v, h1, h2⟩ := (r3.val kk).2 d h
      exact .inr ⟨a, v, rfl, by rw [keyD_rep ri e2, ← h1]; exact DGet.k e3, kon_here st k h2⟩
  | none =>
    rw [e] at h
    exact .inl (ixS_of st rx ri h k)
/-! ### x[i:j] -/
def rSlAll (K : PySem.W.Frag) : V → Option Int → Option Int → Hp → VK → Prop := fun x lo hi H Q => rSlA K x lo hi H Q ∨ (rSlL K x lo hi H Q ∨ C8.rSlX x lo hi H Q)
theorem sl_all : SlR X (rSlAll X.K) := SlR.or sl_tupA (SlR.or sl_list C8.sl_txt)
theorem cut_whole {α : Type} {xs : List α} {lo hi : Option Int} (h : HT.sIx xs.length 0 lo = 0 ∧ HT.sIx xs.length xs.length hi = xs.length) : cut xs lo hi = xs := by
  unfold cut
  rw [h.1, h.2]; simp
theorem sl_of (st : StR K cA ρ H S) {x d : D} {vx : V} {lo hi : Option Int} {Q : VK} (rx : Rep K ρ H x vx) (h : slD S x lo hi = some d) (k : Kon K cA ρ H S d Q) : rSlAll K vx lo hi H Q := by
  have lists : (match seqL S x with | some xs => some (D.lst (cut xs lo hi)) | none => none) = some d → rSlAll K vx lo hi H Q := by
    intro h
    cases e : seqL S x with
    | none => rw [e] at h; cases h
    | some xs =>
      rw [e] at h; cases h
      obtain ⟨a, vs, rfl, q, rs⟩ := seqL_sq st rx e
      exact .inr (.inl ⟨a, vs, rfl, q, kon_lst st k (rs.cut lo hi)⟩)
  cases rx with
  | str z =>
    simp only [slD] at h
    split at h <;> cases h
    rename_i c
    exact .inr (.inr ⟨z, rfl, by rw [line_eq]; exact c, kon_here st k (.str _)⟩)
  | tup at_ rs =>
    rename_i ds a vs
    cases h
    refine .inl ⟨a, vs, rfl, at_.sq, fun w => ?_, fun _ => kon_tup st k (rs.cut lo hi)⟩
    rw [← rs.length] at w
    rw [cut_whole w] at k
    exact kon_here st k (.tup at_ rs)
  | _ => exact lists h

theorem sl_ref (st : StR K cA ρ H S) {x : D} {xs : List D} {vx : V} {lo hi : Option Int} {Q : VK} (rx : Rep K ρ H x vx) (h : slD S x lo hi = some (.lst xs)) (k : Kon K cA ρ H (S ++ [.lst xs]) (.ref S.length) Q) : rSlAll K vx lo hi H Q := by
  have lists : (match seqL S x with | some xs => some (D.lst (cut xs lo hi)) | none => none) = some (.lst xs) → rSlAll K vx lo hi H Q := by
    intro h
    cases e : seqL S x with
    | none => rw [e] at h; cases h
    | some ys =>
      rw [e] at h; cases h
      obtain ⟨a, vs, rfl, q, rs⟩ := seqL_sq st rx e
      exact .inr (.inl ⟨a, vs, rfl, q, kon_ref st k (rs.cut lo hi)⟩)
  cases rx with
  | str z =>
    simp only [slD] at h
    split at h <;> cases h
  | tup at_ rs => cases h
  | _ => exact lists h

/-! ### isinstance -/
theorem ty_cases {t : Str} (h : tyOk t = true) : t = "int" ∨ t = "bool" ∨ t = "str" ∨ t = "tuple" ∨ t = "list" ∨ t = "dict" := by
  simp only [tyOk, Bool.or_eq_true, beq_iff_eq] at h
  rcases h with ((((h | h) | h) | h) | h) | h <;> simp [h]
def tyNm (t : Str) : String := if t = "int" then "int" else if t = "bool" then "bool" else if t = "str" then "str" else if t = "tuple" then "tuple" else if t = "list" then "list" else "dict"
theorem boot_ty {t : Str} (h : tyOk t = true) : bootBuiltins t = some (.type (tyNm t)) := by
  rcases ty_cases h with rfl | rfl | rfl | rfl | rfl | rfl <;> decide +kernel
/-- a thing's type -/
theorem tyx_rep (st : StR K cA ρ H S) {x : D} {v : V} {t : Str} {b : Bool} (r : Rep K ρ H x v) (ht : tyOk t = true) (h : isTy S x t = some b) : ∃ a : String, TyX K H v (.type a) ∧ kitB a (tyNm t) = some b := by
  have tb : ∀ a : String, a = "NoneType" ∨ a = "bool" ∨ a = "int" ∨ a = "str" ∨ a = "tuple" ∨ a = "list" ∨ a = "dict" →
      kitB a (tyNm t) = some (if a = "NoneType" then false else if a = "bool" then (t == "bool" || t == "int") else if a = "int" then t == "int" else if a = "str" then t == "str" else if a = "tuple" then t == "tuple" else if a = "list" then t == "list" else t == "dict") := by
    intro a ha
    rcases ty_cases ht with rfl | rfl | rfl | rfl | rfl | rfl <;> rcases ha with rfl | rfl | rfl | rfl | rfl | rfl | rfl <;> decide +kernel
  cases r with
  | non => cases h; exact ⟨"NoneType", .base .non, tb _ (by simp)⟩
  | bl => cases h; exact ⟨"bool", .base (.bl _), tb _ (by simp)⟩
  | int => cases h; exact ⟨"int", .base (.int _), tb _ (by simp)⟩
  | str => cases h; exact ⟨"str", .base (.str _), tb _ (by simp)⟩
  | tup at_ rs =>
    cases h
    refine ⟨"tuple", ?_, tb _ (by simp)⟩
    rcases at_ with ⟨q | ⟨o, q⟩, _⟩ | ⟨o, its, n, q, c, _⟩
    · exact .base (.tup q)
    · exact .fTuple q
    · exact .kTuple q c
  | lst at_ rs =>
    cases h
    refine ⟨"list", ?_, tb _ (by simp)⟩
    rcases at_ with ⟨q | ⟨o, q⟩, _⟩ | ⟨o, its, n, q, c, _⟩
    · exact .base (.lst q)
    · exact .base (.frz q)
    · exact .kList q c
  | ref e =>
    rename_i l a
    have h' : (match S[l]? with | some (.lst _) => some (t == "list") | some (.dic _) => some (t == "dict") | _ => none) = some b := h
    cases q : S[l]? with
    | none => rw [q] at h'; cases h'
    | some o =>
      rw [q] at h'
      cases o with
      | lst xs =>
        cases h'
        obtain ⟨vs, e1, _⟩ := st.at q e
        exact ⟨"list", .base (.lst e1), tb _ (by simp)⟩
      | dic kvs =>
        cases h'
        obtain ⟨vs, e1, _⟩ := st.at q e
        exact ⟨"dict", .base (.dK e1), tb _ (by simp)⟩
      | ins => cases h'
      | dead => cases h'

/-! ### built-ins by their names -/
abbrev RC : Type := List V → Hp → VK → Prop
theorem len_of (st : StR K cA ρ H S) {x d : D} {vx : V} {Q : VK} (rx : Rep K ρ H x vx) (h : lenD S x = some d) (k : Kon K cA ρ H S d Q) : ∃ n, LenV K vx H n ∧ Q (.int n) H := by
  have seqs : (match seqO S x with | some xs => some (D.int xs.length) | none => none) = some d → ∃ n, LenV K vx H n ∧ Q (.int n) H := by
    intro h
    cases e : seqO S x with
    | none => rw [e] at h; cases h
    | some xs =>
      rw [e] at h; cases h
      obtain ⟨a, vs, rfl, q, rs⟩ := seqO_sq st rx e
      refine ⟨xs.length, ?_, kon_here st k (.int _)⟩
      rcases q with q | q
      · exact .inl ⟨vs, q, rs.length⟩
      · exact .inr ⟨vs, q, rs.length⟩
  cases rx with
  | str z =>
    simp only [lenD] at h
    split at h <;> cases h
    rename_i c
    exact ⟨z.length, ⟨by rw [line_eq]; exact c, rfl⟩, kon_here st k (.int _)⟩
  | _ => exact seqs h
theorem bls_rep : ∀ {xs : List D} {vs : List V} {bs : List Bool}, Reps K ρ H xs vs → blsOf xs = some bs → vs = bs.map V.bl
  | _, _, _, .nil, h => by cases h; rfl
  | _, _, bs, .cons (d := d) (ds := ds) r rs, h => by
    cases r with
    | bl b =>
      simp only [blsOf] at h
      cases e : blsOf ds with
      | none => rw [e] at h; cases h
      | some cs => rw [e] at h; cases h; rw [bls_rep rs e]; rfl
    | _ => cases h
theorem ints_rep : ∀ {xs : List D} {vs : List V} {bs : List Int}, Reps K ρ H xs vs → intsOf xs = some bs → vs = bs.map V.int
  | _, _, _, .nil, h => by cases h; rfl
  | _, _, bs, .cons (d := d) (ds := ds) r rs, h => by
    cases r with
    | int b =>
      simp only [intsOf] at h
      cases e : intsOf ds with
      | none => rw [e] at h; cases h
      | some cs => rw [e] at h; cases h; rw [ints_rep rs e]; rfl
    | _ => cases h
def Blt.val : Blt → Value
  | .len => .builtin "len"
  | .int => .type "int"
  | .list => .type "list"
  | .tuple => .type "tuple"
  | .all => .builtin "all"
  | .abs => .builtin "abs"
  | .min => .builtin "min"
  | .max => .builtin "max"
  | .str => .type "str"
  | .any => .builtin "any"
  | .sum => .builtin "sum"
  | .repr => .builtin "repr"
def Blt.rule (K : PySem.W.Frag) : Blt → RC
  | .len => fun xs H Q => ∃ x n, xs = [x] ∧ LenV K x H n ∧ Q (.int n) H
  | .int => fun xs H Q => ((∃ i, xs = [.int i] ∧ Q (.int i) H) ∨ ∃ k, xs = [.bl k] ∧ Q (.int (if k then 1 else 0)) H) ∨ ∃ a n, xs = [.str a] ∧ PySem.intText? a = some n ∧ a.length ≤ 640 ∧ Q (.int n) H
  | .list => fun xs H Q => (∃ p ys, xs = [.ref p] ∧ (SqL K H p ys ∨ SqT K H p ys) ∧ ∀ l, H l = none → Q (.ref l) (upd H l (.lst ys))) ∨
      ∃ z : Str, xs = [.str z] ∧ z.length ≤ sizeLine ∧ ∀ l, H l = none → Q (.ref l) (upd H l (.lst (z.cps.toList.map fun c => .str ⟨#[c]⟩)))
  | .tuple => fun xs H Q => ∃ p ys, xs = [.ref p] ∧ ((SqL K H p ys ∧ ∀ l, H l = none → Q (.ref l) (upd H l (.tup ys))) ∨ (SqT K H p ys ∧ Q (.ref p) H))
  | .all => rAll K
  | .abs => fun xs H Q => ∃ i, xs = [.int i] ∧ Q (.int (if i < 0 then -i else i)) H
  | .min => fun xs H Q => ∃ i j, xs = [.int i, .int j] ∧ Q (.int (if j < i then j else i)) H
  | .max => fun xs H Q => ∃ i j, xs = [.int i, .int j] ∧ Q (.int (if j > i then j else i)) H
  | .str => fun xs H Q => (∃ i, xs = [.int i] ∧ i.natAbs.log2 < 1920 ∧ Q (.str (toString i)) H) ∨ ∃ a, xs = [.str a] ∧ Q (.str a) H
  | .any => rAny K
  | .sum => rSum K
  | .repr => rRepr K
theorem Blt.ok (b : Blt) (hc : b ≠ .int → X.calm = true) (hg : b = .repr → X.A.guards = some [] ∧ X.A.units + 65 < cLine) : CallR X b.val (b.rule X.K) := by
  cases b with
  | len => exact call_len
  | int => exact CallR.or call_int1 call_int_str
  | list => exact CallR.or call_list_of (cr_listS (hc (by simp)))
  | tuple => exact call_tuple_of
  | all => exact cr_all (hc (by simp))
  | abs => exact call_abs
  | min => exact call_min2 (hc (by simp))
  | max => exact call_max2 (hc (by simp))
  | str => exact CallR.or call_str_int SkE.call_str_str
  | any => exact cr_any (hc (by simp))
  | sum => exact cr_sum (hc (by simp))
  | repr => exact call_repr (hg rfl).1 (hg rfl).2

theorem reps0 {vs : List V} (rs : Reps K ρ H [] vs) : vs = [] := by cases rs; rfl
theorem reps1 {x : D} {vs : List V} (rs : Reps K ρ H [x] vs) : ∃ v, vs = [v] ∧ Rep K ρ H x v := by
  cases rs with
  | cons r t => cases t; exact ⟨_, rfl, r⟩
theorem reps2 {x y : D} {vs : List V} (rs : Reps K ρ H [x, y] vs) : ∃ v w, vs = [v, w] ∧ Rep K ρ H x v ∧ Rep K ρ H y w := by
  cases rs with
  | cons r t =>
    obtain ⟨w, rfl, q⟩ := reps1 t
    exact ⟨_, w, rfl, r, q⟩
theorem list_of (st : StR K cA ρ H S) {x : D} {v : V} {d : D} {Q : VK} (r : Rep K ρ H x v) (h : listD S x = some d) (k : ∀ zs vs, d = .lst zs → Reps K ρ H zs vs → ∀ p, H p = none → Q (.ref p) (upd H p (.lst vs))) : Blt.list.rule K [v] H Q := by
  have seqs : (match seqO S x with | some ys => some (D.lst ys) | none => none) = some d → Blt.list.rule K [v] H Q := fun h => by
    cases e : seqO S x with
    | none => rw [e] at h; cases h
    | some ys =>
      rw [e] at h; cases h
      obtain ⟨a, ws, rfl, q, rw_⟩ := seqO_sq st r e
      exact .inl ⟨a, ws, rfl, q, k _ _ rfl rw_⟩
  cases r with
  | str z =>
    simp only [listD] at h
    split at h
    case isFalse => cases h
    rename_i c
    cases h
    refine .inr ⟨z, rfl, by rw [line_eq]; exact c, k _ _ rfl ?_⟩
    induction z.cps.toList with
    | nil => exact .nil
    | cons c cs ih => exact .cons (.str _) ih
  | _ => exact seqs h
/-! ### repr -/
theorem frep_split {κ : Type} : ∀ {ds : List (κ × D)} {vs : List (κ × V)}, FReps K ρ H ds vs → ds.map (·.1) = vs.map (·.1) ∧ Reps K ρ H (ds.map (·.2)) (vs.map (·.2))
  | _, _, .nil => ⟨rfl, .nil⟩
  | _, _, .cons r rs => by
    obtain ⟨a, b⟩ := frep_split rs
    exact ⟨by rw [List.map_cons, List.map_cons, a], .cons r b⟩
theorem opt_rdvs {f : D → Option PyData} {m : Nat} (hf : ∀ d v p, Rep K ρ H d v → f d = some p → Rdv K H v p ∧ p.depth ≤ m) : ∀ {ds : List D} {vs : List V} {ps : List PyData}, Reps K ρ H ds vs → optAll (ds.map f) = some ps → Rdvs K H vs ps ∧ PyData.depthAll ps ≤ m
  | _, _, _, .nil, h => by
    cases h
    exact ⟨.nil, by simp [PyData.depthAll]⟩
  | _, _, _, .cons (d := d) (ds := ds) r rs, h => by
    rw [List.map_cons] at h
    cases e : f d with
    | none => rw [e] at h; cases h
    | some p =>
      rw [e] at h
      simp only [optAll] at h
      cases e2 : optAll (ds.map f) with
      | none => rw [e2] at h; cases h
      | some qs =>
        rw [e2] at h
        cases h
        obtain ⟨a1, a2⟩ := hf _ _ _ r e
        obtain ⟨b1, b2⟩ := opt_rdvs hf rs e2
        exact ⟨.cons a1 b1, by simp only [PyData.depthAll]; omega⟩
theorem pdMap_some {f : List PyData → PyData} {o : Option (List PyData)} {p : PyData} (h : pdMap f o = some p) : ∃ ps, o = some ps ∧ p = f ps := by
  cases o with
  | none => cases h
  | some ps => cases h; exact ⟨ps, rfl, rfl⟩
theorem depthKv_zip {m : Nat} : ∀ {ks : List L2.Key} {ds : List PyData}, PyData.depthAll ds ≤ m → PyData.depthKv ((ks.map pdKey).zip ds) ≤ m
  | [], _, _ => by simp [PyData.depthKv]
  | _ :: _, [], _ => by simp [PyData.depthKv]
  | k :: ks, d :: ds, h => by
    simp only [PyData.depthAll] at h
    have := depthKv_zip (m := m) (ks := ks) (ds := ds) (by omega)
    have hk : (pdKey k).depth = 0 := by cases k <;> simp [pdKey, PyData.depth]
    rw [List.map_cons, List.zip_cons_cons]
    simp only [PyData.depthKv, hk]
    omega
theorem pdD_rdv (st : StR K cA ρ H S) : ∀ (n : Nat) (d : D) (v : V) (p : PyData), Rep K ρ H d v → pdD S n d = some p → Rdv K H v p ∧ p.depth ≤ n
  | 0, _, _, _, _, h => by cases h
  | n + 1, d, v, p, r, h => by
    have ih := pdD_rdv st n
    cases r with
    | non => cases h; exact ⟨.non, by simp [PyData.depth]⟩
    | bl b => cases h; exact ⟨.bl b, by simp [PyData.depth]⟩
    | int i => cases h; exact ⟨.int i, by simp [PyData.depth]⟩
    | str x => cases h; exact ⟨.str x, by simp [PyData.depth]⟩
    | tup at_ rs =>
      obtain ⟨ps, e, rfl⟩ := pdMap_some (show pdMap .tuple (optAll (_ : List (Option PyData))) = some p from h)
      obtain ⟨a, b⟩ := opt_rdvs ih rs e
      exact ⟨.tup at_.sq a, by simp only [PyData.depth]; omega⟩
    | lst at_ rs =>
      obtain ⟨ps, e, rfl⟩ := pdMap_some (show pdMap .list (optAll (_ : List (Option PyData))) = some p from h)
      obtain ⟨a, b⟩ := opt_rdvs ih rs e
      exact ⟨.lst at_.sq a, by simp only [PyData.depth]; omega⟩
    | ref f =>
      rename_i l a
      simp only [pdD] at h
      cases q : S[l]? with
      | none => rw [q] at h; cases h
      | some o =>
        rw [q] at h
        cases o with
        | lst ds =>
          obtain ⟨vs, e1, rs⟩ := st.at q f
          obtain ⟨ps, e, rfl⟩ := pdMap_some h
          obtain ⟨a, b⟩ := opt_rdvs ih rs e
          exact ⟨.lst (SqL.of e1) a, by simp only [PyData.depth]; omega⟩
        | dic kvs =>
          obtain ⟨vs, e1, rs⟩ := st.at q f
          obtain ⟨ek, rv⟩ := frep_split rs
          obtain ⟨ps, e, rfl⟩ := pdMap_some h
          obtain ⟨a, b⟩ := opt_rdvs ih rv e
          have ek2 : (kvs.map fun p => pdKey p.1) = vs.map fun p => pdKey p.1 := by
            have := congrArg (List.map pdKey) ek
            rw [List.map_map, List.map_map] at this
            exact this
          refine ⟨?_, ?_⟩
          · rw [ek2]
            exact .dic e1 a
          · have := depthKv_zip (ks := kvs.map (·.1)) b
            rw [List.map_map] at this
            simp only [PyData.depth]
            exact Nat.succ_le_succ this
        | ins => cases h
        | dead => cases h
theorem Blt.of1 (st : StR K cA ρ H S) {b : Blt} {x : D} {v : V} {d : D} {Q : VK} (r : Rep K ρ H x v) (h : b.sem1 S x = some d) (k : Kon K cA ρ H S d Q) : b.rule K [v] H Q := by
  cases b with
  | len =>
    obtain ⟨n, h1, h2⟩ := len_of st r h k
    exact ⟨_, n, rfl, h1, h2⟩
  | int =>
    have h : intD x = some d := h
    cases r with
    | int i => cases h; exact .inl (.inl ⟨i, rfl, kon_here st k (.int _)⟩)
    | bl i => cases h; exact .inl (.inr ⟨i, rfl, kon_here st k (.int _)⟩)
    | str z =>
      simp only [intD] at h
      cases e : PySem.intText? z with
      | none => rw [e] at h; cases h
      | some n =>
        rw [e] at h
        simp only at h
        split at h
        case isFalse => cases h
        rename_i c
        cases h
        exact .inr ⟨z, n, rfl, e, c, kon_here st k (.int _)⟩
    | _ => cases h
  | list => exact list_of st r h fun zs vs e rs => kon_lst st (by rw [← e]; exact k) rs
  | tuple =>
    have h : tupleD S x = some d := h
    unfold tupleD at h
    cases e : seqO S x with
    | none => rw [e] at h; cases h
    | some ys =>
      rw [e] at h; cases h
      by_cases ht : ∃ ds, x = .tup ds
      · obtain ⟨ds, rfl⟩ := ht
        cases e
        cases r with
        | tup at_ rs =>
          exact ⟨_, _, rfl, .inr ⟨at_.sq, kon_here st k (.tup at_ rs)⟩⟩
      · have e' : seqL S x = some ys := by
          cases x with
          | tup ds => exact absurd ⟨ds, rfl⟩ ht
          | _ => exact e
        obtain ⟨a, ws, rfl, q, rw_⟩ := seqL_sq st r e'
        exact ⟨a, ws, rfl, .inl ⟨q, kon_tup st k rw_⟩⟩
  | all =>
    have h : allD S x = some d := h
    unfold allD at h
    cases e : seqL S x with
    | none => rw [e] at h; cases h
    | some ys =>
      rw [e] at h
      simp only at h
      cases e2 : blsOf ys with
      | none => rw [e2] at h; cases h
      | some bs =>
        rw [e2] at h; cases h
        obtain ⟨a, ws, rfl, q, rw_⟩ := seqL_sq st r e
        rw [bls_rep rw_ e2] at q
        exact ⟨a, bs, rfl, q, kon_here st k (.bl _)⟩
  | abs =>
    have h : absD x = some d := h
    cases r with
    | int i => cases h; exact ⟨i, rfl, kon_here st k (.int _)⟩
    | _ => cases h
  | min => cases h
  | max => cases h
  | any =>
    have h : anyD S x = some d := h
    unfold anyD at h
    cases e : seqL S x with
    | none => rw [e] at h; cases h
    | some ys =>
      rw [e] at h
      simp only at h
      cases e2 : blsOf ys with
      | none => rw [e2] at h; cases h
      | some bs =>
        rw [e2] at h; cases h
        obtain ⟨a, ws, rfl, q, rw_⟩ := seqL_sq st r e
        rw [bls_rep rw_ e2] at q
        exact ⟨a, bs, rfl, q, kon_here st k (.bl _)⟩
  | sum =>
    have h : sumD S x = some d := h
    unfold sumD at h
    cases e : seqL S x with
    | none => rw [e] at h; cases h
    | some ys =>
      rw [e] at h
      simp only at h
      cases e2 : intsOf ys with
      | none => rw [e2] at h; cases h
      | some bs =>
        rw [e2] at h; cases h
        obtain ⟨a, ws, rfl, q, rw_⟩ := seqL_sq st r e
        rw [ints_rep rw_ e2] at q
        exact ⟨a, bs, rfl, q, kon_here st k (.int _)⟩
  | str =>
    have h : strD x = some d := h
    cases r with
    | int i =>
      have h : (if i.natAbs.log2 < 1920 then some (D.str (toString i)) else none) = some d := h
      split at h
      · next c => cases h; exact .inl ⟨i, rfl, c, kon_here st k (.str _)⟩
      · cases h
    | str z => cases h; exact .inr ⟨z, rfl, kon_here st k (.str _)⟩
    | _ => cases h
  | repr =>
    have h : reprD S x = some d := h
    unfold reprD at h
    cases e : pdD S 60 x with
    | none => rw [e] at h; cases h
    | some p =>
      rw [e] at h
      simp only at h
      split at h
      · next c =>
        cases h
        obtain ⟨a, b⟩ := pdD_rdv st 60 x v p r e
        exact ⟨v, p, rfl, a, c.1, by rw [line_eq]; exact Nat.le_trans c.2 (by decide), b, kon_here st k (.str _)⟩
      · cases h
theorem Blt.of2 (st : StR K cA ρ H S) {b : Blt} {x y : D} {v w : V} {d : D} {Q : VK} (r : Rep K ρ H x v) (r2 : Rep K ρ H y w) (h : b.sem2 x y = some d) (k : Kon K cA ρ H S d Q) : b.rule K [v, w] H Q := by
  cases b with
  | min =>
    have h : minD x y = some d := h
    cases r with
    | int i =>
      cases r2 with
      | int j => cases h; exact ⟨i, j, rfl, kon_here st k (.int _)⟩
      | _ => cases h
    | _ => cases h
  | max =>
    have h : maxD x y = some d := h
    cases r with
    | int i =>
      cases r2 with
      | int j => cases h; exact ⟨i, j, rfl, kon_here st k (.int _)⟩
      | _ => cases h
    | _ => cases h
  | _ => cases h
theorem Blt.of (st : StR K cA ρ H S) {b : Blt} {xs : List D} {vs : List V} {d : D} {Q : VK} (rs : Reps K ρ H xs vs) (h : b.sem S xs = some d) (k : Kon K cA ρ H S d Q) : b.rule K vs H Q := by
  rcases xs with _ | ⟨x, _ | ⟨y, _ | ⟨z, zs⟩⟩⟩
  · cases h
  · obtain ⟨v, rfl, r⟩ := reps1 rs
    exact Blt.of1 st r h k
  · obtain ⟨v, w, rfl, r, r2⟩ := reps2 rs
    exact Blt.of2 st r r2 h k
  · cases h
theorem if_blt {c : Bool} {x b : Blt} {r : Option Blt} (h : (if c = true then some x else r) = some b) : (c = true ∧ b = x) ∨ r = some b := by
  cases c with
  | true => injection h with h; exact .inl ⟨rfl, h.symm⟩
  | false => exact .inr h
theorem bltOf_cases {f : Str} {b : Blt} (h : bltOf f = some b) : bootBuiltins f = some b.val ∧ f ≠ "__name__" := by
  unfold bltOf at h
  rcases if_blt h with ⟨e, rfl⟩ | h
  · rw [beq_iff_eq.mp e]; exact ⟨by decide +kernel, by decide +kernel⟩
  rcases if_blt h with ⟨e, rfl⟩ | h
  · rw [beq_iff_eq.mp e]; exact ⟨by decide +kernel, by decide +kernel⟩
  rcases if_blt h with ⟨e, rfl⟩ | h
  · rw [beq_iff_eq.mp e]; exact ⟨by decide +kernel, by decide +kernel⟩
  rcases if_blt h with ⟨e, rfl⟩ | h
  · rw [beq_iff_eq.mp e]; exact ⟨by decide +kernel, by decide +kernel⟩
  rcases if_blt h with ⟨e, rfl⟩ | h
  · rw [beq_iff_eq.mp e]; exact ⟨by decide +kernel, by decide +kernel⟩
  rcases if_blt h with ⟨e, rfl⟩ | h
  · rw [beq_iff_eq.mp e]; exact ⟨by decide +kernel, by decide +kernel⟩
  rcases if_blt h with ⟨e, rfl⟩ | h
  · rw [beq_iff_eq.mp e]; exact ⟨by decide +kernel, by decide +kernel⟩
  rcases if_blt h with ⟨e, rfl⟩ | h
  · rw [beq_iff_eq.mp e]; exact ⟨by decide +kernel, by decide +kernel⟩
  rcases if_blt h with ⟨e, rfl⟩ | h
  · rw [beq_iff_eq.mp e]; exact ⟨by decide +kernel, by decide +kernel⟩
  rcases if_blt h with ⟨e, rfl⟩ | h
  · rw [beq_iff_eq.mp e]; exact ⟨by decide +kernel, by decide +kernel⟩
  rcases if_blt h with ⟨e, rfl⟩ | h
  · rw [beq_iff_eq.mp e]; exact ⟨by decide +kernel, by decide +kernel⟩
  rcases if_blt h with ⟨e, rfl⟩ | h
  · rw [beq_iff_eq.mp e]; exact ⟨by decide +kernel, by decide +kernel⟩
  · cases h

/-! ### methods -/
theorem strs_rep : ∀ {xs : List D} {vs : List V} {bs : List Str}, Reps K ρ H xs vs → strsOf xs = some bs → vs = bs.map V.str
  | _, _, _, .nil, h => by cases h; rfl
  | _, _, bs, .cons (d := d) (ds := ds) r rs, h => by
    cases r with
    | str b =>
      simp only [strsOf] at h
      cases e : strsOf ds with
      | none => rw [e] at h; cases h
      | some cs => rw [e] at h; cases h; rw [strs_rep rs e]; rfl
    | _ => cases h
def MId.id : MId → String
  | .bitLength => "int.bit_length"
  | .append => "list.append"
  | .split => "str.split"
  | .join => "str.join"
  | .index => "list.index"
  | .pop => "list.pop"
  | .insert => "list.insert"
  | .clear => "list.clear"
  | .upper => "str.upper"
  | .partition => "str.partition"
  | .get => "dict.get"
  | .count => "str.count"
  | .countL => "list.count"
def MId.T : MId → String
  | .bitLength => "int"
  | .append | .index | .pop | .insert | .clear | .countL => "list"
  | .split | .join | .upper | .partition | .count => "str"
  | .get => "dict"
def MId.nm : MId → Str
  | .bitLength => "bit_length"
  | .append => "append"
  | .split => "split"
  | .join => "join"
  | .index => "index"
  | .pop => "pop"
  | .insert => "insert"
  | .clear => "clear"
  | .upper => "upper"
  | .partition => "partition"
  | .get => "get"
  | .count => "count"
  | .countL => "count"
def MId.rule (K : PySem.W.Frag) : MId → V → List V → Hp → VK → Prop
  | .bitLength => fun x xs H Q => ∃ i, x = .int i ∧ xs = [] ∧ Q (.int (Builtin.Int.intBits i : Nat)) H
  | .append => rAppend
  | .split => fun x xs H Q => ∃ a b, x = .str a ∧ xs = [.str b] ∧ (b.length == 0) = false ∧ a.length + 2 ≤ sizeLine ∧ rNewStrs (Txt.split a b) H Q
  | .join => fun x xs H Q => ∃ a p, ∃ ys : List Str, x = .str a ∧ xs = [.ref p] ∧ (SqL K H p (ys.map V.str) ∨ SqT K H p (ys.map V.str)) ∧ (ys.map (·.length)).sum + ys.length * a.length ≤ 16777216 ∧ Q (.str (Txt.join a ys)) H
  | .index => rIndexD K
  | .pop => fun x xs H Q => rPop x xs H Q ∨ rPopAt x xs H Q
  | .insert => fun x vs H Q => ∃ (l : Addr) (xs : List V) (i : Int) (y : V), x = .ref l ∧ vs = [.int i, y] ∧ H l = some (.lst xs) ∧ xs.length < sizeLine ∧ 0 ≤ i ∧ i < 2 ^ 63 ∧ Q .non (upd H l (.lst (xs.take i.toNat ++ [y] ++ xs.drop i.toNat)))
  | .clear => rClear
  | .upper => fun x xs H Q => ∃ a, x = .str a ∧ xs = [] ∧ a.length ≤ 5592405 ∧ Q (.str (Txt.upper a)) H
  | .partition => fun x xs H Q => ∃ a b, x = .str a ∧ xs = [.str b] ∧ (b.length == 0) = false ∧ a.length ≤ sizeLine ∧ ∀ p, H p = none → Q (.ref p) (upd H p (.tup [.str (Txt.partition a b).1, .str (Txt.partition a b).2.1, .str (Txt.partition a b).2.2]))
  | .get => rGetD
  | .count => fun x xs H Q => ∃ a b, x = .str a ∧ xs = [.str b] ∧ Q (.int (Txt.count a b)) H
  | .countL => rCountD K
theorem MId.plain (m : MId) : PlainAttrs m.T := by
  cases m <;> first | exact PySem.F.plainAttrs_int | exact PySem.F.plainAttrs_list | exact PySem.F.plainAttrs_str | exact PySem.F.plainAttrs_dict
theorem MId.slot (m : MId) : Slot m.T m.nm m.id := by
  cases m with
  | bitLength => exact PyProof.Rows.slot_int_bit_length
  | append => exact PySem.F.slot_list_append
  | split => exact PySem.F.slot_str_split
  | join => exact PySem.F.slot_str_join
  | index => exact PySem.F.slot_list_index
  | pop => exact PySem.F.slot_list_pop
  | insert => exact PySem.F.slot_list_insert
  | clear => exact PySem.F.slot_list_clear
  | upper => exact PySem.F.slot_str_upper
  | partition => exact PySem.F.slot_str_partition
  | get => exact PySem.F.slot_dict_get
  | count => exact PySem.F.slot_str_count
  | countL => exact PySem.F.slot_list_count
theorem MId.ty (m : MId) : typeOf (.builtin m.id) = pure (.type "method_descriptor") := by
  cases m with
  | bitLength => exact PyProof.Rows.type_int_bit_length
  | append => exact PySem.F.type_list_append
  | split => exact PySem.F.type_str_split
  | join => exact PySem.F.type_str_join
  | index => exact PySem.F.type_list_index
  | pop => exact PySem.F.type_list_pop
  | insert => exact PySem.F.type_list_insert
  | clear => exact PySem.F.type_list_clear
  | upper => exact PySem.F.type_str_upper
  | partition => exact PySem.F.type_str_partition
  | get => exact PySem.F.type_dict_get
  | count => exact PySem.F.type_str_count
  | countL => exact PySem.F.type_list_count
theorem MId.ok (hu : X.A.units + 65 < cLine) (m : MId) : MtR X m.id (m.rule X.K) := by
  cases m with
  | bitLength =>
    intro pins s σ H x xs v us Q I r1 r2 h
    obtain ⟨i, rfl, rfl, q⟩ := h
    obtain ⟨t, rfl⟩ := _root_.id r1
    cases r2
    exact call_int_bit_length ⟨.int _, H, I.tok _, ⟨_, rfl⟩, q⟩
  | append => exact mt_append
  | split => exact mt_split
  | join => exact mt_join
  | index => exact mt_indexD hu
  | pop => exact MtR.or mt_pop mt_popAt
  | insert => exact mt_insert
  | clear => exact mt_clear
  | upper => exact mt_upper
  | partition => exact mt_partition
  | get => exact mt_getD hu
  | count => exact mt_count
  | countL => exact mt_countD hu
/-- what the receiver is, where the method is found -/
theorem mId_of (st : StR K cA ρ H S) {x : D} {m : Str} {i : MId} {v : V} (r : Rep K ρ H x v) (h : mIdD S x m = some i) : m = i.nm ∧ tyV K i.T v H := by
  have lists : (match seqL S x with
    | some _ => if m == "append" then some MId.append else if m == "index" then some .index else if m == "pop" then some .pop else if m == "insert" then some .insert else if m == "clear" then some .clear else if m == "count" then some .countL else none
    | none => (match dicOf S x with
      | some _ => if m == "get" then some .get else none
      | none => none)) = some i → m = i.nm ∧ tyV K i.T v H := by
    intro h
    cases e : seqL S x with
    | none =>
      rw [e] at h
      simp only at h
      cases e2 : dicOf S x with
      | none => rw [e2] at h; cases h
      | some kvs =>
        rw [e2] at h
        simp only at h
        split at h
        case isFalse => cases h
        rename_i c
        cases h
        obtain ⟨l, a, vs, rfl, rfl, _, _, e3, _⟩ := dicOf_at st r e2
        exact ⟨beq_iff_eq.mp c, .inr (.inr (.inl ⟨rfl, .inl ⟨vs, e3⟩⟩))⟩
    | some xs =>
      rw [e] at h
      simp only at h
      obtain ⟨a, vs, rfl, q, _⟩ := seqL_sq st r e
      repeat' split at h
      all_goals first
        | (cases h; done)
        | (rename_i c; cases h; exact ⟨beq_iff_eq.mp c, .inl ⟨rfl, vs, q⟩⟩)
  cases r with
  | int n =>
    simp only [mIdD] at h
    split at h <;> cases h
    rename_i c
    exact ⟨beq_iff_eq.mp c, rfl⟩
  | str z =>
    simp only [mIdD] at h
    repeat' split at h
    all_goals first
      | (cases h; done)
      | (rename_i c; cases h; exact ⟨beq_iff_eq.mp c, rfl⟩)
  | _ => exact lists h
theorem first_ok (a : PyData) : ∀ (ds : List PyData) (i j : Nat), firstD a i ds = some j → ∃ m, j = i + m ∧ ∃ z, ds[m]? = some z ∧ PyData.eqv z a = true ∧ ∀ (m' : Nat) (z' : PyData), m' < m → ds[m']? = some z' → PyData.eqv z' a = false
  | [], i, j, h => by cases h
  | d :: ds, i, j, h => by
    unfold firstD at h
    split at h
    · rename_i c
      cases h
      exact ⟨0, rfl, d, rfl, c, fun m' z' hm => absurd hm (by omega)⟩
    · rename_i c
      obtain ⟨m, rfl, z, h1, h2, h3⟩ := first_ok a ds (i + 1) j h
      refine ⟨m + 1, by omega, z, by simpa using h1, h2, fun m' z' hm hz => ?_⟩
      cases m' with
      | zero => simp at hz; subst hz; simpa using c
      | succ m' => exact h3 m' z' (by omega) (by simpa using hz)
theorem lst_in (st : StR K cA ρ H S) {l : Nat} {a : Addr} {ys : List D} (q : S[l]? = some (.lst ys)) (e : ρ.l[l]? = some a) : ∃ ws, H a = some (.lst ws) ∧ Reps K ρ H ys ws := st.at q e
theorem split_ref (st : StR K cA ρ H S) {x : D} {xs ys : List D} {v : V} {vs : List V} {S' : Store} {Q : VK} (r : Rep K ρ H x v) (rs : Reps K ρ H xs vs) (h : mthD S .split x xs = some (.lst ys, S')) (k : Kon K cA ρ H (S' ++ [.lst ys]) (.ref S'.length) Q) : MId.split.rule K v vs H Q := by
  simp only [mthD] at h
  cases r with
  | str a =>
    rcases xs with _ | ⟨y, _ | ⟨y2, ys⟩⟩
    · cases h
    · obtain ⟨w, rfl, ry⟩ := reps1 rs
      cases ry with
      | str b =>
        simp only at h
        split at h
        case isFalse => cases h
        rename_i c
        cases h
        refine ⟨a, b, rfl, rfl, c.1, by rw [line_eq]; exact c.2, fun p hp => ?_⟩
        refine kon_ref st k ?_ p hp
        induction Txt.split a b with
        | nil => exact .nil
        | cons c cs ih => exact .cons (.str _) ih
      | _ => cases h
    · cases y <;> cases h
  | _ => cases h
theorem mth_of (st : StR K cA ρ H S) {m : MId} {x : D} {xs : List D} {v : V} {vs : List V} {d : D} {S' : Store} {Q : VK} (r : Rep K ρ H x v) (rs : Reps K ρ H xs vs) (h : mthD S m x xs = some (d, S')) (k : Kon K cA ρ H S' d Q) : m.rule K v vs H Q := by
  cases m with
  | bitLength =>
    simp only [mthD] at h
    cases r with
    | int i =>
      cases rs with
      | nil => cases h; exact ⟨i, rfl, rfl, kon_here st k (.int _)⟩
      | cons _ _ => cases h
    | _ => cases h
  | append =>
    simp only [mthD] at h
    cases r with
    | ref e =>
      rename_i l a
      cases rs with
      | nil => cases h
      | cons ry rs2 =>
        cases rs2 with
        | cons _ _ => cases h
        | nil =>
          rename_i y vy
          simp only at h
          cases q : S[l]? with
          | none => rw [q] at h; cases h
          | some o =>
            rw [q] at h
            cases o with
            | lst ys =>
              simp only at h
              split at h <;> cases h
              rename_i c
              obtain ⟨ws, e1, rw_⟩ := st.at q e
              refine ⟨a, ws, vy, rfl, rfl, e1, by rw [line_eq, ← rw_.length]; exact c, ?_⟩
              obtain ⟨e2, s2⟩ := ext_write (u := .lst (ws ++ [vy])) (o := .lst (ys ++ [y])) st e fun H' e' z => ⟨_, z, (rw_.append (.cons ry .nil)).ext e'⟩
              exact k _ _ _ e2 s2 .non
            | ins => cases h
            | dic => cases h
            | dead => cases h
    | _ => cases h
  | split =>
    simp only [mthD] at h
    cases r with
    | str a =>
      rcases xs with _ | ⟨y, _ | ⟨y2, ys⟩⟩
      · cases h
      · obtain ⟨w, rfl, ry⟩ := reps1 rs
        cases ry with
        | str b =>
          simp only at h
          split at h
          case isFalse => cases h
          rename_i c
          cases h
          refine ⟨a, b, rfl, rfl, c.1, by rw [line_eq]; exact c.2, fun p hp => ?_⟩
          refine kon_lst st k ?_ p hp
          induction Txt.split a b with
          | nil => exact .nil
          | cons c cs ih => exact .cons (.str _) ih
        | _ => cases h
      · cases y <;> cases h
    | _ => cases h
  | join =>
    simp only [mthD] at h
    cases r with
    | str a =>
      rcases xs with _ | ⟨y, _ | ⟨y2, ys⟩⟩
      · cases h
      · obtain ⟨w, rfl, ry⟩ := reps1 rs
        simp only at h
        cases e : seqO S y with
        | none => rw [e] at h; cases h
        | some zs =>
          rw [e] at h
          simp only at h
          cases e2 : strsOf zs with
          | none => rw [e2] at h; cases h
          | some ts =>
            rw [e2] at h
            simp only at h
            split at h
            case isFalse => cases h
            rename_i c
            cases h
            obtain ⟨p, ws, rfl, q, rw_⟩ := seqO_sq st ry e
            rw [strs_rep rw_ e2] at q
            exact ⟨a, p, ts, rfl, rfl, q, c, kon_here st k (.str _)⟩
      · cases h
    | _ => cases h
  | upper =>
    simp only [mthD] at h
    cases r with
    | str a =>
      cases rs with
      | cons _ _ => cases h
      | nil =>
        simp only at h
        split at h
        case isFalse => cases h
        rename_i c
        cases h
        exact ⟨a, rfl, rfl, c, kon_here st k (.str _)⟩
    | _ => cases h
  | partition =>
    simp only [mthD] at h
    cases r with
    | str a =>
      rcases xs with _ | ⟨y, _ | ⟨y2, ys⟩⟩
      · cases h
      · obtain ⟨w, rfl, ry⟩ := reps1 rs
        cases ry with
        | str b =>
          simp only at h
          split at h
          case isFalse => cases h
          rename_i c
          cases h
          exact ⟨a, b, rfl, rfl, c.1, by rw [line_eq]; exact c.2, kon_tup st k (.cons (.str _) (.cons (.str _) (.cons (.str _) .nil)))⟩
        | _ => cases h
      · cases y <;> cases h
    | _ => cases h
  | count =>
    simp only [mthD] at h
    cases r with
    | str a =>
      rcases xs with _ | ⟨y, _ | ⟨y2, ys⟩⟩
      · cases h
      · obtain ⟨w, rfl, ry⟩ := reps1 rs
        cases ry with
        | str b => cases h; exact ⟨a, b, rfl, rfl, kon_here st k (.int _)⟩
        | _ => cases h
      · cases y <;> cases h
    | _ => cases h
  | index =>
    simp only [mthD] at h
    cases e : toPyS S x with
    | none => rw [e] at h; cases h
    | some p =>
      rw [e] at h
      cases p with
      | list ds =>
        rcases xs with _ | ⟨y, _ | ⟨y2, ys⟩⟩
        · cases h
        · obtain ⟨w, rfl, ry⟩ := reps1 rs
          simp only at h
          cases e2 : toPyS S y with
          | none => rw [e2] at h; cases h
          | some a =>
            rw [e2] at h
            simp only at h
            split at h
            case isFalse => cases h
            rename_i c
            cases e3 : firstD a 0 ds with
            | none => rw [e3] at h; cases h
            | some j =>
              rw [e3] at h
              cases h
              obtain ⟨m, hj, z, h1, h2, h3⟩ := first_ok a ds 0 j e3
              have hj : j = m := by omega
              subst hj
              have dp := toPyS_dp st r e
              cases dp with
              | lst hs ha => exact ⟨_, w, a, ds, j, z, rfl, rfl, .lst hs ha, toPyS_dp st ry e2, c.1, c.2, h1, h2, h3, kon_here st k (.int _)⟩
        · cases h
      | _ => cases h
  | countL =>
    simp only [mthD] at h
    cases e : toPyS S x with
    | none => rw [e] at h; cases h
    | some p =>
      rw [e] at h
      cases p with
      | list ds =>
        rcases xs with _ | ⟨y, _ | ⟨y2, ys⟩⟩
        · cases h
        · obtain ⟨w, rfl, ry⟩ := reps1 rs
          simp only at h
          cases e2 : toPyS S y with
          | none => rw [e2] at h; cases h
          | some a =>
            rw [e2] at h
            simp only at h
            split at h
            case isFalse => cases h
            rename_i c
            cases h
            have dp := toPyS_dp st r e
            cases dp with
            | lst hs ha => exact ⟨_, w, a, ds, rfl, rfl, .lst hs ha, toPyS_dp st ry e2, c.1, c.2, kon_here st k (.int _)⟩
        · cases h
      | _ => cases h
  | pop =>
    simp only [mthD] at h
    cases r with
    | ref e =>
      rename_i l a
      rcases xs with _ | ⟨y, _ | ⟨y2, ys⟩⟩
      · obtain rfl := reps0 rs
        simp only at h
        cases q : S[l]? with
        | none => rw [q] at h; cases h
        | some o =>
          rw [q] at h
          cases o with
          | lst ys =>
            simp only at h
            cases e2 : ys[ys.length - 1]? with
            | none => rw [e2] at h; cases h
            | some y =>
              rw [e2] at h; cases h
              obtain ⟨ws, e1, rw_⟩ := st.at q e
              obtain ⟨w, h1, h2⟩ := rw_.get e2
              refine .inl ⟨a, ws, w, rfl, rfl, e1, by rw [← rw_.length]; exact h1, ?_⟩
              obtain ⟨e3, s3⟩ := ext_write (u := .lst ws.dropLast) (o := .lst ys.dropLast) st e fun H' e' z => ⟨_, z, by rw [List.dropLast_eq_take, List.dropLast_eq_take, ← rw_.length]; exact (rw_.take _).ext e'⟩
              exact k _ _ _ e3 s3 (h2.ext e3)
          | _ => cases h
      · obtain ⟨w, rfl, ry⟩ := reps1 rs
        cases ry with
        | int i =>
          simp only at h
          cases q : S[l]? with
          | none => rw [q] at h; cases h
          | some o =>
            rw [q] at h
            cases o with
            | lst ys =>
              simp only at h
              split at h
              case isFalse => cases h
              rename_i c
              cases e2 : ys[i.toNat]? with
              | none => rw [e2] at h; cases h
              | some y =>
                rw [e2] at h; cases h
                obtain ⟨ws, e1, rw_⟩ := st.at q e
                obtain ⟨w, h1, h2⟩ := rw_.get e2
                refine .inr ⟨a, ws, i, i.toNat, w, rfl, rfl, e1, by omega, by omega, seqIndex_of c.1 (by rw [← rw_.length]; exact c.2.1), h1, ?_⟩
                obtain ⟨e3, s3⟩ := ext_write (u := .lst (ws.eraseIdx i.toNat)) (o := .lst (ys.eraseIdx i.toNat)) st e fun H' e' z => ⟨_, z, by rw [List.eraseIdx_eq_take_drop_succ, List.eraseIdx_eq_take_drop_succ]; exact ((rw_.take _).append (rw_.drop _)).ext e'⟩
                exact k _ _ _ e3 s3 (h2.ext e3)
            | _ => cases h
        | _ => cases h
      · cases y <;> cases h
    | _ => rcases xs with _ | ⟨y, _ | ⟨y2, ys⟩⟩ <;> first | cases h | (cases y <;> cases h)
  | insert =>
    simp only [mthD] at h
    cases r with
    | ref e =>
      rename_i l a
      rcases xs with _ | ⟨y, _ | ⟨y2, _ | ⟨y3, ys⟩⟩⟩
      · cases h
      · cases y <;> cases h
      · obtain ⟨w, w2, rfl, ry, ry2⟩ := reps2 rs
        cases ry with
        | int i =>
          simp only at h
          cases q : S[l]? with
          | none => rw [q] at h; cases h
          | some o =>
            rw [q] at h
            cases o with
            | lst ys =>
              simp only at h
              split at h
              case isFalse => cases h
              rename_i c
              cases h
              obtain ⟨ws, e1, rw_⟩ := st.at q e
              refine ⟨a, ws, i, w2, rfl, rfl, e1, by rw [line_eq, ← rw_.length]; exact c.1, c.2.1, by omega, ?_⟩
              obtain ⟨e3, s3⟩ := ext_write (u := .lst (ws.take i.toNat ++ [w2] ++ ws.drop i.toNat)) (o := .lst (ys.take i.toNat ++ [y2] ++ ys.drop i.toNat)) st e fun H' e' z => ⟨_, z, (((rw_.take _).append (.cons ry2 .nil)).append (rw_.drop _)).ext e'⟩
              exact k _ _ _ e3 s3 .non
            | _ => cases h
        | _ => cases h
      · cases y <;> cases h
    | _ => rcases xs with _ | ⟨y, _ | ⟨y2, _ | ⟨y3, ys⟩⟩⟩ <;> first | cases h | (cases y <;> cases h)
  | clear =>
    simp only [mthD] at h
    cases r with
    | ref e =>
      rename_i l a
      cases rs with
      | cons _ _ => cases h
      | nil =>
        simp only at h
        cases q : S[l]? with
        | none => rw [q] at h; cases h
        | some o =>
          rw [q] at h
          cases o with
          | lst ys =>
            cases h
            obtain ⟨ws, e1, rw_⟩ := st.at q e
            refine ⟨a, ws, rfl, rfl, e1, ?_⟩
            obtain ⟨e3, s3⟩ := ext_write (u := .lst []) (o := .lst []) st e fun H' e' z => ⟨_, z, .nil⟩
            exact k _ _ _ e3 s3 .non
          | _ => cases h
    | _ => cases rs <;> cases h
  | get =>
    simp only [mthD] at h
    cases e : dicOf S x with
    | none => rw [e] at h; cases h
    | some kvs =>
      rw [e] at h
      obtain ⟨l, a, ws, rfl, rfl, _, _, e3, r3⟩ := dicOf_at st r e
      rcases xs with _ | ⟨y, _ | ⟨y2, _ | ⟨y3, ys⟩⟩⟩
      · cases h
      · obtain ⟨w, rfl, ry⟩ := reps1 rs
        simp only at h
        cases e2 : keyD y with
        | none => rw [e2] at h; cases h
        | some kk =>
          rw [e2] at h; cases h
          refine ⟨a, w, valV ws kk, rfl, by rw [keyD_rep ry e2]; exact DGet.k e3, .inl ⟨rfl, ?_⟩⟩
          obtain ⟨p1, p2⟩ := r3.val kk
          cases c : valG kvs kk with
          | none =>
            rw [c] at k p1
            cases c2 : valV ws kk with
            | none => exact kon_here st k .non
            | some z => rw [c2] at p1; cases p1
          | some d =>
            obtain ⟨z, q1, q2⟩ := p2 d c
            rw [c] at k
            rw [q1]
            exact kon_here st k q2
      · obtain ⟨w, w2, rfl, ry, ry2⟩ := reps2 rs
        simp only at h
        cases e2 : keyD y with
        | none => rw [e2] at h; cases h
        | some kk =>
          rw [e2] at h; cases h
          refine ⟨a, w, valV ws kk, rfl, by rw [keyD_rep ry e2]; exact DGet.k e3, .inr ⟨w2, rfl, ?_⟩⟩
          obtain ⟨p1, p2⟩ := r3.val kk
          cases c : valG kvs kk with
          | none =>
            rw [c] at k p1
            cases c2 : valV ws kk with
            | none => exact kon_here st k ry2
            | some z => rw [c2] at p1; cases p1
          | some d =>
            obtain ⟨z, q1, q2⟩ := p2 d c
            rw [c] at k
            rw [q1]
            exact kon_here st k q2
      · cases h

/-! ### dict(x), len(set(x)), x[::-1] -/
theorem FReps.put {kvs : List (L2.Key × D)} {vs : List (L2.Key × V)} (r : FReps K ρ H kvs vs) (k : L2.Key) {d : D} {v : V} (q : Rep K ρ H d v) : FReps K ρ H (putG kvs k d) (putK vs k v) := by
  have an : (kvs.any fun kv => decide (kv.1 = k)) = (vs.any fun kv => decide (kv.1 = k)) := by
    induction r with
    | nil => rfl
    | cons _ _ ih => rw [List.any_cons, List.any_cons, ih]
  have rep : FReps K ρ H (kvs.map fun kv => if kv.1 = k then (kv.1, d) else kv) (vs.map fun kv => if kv.1 = k then (kv.1, v) else kv) := by
    clear an
    induction r with
    | nil => exact .nil
    | @cons k' d' v' ds vs' rd rs ih =>
      rw [List.map_cons, List.map_cons]
      by_cases c : k' = k
      · rw [if_pos (show (k', d').1 = k from c), if_pos (show (k', v').1 = k from c)]; exact .cons q ih
      · rw [if_neg (show ¬ (k', d').1 = k from c), if_neg (show ¬ (k', v').1 = k from c)]; exact .cons rd ih
  have more : FReps K ρ H (kvs ++ [(k, d)]) (vs ++ [(k, v)]) := by
    clear an rep
    induction r with
    | nil => exact .cons q .nil
    | cons rd rs ih => exact .cons rd ih
  unfold putG putK
  rw [← an]
  split
  · exact rep
  · exact more
theorem FReps.merge : ∀ {more : List (L2.Key × D)} {mv : List (L2.Key × V)} {kvs : List (L2.Key × D)} {vs : List (L2.Key × V)}, FReps K ρ H more mv → FReps K ρ H kvs vs → FReps K ρ H (mergeG kvs more) (mergeK vs mv)
  | [], _, _, _, .nil, r => r
  | (k, d) :: more, (_, v) :: mv, _, _, .cons q t, r => FReps.merge (more := more) (mv := mv) t (r.put k q)
theorem kon_dic {kvs : List (L2.Key × D)} {vs : List (L2.Key × V)} {Q : VK} (st : StR K cA ρ H S) (k : Kon K cA ρ H (S ++ [.dic kvs]) (.ref S.length) Q) (r : FReps K ρ H kvs vs) : ∀ p, H p = none → Q (.ref p) (upd H p (.dK vs)) := fun p hp => by
  obtain ⟨e, s⟩ := ext_alloc (u := .dK vs) (o := .dic kvs) st hp fun ρ' H' e' q => ⟨vs, q, r.ext e'⟩
  exact k _ _ _ e s (.ref (by show (ρ.l ++ [p])[S.length]? = some p; rw [List.getElem?_append_right (by rw [st.len]; exact Nat.le_refl _), st.len, Nat.sub_self]; rfl))
theorem pairs_rep : ∀ {xs : List D} {vs : List V} {kvs : List (L2.Key × D)}, Reps K ρ H xs vs → pairsD xs = some kvs → ∃ (ps : List Addr) (ws : List (L2.Key × V)), vs = ps.map V.ref ∧ Paired (fun p kv => SqT K H p [kV kv.1, kv.2]) ps ws ∧ FReps K ρ H kvs ws
  | [], _, kvs, .nil, h => by cases h; exact ⟨[], [], rfl, .nil, .nil⟩
  | x :: xs, _, kvs, .cons r rs, h => by
    cases r with
    | tup at_ r2 =>
      rename_i ds a vs2
      rcases ds with _ | ⟨k0, _ | ⟨d0, _ | ⟨d1, ds⟩⟩⟩
      · cases h
      · cases h
      · obtain ⟨v1, v2, rfl, q1, q2⟩ := reps2 r2
        simp only [pairsD] at h
        cases e1 : keyD k0 with
        | none => rw [e1] at h; cases h
        | some kk =>
          cases e2 : pairsD xs with
          | none => rw [e1, e2] at h; cases h
          | some more =>
            rw [e1, e2] at h; cases h
            obtain ⟨ps, ws, rfl, h1, h2⟩ := pairs_rep rs e2
            refine ⟨a :: ps, (kk, v2) :: ws, rfl, .cons ?_ h1, .cons q2 h2⟩
            rw [keyD_rep q1 e1] at at_
            exact at_.sq
      · cases h
    | _ => cases h
theorem dict_of (st : StR K cA ρ H S) {x : D} {v : V} {d : D} {S' : Store} {Q : VK} (r : Rep K ρ H x v) (h : dictD S x = some (d, S')) (k : Kon K cA ρ H S' d Q) :
    (∃ (a : Addr) (ps : List Addr) (kvs : List (L2.Key × V)), [v] = [V.ref a] ∧ SqL K H a (ps.map V.ref) ∧ Paired (fun p kv => SqT K H p [kV kv.1, kv.2]) ps kvs ∧ ∀ p, H p = none → Q (.ref p) (upd H p (.dK (mergeK [] kvs)))) ∨
    ∃ (a : Addr) (kvs : List (L2.Key × V)), [v] = [V.ref a] ∧ Rd H a (.dK kvs) ∧ ∀ p, H p = none → Q (.ref p) (upd H p (.dK kvs)) := by
  unfold dictD at h
  cases e : dicOf S x with
  | some kvs =>
    rw [e] at h; cases h
    obtain ⟨l, a, ws, rfl, rfl, _, _, e3, r3⟩ := dicOf_at st r e
    exact .inr ⟨a, ws, rfl, .inl e3, kon_dic st k r3⟩
  | none =>
    rw [e] at h
    simp only at h
    cases e1 : seqL S x with
    | none => rw [e1] at h; cases h
    | some xs =>
      rw [e1] at h
      simp only at h
      cases e2 : pairsD xs with
      | none => rw [e2] at h; cases h
      | some kvs =>
        rw [e2] at h; cases h
        obtain ⟨a, vs, rfl, q, rs⟩ := seqL_sq st r e1
        obtain ⟨ps, ws, rfl, h1, h2⟩ := pairs_rep rs e2
        exact .inl ⟨a, ps, ws, rfl, q, h1, kon_dic st k (FReps.merge h2 .nil)⟩
theorem lenSet_of (st : StR K cA ρ H S) {x : D} {v : V} {d : D} {Q : VK} (r : Rep K ρ H x v) (h : lenSetD S x = some d) (k : Kon K cA ρ H S d Q) :
    ∃ l, ∃ xs : List Str, v = .ref l ∧ (SqL K H l (xs.map V.str) ∨ SqT K H l (xs.map V.str)) ∧ xs.length ≤ 1000 ∧ Q (.int (onceS [] xs).length) H := by
  unfold lenSetD at h
  cases e : seqO S x with
  | none => rw [e] at h; cases h
  | some ys =>
    rw [e] at h
    simp only at h
    cases e2 : strsOf ys with
    | none => rw [e2] at h; cases h
    | some zs =>
      rw [e2] at h
      simp only at h
      split at h
      case isFalse => cases h
      rename_i c
      cases h
      obtain ⟨a, vs, rfl, q, rs⟩ := seqO_sq st r e
      rw [strs_rep rs e2] at q
      exact ⟨a, zs, rfl, q, c, kon_here st k (.int _)⟩
theorem Reps.rev : ∀ {ds : List D} {vs : List V}, Reps K ρ H ds vs → Reps K ρ H ds.reverse vs.reverse
  | _, _, .nil => .nil
  | _, _, .cons r t => by rw [List.reverse_cons, List.reverse_cons]; exact (Reps.rev t).append (.cons r .nil)
theorem rev_of (st : StR K cA ρ H S) {x : D} {v : V} {d : D} {Q : VK} (r : Rep K ρ H x v) (h : revD S x = some d) (k : Kon K cA ρ H S d Q) : (∃ a xs, v = .ref a ∧ SqL K H a xs ∧ ∀ p, H p = none → Q (.ref p) (upd H p (.lst xs.reverse))) ∨ ∃ a xs, v = .ref a ∧ SqT K H a xs ∧ ∀ p, H p = none → Q (.ref p) (upd H p (.tup xs.reverse)) := by
  unfold revD at h
  cases e : seqL S x with
  | none =>
    rw [e] at h
    cases e2 : seqT x with
    | none => rw [e2] at h; cases h
    | some xs =>
      rw [e2] at h; cases h
      cases x with
      | tup ys =>
        cases e2
        cases r with
        | tup at_ rs => exact .inr ⟨_, _, rfl, at_.sq, kon_tup st k rs.rev⟩
      | _ => cases e2
  | some xs =>
    rw [e] at h; cases h
    obtain ⟨a, vs, rfl, q, rs⟩ := seqL_sq st r e
    exact .inl ⟨a, vs, rfl, q, kon_lst st k rs.rev⟩

/-! ### x[i] = v -/
theorem setL_of (st : StR K cA ρ H S) {o i v : D} {vo vi vv : V} {S' : Store} {Q : Hp → Prop} (ro : Rep K ρ H o vo) (ri : Rep K ρ H i vi) (rv : Rep K ρ H v vv) (h : setL S o i v = some S')
    (k : ∀ ρ' H', Ext ρ H ρ' H' → StR K cA ρ' H' S' → Q H') : rSetL vo vi vv H Q := by
  unfold setL at h
  cases ro with
  | ref e =>
    rename_i l a
    cases ri with
    | int n =>
      simp only at h
      cases q : S[l]? with
      | none => rw [q] at h; cases h
      | some ob =>
        rw [q] at h
        cases ob with
        | lst ys =>
          simp only at h
          cases e3 : L2.ixN ys.length n with
          | none => rw [e3] at h; cases h
          | some j =>
            rw [e3] at h; cases h
            obtain ⟨ws, e1, rw_⟩ := st.at q e
            refine ⟨a, ws, n, j, rfl, rfl, e1, by rw [← rw_.length]; exact e3, ?_⟩
            obtain ⟨e2, s2⟩ := ext_write (u := .lst (ws.set j vv)) (o := .lst (ys.set j v)) st e fun H' e' z => ⟨_, z, (rw_.set rv j).ext e'⟩
            exact k _ _ e2 s2
        | ins => cases h
        | dic => cases h
        | dead => cases h
    | _ => cases h
  | _ => cases h

def rSetA : V → V → V → Hp → (Hp → Prop) → Prop := fun o i v H Q => rSetL o i v H Q ∨ rSetK o i v H Q
theorem set_all (hu : X.A.units + 65 < cLine) : PSet X rSetA := by
  intro pins s σ H o i v ov iv u Q I ro ri rv h
  rcases h with h | h
  · exact set_list pins s σ H o i v ov iv u Q I ro ri rv h
  · exact set_key hu pins s σ H o i v ov iv u Q I ro ri rv h
theorem set_of (st : StR K cA ρ H S) {o i v : D} {vo vi vv : V} {S' : Store} {Q : Hp → Prop} (ro : Rep K ρ H o vo) (ri : Rep K ρ H i vi) (rv : Rep K ρ H v vv) (h : setD S o i v = some S')
    (k : ∀ ρ' H', Ext ρ H ρ' H' → StR K cA ρ' H' S' → Q H') : rSetA vo vi vv H Q := by
  cases e : dicOf S o with
  | none =>
    have : setL S o i v = some S' := by
      unfold setD at h
      rw [e] at h
      cases o <;> exact h
    exact .inl (setL_of st ro ri rv this k)
  | some kvs =>
    obtain ⟨l, a, ws, rfl, rfl, q, e2, e3, r3⟩ := dicOf_at st ro e
    cases e4 : keyD i with
    | none =>
      have : setL S (.ref l) i v = some S' := by
        unfold setD at h
        rw [e, e4] at h
        exact h
      exact .inl (setL_of st ro ri rv this k)
    | some kk =>
      unfold setD at h
      rw [e, e4] at h
      simp only at h
      split at h
      case isFalse => cases h
      rename_i c
      cases h
      obtain ⟨e5, s5⟩ := ext_write (u := .dK (putK ws kk vv)) (o := .dic (putG kvs kk v)) st e2 fun H' e' z => ⟨_, z, (r3.put kk rv).ext e'⟩
      refine .inr ⟨a, _, rfl, ?_, k _ _ e5 s5⟩
      rw [keyD_rep ri e4]
      exact DPut.k e3 (by rw [line_eq, ← r3.length]; exact c)

/-! ### walks -/
/-- J goes through the items of it -/
def ItR (K : PySem.W.Frag) (cA : CA) (it : Items) (ρ : Pl) (H : Hp) (J : It) : Prop := ∀ ρ' H' S (i : Nat), Ext ρ H ρ' H' → StR K cA ρ' H' S →
  (it.get S i = some none → J.stop i H') ∧ ∀ d, it.get S i = some (some d) → J.go i H' ∧ ∀ x H2, J.yld i H' x H2 → ∃ ρ2, Ext ρ' H' ρ2 H2 ∧ StR K cA ρ2 H2 S ∧ Rep K ρ2 H2 d x
abbrev iX (K : PySem.W.Frag) (cA : CA) (W : WX) (f : Env → Store → Out Items) : TI := tX K cA (fun ρ H it J => ItR K cA it ρ H J) W f
theorem ItR.ext {ρ' : Pl} {H' : Hp} {it : Items} {J : It} (h : ItR K cA it ρ H J) (e : Ext ρ H ρ' H') : ItR K cA it ρ' H' J := fun ρ2 H2 S i e2 st => h ρ2 H2 S i (e.trans e2) st
theorem wrap0 {i : Nat} {o : Option D} : o.map (wrapI false i) = o := by cases o <;> rfl
theorem get_val {xs : List D} {e : Bool} {S : Store} {i : Nat} : Items.get ⟨xs, none, e⟩ S i = some (xs[i]?.map (wrapI e i)) := rfl
theorem get_val0 {xs : List D} {S : Store} {i : Nat} : Items.get ⟨xs, none, false⟩ S i = some xs[i]? := by rw [get_val, wrap0]
/-- the walk of a text, a tuple, a list -/
def rIter (K : PySem.W.Frag) (v : V) (H : Hp) (R : It → Hp → Prop) : Prop :=
  (∃ z, v = .str z ∧ R (Its z) H) ∨ (∃ a, v = .ref a ∧ (∃ xs, SqL K H a xs) ∧ R (Itl K a) H) ∨ ∃ a, v = .ref a ∧ (∃ xs, SqT K H a xs) ∧ R (Itt K a) H
theorem itl_val (st : StR K cA ρ H S) {a : Addr} {xs : List D} {vs : List V} (q : LstAt K ρ H a vs) (rs : Reps K ρ H xs vs) : ItR K cA ⟨xs, none, false⟩ ρ H (Itl K a) := by
  intro ρ' H' S' i e st'
  have q' := q.ext e
  have rs' := rs.ext e
  rw [get_val0]
  refine ⟨fun h => ?_, fun d h => ?_⟩
  · have h : xs[i]? = none := Option.some.inj h
    exact ⟨vs, q'.sq, by rw [← rs.length]; exact List.getElem?_eq_none_iff.mp h⟩
  · have h : xs[i]? = some d := Option.some.inj h
    obtain ⟨v, h1, h2⟩ := rs'.get h
    refine ⟨⟨vs, v, q'.sq, h1⟩, fun x H2 y => ?_⟩
    obtain ⟨rfl, y⟩ := y
    have z := y vs q'.sq
    rw [h1] at z; cases z
    exact ⟨ρ', Ext.refl, st', h2⟩
theorem itt_val (st : StR K cA ρ H S) {a : Addr} {xs : List D} {vs : List V} (q : TupAt K ρ H a vs) (rs : Reps K ρ H xs vs) : ItR K cA ⟨xs, none, false⟩ ρ H (Itt K a) := by
  intro ρ' H' S' i e st'
  have q' := q.ext e
  have rs' := rs.ext e
  rw [get_val0]
  refine ⟨fun h => ?_, fun d h => ?_⟩
  · have h : xs[i]? = none := Option.some.inj h
    exact ⟨vs, q'.sq, by rw [← rs.length]; exact List.getElem?_eq_none_iff.mp h⟩
  · have h : xs[i]? = some d := Option.some.inj h
    obtain ⟨v, h1, h2⟩ := rs'.get h
    refine ⟨⟨vs, v, q'.sq, h1⟩, fun x H2 y => ?_⟩
    obtain ⟨rfl, y⟩ := y
    have z := y vs q'.sq
    rw [h1] at z; cases z
    exact ⟨ρ', Ext.refl, st', h2⟩
/-- the list of the store, at a turn -/
theorem ref_get {S' : Store} {ρ' : Pl} {H' : Hp} (st' : StR K cA ρ' H' S') {l : Nat} {a : Addr} {xs : List D} {en : Bool} {i : Nat} {o : Option D} (e0 : ρ'.l[l]? = some a) (h : Items.get ⟨xs, some l, en⟩ S' i = some o) :
    ∃ ds vs, SqL K H' a vs ∧ Reps K ρ' H' ds vs ∧ ds[i]?.map (wrapI en i) = o := by
  have h : (match S'[l]? with | some (.lst xs) => some (xs[i]?.map (wrapI en i)) | _ => none) = some o := h
  cases q : S'[l]? with
  | none => rw [q] at h; cases h
  | some ob =>
    rw [q] at h
    cases ob with
    | lst ds =>
      obtain ⟨vs, e1, rs⟩ := st'.at q e0
      exact ⟨ds, vs, .of e1, rs, Option.some.inj h⟩
    | ins => cases h
    | dic => cases h
    | dead => cases h
theorem itl_ref {l : Nat} {a : Addr} {xs : List D} (e0 : ρ.l[l]? = some a) : ItR K cA ⟨xs, some l, false⟩ ρ H (Itl K a) := by
  intro ρ' H' S' i e st'
  refine ⟨fun h => ?_, fun d h => ?_⟩
  · obtain ⟨ds, vs, q, rs, hi⟩ := ref_get st' (e.get e0) h
    rw [wrap0] at hi
    exact ⟨vs, q, by rw [← rs.length]; exact List.getElem?_eq_none_iff.mp hi⟩
  · obtain ⟨ds, vs, q, rs, hi⟩ := ref_get st' (e.get e0) h
    rw [wrap0] at hi
    obtain ⟨v, h1, h2⟩ := rs.get hi
    refine ⟨⟨vs, v, q, h1⟩, fun x H2 y => ?_⟩
    obtain ⟨rfl, y⟩ := y
    have z := y vs q
    rw [h1] at z; cases z
    exact ⟨ρ', Ext.refl, st', h2⟩
/-- a turn's new pair -/
theorem pair_new {ρ' : Pl} {H' : Hp} {S' : Store} (st' : StR K cA ρ' H' S') {x y : D} {v w : V} {T : Addr} (hT : H' T = none) (r1 : Rep K ρ' H' x v) (r2 : Rep K ρ' H' y w) :
    ∃ ρ2, Ext ρ' H' ρ2 (upd H' T (.tup [v, w])) ∧ StR K cA ρ2 (upd H' T (.tup [v, w])) S' ∧ Rep K ρ2 (upd H' T (.tup [v, w])) (.tup [x, y]) (.ref T) := by
  obtain ⟨e, s⟩ := ext_new (u := .tup [v, w]) st' hT
  exact ⟨ρ', e, s, .tup (.inl ⟨.inl upd_same, st'.fresh hT⟩) (.cons (r1.ext e) (.cons (r2.ext e) .nil))⟩
theorem ite_of {a : Addr} {it : Items} (hen : it.enum = true) (get : ∀ ρ' H' S' i o, Ext ρ H ρ' H' → StR K cA ρ' H' S' → it.get S' i = some o → ∃ ds vs, SqL K H' a vs ∧ Reps K ρ' H' ds vs ∧ ds[i]?.map (wrapI true i) = o) : ItR K cA it ρ H (Ite K a) := by
  intro ρ' H' S' i e st'
  refine ⟨fun h => ?_, fun d h => ?_⟩
  · obtain ⟨ds, vs, q, rs, hi⟩ := get ρ' H' S' i _ e st' h
    rw [Option.map_eq_none_iff] at hi
    exact ⟨vs, q, by rw [← rs.length]; exact List.getElem?_eq_none_iff.mp hi⟩
  · obtain ⟨ds, vs, q, rs, hi⟩ := get ρ' H' S' i _ e st' h
    obtain ⟨d0, h0, rfl⟩ := Option.map_eq_some_iff.mp hi
    obtain ⟨v, h1, h2⟩ := rs.get h0
    refine ⟨⟨vs, v, q, h1⟩, fun x H2 y => ?_⟩
    obtain ⟨T, x1, rfl, hT, rfl, y⟩ := y
    have z := y vs q
    rw [h1] at z; cases z
    exact pair_new st' hT (.int _) h2
theorem pair_get : ∀ (xs ys : List D) (i : Nat), (pairUp xs ys)[i]? = none ∧ (xs.length ≤ i ∨ ys.length ≤ i) ∨ ∃ x y, (pairUp xs ys)[i]? = some (.tup [x, y]) ∧ xs[i]? = some x ∧ ys[i]? = some y
  | [], ys, i => .inl ⟨by cases ys <;> rfl, .inl (Nat.zero_le _)⟩
  | x :: xs, [], i => .inl ⟨rfl, .inr (Nat.zero_le _)⟩
  | x :: xs, y :: ys, 0 => .inr ⟨x, y, rfl, rfl, rfl⟩
  | x :: xs, y :: ys, i + 1 => by
    rcases pair_get xs ys i with ⟨h1, h2⟩ | ⟨x', y', h1, h2, h3⟩
    · exact .inl ⟨by simpa [pairUp] using h1, h2.imp (fun h => by simpa using h) (fun h => by simpa using h)⟩
    · exact .inr ⟨x', y', by simpa [pairUp] using h1, by simpa using h2, by simpa using h3⟩
/-- a value's list or tuple, as it stays -/
def AtK (b : Bool) (K : PySem.W.Frag) (ρ : Pl) (H : Hp) (a : Addr) (vs : List V) : Prop := match b with
  | true => LstAt K ρ H a vs
  | false => TupAt K ρ H a vs
theorem AtK.sq {b : Bool} {a : Addr} {vs : List V} (h : AtK b K ρ H a vs) : sqK b K H a vs := by
  cases b with
  | true => exact LstAt.sq h
  | false => exact TupAt.sq h
theorem AtK.ext {ρ' : Pl} {H' : Hp} {b : Bool} {a : Addr} {vs : List V} (h : AtK b K ρ H a vs) (e : Ext ρ H ρ' H') : AtK b K ρ' H' a vs := by
  cases b with
  | true => exact LstAt.ext e h
  | false => exact TupAt.ext e h
theorem itzK_of {b1 b2 : Bool} {a b : Addr} {xs ys : List D} {vs ws : List V} (qa : AtK b1 K ρ H a vs) (qb : AtK b2 K ρ H b ws) (ra : Reps K ρ H xs vs) (rb : Reps K ρ H ys ws) : ItR K cA ⟨pairUp xs ys, none, false⟩ ρ H (ItzK b1 b2 K a b) := by
  intro ρ' H' S' i e st'
  rw [get_val0]
  rcases pair_get xs ys i with ⟨h1, h2⟩ | ⟨x, y, h1, h2, h3⟩
  · refine ⟨fun _ => ⟨vs, ws, (qa.ext e).sq, (qb.ext e).sq, by rw [← ra.length, ← rb.length]; exact h2⟩, fun d h => by rw [h1] at h; cases h⟩
  · refine ⟨fun h => (by rw [h1] at h; cases h), fun d h => ?_⟩
    rw [h1] at h; cases h
    obtain ⟨v, p1, p2⟩ := (ra.ext e).get h2
    obtain ⟨w, q1, q2⟩ := (rb.ext e).get h3
    refine ⟨⟨vs, ws, v, w, (qa.ext e).sq, (qb.ext e).sq, p1, q1⟩, fun u H2 g => ?_⟩
    obtain ⟨T, x1, y1, rfl, hT, rfl, g1, g2⟩ := g
    have z := g1 vs (qa.ext e).sq
    rw [p1] at z; cases z
    have z := g2 ws (qb.ext e).sq
    rw [q1] at z; cases z
    exact pair_new st' hT p2 q2
theorem its_val {z : Str} : ItR K cA ⟨z.cps.toList.map fun c => .str ⟨#[c]⟩, none, false⟩ ρ H (Its z) := by
  intro ρ' H' S' i e st'
  rw [get_val0]
  have sz : z.cps.toList.length = z.cps.size := by simp
  refine ⟨fun h => ?_, fun d h => ?_⟩
  · have h := List.getElem?_eq_none_iff.mp (Option.some.inj h)
    rw [List.length_map, sz] at h
    exact h
  · have h := Option.some.inj h
    rw [List.getElem?_map] at h
    cases e1 : z.cps.toList[i]? with
    | none => rw [e1] at h; cases h
    | some c =>
      rw [e1] at h; cases h
      have hl := (List.getElem?_eq_some_iff.mp e1).1
      refine ⟨by show i < z.cps.size; rw [← sz]; exact hl, fun x H2 y => ?_⟩
      obtain ⟨rfl, c', hc, rfl⟩ := y
      have : c' = c := by
        rw [← Array.getElem?_toList] at hc
        rw [e1] at hc; exact (Option.some.inj hc).symm
      subst this
      exact ⟨ρ', Ext.refl, st', .str _⟩
theorem itr_val {lo : Int} {n : Nat} : ItR K cA ⟨(List.range n).map fun (k : Nat) => .int (lo + k), none, false⟩ ρ H (Itr lo n) := by
  intro ρ' H' S' i e st'
  rw [get_val0]
  refine ⟨fun h => ?_, fun d h => ?_⟩
  · have h := List.getElem?_eq_none_iff.mp (Option.some.inj h)
    rw [List.length_map, List.length_range] at h
    exact h
  · have h := Option.some.inj h
    rw [List.getElem?_map] at h
    cases e1 : (List.range n)[i]? with
    | none => rw [e1] at h; cases h
    | some c =>
      rw [e1] at h; cases h
      have hl := (List.getElem?_eq_some_iff.mp e1).1
      rw [List.length_range] at hl
      have : c = i := by
        rw [List.getElem?_range hl] at e1
        exact (Option.some.inj e1).symm
      subst this
      refine ⟨hl, fun x H2 y => ?_⟩
      obtain ⟨rfl, rfl⟩ := y
      exact ⟨ρ', Ext.refl, st', .int _⟩
theorem iter_of (st : StR K cA ρ H S) {x : D} {v : V} {it : Items} {R : It → Hp → Prop} (r : Rep K ρ H x v) (h : itersD S x = some it) (k : ∀ J, ItR K cA it ρ H J → R J H) : rIter K v H R := by
  cases r with
  | tup at_ rs => cases h; exact .inr (.inr ⟨_, rfl, ⟨_, at_.sq⟩, k _ (itt_val st at_ rs)⟩)
  | lst at_ rs => cases h; exact .inr (.inl ⟨_, rfl, ⟨_, at_.sq⟩, k _ (itl_val st at_ rs)⟩)
  | str z => cases h; exact .inl ⟨z, rfl, k _ its_val⟩
  | ref e =>
    rename_i l a
    simp only [itersD] at h
    cases q : S[l]? with
    | none => rw [q] at h; cases h
    | some o =>
      rw [q] at h
      cases o with
      | lst xs =>
        cases h
        obtain ⟨vs, e1, rs⟩ := st.at q e
        exact .inr (.inl ⟨a, rfl, ⟨vs, .of e1⟩, k _ (itl_ref e)⟩)
      | ins => cases h
      | dic => cases h
      | dead => cases h
  | _ => cases h
theorem enum_of (st : StR K cA ρ H S) {x : D} {v : V} {it : Items} {R : It → Hp → Prop} (r : Rep K ρ H x v) (h : enumD S x = some it) (k : ∀ J, ItR K cA it ρ H J → R J H) : ∃ a xs, [v] = [V.ref a] ∧ SqL K H a xs ∧ R (Ite K a) H := by
  cases r with
  | lst at_ rs =>
    cases h
    rename_i ds a vs
    refine ⟨a, vs, rfl, at_.sq, k _ (ite_of rfl fun ρ' H' S' i o e st' g => ⟨ds, vs, (at_.ext e).sq, rs.ext e, ?_⟩)⟩
    rw [get_val] at g
    exact Option.some.inj g
  | ref e =>
    rename_i l a
    simp only [enumD] at h
    cases q : S[l]? with
    | none => rw [q] at h; cases h
    | some o =>
      rw [q] at h
      cases o with
      | lst xs =>
        cases h
        obtain ⟨vs, e1, rs⟩ := st.at q e
        exact ⟨a, vs, rfl, .of e1, k _ (ite_of rfl fun ρ' H' S' i o e2 st' g => ref_get st' (e2.get e) g)⟩
      | ins => cases h
      | dic => cases h
      | dead => cases h
  | _ => cases h
theorem zip_of (st : StR K cA ρ H S) {x y : D} {v w : V} {it : Items} {R : It → Hp → Prop} (r : Rep K ρ H x v) (r2 : Rep K ρ H y w) (h : zipD x y = some it) (k : ∀ J, ItR K cA it ρ H J → R J H) :
    ∃ a b xs ys b1 b2, [v, w] = [V.ref a, V.ref b] ∧ sqK b1 K H a xs ∧ sqK b2 K H b ys ∧ R (ItzK b1 b2 K a b) H := by
  cases r with
  | lst at_ rs =>
    cases r2 with
    | lst at2 rs2 => cases h; exact ⟨_, _, _, _, true, true, rfl, at_.sq, at2.sq, k _ (itzK_of (b1 := true) (b2 := true) at_ at2 rs rs2)⟩
    | tup at2 rs2 => cases h; exact ⟨_, _, _, _, true, false, rfl, at_.sq, at2.sq, k _ (itzK_of (b1 := true) (b2 := false) at_ at2 rs rs2)⟩
    | _ => cases h
  | tup at_ rs =>
    cases r2 with
    | lst at2 rs2 => cases h; exact ⟨_, _, _, _, false, true, rfl, at_.sq, at2.sq, k _ (itzK_of (b1 := false) (b2 := true) at_ at2 rs rs2)⟩
    | tup at2 rs2 => cases h; exact ⟨_, _, _, _, false, false, rfl, at_.sq, at2.sq, k _ (itzK_of (b1 := false) (b2 := false) at_ at2 rs rs2)⟩
    | _ => cases h
  | _ => cases h
end
end Q
/-! QN (read between Q4 and Q5): instances in the store. -/
namespace Q
open PySem PySem.Spec PyProof.Rows L2
section
variable {K : PySem.W.Frag} {cA : CA} {ρ ρ' : Pl} {H H' : Hp} {S : Store}
theorem FReps.look {f : Str} : ∀ {fs : List (Str × D)} {vs : List (Str × V)}, FReps K ρ H fs vs → (fs.lookup f = none → vs.lookup f = none) ∧ ∀ d, fs.lookup f = some d → ∃ v, vs.lookup f = some v ∧ Rep K ρ H d v
  | _, _, .nil => ⟨fun _ => rfl, fun d h => by cases h⟩
  | _, _, .cons (k := k) (d := d) (v := v) (ds := ds) (vs := vs) r t => by
    have ih := FReps.look (f := f) t
    rw [List.lookup_cons, List.lookup_cons]
    cases e : f == k with
    | true =>
      refine ⟨fun h => ?_, fun d' h => ?_⟩
      · have h : some d = none := h
        cases h
      · have h : some d = some d' := h
        cases h
        exact ⟨v, rfl, r⟩
    | false => exact ih
theorem FReps.putF {f : Str} {d : D} {v : V} (r : Rep K ρ H d v) : ∀ {fs : List (Str × D)} {vs : List (Str × V)}, FReps K ρ H fs vs → FReps K ρ H (putFD f d fs) (L2.putF f v vs)
  | _, _, .nil => .cons r .nil
  | _, _, .cons (k := k) q t => by
    unfold putFD L2.putF
    by_cases c : k = f
    · rw [if_pos c, if_pos c]; exact .cons r t
    · rw [if_neg c, if_neg c]; exact .cons q (FReps.putF r t)
theorem FReps.len : ∀ {fs : List (Str × D)} {vs : List (Str × V)}, FReps K ρ H fs vs → fs.length = vs.length
  | _, _, .nil => rfl
  | _, _, .cons _ t => congrArg Nat.succ (FReps.len t)
theorem ins_at (st : StR K cA ρ H S) {x : D} {v : V} {C : Str} {fs : List (Str × D)} (r : Rep K ρ H x v) (h : insOf S x = some (C, fs)) : ∃ l a dx vs, x = .ref l ∧ v = .ref a ∧ S[l]? = some (.ins C fs) ∧ ρ.l[l]? = some a ∧ H a = some (.ins (cA C) dx vs) ∧ FReps K ρ H fs vs := by
  cases r with
  | ref e =>
    rename_i l a
    have h' : (match S[l]? with | some (.ins C fs) => some (C, fs) | _ => none) = some (C, fs) := h
    cases q : S[l]? with
    | none => rw [q] at h'; cases h'
    | some o =>
      rw [q] at h'
      cases o with
      | ins C' fs' =>
        cases h'
        obtain ⟨dx, vs, e1, e2⟩ := st.at q e
        exact ⟨l, a, dx, vs, rfl, rfl, q, e, e1, e2⟩
      | dic => cases h'
      | lst => cases h'
      | dead => cases h'
  | non => cases h
  | bl => cases h
  | int => cases h
  | str => cases h
  | tup => cases h
  | lst => cases h
end
end Q
/-! Q5: the interpreter's expressions are read by HandS. -/
namespace Q
open PySem PySem.Spec PyProof.Rows L2

/-- the promise of a function of plain data -/
def spOf (K : PySem.W.Frag) (cA : CA) (φ : Fn) : Sp := fun vs H Q E => ∃ ρ ds S, Reps K ρ H ds vs ∧ StR K cA ρ H S ∧ tO K cA (fun cls d _ H' => E cls d H') [] ρ H (Rep K) (φ ds S) Q

/-- isinstance(e, (c1, ..)), e the error that the suite holds -/
def rIsET (K : PySem.W.Frag) (D a : Addr) : List V → Hp → VK → Prop := fun xs H Q => ∃ (tp : Addr) (cs : List V) (us : List Value) (b : Bool), xs = [.ref a, .ref tp] ∧ H tp = some (.tup cs) ∧ Paired ClsV cs us ∧ PySem.W.kitAny K (.ref D) us = some b ∧ Q (.bl b) H
theorem call_isET {X : Cx} {a D : Addr} {oe : Obj} {pn : List (Addr × Obj)} (C : ExcC X.K D) (hz : Zc (.ref D) none oe) (hf : ∃ vs, oe.data = .fields vs) : CallR (X.suite a ((a, oe) :: pn)) (.builtin "isinstance") (rIsET X.K D a) := by
  intro pins s σ H xs us Q I r h
  obtain ⟨tp, cs, ws, b, rfl, hT, k, e, q⟩ := h
  cases r with
  | cons rx rr =>
    cases rr with
    | cons rt rr =>
      cases rr
      cases rx
      cases rt
      obtain ⟨hget, _⟩ := I.pin (a, oe) (List.mem_append.mpr (.inl List.mem_cons_self))
      obtain ⟨vs, hv⟩ := hf
      have J : PySem.W.InstAt s.heap a oe D none := by
        obtain ⟨oc, od, oda, osl⟩ := oe
        obtain ⟨h1, h2⟩ := hz
        dsimp only at h1 h2 hv
        subst h1 h2 hv
        exact ⟨hget, rfl, rfl, trivial⟩
      obtain ⟨_, its, rv, o, h1, h2, n, h3⟩ := (show ObjOk X.prog X.w H s.heap tp (.tup cs) from I.hok tp _ hT)
      have e3 := ClsV.all k rv
      subst e3
      obtain ⟨oc, od, dt, sl⟩ := o
      simp only at h2 h3
      subst h2 h3
      exact PySem.W.kia_tup (PySem.W.handS_kitx_exc C.hg C.hk C.hs C.hd C.ha C.hn C.ht C.hm) I.kIn J h1 e (fun z => nomatch z) fun tk => ⟨.bl b, H, I.tok tk, rfl, q⟩
structure CfgOk (P : Program) (w : World) (K : PySem.W.Frag) (mg : Str → Option Value) (base : Heap) (cA : CA) (k : Nat) (c : Cfg) : Prop where
  fn : ∀ x φ, c.funs x = some φ → ∃ f fd ps ds dvs dds φ0, FnOk P w K mg base (L2.CX P w) k f fd ps (spOf K cA φ0) ∧ mg x = some (.ref f) ∧ PySem.W.keepIn K (.ref f) = true ∧ Binds K fd ps ds ∧ Vals dvs ds ∧ (∀ ρ H, Reps K ρ H dds dvs) ∧ (φ = (fun xs S => φ0 (xs ++ dds) S) ∨ (Binds K fd ps [] ∧ φ = fun xs S => if xs.length = ps.length then φ0 xs S else φ0 (xs ++ dds) S))
  var : ∀ x d, c.vars x = some d → ∃ u v, mg x = some u ∧ RelV v u ∧ ∀ ρ H, Rep K ρ H d v
  free : ∀ x, c.free x = true → mg x = none
  exc : ∀ x, c.excs x = true → mg x = some (.ref (cA x)) ∧ PySem.W.excIn K (cA x) He.veBase "ValueError.__new__" = true ∧ PySem.W.keepIn K (.ref (cA x)) = true ∧
    PySem.W.subIn K (.ref (cA x)) (.type "BaseException") = some true ∧ PySem.W.typeIn K (.ref (cA x)) = some (.type "type")
  fld : ∀ C f, (c.flds f).contains C = true → Cls K (cA C) ∧ NoAttr K (cA C) f
  dk : ∀ g ks, c.dks g = some ks → ∃ a es n, mg g = some (.ref a) ∧ KDict K w a es n ∧ ∀ z, ∃ r, PySem.W.nsIn K a z = some r ∧ r.isSome = ks.contains z
  meth : ∀ m C φ, (c.meths m).lookup C = some φ → ∃ f fd ps, Cls K (cA C) ∧ Meth K (cA C) m f ∧ FnOk P w K mg base (L2.CX P w) k f fd ps (spOf K cA φ) ∧ Binds K fd ps []
  mkr : ∀ C φ, c.mks C = some φ → mg C = some (.ref (cA C)) ∧ ∃ j f fd ps, j + 1 ≤ k ∧ Mk K (cA C) f ∧ FnOk P w K mg base (L2.CX P w) j f fd ps (spOf K cA φ) ∧ Binds K fd ps []
  kit : ∀ x y b, c.kits x y = some b → ∃ v u, (mg y = some u ∧ RelV v u ∨ mg y = none ∧ bootBuiltins y = some u ∧ RelV v u) ∧ ClsV v u ∧ PySem.W.kitOne K (.ref (cA x)) u = some b ∧ PySem.W.exmOne K (.ref (cA x)) u = some b ∧ ExcC K (cA x)

/-- isinstance of the error that is held -/
structure HeldOk (X : Cx) (cA : CA) (i : Nat) (x : Str) : Prop where
  out : ∃ a, cA.pin = some (i, a) ∧ CallR X (.builtin "isinstance") (rIsE X.K (cA x) a) ∧ CallR X (.builtin "isinstance") (rIsET X.K (cA x) a)
structure XOk (cA : CA) (k : Nat) (c : Cfg) (N : List Str) (X : Cx) (sc : Scope) : Prop where
  cfg : CfgOk X.prog X.w X.K X.mg X.base cA k c
  calm : c.hot = none → X.calm = true
  room : c.hot = none → Room k X.A
  un : X.A.units + 200 < cLine
  pinAt : ∀ i a, cA.pin = some (i, a) → ∃ x, c.hot = some (i, x)
  tame : c.hot = none ∨ ((∀ f, c.funs f = none) ∧ (∀ f, c.free f = true → f = "isinstance" ∨ f = "int") ∧ (∀ x, c.excs x = false) ∧ (∀ m, c.meths m = []) ∧ ∀ C, c.mks C = none)
  held : ∀ i x, c.hot = some (i, x) → i < N.length → HeldOk X cA i x
  names : X.N = N
  nd : N.Nodup
  vis : ∀ x kd, sc.names.lookup x = some kd → (kd = .local ∨ kd = .cell ∨ kd = .free → Vis X.env.scope x) ∧ (kd = .globalImplicit → Gl X x)
  loc : ∀ x kd, sc.names.lookup x = some kd → kd = .local ∨ kd = .cell → Loc X.env.scope x ∧ (X.fn x = true ∨ X.env.scope.names.lookup x = some .local)
  cf : ∀ x, sc.names.lookup x = some .cell ∨ sc.names.lookup x = some .free → X.env.scope.names.lookup x = some .cell ∨ X.env.scope.names.lookup x = some .free

theorem calm_none {c : Cfg} (h : c.calm = true) : c.hot = none := Option.isNone_iff_eq_none.mp h
section
variable {cA : CA} {k : Nat} {c : Cfg} {N : List Str} {X : Cx} {sc : Scope}
theorem XOk.pin (x : XOk cA k c N X sc) (h : c.hot = none) : cA.pin = none := by
  cases e : cA.pin with
  | none => rfl
  | some ia =>
    obtain ⟨y, z⟩ := x.pinAt ia.1 ia.2 e
    rw [h] at z; cases z
theorem XOk.free_at (x : XOk cA k c N X sc) {i : Nat} (h : c.hotAt i = false) (a : Addr) : cA.pin ≠ some (i, a) := fun e => by
  obtain ⟨y, z⟩ := x.pinAt i a e
  unfold Cfg.hotAt at h
  rw [z] at h
  simp at h
theorem XOk.of_fun (x : XOk cA k c N X sc) {f : Str} {φ : Fn} (h : c.funs f = some φ) : c.hot = none := x.tame.elim id fun z => by rw [z.1] at h; cases h
theorem XOk.of_free (x : XOk cA k c N X sc) {f : Str} (h : c.free f = true) (h1 : f ≠ "isinstance") (h2 : f ≠ "int") : c.hot = none := x.tame.elim id fun z => (z.2.1 f h).elim (fun q => absurd q h1) fun q => absurd q h2
theorem XOk.of_exc (x : XOk cA k c N X sc) {y : Str} (h : c.excs y = true) : c.hot = none := x.tame.elim id fun z => by rw [z.2.2.1] at h; cases h
theorem XOk.of_meth (x : XOk cA k c N X sc) {m C : Str} {φ : Fn} (h : (c.meths m).lookup C = some φ) : c.hot = none := x.tame.elim id fun z => by rw [z.2.2.2.1] at h; cases h
theorem XOk.of_mk (x : XOk cA k c N X sc) {C : Str} {φ : Fn} (h : c.mks C = some φ) : c.hot = none := x.tame.elim id fun z => by rw [z.2.2.2.2] at h; cases h
end
section
variable {X : Cx}
theorem PE.weak {e : Expr} {t t' : TE} (h : PE X e t) (w : ∀ σ H Q, t' σ H Q → t σ H Q) : PE X e t' := ⟨fun pins s σ H Q I q => h.run pins s σ H Q I (w σ H Q q)⟩
theorem PT.weak {e : Expr} {t t' : TT} (h : PT X e t) (w : ∀ σ H Q, t' σ H Q → t σ H Q) : PT X e t' := ⟨fun pins s σ H Q I q => h.run pins s σ H Q I (w σ H Q q)⟩
theorem PW.weak {e : Expr} {t t' : TT} (h : PW X e t) (w : ∀ σ H Q, t' σ H Q → t σ H Q) : PW X e t' := ⟨fun wh pins s σ H Q I q => h.run wh pins s σ H Q I (w σ H Q q)⟩
theorem PA.weak {es : List Expr} {t t' : TA} (h : PA X es t) (w : ∀ σ H Q, t' σ H Q → t σ H Q) : PA X es t' := ⟨fun pos pins s σ H Q I q => h.run pos pins s σ H Q I (w σ H Q q)⟩
theorem PO.weak {e : Option Expr} {t t' : TO} (h : PO X e t) (w : ∀ σ H Q, t' σ H Q → t σ H Q) : PO X e t' := ⟨fun pins s σ H Q I q => h.run pins s σ H Q I (w σ H Q q)⟩
theorem PI.weak {tg e : Expr} {t t' : TI} (h : PI X tg e t) (w : ∀ σ H R, t' σ H R → t σ H R) : PI X tg e t' := ⟨fun pins s σ H Q I q => h.run pins s σ H Q I (w σ H Q q)⟩
theorem PE.none {e : Expr} {t : TE} (w : ∀ σ H Q, ¬ t σ H Q) : PE X e t := ⟨fun pins s σ H Q I q => (w σ H Q q).elim⟩
theorem PT.none {e : Expr} {t : TT} (w : ∀ σ H Q, ¬ t σ H Q) : PT X e t := ⟨fun pins s σ H Q I q => (w σ H Q q).elim⟩
theorem PA.none {e : List Expr} {t : TA} (w : ∀ σ H Q, ¬ t σ H Q) : PA X e t := ⟨fun _ pins s σ H Q I q => (w σ H Q q).elim⟩
theorem PI.none {tg e : Expr} {t : TI} (w : ∀ σ H Q, ¬ t σ H Q) : PI X tg e t := ⟨fun pins s σ H Q I q => (w σ H Q q).elim⟩
end
section
variable {K : PySem.W.Frag} {cA : CA} {W : WX} {α β : Type}
theorem tX_bad {R : Pl → Hp → α → β → Prop} {f : Env → Store → Out α} (h : ∀ σ S, f σ S = .bad) : ∀ σ H Q, ¬ tX K cA R W f σ H Q := by
  rintro σ H Q ⟨ρ, σd, S, _, _, q⟩
  rw [h] at q; exact q
end

/-! ### side conditions of the syntax -/
theorem star_one {e : Expr} (h : isStar e = false) (env : PySem.Env) (es : List Expr) : starEach (e :: es) env = (false, eval e env) :: starEach es env := by
  cases e <;> first | rfl | cases h
theorem star_any {env : PySem.Env} {pos : Pos} : ∀ {es : List Expr}, es.any isStar = false → (backTo pos (starEach es env)).any (·.1) = false
  | [], _ => rfl
  | e :: es, h => by
    rw [List.any_cons, Bool.or_eq_false_iff] at h
    rw [star_one h.1]
    show (false || (backTo pos (starEach es env)).any (·.1)) = false
    rw [star_any h.2]; rfl
theorem star_all {env : PySem.Env} {pos : Pos} : ∀ {es : List Expr}, es.any isStar = false → (backTo pos (starEach es env)).all (fun x => !x.1) = true
  | [], _ => rfl
  | e :: es, h => by
    rw [List.any_cons, Bool.or_eq_false_iff] at h
    rw [star_one h.1]
    show (true && (backTo pos (starEach es env)).all (fun x => !x.1)) = true
    rw [star_all h.2]; rfl
theorem base_ok {e : Expr} (h : okBase e = true) (nm : Str) (env : PySem.Env) : attributeBase e nm env (eval e env) = eval e env := by
  unfold attributeBase
  cases e <;> try rfl
  rename_i f args kws pos
  cases f <;> try rfl
  cases args <;> try rfl
  cases kws <;> try rfl
  cases h
theorem plain_ix {e : Expr} (h : isSlice e = false) : PlainIx e := by
  intro o i
  cases e <;> first | rfl | cases h
theorem set_ok {e : Expr} (h : isSet e = false) (env : PySem.Env) : ∀ x, foldedSetIterable e env x = pure x := by
  intro x
  cases e <;> first | rfl | cases h
theorem set_marks {e : Expr} (h : isSet e = false) (op : CmpOp) : behindInMarks op e = false := by
  cases e <;> first | rfl | cases h
theorem pn {x : Str} (h : plainName x = true) : (x == ("__debug__" : Str)) = false ∧ (x == ("__classdict__" : Str)) = false ∧ x ≠ "__name__" := by
  simp only [plainName, Bool.and_eq_true, Bool.not_eq_true'] at h
  exact ⟨h.1.1, h.1.2, fun e => by rw [e] at h; exact absurd h.2 (by decide)⟩
theorem nm_slot {sc : Scope} {N : List Str} {x : Str} {i : Nat} (h : nmOf sc N x = .slot i) : N[i]? = some x ∧ ∃ kd, sc.names.lookup x = some kd ∧ (kd = .local ∨ kd = .cell ∨ kd = .free) := by
  unfold nmOf at h
  have get : ∀ {i : Nat}, N.idxOf? x = some i → N[i]? = some x := by
    intro i e
    obtain ⟨h1, h2, _⟩ := List.idxOf?_eq_some_iff.mp e
    rw [List.getElem?_eq_getElem h1, h2]
  cases e : sc.names.lookup x with
  | none => rw [e] at h; cases h
  | some kd =>
    rw [e] at h
    cases kd <;> simp only at h
    all_goals first
      | (cases h; done)
      | (split at h <;> first | (cases h; rename_i j; exact ⟨get j, _, rfl, by simp⟩) | (cases h))
theorem nm_glob {sc : Scope} {N : List Str} {x : Str} (h : nmOf sc N x = .glob) : sc.names.lookup x = some .globalImplicit := by
  unfold nmOf at h
  cases e : sc.names.lookup x with
  | none => rw [e] at h; cases h
  | some kd =>
    rw [e] at h
    cases kd <;> simp only at h
    all_goals first
      | rfl
      | (cases h; done)
      | (split at h <;> cases h)

/-! ### rules of ours: a walk of anything; methods; calls -/
section
variable {X : Cx}
theorem pi_any {tg e : Expr} {te : TE} (he : PE X e te) : PI X tg e (fun σ H R => te σ H fun v H1 => rIter X.K v H1 R) := by
  refine ⟨fun pins s σ H R I h => ?_⟩
  refine thn (he.run pins s σ H _ I h) fun v s1 ⟨x, H1, I1, r1, q1⟩ => ?_
  rcases q1 with ⟨z, rfl, q⟩ | ⟨a, rfl, ⟨xs, hq⟩, q⟩ | ⟨a, rfl, ⟨xs, hq⟩, q⟩
  · obtain ⟨t, rfl⟩ := r1
    cases ha : z.cps.all (· < 128)
    · exact wpAny_pyIter_wide ha (pi_one (tk := s1.toks) I1 _ (turn_str _ z t "str_iterator" (.inr rfl)) ⟨_, Heap.get?_push_size _ rfl, rfl, rfl⟩ q)
    · exact wpAny_pyIter_ascii ha (pi_one (tk := s1.toks) I1 _ (turn_str _ z t "str_ascii_iterator" (.inl rfl)) ⟨_, Heap.get?_push_size _ rfl, rfl, rfl⟩ q)
  · cases r1
    obtain ⟨its, rv, p, hz⟩ := I1.list hq
    refine wpAny_pyIter_list p.isList ?_
    refine ⟨s1.heap.objs.size, [s1.heap.objs.size], _, _, H1, rfl, I1.kept (t' := s1.toks) fun b o e => Heap.get?_push_of_some _ e, turn_list a _, ⟨_, Heap.get?_push_size _ rfl, rfl, rfl⟩, fun b hb => ?_, q⟩
    have e : b = s1.heap.objs.size := by simpa using hb
    subst e
    exact I1.fpOk (Nat.le_refl _) (I1.hok.fresh (Nat.le_refl _))
  · cases r1
    obtain ⟨its, rv, p, hz⟩ := I1.tuple hq
    refine wpAny_pyIter_tuple (show s1.heap.IsTuple a its.toArray from p) ?_
    refine ⟨s1.heap.objs.size, [s1.heap.objs.size], _, _, H1, rfl, I1.kept (t' := s1.toks) fun b o e => Heap.get?_push_of_some _ e, turn_tuple a _, ⟨_, Heap.get?_push_size _ rfl, rfl, rfl⟩, fun b hb => ?_, q⟩
    have e : b = s1.heap.objs.size := by simpa using hb
    subst e
    exact I1.fpOk (Nat.le_refl _) (I1.hok.fresh (Nat.le_refl _))
/-- a method of a built-in type, found by what the receiver is -/
def tMth (K : PySem.W.Frag) (name : Str) (to : TE) (t : TA) : TE := fun σ H Q => to σ H fun x H1 => ∃ m : MId, name = m.nm ∧ tyV K m.T x H1 ∧ t σ H1 fun xs H2 => m.rule K x xs H2 Q
theorem pe_mth {o : Expr} {to : TE} {e : Expr} {es : List Expr} {t : TA} {name : Str} {apos cpos : Pos} (hu : X.A.units + 65 < cLine) (ho : PE X o to) (ha : PA X (e :: es) t) (hb : okBase o = true) (hline : (apos.endLine == cpos.line) = true) (hs : (e :: es).any isStar = false) (hl : (e :: es).length < 20) :
    PE X (.Call (.Attribute o name apos) (e :: es) [] cpos) (tMth X.K name to t) := by
  have hs' := hs
  rw [List.any_cons, Bool.or_eq_false_iff] at hs'
  refine ⟨fun pins s σ H Q I h => ?_⟩
  refine wpAny_Call_method_late (base_ok hb name X.env) ?_ hline rfl (thn (ho.run pins s σ H _ I h) fun v s1 ⟨x, H1, I1, r1, m, hm, ty, q1⟩ => ?_)
  · rw [star_all hs]
    show (true && true && decide ((e :: es).length + 0 + 0 < 30)) = true
    rw [decide_eq_true (by omega)]; rfl
  · subst hm
    obtain ⟨h1, h2⟩ := tyV_is I1 r1 ty
    refine ⟨m.T, m.id, m.plain, m.slot, m.ty, h1, h2, ?_⟩
    have hA := ha.run cpos pins s1 σ H1 _ I1 q1
    rw [star_one hs'.1] at hA ⊢
    refine Calls.callWith_builtin (by show (false || (backTo cpos (starEach es X.env)).any (·.1)) = false; rw [star_any hs'.2] <;> rfl) (Calls.evalArgs_plain ?_)
    exact thn hA fun us s2 ⟨vs, H2, I2, r2, q2⟩ => m.ok hu pins s2 σ H2 x vs v us Q I2 r1 r2 q2
theorem pe_mth0 {o : Expr} {to : TE} {name : Str} {apos cpos : Pos} (hu : X.A.units + 65 < cLine) (ho : PE X o to) (hb : okBase o = true) (hline : (apos.endLine == cpos.line) = true) :
    PE X (.Call (.Attribute o name apos) [] [] cpos) (tMth X.K name to tNil) := by
  refine ⟨fun pins s σ H Q I h => ?_⟩
  refine wpAny_Call_method0_late (base_ok hb name X.env) hline (thn (ho.run pins s σ H _ I h) fun v s1 ⟨x, H1, I1, r1, m, hm, ty, q1⟩ => ?_)
  subst hm
  obtain ⟨h1, h2⟩ := tyV_is I1 r1 ty
  exact ⟨m.T, m.id, m.plain, m.slot, m.ty, h1, h2, Calls.callWith_builtin rfl (PySem.evalArgs_none (m.ok hu pins s1 σ H1 x [] v [] Q I1 r1 .nil q1))⟩
/-- f(), f a def -/
theorem pe_call0S {CX : CXT} {k : Nat} {f : Addr} {fd : FuncData} {ps : List Str} {sp : Sp} {dvs : List V} {ds : List Value} {E : L2.St → XK} {x : Str} {p pos : Pos}
    (F : FnOk X.prog X.w X.K X.mg X.base CX k f fd ps sp) (hr : Room k X.A) (hg : Gl X x) (hm : X.mg x = some (.ref f)) (hk : PySem.W.keepIn X.K (.ref f) = true) (hb : Binds X.K fd ps ds) (hd : Vals dvs ds) (hx : ∀ σ, PassesAt CX X σ (E σ))
    (hdb : (x == ("__debug__" : Str)) = false) : PE X (.Call (.Name x p) [] [] pos) (tCallSD sp dvs E tNil) := by
  refine ⟨fun pins s σ H Q I h => ?_⟩
  refine wpAny_Call_Name_kw (ld_glob I hg hm ?_ hdb)
  exact PySem.W.callWith_K0 I.kIn hk (run_fnSD (us := []) F hr hb hd (hx σ) I .nil h)
end

/-! ### the cases -/
section
variable {X : Cx} {cA : CA} {k : Nat} {c : Cfg} {N : List Str} {sc : Scope} {W : WX} {n : Nat}
abbrev SE (cA : CA) (c : Cfg) (N : List Str) (n : Nat) (X : Cx) (sc : Scope) (W : WX) : Prop := ∀ e, PE X e (tE X.K cA W (ev c N n sc e))
abbrev ST (cA : CA) (c : Cfg) (N : List Str) (n : Nat) (X : Cx) (sc : Scope) (W : WX) : Prop := ∀ e, PT X e (tT X.K cA W (evT c N n sc e))
abbrev SB (cA : CA) (c : Cfg) (N : List Str) (n : Nat) (X : Cx) (sc : Scope) (W : WX) : Prop := ∀ op es pos, PE X (.BoolOp op es pos) (tE X.K cA W (evB c N n sc op es))
abbrev STs (cA : CA) (c : Cfg) (N : List Str) (n : Nat) (X : Cx) (sc : Scope) (W : WX) : Prop := ∀ op es pos, PW X (.BoolOp op es pos) (tT X.K cA W (evTs c N n sc op es))
abbrev SA (cA : CA) (c : Cfg) (N : List Str) (n : Nat) (X : Cx) (sc : Scope) (W : WX) : Prop := ∀ es, PA X es (tAs X.K cA W (evA c N n sc es))
abbrev SP' (cA : CA) (c : Cfg) (N : List Str) (n : Nat) (X : Cx) (sc : Scope) (W : WX) : Prop := ∀ e, PO X e (tP X.K cA W (evP c N n sc e))
abbrev SI (cA : CA) (c : Cfg) (N : List Str) (n : Nat) (X : Cx) (sc : Scope) (W : WX) : Prop := ∀ tg e, PI X tg e (iX X.K cA W (evI c N n (isTup tg) sc e))

/-- two operands -/
theorem two_w {fa fb : Env → Store → Out D} {r : R2} {g : Store → D → D → Out D}
    (hr : ∀ σ ρ H S x y v u Q, StR X.K cA ρ H S → Rep X.K ρ H x v → Rep X.K ρ H y u → tO X.K cA W σ ρ H (Rep X.K) (g S x y) Q → r v u H Q) :
    ∀ σ H Q, tE X.K cA W (fun σ S => (fa σ S).bind fun x S1 => (fb σ S1).bind fun y S2 => g S2 x y) σ H Q → tOp r (tE X.K cA W fa) (tE X.K cA W fb) σ H Q := by
  rintro σ H Q ⟨ρ, σd, S, env, st, h⟩
  refine ⟨ρ, σd, S, env, st, (tO.bind (R1 := Rep X.K) h).post ?_⟩
  rintro v H1 ⟨ρ1, x, S1, e1, st1, r1, h1⟩
  refine ⟨ρ1, σd, S1, env.ext e1, st1, (tO.bind (R1 := Rep X.K) h1).post ?_⟩
  rintro u H2 ⟨ρ2, y, S2, e2, st2, r2, h2⟩
  exact hr σ ρ2 H2 S2 x y v u Q st2 (r1.ext e2) r2 h2
/-- one operand -/
theorem one_w {fa : Env → Store → Out D} {r : V → Hp → VK → Prop} {g : Store → D → Out D}
    (hr : ∀ σ ρ H S x v Q, StR X.K cA ρ H S → Rep X.K ρ H x v → tO X.K cA W σ ρ H (Rep X.K) (g S x) Q → r v H Q) :
    ∀ σ H Q, tE X.K cA W (fun σ S => (fa σ S).bind fun x S1 => g S1 x) σ H Q → tE X.K cA W fa σ H (fun v H1 => r v H1 Q) := by
  rintro σ H Q ⟨ρ, σd, S, env, st, h⟩
  refine ⟨ρ, σd, S, env, st, (tO.bind (R1 := Rep X.K) h).post ?_⟩
  rintro v H1 ⟨ρ1, x, S1, e1, st1, r1, h1⟩
  exact hr σ ρ1 H1 S1 x v Q st1 r1 h1

theorem c_attr (x : XOk cA k c N X sc) (ih : SE cA c N n X sc W) {o : Expr} {f : Str} {pos} : PE X (.Attribute o f pos) (tE X.K cA W (ev c N (n + 1) sc (.Attribute o f pos))) := by
  have e0 : ∀ σ S, ev c N (n + 1) sc (.Attribute o f pos) σ S = if okBase o then (ev c N n sc o σ S).bind fun x S1 => ofO S1 (fldD (c.flds f) S1 x f) else .bad := fun _ _ => rfl
  cases hb : okBase o with
  | false => exact PE.none (tX_bad fun σ S => by rw [e0, hb]; rfl)
  | true =>
    refine PE.weak (pe_fld (ih o) (base_ok hb f X.env)) ?_
    rintro σ H Q ⟨ρ, σd, S, env, st, q⟩
    rw [e0, if_pos hb] at q
    refine ⟨ρ, σd, S, env, st, (tO.bind (R1 := Rep X.K) q).post ?_⟩
    rintro v H1 ⟨ρ1, d, S1, e1, st1, r1, h1⟩
    obtain ⟨d2, e2, kq⟩ := tO.ofO h1
    unfold fldD at e2
    split at e2
    · next C fs hi =>
      split at e2
      · next hc =>
        obtain ⟨l, a, dx, vs, rfl, rfl, g1, g2, g3, rs⟩ := ins_at st1 r1 hi
        obtain ⟨u, lu, ru⟩ := (rs.look (f := f)).2 d2 e2
        exact ⟨a, _, dx, vs, u, rfl, g3, (x.cfg.fld C f hc).1, (x.cfg.fld C f hc).2, lu, kon_here st1 kq ru⟩
      · cases e2
    · cases e2
theorem c_const {k : Const} {j pos} : PE X (.Constant k j pos) (tE X.K cA W (fun _ S => ofO S (litD k))) := by
  cases k with
  | none => exact PE.weak pe_non fun σ H Q ⟨ρ, σd, S, env, st, h⟩ => h ρ H _ Ext.refl st .non
  | bool b => exact PE.weak pe_bl fun σ H Q ⟨ρ, σd, S, env, st, h⟩ => h ρ H _ Ext.refl st (.bl b)
  | int i => exact PE.weak pe_int fun σ H Q ⟨ρ, σd, S, env, st, h⟩ => h ρ H _ Ext.refl st (.int i)
  | str x => exact PE.weak pe_str fun σ H Q ⟨ρ, σd, S, env, st, h⟩ => h ρ H _ Ext.refl st (.str x)
  | _ => exact PE.none fun σ H Q ⟨ρ, σd, S, env, st, h⟩ => h
theorem c_name (x : XOk cA k c N X sc) {y : Str} {pos} : PE X (.Name y pos) (tE X.K cA W (ev c N (n + 1) sc (.Name y pos))) := by
  have key : ∀ σ S, ev c N (n + 1) sc (.Name y pos) σ S = if plainName y then (match nmOf sc N y with
      | .slot i => (match σ[i]? with
        | some (some d) => .ok d S
        | _ => .bad)
      | .glob => ofO S (c.vars y)
      | .no => .bad) else .bad := fun _ _ => rfl
  cases hp : plainName y with
  | false => exact PE.none (tX_bad fun σ S => by rw [key, hp]; rfl)
  | true =>
    obtain ⟨p1, p2, p3⟩ := pn hp
    cases hn : nmOf sc N y with
    | no => exact PE.none (tX_bad fun σ S => by rw [key, hp, hn]; rfl)
    | slot i =>
      obtain ⟨h1, kd, h2, h3⟩ := nm_slot hn
      refine PE.weak (pe_var (i := i) (by rw [x.names]; exact h1) ((x.vis _ _ h2).1 h3) p1 p2) ?_
      rintro σ H Q ⟨ρ, σd, S, env, st, h⟩
      rw [key, hp, hn] at h
      simp only [if_true] at h
      cases e : σd[i]? with
      | none => rw [e] at h; exact h.elim
      | some o =>
        rw [e] at h
        cases o with
        | none => exact h.elim
        | some d =>
          obtain ⟨v, e1, r⟩ := env.get i d e
          exact ⟨v, e1, h ρ H v Ext.refl st r⟩
    | glob =>
      cases hv : c.vars y with
      | none => exact PE.none (tX_bad fun σ S => by rw [key, hp, hn]; simp only [hv]; rfl)
      | some d =>
        obtain ⟨u, v, e1, r1, r2⟩ := x.cfg.var y d hv
        refine PE.weak (pe_glob ((x.vis _ _ (nm_glob hn)).2 rfl) e1 r1 p1) ?_
        rintro σ H Q ⟨ρ, σd, S, env, st, h⟩
        rw [key, hp, hn] at h
        simp only [hv, if_true] at h
        exact h ρ H v Ext.refl st (r2 ρ H)
theorem c_bin (ih : SE cA c N n X sc W) {a b : Expr} {op pos} : PE X (.BinOp a op b pos) (tE X.K cA W (ev c N (n + 1) sc (.BinOp a op b pos))) :=
  PE.weak (pe_op (op_of op) (ih a) (ih b)) (two_w (r := rOf X.K op) (g := fun S x y => biF c pos op x y S) fun σ ρ H S x y v u Q st rx ry h => by
    unfold biF at h
    split at h
    · split at h
      · next xs e =>
        exact cat_of st rx ry e fun zs vs e2 rs => kon_ref st (by cases e2; exact h) rs
      · exact h.elim
    · obtain ⟨d, e, k⟩ := tO.ofO h
      exact bin_of st rx ry e k)
theorem c_not (ih : SE cA c N n X sc W) {a : Expr} {pos} : PE X (.UnaryOp .Not a pos) (tE X.K cA W (ev c N (n + 1) sc (.UnaryOp .Not a pos))) :=
  PE.weak (pe_notT (ih a)) (one_w (r := fun v H Q => ∃ k, TruV X.K v H k ∧ Q (.bl (!k)) H) (g := fun S x => ofO S ((truth S x).map fun b => .bl (!b))) fun σ ρ H S x v Q st rx h => by
    obtain ⟨d, e, k⟩ := tO.ofO h
    cases e2 : truth S x with
    | none => rw [e2] at e; cases e
    | some b => rw [e2] at e; cases e; exact ⟨b, tru_rep st rx e2, kon_here st k (.bl _)⟩)
theorem c_neg (ih : SE cA c N n X sc W) {a : Expr} {pos} : PE X (.UnaryOp .USub a pos) (tE X.K cA W (ev c N (n + 1) sc (.UnaryOp .USub a pos))) :=
  PE.weak (pe_un un_neg (ih a)) (one_w (r := rU fun i => .int (-i)) (g := fun S x => match x with
        | .int i => .ok (.int (-i)) S
        | _ => .bad) fun σ ρ H S x v Q st rx h => by
    cases rx with
    | int i => exact ⟨i, rfl, h ρ H _ Ext.refl st (.int _)⟩
    | _ => exact h.elim)
theorem dkOf_ok {c : Cfg} {N : List Str} {sc : Scope} {op : CmpOp} {b : Expr} {ks : List Str} (hk : dkOf c N sc op b = some ks) : ∃ g p, op = .In ∧ b = .Name g p ∧ plainName g = true ∧ nmOf sc N g = .glob ∧ c.dks g = some ks := by
  unfold dkOf at hk
  split at hk
  · next g p =>
    split at hk
    · next z =>
      rw [Bool.and_eq_true] at z
      refine ⟨g, p, rfl, rfl, z.1, ?_, hk⟩
      cases q : nmOf sc N g with
      | glob => rfl
      | slot i => rw [q] at z; cases z.2
      | no => rw [q] at z; cases z.2
    · cases hk
  · cases hk
theorem c_cmp (x : XOk cA k c N X sc) (ih : SE cA c N n X sc W) {a b : Expr} {op pos} : PE X (.Compare a [op] [b] pos) (tE X.K cA W (ev c N (n + 1) sc (.Compare a [op] [b] pos))) := by
  cases hs : isSet b with
  | true => exact PE.none (tX_bad fun σ S => by show (if isSet b = true then _ else _) = _; rw [hs]; rfl)
  | false =>
  have e0 : ∀ σd S, ev c N (n + 1) sc (.Compare a [op] [b] pos) σd S = if isSet b = true then .bad else (match dkOf c N sc op b with
      | some ks => (ev c N n sc a σd S).bind fun x S1 => dkIn ks x S1
      | none => (ev c N n sc a σd S).bind fun x S1 => (ev c N n sc b σd S1).bind fun y S2 => ofO S2 ((cmpD S2 op x y).map D.bl)) := fun _ _ => rfl
  cases hk : dkOf c N sc op b with
  | some ks =>
    obtain ⟨g, p, rfl, rfl, hp, hg, hd⟩ := dkOf_ok hk
    obtain ⟨d, es, m, hm, kd, hz⟩ := x.cfg.dk g ks hd
    refine PE.weak (pe_cmpR (op_in_kd kd) (ih a) (pe_glob (v := V.ref d) ((x.vis _ _ (nm_glob hg)).2 rfl) hm rfl (pn hp).1) (set_marks hs .In)) ?_
    rintro σ H Q ⟨ρ, σd, S, env, st, h⟩
    rw [e0, hs, hk] at h
    have h : tO X.K cA W σ ρ H (Rep X.K) ((ev c N n sc a σd S).bind fun x S1 => dkIn ks x S1) Q := h
    refine ⟨ρ, σd, S, env, st, (tO.bind (R1 := Rep X.K) h).post ?_⟩
    rintro v H1 ⟨ρ1, y, S1, e1, st1, r1, h1⟩
    cases r1 with
    | str z =>
      obtain ⟨r, q1, q2⟩ := hz z
      have h1 : tO X.K cA W σ ρ1 H1 (Rep X.K) (.ok (.bl (ks.contains z)) S1) Q := h1
      exact ⟨z, r, rfl, rfl, q1, by rw [q2]; exact h1 ρ1 H1 _ Ext.refl st1 (.bl _)⟩
    | _ => exact h1.elim
  | none =>
  refine PE.weak (pe_cmpR (cmp_of (by have := x.un; omega) op) (ih a) (ih b) (set_marks hs op)) fun σ H Q h => ?_
  have h : tE X.K cA W (fun σ S => (ev c N n sc a σ S).bind fun x S1 => (ev c N n sc b σ S1).bind fun y S2 => ofO S2 ((cmpD S2 op x y).map D.bl)) σ H Q := by
    obtain ⟨ρ, σd, S, env, st, h⟩ := h
    rw [e0, hs, hk] at h
    exact ⟨ρ, σd, S, env, st, h⟩
  exact (two_w (r := cOf X.K op) (g := fun S x y => ofO S ((cmpD S op x y).map D.bl)) fun σ ρ H S x y v u Q st rx ry h => by
    obtain ⟨d, e, k⟩ := tO.ofO h
    cases e2 : cmpD S op x y with
    | none => rw [e2] at e; cases e
    | some b => rw [e2] at e; cases e; exact cmpr_of st rx ry e2 (kon_here st k (.bl _))) σ H Q h
theorem c_chain (x : XOk cA k c N X sc) (ih : SE cA c N n X sc W) {a b b' : Expr} {op op' pos} :
    PE X (.Compare a [op, op'] [b, b'] pos) (tE X.K cA W (ev c N (n + 1) sc (.Compare a [op, op'] [b, b'] pos))) := by
  cases hs : isSet b || isSet b' with
  | true => exact PE.none (tX_bad fun σ S => by show (if (isSet b || isSet b') = true then _ else _) = _; rw [hs]; rfl)
  | false =>
  have hm : lastMarks [op, op'] [b, b'] = false := set_marks (Bool.or_eq_false_iff.mp hs).2 op'
  have hu : X.A.units + 65 < cLine := by have := x.un; omega
  refine PE.weak (pe_chain (cmp_of hu op) (cmp_of hu op') (ih a) (ih b) (ih b') hm) ?_
  rintro σ H Q ⟨ρ, σd, S, env, st, h⟩
  have e0 : ev c N (n + 1) sc (.Compare a [op, op'] [b, b'] pos) σd S = if (isSet b || isSet b') = true then .bad else (ev c N n sc a σd S).bind fun x S1 => (ev c N n sc b σd S1).bind fun y S2 => (match cmpD S2 op x y with
      | some true => (ev c N n sc b' σd S2).bind fun z S3 => ofO S3 ((cmpD S3 op' y z).map D.bl)
      | some false => .ok (.bl false) S2
      | none => .bad) := rfl
  rw [e0, hs] at h
  refine ⟨ρ, σd, S, env, st, (tO.bind (R1 := Rep X.K) h).post ?_⟩
  rintro v H1 ⟨ρ1, x, S1, e1, st1, r1, h1⟩
  refine ⟨ρ1, σd, S1, env.ext e1, st1, (tO.bind (R1 := Rep X.K) h1).post ?_⟩
  rintro u H2 ⟨ρ2, y, S2, e2, st2, r2, h2⟩
  cases e : cmpD S2 op x y with
  | none => rw [e] at h2; exact h2.elim
  | some bb =>
    rw [e] at h2
    refine cmpr_of st2 (r1.ext e2) r2 e ⟨bb, rfl, ?_⟩
    cases bb with
    | false => exact h2 ρ2 H2 _ Ext.refl st2 (.bl _)
    | true =>
      refine ⟨ρ2, σd, S2, (env.ext e1).ext e2, st2, (tO.bind (R1 := Rep X.K) h2).post ?_⟩
      rintro w H3 ⟨ρ3, z, S3, e3, st3, r3, h3⟩
      obtain ⟨d, e4, k⟩ := tO.ofO h3
      cases e5 : cmpD S3 op' y z with
      | none => rw [e5] at e4; cases e4
      | some b3 => rw [e5] at e4; cases e4; exact cmpr_of st3 (r2.ext e3) r3 e5 (kon_here st3 k (.bl _))
theorem c_ite (ih : SE cA c N n X sc W) (iht : ST cA c N n X sc W) {t a b : Expr} {pos} : PE X (.IfExp t a b pos) (tE X.K cA W (ev c N (n + 1) sc (.IfExp t a b pos))) := by
  refine PE.weak (pe_ifExp (iht t) (ih a) (ih b)) ?_
  rintro σ H Q ⟨ρ, σd, S, env, st, h⟩
  refine ⟨ρ, σd, S, env, st, (tO.bind (R1 := RB) h).post ?_⟩
  rintro b H1 ⟨ρ1, bb, S1, e1, st1, rfl, h1⟩
  cases bb with
  | true => exact ⟨ρ1, σd, S1, env.ext e1, st1, h1⟩
  | false => exact ⟨ρ1, σd, S1, env.ext e1, st1, h1⟩
theorem c_sub (x : XOk cA k c N X sc) (ih : SE cA c N n X sc W) {a i : Expr} {pos} (hs : isSlice i = false) : PE X (.Subscript a i pos) (tE X.K cA W (ev c N (n + 1) sc (.Subscript a i pos))) := by
  have key : ∀ σ S, ev c N (n + 1) sc (.Subscript a i pos) σ S = (ev c N n sc a σ S).bind fun x S1 => (ev c N n sc i σ S1).bind fun y S2 => ofO S2 (ixD S2 x y) := by
    intro σ S
    cases i <;> first | rfl | (cases hs)
  refine PE.weak (pe_ix (ix_all (by have := x.un; omega)) (ih a) (ih i) (plain_ix hs)) fun σ H Q h => ?_
  refine two_w (r := rIxA X.K) (g := fun S x y => ofO S (ixD S x y)) (fun σ ρ H S x y v u Q st rx ry h => ?_) σ H Q ?_
  · obtain ⟨d, e, k⟩ := tO.ofO h
    exact ix_of st rx ry e k
  · obtain ⟨ρ, σd, S, env, st, h⟩ := h
    rw [key] at h
    exact ⟨ρ, σd, S, env, st, h⟩
theorem c_slice (ih : SE cA c N n X sc W) (ihp : SP' cA c N n X sc W) {a : Expr} {lo hi : Option Expr} {p2 pos} : PE X (.Subscript a (.Slice lo hi none p2) pos) (tE X.K cA W (ev c N (n + 1) sc (.Subscript a (.Slice lo hi none p2) pos))) := by
  refine PE.weak (pe_slice sl_all (ih a) (ihp lo) (ihp hi)) ?_
  rintro σ H Q ⟨ρ, σd, S, env, st, h⟩
  refine ⟨ρ, σd, S, env, st, (tO.bind (R1 := Rep X.K) h).post ?_⟩
  rintro v H1 ⟨ρ1, x, S1, e1, st1, r1, h1⟩
  refine ⟨ρ1, σd, S1, env.ext e1, st1, (tO.bind (R1 := RI) h1).post ?_⟩
  rintro l H2 ⟨ρ2, l2, S2, e2, st2, rfl, h2⟩
  refine ⟨ρ2, σd, S2, (env.ext e1).ext e2, st2, (tO.bind (R1 := RI) h2).post ?_⟩
  rintro u H3 ⟨ρ3, u2, S3, e3, st3, rfl, h3⟩
  unfold slF at h3
  split at h3
  · cases e : slD S3 x l2 u2 with
    | none => rw [e] at h3; exact h3.elim
    | some d =>
      rw [e] at h3
      cases d with
      | lst xs => exact sl_ref st3 ((r1.ext e2).ext e3) e h3
      | _ => exact h3.elim
  · obtain ⟨d, e, k⟩ := tO.ofO h3
    exact sl_of st3 ((r1.ext e2).ext e3) e k
theorem c_tup (iha : SA cA c N n X sc W) {es : List Expr} {j pos} : PE X (.Tuple es j pos) (tE X.K cA W (ev c N (n + 1) sc (.Tuple es j pos))) := by
  refine PE.weak (pe_tup (iha es)) ?_
  rintro σ H Q ⟨ρ, σd, S, env, st, h⟩
  refine ⟨ρ, σd, S, env, st, (tO.bind (R1 := Reps X.K) h).post ?_⟩
  rintro vs H1 ⟨ρ1, xs, S1, e1, st1, r1, h1⟩
  by_cases c : xs.length ≤ 16777216
  · rw [if_pos c] at h1
    exact ⟨by rw [line_eq, ← r1.length]; exact c, kon_tup st1 h1 r1⟩
  · rw [if_neg c] at h1; exact h1.elim
theorem newL_of {pos : Pos} {ρ : Pl} {H : Hp} {S : Store} {σ : L2.St} {xs : List D} {vs : List V} {Q : VK} (st : StR X.K cA ρ H S) (r : Reps X.K ρ H xs vs) (h : tO X.K cA W σ ρ H (Rep X.K) (newL c pos xs S) Q) :
    ∀ p, H p = none → Q (.ref p) (upd H p (.lst vs)) := by
  unfold newL at h
  split at h
  · exact kon_ref st h r
  · exact kon_lst st h r
theorem c_list (iha : SA cA c N n X sc W) {es : List Expr} {pos} : PE X (.List es pos) (tE X.K cA W (ev c N (n + 1) sc (.List es pos))) := by
  refine PE.weak (pe_lst (iha es)) ?_
  rintro σ H Q ⟨ρ, σd, S, env, st, h⟩
  refine ⟨ρ, σd, S, env, st, (tO.bind (R1 := Reps X.K) h).post ?_⟩
  rintro vs H1 ⟨ρ1, xs, S1, e1, st1, r1, h1⟩
  by_cases c : xs.length ≤ 16777216
  · rw [if_pos c] at h1
    exact ⟨by rw [line_eq, ← r1.length]; exact c, newL_of st1 r1 h1⟩
  · rw [if_neg c] at h1; exact h1.elim
theorem c_dict0 {pos} : PE X (.Dict [] [] pos) (tE X.K cA W (ev c N (n + 1) sc (.Dict [] [] pos))) := by
  refine PE.weak pe_dnewK ?_
  rintro σ H Q ⟨ρ, σd, S, env, st, h⟩ p hp
  obtain ⟨e, s⟩ := ext_alloc (u := .dK []) (o := .dic []) st hp fun ρ' H' e' q => ⟨[], q, .nil⟩
  exact h _ _ _ e s (.ref (by show (ρ.l ++ [p])[S.length]? = some p; rw [List.getElem?_append_right (by rw [st.len]; exact Nat.le_refl _), st.len, Nat.sub_self]; rfl))
section
variable {prog : Program} {w : World} {A : Around} {E : Value → Shared → Prop} {s : Shared}
theorem applied_rev {sl : Addr} {t : Tok} {n : Nat} {Q : Int × Int × Nat → Shared → Prop} (hs : s.heap.IsSliceOf sl .none .none (.int (-1) t))
    (h : Q ((n : Int) - 1, -1, n) s) : wpAny (model prog w) A (Builtin.Slice.sliceApplied (.ref sl) (pure (n : Int))) Q E s := by
  obtain ⟨os, hos, hcs, hds⟩ := id hs
  unfold Builtin.Slice.sliceApplied Builtin.Slice.sliceFields
  refine wpAny_bind (wpAny_bind (wpAny_field hos hds (x := .none) rfl (wpAny_bind (wpAny_field hos hds (x := .none) rfl (wpAny_bind (wpAny_field hos hds (x := .int (-1) t) rfl (wpAny_pure ?_)))))))
  refine wpAny_bind (HT.slicePart_ (.int _ _) ?_)
  show wpAny _ _ (if ((-1 : Int) == 0) = true then _ else _) _ _ s
  rw [if_neg (by decide)]
  refine wpAny_bind (HT.slicePart_ .none (wpAny_bind (HT.slicePart_ .none (wpAny_bind (wpAny_pure ?_)))))
  show wpAny _ _ (pure ((n : Int) - 1, (-1 : Int), Builtin.Slice.slicePlaces ((n : Int) - 1) (-1) (-1))) _ _ s
  have e : Builtin.Slice.slicePlaces ((n : Int) - 1) (-1) (-1) = n := by
    unfold Builtin.Slice.slicePlaces
    rw [if_neg (by decide)]
    have e1 : (-(-1) : Int) = 1 := by decide
    rw [e1, Int.ediv_one]
    split <;> omega
  rw [e]
  exact wpAny_pure h
theorem pick_rev (xs : Array Value) : ((List.range xs.size).filterMap fun (m : Nat) => xs[(((xs.size : Int) - 1) + (m : Int) * (-1)).toNat]?).toArray = xs.toList.reverse.toArray := by
  have e : (fun (m : Nat) => xs[(((xs.size : Int) - 1) + (m : Int) * (-1)).toNat]?) = (fun i => xs[i]?) ∘ fun k => xs.size - 1 - k := by
    funext m
    have : (((xs.size : Int) - 1) + (m : Int) * (-1)).toNat = xs.size - 1 - m := by omega
    rw [this]; rfl
  rw [e, ← List.filterMap_map, PySem.W.krv_range, List.filterMap_reverse, PySem.W.krv_all]
theorem getItem_tuple_rev {t sl : Addr} {items : Array Value} {u : Tok} {Q : Value → Shared → Prop} (ht : IsTup s.heap t items) (hs : s.heap.IsSliceOf sl .none .none (.int (-1) u))
    (h : Q (.ref s.heap.objs.size) { s with heap := s.heap.push { cls := .type "tuple", data := .seq items.toList.reverse.toArray } })
    (hsz : items.size ≤ sizeLine) : wpAny (model prog w) A (getItem (.ref t) (.ref sl)) Q E s := by
  have htake : sizeOk (.seq items.toList.reverse.toArray) := by
    show items.toList.reverse.toArray.size ≤ sizeLine
    rw [List.size_toArray, List.length_reverse, Array.length_toList]
    exact hsz
  obtain ⟨os, hos, hcs, hds⟩ := id hs
  have hTs : s.TypeIs (.ref sl) "slice" := ⟨os, hos, hcs⟩
  unfold getItem
  try with_reducible refine wpAny_holding ?_
  first | refine wpAny_bind (wpAny_pure ?_) | skip
  refine wpAny_bind (wpAny_sequenceKey ht.typeIs (by decide) ?_)
  refine wpAny_bind (wpAny_callSpecial?_slot (name := Str.ofString "__getitem__") ht.typeIs PyProof.Rows.slot_tuple_getitem
    (wpAny_call_entry PyProof.Rows.slot_tuple_getitem ht.typeIs entry_tuple_getitem ?_ (args_tuple_getitem _ _)))
  show wpAny _ _ (Builtin.Tuple.tupleItemsOf (.ref t) >>= _) _ _ s
  refine wpAny_bind (tupleItemsOf_ ht ?_)
  refine wpAny_bind (wpAny_typeOf hTs ?_)
  rw [if_pos (by decide)]
  refine wpAny_bind (applied_rev hs ?_)
  have hno : ¬ ((((items.size : Int) - 1) == 0 && (-1 : Int) == 1 && items.size == items.size) = true) := by simp
  show wpAny _ _ (if (((items.size : Int) - 1) == 0 && (-1 : Int) == 1 && items.size == items.size) = true then _ else _) _ _ s
  rw [if_neg hno, pick_rev]
  first
    | exact wpAny_bind (m := Builtin.Tuple.tupleExact _) (wpAny_newObj_type (wpAny_pure ⟨_, rfl, wpAny_pure h⟩) htake)
    | exact wpAny_bind (m := Builtin.Tuple.tupleExact _) (wpAny_newObj_type (wpAny_bind (wpAny_pure (wpAny_pure ⟨_, rfl, wpAny_pure h⟩))) htake)
    | exact wpAny_bind (wpAny_bind (m := Builtin.Tuple.tupleExact _) (wpAny_newObj_type (wpAny_pure (wpAny_pure ⟨_, rfl, wpAny_pure h⟩)) htake))
    | exact wpAny_bind (wpAny_bind (m := Builtin.Tuple.tupleExact _) (wpAny_newObj_type (wpAny_pure ⟨_, rfl, wpAny_pure h⟩) htake))
end
/-- x[::-1] of a list or a tuple -/
theorem pe_revA {e : Expr} {te : TE} {p2 p3 p4 pos : Pos} {j : Nat} (he : PE X e te) (hp : PE X (.UnaryOp .USub (.Constant (.int 1) j p3) p4) (tC (.int (-1)))) :
    PE X (.Subscript e (.Slice none none (some (.UnaryOp .USub (.Constant (.int 1) j p3) p4)) p2) pos) (fun σ H Q => te σ H fun x H1 => (∃ a xs, x = .ref a ∧ SqL X.K H1 a xs ∧ ∀ p, H1 p = none → Q (.ref p) (upd H1 p (.lst xs.reverse))) ∨ ∃ a xs, x = .ref a ∧ SqT X.K H1 a xs ∧ ∀ p, H1 p = none → Q (.ref p) (upd H1 p (.tup xs.reverse))) := by
  refine ⟨fun pins s σ H Q I h => ?_⟩
  refine Subscript_ (thn (he.run pins s σ H _ I h) fun v s1 ⟨x, H1, I1, r1, q1⟩ => ?_)
  refine wpAny_Slice ?_
  rw [evalPart_none]
  refine wpAny_pure ?_
  refine wpAny_pure ?_
  show wpAny (model X.prog X.w) X.A (eval (.UnaryOp .USub (.Constant (.int 1) j p3) p4) X.env) _ _ _
  refine thn (hp.run pins s1 σ H1 (fun y H' => y = .int (-1) ∧ H' = H1) I1 ⟨rfl, rfl⟩) fun vs s2 ⟨y, H2, I2, ry, ey, eH⟩ => ?_
  subst ey eH
  obtain ⟨t, rfl⟩ := ry
  have I4 : Inv X pins σ H2 { s2 with heap := s2.heap.push { cls := .type "slice", data := .fields #[.none, .none, .int (-1) t] } } := I2.kept (t' := s2.toks) fun b ob q => Heap.get?_push_of_some _ q
  rcases q1 with ⟨a, xs, rfl, hx, q⟩ | ⟨a, xs, rfl, hx, q⟩
  · cases r1
    obtain ⟨its, r, ht, hz⟩ := I4.list hx
    have hlen := r.length
    show wpAny (model X.prog X.w) X.A (subscriptTail e (.Slice none none (some (.UnaryOp .USub (.Constant (.int 1) j p3) p4)) p2) (.ref a) (.ref s2.heap.objs.size)) (EP X pins σ Q) X.xe { s2 with heap := s2.heap.push { cls := .type "slice", data := .fields #[.none, .none, .int (-1) t] } }
    refine tail_any ht.isList.typeIs slot_list_getitem.lookup ?_ (by with_unfolding_all rfl)
    refine wpAny_getItem_list_slice ht.isList (Heap.IsSliceOf.new ..) .none .none (.int _ _) (by decide) ?_ (by rw [List.size_toArray] <;> omega)
    rw [W.krv_pick]
    refine ⟨.ref (s2.heap.push { cls := .type "slice", data := .fields #[.none, .none, .int (-1) t] }).objs.size, _, I4.laid (t' := s2.toks) (o := .lst xs.reverse) (fun b ob q => Heap.get?_push_of_some _ q) (Nat.le_refl _) ?_, rfl, q _ (I4.hok.fresh (Nat.le_refl _))⟩
    refine ⟨by rw [List.length_reverse]; exact hz, its.reverse, 0, r.reverse, ?_⟩
    have := Heap.get?_push_size (s2.heap.push { cls := .type "slice", data := .fields #[.none, .none, .int (-1) t] }) (o := { cls := .type "list", data := .seq its.reverse.toArray 0 }) rfl
    exact this
  · cases r1
    obtain ⟨its, r, ht, hz⟩ := I4.tuple hx
    have hlen := r.length
    show wpAny (model X.prog X.w) X.A (subscriptTail e (.Slice none none (some (.UnaryOp .USub (.Constant (.int 1) j p3) p4)) p2) (.ref a) (.ref s2.heap.objs.size)) (EP X pins σ Q) X.xe { s2 with heap := s2.heap.push { cls := .type "slice", data := .fields #[.none, .none, .int (-1) t] } }
    refine tail_any ht.typeIs PyProof.Rows.slot_tuple_getitem.lookup ?_ (by with_unfolding_all rfl)
    refine getItem_tuple_rev ht (Heap.IsSliceOf.new ..) ?_ (by rw [List.size_toArray] <;> omega)
    refine ⟨.ref (s2.heap.push { cls := .type "slice", data := .fields #[.none, .none, .int (-1) t] }).objs.size, _, I4.laid (t' := s2.toks) (o := .tup xs.reverse) (fun b ob q => Heap.get?_push_of_some _ q) (Nat.le_refl _) ?_, rfl, q _ (I4.hok.fresh (Nat.le_refl _))⟩
    refine ⟨by rw [List.length_reverse]; exact hz, its.reverse, r.reverse, _, Heap.get?_push_size (s2.heap.push { cls := .type "slice", data := .fields #[.none, .none, .int (-1) t] }) (o := { cls := .type "tuple", data := .seq its.reverse.toArray 0 }) rfl, rfl, 0, rfl⟩
theorem c_rev (ih : SE cA c N n X sc W) {a : Expr} {j p2 p3 p4 pos} : PE X (.Subscript a (.Slice none none (some (.UnaryOp .USub (.Constant (.int 1) j p3) p4)) p2) pos)
    (tE X.K cA W (ev c N (n + 1) sc (.Subscript a (.Slice none none (some (.UnaryOp .USub (.Constant (.int 1) j p3) p4)) p2) pos))) := by
  have minus : PE X (.UnaryOp .USub (.Constant (.int 1) j p3) p4) (tC (.int (-1))) := PE.weak (pe_un un_neg pe_int) fun σ H Q q => ⟨1, rfl, q⟩
  refine PE.weak (pe_revA (ih a) minus) ?_
  rintro σ H Q ⟨ρ, σd, S, env, st, h⟩
  refine ⟨ρ, σd, S, env, st, (tO.bind (R1 := Rep X.K) h).post ?_⟩
  rintro v H1 ⟨ρ1, x, S1, e1, st1, r1, h1⟩
  obtain ⟨d, e, k⟩ := tO.ofO h1
  exact rev_of st1 r1 e k
/-! a display of a dict -/
abbrev RKV (K : PySem.W.Frag) : Pl → Hp → List (L2.Key × D) → List (V × V) → Prop := fun ρ H r ps => ∃ ws : List (L2.Key × V), ps = ws.map (fun kv => (kV kv.1, kv.2)) ∧ FReps K ρ H r ws
def trsOf (K : PySem.W.Frag) (cA : CA) (W : WX) (c : Cfg) (N : List Str) (sc : Scope) : Nat → List (Option Expr) → List Expr → List (TE × TE)
  | n, some k :: ks, v :: vs => (tE K cA W (ev c N (n - 1) sc k), tE K cA W (ev c N (n - 1) sc v)) :: trsOf K cA W c N sc (n - 1) ks vs
  | _, _, _ => []
theorem disp_pps {pos : Pos} : ∀ (ks : List (Option Expr)) (vs : List Expr) (n : Nat), (∀ m, m ≤ n → SE cA c N m X sc W) → ks.all (·.isSome) = true → ks.length = vs.length → PPs X pos ks vs (trsOf X.K cA W c N sc n ks vs)
  | [], [], _, _, _, _ => pps_nil
  | [], _ :: _, _, _, _, h => by cases h
  | _ :: _, [], _, _, _, h => by cases h
  | none :: _, _ :: _, _, _, h, _ => by cases h
  | some k :: ks, v :: vs, n, ih, hs, hl => pps_cons (ih (n - 1) (Nat.sub_le _ _) k) (ih (n - 1) (Nat.sub_le _ _) v) (disp_pps ks vs (n - 1) (fun m hm => ih m (Nat.le_trans hm (Nat.sub_le _ _))) hs (by simpa using hl))
theorem disp_w : ∀ (n : Nat) (ks : List (Option Expr)) (vs : List Expr) (σ : L2.St) (H : Hp) (Q : List (V × V) → Hp → Prop), tX X.K cA (RKV X.K) W (evD c N n sc ks vs) σ H Q → tPairs (trsOf X.K cA W c N sc n ks vs) σ H Q
  | 0, ks, vs, σ, H, Q, h => (tX_bad (f := evD c N 0 sc ks vs) (fun _ _ => rfl) σ H Q h).elim
  | n + 1, [], [], σ, H, Q, ⟨ρ, σd, S, env, st, h⟩ => h ρ H [] Ext.refl st ⟨[], rfl, .nil⟩
  | n + 1, [], _ :: _, σ, H, Q, ⟨ρ, σd, S, env, st, h⟩ => h.elim
  | n + 1, none :: _, [], σ, H, Q, ⟨ρ, σd, S, env, st, h⟩ => h.elim
  | n + 1, some _ :: _, [], σ, H, Q, ⟨ρ, σd, S, env, st, h⟩ => h.elim
  | n + 1, none :: _, _ :: _, σ, H, Q, ⟨ρ, σd, S, env, st, h⟩ => h.elim
  | n + 1, some k :: ks, v :: vs, σ, H, Q, ⟨ρ, σd, S, env, st, h⟩ => by
    have h : tO X.K cA W σ ρ H (RKV X.K) ((ev c N n sc k σd S).bind fun x S1 => (ev c N n sc v σd S1).bind fun y S2 => (evD c N n sc ks vs σd S2).bind fun r S3 => (match keyD x with
      | some k => .ok ((k, y) :: r) S3
      | none => .bad)) Q := h
    refine ⟨ρ, σd, S, env, st, (tO.bind (R1 := Rep X.K) h).post ?_⟩
    rintro u H1 ⟨ρ1, x, S1, e1, st1, r1, h1⟩
    refine ⟨ρ1, σd, S1, env.ext e1, st1, (tO.bind (R1 := Rep X.K) h1).post ?_⟩
    rintro w H2 ⟨ρ2, y, S2, e2, st2, r2, h2⟩
    refine disp_w n ks vs σ H2 _ ⟨ρ2, σd, S2, (env.ext e1).ext e2, st2, (tO.bind (R1 := RKV X.K) h2).post ?_⟩
    rintro ps H3 ⟨ρ3, r, S3, e3, st3, ⟨ws, rfl, r3⟩, h3⟩
    cases e : keyD x with
    | none => rw [e] at h3; exact h3.elim
    | some kk =>
      rw [e] at h3
      have : u = kV kk := keyD_rep r1 e
      subst this
      exact h3 ρ3 H3 _ Ext.refl st3 ⟨(kk, w) :: ws, rfl, .cons (r2.ext e3) r3⟩
theorem evD_len : ∀ (n : Nat) (ks : List (Option Expr)) (vs : List Expr) (σ : Env) (S : Store) (r : List (L2.Key × D)) (S' : Store), evD c N n sc ks vs σ S = .ok r S' → r.length = ks.length
  | 0, _, _, _, _, _, _, h => by cases h
  | n + 1, [], [], _, _, _, _, h => by cases h; rfl
  | n + 1, [], _ :: _, _, _, _, _, h => by cases h
  | n + 1, none :: _, [], _, _, _, _, h => by cases h
  | n + 1, some _ :: _, [], _, _, _, _, h => by cases h
  | n + 1, none :: _, _ :: _, _, _, _, _, h => by cases h
  | n + 1, some k :: ks, v :: vs, σ, S, r, S', h => by
    have h : ((ev c N n sc k σ S).bind fun x S1 => (ev c N n sc v σ S1).bind fun y S2 => (evD c N n sc ks vs σ S2).bind fun r S3 => (match keyD x with
      | some k => Out.ok ((k, y) :: r) S3
      | none => .bad)) = .ok r S' := h
    cases e1 : ev c N n sc k σ S with
    | exc => rw [e1] at h; cases h
    | bad => rw [e1] at h; cases h
    | ok x S1 =>
      rw [e1] at h
      have h : ((ev c N n sc v σ S1).bind fun y S2 => (evD c N n sc ks vs σ S2).bind fun r S3 => (match keyD x with
        | some k => Out.ok ((k, y) :: r) S3
        | none => .bad)) = .ok r S' := h
      cases e2 : ev c N n sc v σ S1 with
      | exc => rw [e2] at h; cases h
      | bad => rw [e2] at h; cases h
      | ok y S2 =>
        rw [e2] at h
        have h : ((evD c N n sc ks vs σ S2).bind fun r S3 => (match keyD x with
          | some k => Out.ok ((k, y) :: r) S3
          | none => .bad)) = .ok r S' := h
        cases e3 : evD c N n sc ks vs σ S2 with
        | exc => rw [e3] at h; cases h
        | bad => rw [e3] at h; cases h
        | ok r3 S3 =>
          rw [e3] at h
          have h : (match keyD x with
            | some k => Out.ok ((k, y) :: r3) S3
            | none => .bad) = .ok r S' := h
          cases e4 : keyD x with
          | none => rw [e4] at h; cases h
          | some kk =>
            rw [e4] at h; cases h
            rw [List.length_cons, List.length_cons, evD_len n ks vs σ S2 r3 _ e3]
theorem c_disp (ih : ∀ m, m ≤ n → SE cA c N m X sc W) {ks : List (Option Expr)} {vs : List Expr} {pos} (h0 : ks ≠ []) : PE X (.Dict ks vs pos) (tE X.K cA W (ev c N (n + 1) sc (.Dict ks vs pos))) := by
  have e0 : ∀ σ S, ev c N (n + 1) sc (.Dict ks vs pos) σ S = if ks.all (·.isSome) = true ∧ ks.length = vs.length ∧ ks.length ≤ 15 then (evD c N n sc ks vs σ S).bind fun kvs S1 => .ok (.ref S1.length) (S1 ++ [.dic (mergeG [] kvs)]) else .bad := fun σ S => by
    cases ks with
    | nil => exact absurd rfl h0
    | cons _ _ => rfl
  by_cases hc : ks.all (·.isSome) = true ∧ ks.length = vs.length ∧ ks.length ≤ 15
  case neg => exact PE.none (tX_bad fun σ S => by rw [e0, if_neg hc])
  obtain ⟨hs, hc⟩ := hc
  refine PE.weak (pe_disp (disp_pps ks vs n ih hs hc.1) hs hc.1 h0 hc.2) ?_
  rintro σ H Q ⟨ρ, σd, S, env, st, h⟩ p hp
  rw [e0, if_pos ⟨hs, hc⟩] at h
  have hpb : p ∉ ρ.b := fun z => (st.bl p z).1 hp
  obtain ⟨el, sl⟩ := lock_new (u := .dK []) st hp
  refine disp_w n ks vs σ _ _ ⟨ρ.lock p, σd, S, env.ext el, sl, ?_⟩
  cases er : evD c N n sc ks vs σd S with
  | bad => rw [er] at h; exact h.elim
  | exc x S1 => rw [er] at h; exact fun ρ1 H1 e1 s1 => h ρ1 H1 (el.trans e1) s1
  | ok kvs S1 =>
    rw [er] at h
    have hlen := evD_len n ks vs σd S kvs S1 er
    rintro ρ1 H1 ps e1 s1 ⟨ws, rfl, r1⟩
    have hb : p ∈ ρ1.b := e1.lo p List.mem_cons_self
    have hl : p ∉ ρ1.l := (s1.bl p hb).2
    have h1 : H1 p = some (.dK []) := e1.keep p _ (fun z => (sl.bl p List.mem_cons_self).2 z) upd_same
    refine ⟨h1, ws, rfl, by rw [← r1.length, hlen]; exact hc.2, ?_⟩
    obtain ⟨s2, k1, k2⟩ := lock_turn (u := .dK (mergeK [] ws)) s1 hb
    have r2 : FReps X.K ρ1 (upd H1 p (.dK (mergeK [] ws))) (mergeG [] kvs) (mergeK [] ws) := FReps.merge (FReps.mapR (fun r => k1 r) r1) .nil
    obtain ⟨s3, hlast⟩ := unlock_keepD s2 hb upd_same r2
    have ed : Ext ρ H (ρ1.drop p) (upd H1 p (.dK (mergeK [] ws))) := ((el.trans e1).turn hp).drop hpb
    have e3 : Ext ρ H ((ρ1.drop p).more p) (upd H1 p (.dK (mergeK [] ws))) := by
      obtain ⟨τ, t1, t2⟩ := ed.pre
      refine ⟨⟨τ ++ [p], ?_, fun a ha => ?_⟩, ed.lo, ed.hi, ed.keep, ed.tr, ed.pn⟩
      · show (ρ1.drop p).l ++ [p] = _
        rw [t1, List.append_assoc]
      · rcases List.mem_append.mp ha with z | z
        · exact t2 a z
        · rw [List.mem_singleton.mp z]; exact hp
    exact h _ _ _ e3 s3 (.ref hlast)
end
end Q
/-! Q6: the further cases, and all of them. -/
namespace Q
open PySem PySem.Spec PyProof.Rows L2
section
variable {X : Cx} {cA : CA} {k : Nat} {c : Cfg} {N : List Str} {sc : Scope} {W : WX} {n : Nat}

theorem c_boolE (ihb : SB cA c N n X sc W) {op es pos} : PE X (.BoolOp op es pos) (tE X.K cA W (ev c N (n + 1) sc (.BoolOp op es pos))) := ihb op es pos
theorem c_boolV (ih : SE cA c N n X sc W) (ihb : SB cA c N n X sc W) : SB cA c N (n + 1) X sc W := by
  intro op es pos
  rcases es with _ | ⟨a, _ | ⟨b, rest⟩⟩
  · exact PE.none (tX_bad fun σ S => rfl)
  · exact PE.weak (pe_one (ih a)) fun σ H Q ⟨ρ, σd, S, env, st, h⟩ => ⟨ρ, σd, S, env, st, h⟩
  · cases op with
    | And =>
      refine PE.weak (pe_andT (ih a) (ihb .And (b :: rest) pos)) ?_
      rintro σ H Q ⟨ρ, σd, S, env, st, h⟩
      refine ⟨ρ, σd, S, env, st, (tO.bind (R1 := Rep X.K) h).post ?_⟩
      rintro v H1 ⟨ρ1, x, S1, e1, st1, r1, h1⟩
      cases e : truth S1 x with
      | none => rw [e] at h1; exact h1.elim
      | some kk =>
        rw [e] at h1
        refine ⟨kk, tru_rep st1 r1 e, ?_⟩
        cases kk with
        | true => exact ⟨ρ1, σd, S1, env.ext e1, st1, h1⟩
        | false => exact h1 ρ1 H1 v Ext.refl st1 r1
    | Or =>
      refine PE.weak (pe_orT (ih a) (ihb .Or (b :: rest) pos)) ?_
      rintro σ H Q ⟨ρ, σd, S, env, st, h⟩
      refine ⟨ρ, σd, S, env, st, (tO.bind (R1 := Rep X.K) h).post ?_⟩
      rintro v H1 ⟨ρ1, x, S1, e1, st1, r1, h1⟩
      cases e : truth S1 x with
      | none => rw [e] at h1; exact h1.elim
      | some kk =>
        rw [e] at h1
        refine ⟨kk, tru_rep st1 r1 e, ?_⟩
        cases kk with
        | true => exact h1 ρ1 H1 v Ext.refl st1 r1
        | false => exact ⟨ρ1, σd, S1, env.ext e1, st1, h1⟩
theorem c_tests (iht : ST cA c N n X sc W) (ihs : STs cA c N n X sc W) : STs cA c N (n + 1) X sc W := by
  intro op es pos
  rcases es with _ | ⟨a, _ | ⟨b, rest⟩⟩
  · exact ⟨fun _ pins s σ H Q I q => (tX_bad (fun σ S => rfl) σ H Q q).elim⟩
  · cases op with
    | And => exact PW.weak (pw_and1 (iht a)) fun σ H Q ⟨ρ, σd, S, env, st, h⟩ => ⟨ρ, σd, S, env, st, h⟩
    | Or => exact PW.weak (pw_or1 (iht a)) fun σ H Q ⟨ρ, σd, S, env, st, h⟩ => ⟨ρ, σd, S, env, st, h⟩
  · cases op with
    | And =>
      refine PW.weak (pw_and (iht a) (ihs .And (b :: rest) pos)) ?_
      rintro σ H Q ⟨ρ, σd, S, env, st, h⟩
      refine ⟨ρ, σd, S, env, st, (tO.bind (R1 := RB) h).post ?_⟩
      rintro b H1 ⟨ρ1, bb, S1, e1, st1, rfl, h1⟩
      cases bb with
      | true => exact ⟨ρ1, σd, S1, env.ext e1, st1, h1⟩
      | false => exact h1 ρ1 H1 _ Ext.refl st1 rfl
    | Or =>
      refine PW.weak (pw_or (iht a) (ihs .Or (b :: rest) pos)) ?_
      rintro σ H Q ⟨ρ, σd, S, env, st, h⟩
      refine ⟨ρ, σd, S, env, st, (tO.bind (R1 := RB) h).post ?_⟩
      rintro b H1 ⟨ρ1, bb, S1, e1, st1, rfl, h1⟩
      cases bb with
      | true => exact h1 ρ1 H1 _ Ext.refl st1 rfl
      | false => exact ⟨ρ1, σd, S1, env.ext e1, st1, h1⟩
/-- a value, as a test -/
theorem t_val (ih : SE cA c N n X sc W) {e : Expr} (he : ∀ whole, isTrue e X.env whole = (do let v ← whole; standAt e.pos; holding [v] (truthy v))) :
    PT X e (tT X.K cA W (fun σ S => (ev c N n sc e σ S).bind fun x S1 => ofO S1 (truth S1 x))) := by
  refine PT.weak (pt_truth (ih e) he) ?_
  rintro σ H Q ⟨ρ, σd, S, env, st, h⟩
  refine ⟨ρ, σd, S, env, st, (tO.bind (R1 := Rep X.K) h).post ?_⟩
  rintro v H1 ⟨ρ1, x, S1, e1, st1, r1, h1⟩
  obtain ⟨b, e, kq⟩ := tO.ofO h1
  exact ⟨b, tru_rep st1 r1 e, kq ρ1 H1 b Ext.refl st1 rfl⟩
theorem t_cmp (x : XOk cA k c N X sc) (ih : ∀ m, m < n → SE cA c N m X sc W) {a : Expr} {ops : List CmpOp} {bs : List Expr} {pos} :
    PT X (.Compare a ops bs pos) (tT X.K cA W (fun σ S => (ev c N n sc (.Compare a ops bs pos) σ S).bind fun x S1 => (match x with
      | .bl k => .ok k S1
      | _ => .bad))) := by
  have bad : (∀ σ S, ev c N n sc (.Compare a ops bs pos) σ S = .bad) → PT X (.Compare a ops bs pos) (tT X.K cA W (fun σ S => (ev c N n sc (.Compare a ops bs pos) σ S).bind fun x S1 => (match x with
      | .bl k => .ok k S1
      | _ => .bad))) := fun h => PT.none (tX_bad fun σ S => by rw [h]; rfl)
  cases n with
  | zero => exact bad fun _ _ => rfl
  | succ n =>
    have ih := ih n (Nat.lt_succ_self n)
    have hu : X.A.units + 65 < cLine := by have := x.un; omega
    rcases ops with _ | ⟨op, _ | ⟨op', _ | ⟨op'', ops⟩⟩⟩
    · exact bad fun _ _ => rfl
    · rcases bs with _ | ⟨b, _ | ⟨b', bs⟩⟩
      · exact bad fun _ _ => rfl
      · cases hs : isSet b with
        | true => exact bad fun σ S => by show (if isSet b = true then _ else _) = _; rw [hs]; rfl
        | false =>
          have e0 : ∀ σd S, ev c N (n + 1) sc (.Compare a [op] [b] pos) σd S = if isSet b = true then .bad else (match dkOf c N sc op b with
            | some ks => (ev c N n sc a σd S).bind fun x S1 => dkIn ks x S1
            | none => (ev c N n sc a σd S).bind fun x S1 => (ev c N n sc b σd S1).bind fun y S2 => ofO S2 ((cmpD S2 op x y).map D.bl)) := fun _ _ => rfl
          cases hk : dkOf c N sc op b with
          | some ks =>
            obtain ⟨g, p, rfl, rfl, hp, hg, hd⟩ := dkOf_ok hk
            obtain ⟨d, es, m, hm, kd, hz⟩ := x.cfg.dk g ks hd
            refine PT.weak (pt_cmpR (op_in_kd kd) (ih a) (pe_glob (v := V.ref d) ((x.vis _ _ (nm_glob hg)).2 rfl) hm rfl (pn hp).1) (set_marks hs .In)) ?_
            rintro σ H Q ⟨ρ, σd, S, env, st, h⟩
            dsimp only at h
            rw [e0, hs, hk] at h
            have h' := tO.bind (R1 := Rep X.K) h
            have h' : tO X.K cA W σ ρ H (Rep X.K) ((ev c N n sc a σd S).bind fun x S1 => dkIn ks x S1) _ := h'
            refine ⟨ρ, σd, S, env, st, (tO.bind (R1 := Rep X.K) h').post ?_⟩
            rintro v H1 ⟨ρ1, y, S1, e1, st1, r1, h1⟩
            cases r1 with
            | str z =>
              obtain ⟨r, q1, q2⟩ := hz z
              refine ⟨z, r, rfl, rfl, q1, _, rfl, ?_⟩
              rw [q2]
              obtain ⟨ρ4, d4, S4, e4, st4, r4, h4⟩ := h1 ρ1 H1 _ Ext.refl st1 (.bl _)
              cases r4
              exact h4 ρ4 H1 _ Ext.refl st4 rfl
            | _ => exact h1.elim
          | none =>
          refine PT.weak (pt_cmpR (cmp_of hu op) (ih a) (ih b) (set_marks hs op)) ?_
          rintro σ H Q ⟨ρ, σd, S, env, st, h⟩
          dsimp only at h
          rw [e0, hs, hk] at h
          have h' := tO.bind (R1 := Rep X.K) h
          have h' : tO X.K cA W σ ρ H (Rep X.K) ((ev c N n sc a σd S).bind fun x S1 => (ev c N n sc b σd S1).bind fun y S2 => ofO S2 ((cmpD S2 op x y).map D.bl)) _ := h'
          refine ⟨ρ, σd, S, env, st, (tO.bind (R1 := Rep X.K) h').post ?_⟩
          rintro v H1 ⟨ρ1, x, S1, e1, st1, r1, h1⟩
          refine ⟨ρ1, σd, S1, env.ext e1, st1, (tO.bind (R1 := Rep X.K) h1).post ?_⟩
          rintro u H2 ⟨ρ2, y, S2, e2, st2, r2, h2⟩
          obtain ⟨d, e3, kq⟩ := tO.ofO h2
          cases e : cmpD S2 op x y with
          | none => rw [e] at e3; cases e3
          | some bb =>
            rw [e] at e3; cases e3
            refine cmpr_of st2 (r1.ext e2) r2 e ⟨bb, rfl, ?_⟩
            obtain ⟨ρ4, d4, S4, e4, st4, r4, h4⟩ := kq ρ2 H2 _ Ext.refl st2 (.bl _)
            cases r4
            exact h4 ρ4 H2 _ Ext.refl st4 rfl
      · exact bad fun _ _ => rfl
    · rcases bs with _ | ⟨b, _ | ⟨b', _ | ⟨b'', bs⟩⟩⟩
      · exact bad fun _ _ => rfl
      · exact bad fun _ _ => rfl
      · cases hs : isSet b || isSet b' with
        | true => exact bad fun σ S => by show (if (isSet b || isSet b') = true then _ else _) = _; rw [hs]; rfl
        | false =>
          have hm : lastMarks [op, op'] [b, b'] = false := set_marks (Bool.or_eq_false_iff.mp hs).2 op'
          refine PT.weak (pt_chain (cmp_of hu op) (cmp_of hu op') (ih a) (ih b) (ih b') hm) ?_
          rintro σ H Q ⟨ρ, σd, S, env, st, h⟩
          have e0 : ev c N (n + 1) sc (.Compare a [op, op'] [b, b'] pos) σd S = if (isSet b || isSet b') = true then .bad else (ev c N n sc a σd S).bind fun x S1 => (ev c N n sc b σd S1).bind fun y S2 => (match cmpD S2 op x y with
            | some true => (ev c N n sc b' σd S2).bind fun z S3 => ofO S3 ((cmpD S3 op' y z).map D.bl)
            | some false => .ok (.bl false) S2
            | none => .bad) := rfl
          dsimp only at h
          rw [e0, hs] at h
          have h' := tO.bind (R1 := Rep X.K) h
          have h' : tO X.K cA W σ ρ H (Rep X.K) ((ev c N n sc a σd S).bind fun x S1 => (ev c N n sc b σd S1).bind fun y S2 => (match cmpD S2 op x y with
            | some true => (ev c N n sc b' σd S2).bind fun z S3 => ofO S3 ((cmpD S3 op' y z).map D.bl)
            | some false => .ok (.bl false) S2
            | none => .bad)) _ := h'
          refine ⟨ρ, σd, S, env, st, (tO.bind (R1 := Rep X.K) h').post ?_⟩
          rintro v H1 ⟨ρ1, x, S1, e1, st1, r1, h1⟩
          refine ⟨ρ1, σd, S1, env.ext e1, st1, (tO.bind (R1 := Rep X.K) h1).post ?_⟩
          rintro u H2 ⟨ρ2, y, S2, e2, st2, r2, h2⟩
          cases e : cmpD S2 op x y with
          | none => rw [e] at h2; exact h2.elim
          | some bb =>
            rw [e] at h2
            refine cmpr_of st2 (r1.ext e2) r2 e ⟨bb, rfl, ?_⟩
            cases bb with
            | false =>
              obtain ⟨ρ4, d4, S4, e4, st4, r4, h4⟩ := h2 ρ2 H2 _ Ext.refl st2 (.bl _)
              cases r4
              exact ⟨false, rfl, h4 ρ4 H2 _ Ext.refl st4 rfl⟩
            | true =>
              refine ⟨ρ2, σd, S2, (env.ext e1).ext e2, st2, (tO.bind (R1 := Rep X.K) h2).post ?_⟩
              rintro w H3 ⟨ρ3, z, S3, e3, st3, r3, h3⟩
              obtain ⟨d, e4, kq⟩ := tO.ofO h3
              cases e5 : cmpD S3 op' y z with
              | none => rw [e5] at e4; cases e4
              | some b3 =>
                rw [e5] at e4; cases e4
                refine cmpr_of st3 (r2.ext e3) r3 e5 ⟨b3, rfl, ?_⟩
                obtain ⟨ρ6, d6, S6, e6, st6, r6, h6⟩ := kq ρ3 H3 _ Ext.refl st3 (.bl _)
                cases r6
                exact h6 ρ6 H3 _ Ext.refl st6 rfl
      · exact bad fun _ _ => rfl
    · rcases bs with _ | ⟨b, _ | ⟨b', _ | ⟨b'', bs⟩⟩⟩ <;> exact bad fun _ _ => rfl
theorem c_test (x : XOk cA k c N X sc) (ihl : ∀ m, m < n → SE cA c N m X sc W) (ih : SE cA c N n X sc W) (iht : ST cA c N n X sc W) (ihs : STs cA c N n X sc W) : ST cA c N (n + 1) X sc W := by
  intro e
  cases e with
  | UnaryOp op a pos =>
    cases op with
    | Not =>
      refine PT.weak (pt_not (iht a)) ?_
      rintro σ H Q ⟨ρ, σd, S, env, st, h⟩
      refine ⟨ρ, σd, S, env, st, (tO.bind (R1 := RB) h).post ?_⟩
      rintro b H1 ⟨ρ1, bb, S1, e1, st1, rfl, h1⟩
      exact h1 ρ1 H1 _ Ext.refl st1 rfl
    | _ => exact t_val ih (fun _ => rfl)
  | BoolOp op es pos => exact (ihs op es pos).pt
  | IfExp => exact PT.none (tX_bad fun σ S => rfl)
  | Compare a ops bs pos => exact t_cmp x ihl
  | _ => exact t_val ih (fun _ => rfl)
theorem c_args (ih : SE cA c N n X sc W) (iha : SA cA c N n X sc W) : SA cA c N (n + 1) X sc W := by
  intro es
  cases es with
  | nil => exact PA.weak pa_nil fun σ H Q ⟨ρ, σd, S, env, st, h⟩ => h ρ H [] Ext.refl st .nil
  | cons a rest =>
    cases hs : isStar a with
    | true => exact PA.none (tX_bad fun σ S => by show (if isStar a = true then _ else _) = _; rw [hs]; rfl)
    | false =>
      refine PA.weak (pa_cons (ih a) (iha rest) (star_one hs _ _)) ?_
      rintro σ H Q ⟨ρ, σd, S, env, st, h⟩
      have e0 : evA c N (n + 1) sc (a :: rest) σd S = if isStar a = true then .bad else (ev c N n sc a σd S).bind fun x S1 => (evA c N n sc rest σd S1).bind fun xs S2 => .ok (x :: xs) S2 := rfl
      rw [e0, hs] at h
      have h : tO X.K cA W σ ρ H (Reps X.K) ((ev c N n sc a σd S).bind fun x S1 => (evA c N n sc rest σd S1).bind fun xs S2 => .ok (x :: xs) S2) Q := h
      refine ⟨ρ, σd, S, env, st, (tO.bind (R1 := Rep X.K) h).post ?_⟩
      rintro v H1 ⟨ρ1, x, S1, e1, st1, r1, h1⟩
      refine ⟨ρ1, σd, S1, env.ext e1, st1, (tO.bind (R1 := Reps X.K) h1).post ?_⟩
      rintro vs H2 ⟨ρ2, xs, S2, e2, st2, r2, h2⟩
      exact h2 ρ2 H2 _ Ext.refl st2 (.cons (r1.ext e2) r2)
theorem c_part (ih : SE cA c N n X sc W) : SP' cA c N (n + 1) X sc W := by
  intro e
  cases e with
  | none => exact PO.weak po_none fun σ H Q ⟨ρ, σd, S, env, st, h⟩ => h ρ H none Ext.refl st rfl
  | some a =>
    refine PO.weak (po_some (ih a)) ?_
    rintro σ H Q ⟨ρ, σd, S, env, st, h⟩
    refine ⟨ρ, σd, S, env, st, (tO.bind (R1 := Rep X.K) h).post ?_⟩
    rintro v H1 ⟨ρ1, x, S1, e1, st1, r1, h1⟩
    cases r1 with
    | int i => exact ⟨i, rfl, h1 ρ1 H1 _ Ext.refl st1 rfl⟩
    | _ => exact h1.elim
theorem i_val (ih : SE cA c N n X sc W) {tg e : Expr} : PI X tg e (iX X.K cA W (fun σ S => (ev c N n sc e σ S).bind fun x S1 => ofO S1 (itersD S1 x))) := by
  refine PI.weak (pi_any (ih e)) ?_
  rintro σ H R ⟨ρ, σd, S, env, st, h⟩
  refine ⟨ρ, σd, S, env, st, (tO.bind (R1 := Rep X.K) h).post ?_⟩
  rintro v H1 ⟨ρ1, x, S1, e1, st1, r1, h1⟩
  obtain ⟨it, e, kq⟩ := tO.ofO h1
  exact iter_of st1 r1 e fun J hJ => kq ρ1 H1 J Ext.refl st1 hJ
theorem glob_of {f : Str} (h3 : (match nmOf sc N f with | .glob => true | _ => false) = true) : nmOf sc N f = .glob := by
  cases q : nmOf sc N f with
  | glob => rfl
  | slot => rw [q] at h3; cases h3
  | no => rw [q] at h3; cases h3
theorem tup_is {e : Expr} (h : isTup e = true) : ∃ es k p, e = .Tuple es k p := by
  cases e <;> first | exact ⟨_, _, _, rfl⟩ | cases h
theorem c_iter (x : XOk cA k c N X sc) (ih : SE cA c N n X sc W) : SI cA c N (n + 1) X sc W := by
  intro tg e
  have other : (∀ σ S, evI c N (n + 1) (isTup tg) sc e σ S = (ev c N n sc e σ S).bind fun x S1 => ofO S1 (itersD S1 x)) → PI X tg e (iX X.K cA W (evI c N (n + 1) (isTup tg) sc e)) := by
    intro h
    refine PI.weak (i_val ih) ?_
    rintro σ H R ⟨ρ, σd, S, env, st, h'⟩
    rw [h] at h'
    exact ⟨ρ, σd, S, env, st, h'⟩
  cases e with
  | Call f args kws pos =>
    cases f with
    | Name f p =>
      cases kws with
      | cons _ _ => rcases args with _ | ⟨a, _ | ⟨b, _ | ⟨d, args⟩⟩⟩ <;> exact other fun _ _ => rfl
      | nil =>
        rcases args with _ | ⟨a, _ | ⟨b, _ | ⟨d, args⟩⟩⟩
        · exact other fun _ _ => rfl
        · cases ht : (f == "range" && c.free f && (match nmOf sc N f with | .glob => true | _ => false)) with
          | false =>
            have e1 : ∀ σd S, evI c N (n + 1) (isTup tg) sc (.Call (.Name f p) [a] [] pos) σd S = (if isTup tg && (f == "enumerate" && c.free f && (match nmOf sc N f with | .glob => true | _ => false)) then
        (if isStar a then .bad else (ev c N n sc a σd S).bind fun x S1 => ofO S1 (enumD S1 x))
      else (ev c N n sc (.Call (.Name f p) [a] [] pos) σd S).bind fun x S1 => ofO S1 (itersD S1 x)) := fun σd S => by show (if (f == "range" && c.free f && (match nmOf sc N f with | .glob => true | _ => false)) = true then _ else _) = _; rw [ht]; rfl
            cases hen : (isTup tg && (f == "enumerate" && c.free f && (match nmOf sc N f with | .glob => true | _ => false))) with
            | false => exact other fun σ S => by rw [e1, hen]; rfl
            | true =>
              have e2 : ∀ σd S, evI c N (n + 1) (isTup tg) sc (.Call (.Name f p) [a] [] pos) σd S = (if isStar a then .bad else (ev c N n sc a σd S).bind fun x S1 => ofO S1 (enumD S1 x)) := fun σd S => by rw [e1, hen]; rfl
              rw [Bool.and_eq_true, Bool.and_eq_true, Bool.and_eq_true] at hen
              obtain ⟨h0, ⟨h1, h2⟩, h3⟩ := hen
              have hg := glob_of h3
              have h1 : f = "enumerate" := beq_iff_eq.mp h1
              subst h1
              cases hs : isStar a with
              | true => exact PI.none (tX_bad fun σ S => by rw [e2, hs]; rfl)
              | false =>
                obtain ⟨es, kk, tp, rfl⟩ := tup_is h0
                refine PI.weak (pi_enum ((x.vis _ _ (nm_glob hg)).2 rfl) (x.cfg.free _ h2) (pa_cons (ih a) pa_nil (star_one hs _ _)) (star_one hs _ _)) ?_
                rintro σ H R ⟨ρ, σd, S, env, st, h⟩
                rw [e2, hs] at h
                refine ⟨ρ, σd, S, env, st, (tO.bind (R1 := Rep X.K) h).post ?_⟩
                rintro v H1 ⟨ρ1, x, S1, e1, st1, r1, h1⟩
                obtain ⟨it, e, kq⟩ := tO.ofO h1
                exact enum_of st1 r1 e fun J hJ => kq ρ1 H1 J Ext.refl st1 hJ
          | true =>
            have e0 : ∀ σd S, evI c N (n + 1) (isTup tg) sc (.Call (.Name f p) [a] [] pos) σd S = (if isStar a then .bad else (ev c N n sc a σd S).bind fun x S1 => (match x with
              | .int j => if small62 j then .ok (rangeD 0 j) S1 else .bad
              | _ => .bad)) := fun σd S => by show (if (f == "range" && c.free f && (match nmOf sc N f with | .glob => true | _ => false)) = true then _ else _) = _; rw [ht]; rfl
            rw [Bool.and_eq_true, Bool.and_eq_true] at ht
            obtain ⟨⟨h1, h2⟩, h3⟩ := ht
            have h1 : f = "range" := beq_iff_eq.mp h1
            have hg : nmOf sc N f = .glob := by
              cases q : nmOf sc N f with
              | glob => rfl
              | slot => rw [q] at h3; cases h3
              | no => rw [q] at h3; cases h3
            subst h1
            cases hs : isStar a with
            | true => exact PI.none (tX_bad fun σ S => by rw [e0, hs]; rfl)
            | false =>
              refine PI.weak (pi_range1 ((x.vis _ _ (nm_glob hg)).2 rfl) (x.cfg.free _ h2) (pa_cons (ih a) pa_nil (star_one hs _ _)) (star_one hs _ _)) ?_
              rintro σ H R ⟨ρ, σd, S, env, st, h⟩
              rw [e0, hs] at h
              refine ⟨ρ, σd, S, env, st, (tO.bind (R1 := Rep X.K) h).post ?_⟩
              rintro v H1 ⟨ρ1, x, S1, e1, st1, r1, h1⟩
              cases r1 with
              | int j =>
                cases hj : small62 j with
                | false => simp only [hj] at h1; exact h1.elim
                | true =>
                  simp only [hj, if_true] at h1
                  rw [small62, Bool.and_eq_true] at hj
                  refine ⟨j, rfl, of_decide_eq_true hj.1, of_decide_eq_true hj.2, h1 ρ1 H1 _ Ext.refl st1 ?_⟩
                  have : rangeD 0 j = ⟨(List.range j.toNat).map fun (k : Nat) => .int (0 + k), none, false⟩ := by unfold rangeD; rw [Int.sub_zero]
                  rw [this]
                  exact itr_val
              | _ => exact h1.elim
        · cases ht : (f == "range" && c.free f && (match nmOf sc N f with | .glob => true | _ => false)) with
          | false =>
            have e1 : ∀ σd S, evI c N (n + 1) (isTup tg) sc (.Call (.Name f p) [a, b] [] pos) σd S = (if isTup tg && (f == "zip" && c.free f && (match nmOf sc N f with | .glob => true | _ => false)) then
        (if isStar a || isStar b then .bad else (ev c N n sc a σd S).bind fun x S1 => (ev c N n sc b σd S1).bind fun y S2 => ofO S2 (zipD x y))
      else (ev c N n sc (.Call (.Name f p) [a, b] [] pos) σd S).bind fun x S1 => ofO S1 (itersD S1 x)) := fun σd S => by show (if (f == "range" && c.free f && (match nmOf sc N f with | .glob => true | _ => false)) = true then _ else _) = _; rw [ht]; rfl
            cases hen : (isTup tg && (f == "zip" && c.free f && (match nmOf sc N f with | .glob => true | _ => false))) with
            | false => exact other fun σ S => by rw [e1, hen]; rfl
            | true =>
              have e2 : ∀ σd S, evI c N (n + 1) (isTup tg) sc (.Call (.Name f p) [a, b] [] pos) σd S = (if isStar a || isStar b then .bad else (ev c N n sc a σd S).bind fun x S1 => (ev c N n sc b σd S1).bind fun y S2 => ofO S2 (zipD x y)) := fun σd S => by rw [e1, hen]; rfl
              rw [Bool.and_eq_true, Bool.and_eq_true, Bool.and_eq_true] at hen
              obtain ⟨h0, ⟨h1, h2⟩, h3⟩ := hen
              have hg := glob_of h3
              have h1 : f = "zip" := beq_iff_eq.mp h1
              subst h1
              cases hs : isStar a || isStar b with
              | true => exact PI.none (tX_bad fun σ S => by rw [e2, hs]; rfl)
              | false =>
                obtain ⟨hs1, hs2⟩ := Bool.or_eq_false_iff.mp hs
                obtain ⟨es, kk, tp, rfl⟩ := tup_is h0
                refine PI.weak (pi_zipK ((x.vis _ _ (nm_glob hg)).2 rfl) (x.cfg.free _ h2) (pa_cons (ih a) (pa_cons (ih b) pa_nil (star_one hs2 _ _)) (star_one hs1 _ _)) (star_one hs1 _ _) (by rw [star_one hs2]; rfl)) ?_
                rintro σ H R ⟨ρ, σd, S, env, st, h⟩
                rw [e2, hs] at h
                refine ⟨ρ, σd, S, env, st, (tO.bind (R1 := Rep X.K) h).post ?_⟩
                rintro v H1 ⟨ρ1, x, S1, e1, st1, r1, h1⟩
                refine ⟨ρ1, σd, S1, env.ext e1, st1, (tO.bind (R1 := Rep X.K) h1).post ?_⟩
                rintro u H2 ⟨ρ2, y, S2, e2, st2, r2, h2⟩
                obtain ⟨it, e, kq⟩ := tO.ofO h2
                exact zip_of st2 (r1.ext e2) r2 e fun J hJ => kq ρ2 H2 J Ext.refl st2 hJ
          | true =>
            have e0 : ∀ σd S, evI c N (n + 1) (isTup tg) sc (.Call (.Name f p) [a, b] [] pos) σd S = (if isStar a || isStar b then .bad else (ev c N n sc a σd S).bind fun x S1 => (ev c N n sc b σd S1).bind fun y S2 => (match x, y with
          | .int i, .int j => if small62 i && small62 j then .ok (rangeD i j) S2 else .bad
          | _, _ => .bad)) := fun σd S => by show (if (f == "range" && c.free f && (match nmOf sc N f with | .glob => true | _ => false)) = true then _ else _) = _; rw [ht]; rfl
            rw [Bool.and_eq_true, Bool.and_eq_true] at ht
            obtain ⟨⟨h1, h2⟩, h3⟩ := ht
            have h1 : f = "range" := beq_iff_eq.mp h1
            have hg : nmOf sc N f = .glob := by
              cases q : nmOf sc N f with
              | glob => rfl
              | slot => rw [q] at h3; cases h3
              | no => rw [q] at h3; cases h3
            subst h1
            cases hs : isStar a || isStar b with
            | true => exact PI.none (tX_bad fun σ S => by rw [e0, hs]; rfl)
            | false =>
              obtain ⟨hs1, hs2⟩ := Bool.or_eq_false_iff.mp hs
              refine PI.weak (pi_range2 ((x.vis _ _ (nm_glob hg)).2 rfl) (x.cfg.free _ h2) (pa_cons (ih a) (pa_cons (ih b) pa_nil (star_one hs2 _ _)) (star_one hs1 _ _)) (by rw [star_one hs1, star_one hs2]; rfl) (star_one hs2 _ _)) ?_
              rintro σ H R ⟨ρ, σd, S, env, st, h⟩
              rw [e0, hs] at h
              refine ⟨ρ, σd, S, env, st, (tO.bind (R1 := Rep X.K) h).post ?_⟩
              rintro v H1 ⟨ρ1, x, S1, e1, st1, r1, h1⟩
              refine ⟨ρ1, σd, S1, env.ext e1, st1, (tO.bind (R1 := Rep X.K) h1).post ?_⟩
              rintro u H2 ⟨ρ2, y, S2, e2, st2, r2, h2⟩
              cases r1 with
              | int i =>
                cases r2 with
                | int j =>
                  cases hj : (small62 i && small62 j) with
                  | false => simp only [hj] at h2; exact h2.elim
                  | true =>
                    simp only [hj, if_true] at h2
                    rw [Bool.and_eq_true, small62, small62, Bool.and_eq_true, Bool.and_eq_true] at hj
                    exact ⟨i, j, rfl, ⟨of_decide_eq_true hj.1.1, of_decide_eq_true hj.1.2, of_decide_eq_true hj.2.1, of_decide_eq_true hj.2.2⟩, h2 ρ2 H2 _ Ext.refl st2 itr_val⟩
                | _ => exact h2.elim
              | _ => exact h2.elim
        · exact other fun _ _ => rfl
    | _ => exact other fun _ _ => rfl
  | _ => exact other fun _ _ => rfl
end
end Q
/-! Q7: targets, comprehensions, calls; every expression is read. -/
namespace Q
open PySem PySem.Spec PyProof.Rows L2

/-! ### targets -/
def gNames : List Nat → TGs
  | [] => gNil
  | i :: is => gCons (gName i) (gNames is)
def gTg (K : PySem.W.Frag) (tg : Expr) (is : List Nat) : TG := match tg, is with
  | .Name .., [i] => gName i
  | .Tuple .., is => fun v σ H Q => gTup K is.length (gNames is) v σ H Q ∨ gLst K is.length (gNames is) v σ H Q
  | _, _ => fun _ _ _ _ => False
theorem st_slot {sc : Scope} {N : List Str} {x : Str} {i : Nat} (h : stOf sc N x = some i) : N[i]? = some x ∧ ∃ kd, sc.names.lookup x = some kd ∧ (kd = .local ∨ kd = .cell) := by
  unfold stOf at h
  have get : ∀ {i : Nat}, N.idxOf? x = some i → N[i]? = some x := by
    intro i e
    obtain ⟨h1, h2, _⟩ := List.idxOf?_eq_some_iff.mp e
    rw [List.getElem?_eq_getElem h1, h2]
  cases e : sc.names.lookup x with
  | none => rw [e] at h; cases h
  | some kd =>
    rw [e] at h
    cases kd <;> simp only at h
    all_goals first
      | exact ⟨get h, _, rfl, by simp⟩
      | (cases h; done)
section
variable {X : Cx} {cA : CA} {k : Nat} {c : Cfg} {N : List Str} {sc : Scope}
theorem pg_st (x : XOk cA k c N X sc) {y : Str} {pos : Pos} {i : Nat} (h : stOf sc N y = some i) : PG X (.Name y pos) (gName i) := by
  obtain ⟨h1, kd, h2, h3⟩ := st_slot h
  obtain ⟨l1, l2⟩ := x.loc _ _ h2 h3
  exact pg_name (by rw [x.names]; exact x.nd) (by rw [x.names]; exact h1) l1 l2
theorem each_names (env : PySem.Env) : ∀ {es : List Expr} {xs : List Str}, tgEach es = some xs → (assignEach es env).length = xs.length ∧ (assignEach es env).findIdx? (·.1) = none
  | [], xs, h => by cases h; exact ⟨rfl, rfl⟩
  | .Name y p :: es, xs, h => by
    simp only [tgEach] at h
    cases e : tgEach es with
    | none => rw [e] at h; cases h
    | some ys =>
      rw [e] at h; cases h
      obtain ⟨h1, h2⟩ := each_names env e
      refine ⟨congrArg (· + 1) h1, ?_⟩
      show List.findIdx? _ ((false, assign (.Name y p) env) :: assignEach es env) = none
      rw [List.findIdx?_cons, h2]; rfl
  | .BoolOp .. :: _, _, h => by cases h
  | .NamedExpr .. :: _, _, h => by cases h
  | .BinOp .. :: _, _, h => by cases h
  | .UnaryOp .. :: _, _, h => by cases h
  | .Lambda .. :: _, _, h => by cases h
  | .IfExp .. :: _, _, h => by cases h
  | .Dict .. :: _, _, h => by cases h
  | .Set .. :: _, _, h => by cases h
  | .ListComp .. :: _, _, h => by cases h
  | .SetComp .. :: _, _, h => by cases h
  | .DictComp .. :: _, _, h => by cases h
  | .GeneratorExp .. :: _, _, h => by cases h
  | .Await .. :: _, _, h => by cases h
  | .Yield .. :: _, _, h => by cases h
  | .YieldFrom .. :: _, _, h => by cases h
  | .Compare .. :: _, _, h => by cases h
  | .Call .. :: _, _, h => by cases h
  | .FormattedValue .. :: _, _, h => by cases h
  | .JoinedStr .. :: _, _, h => by cases h
  | .Constant .. :: _, _, h => by cases h
  | .Attribute .. :: _, _, h => by cases h
  | .Subscript .. :: _, _, h => by cases h
  | .Starred .. :: _, _, h => by cases h
  | .List .. :: _, _, h => by cases h
  | .Tuple .. :: _, _, h => by cases h
  | .Slice .. :: _, _, h => by cases h
theorem slots_len {sc : Scope} {N : List Str} : ∀ {xs : List Str} {is : List Nat}, slotsOf sc N xs = some is → is.length = xs.length
  | [], is, h => by cases h; rfl
  | x :: xs, is, h => by
    simp only [slotsOf] at h
    cases e1 : stOf sc N x with
    | none => rw [e1] at h; cases h
    | some i =>
      cases e2 : slotsOf sc N xs with
      | none => rw [e1, e2] at h; cases h
      | some js => rw [e1, e2] at h; cases h; exact congrArg (· + 1) (slots_len e2)
theorem pgs_names (x : XOk cA k c N X sc) : ∀ {es : List Expr} {xs : List Str} {is : List Nat}, tgEach es = some xs → slotsOf sc N xs = some is → PGs X es (gNames is)
  | es, xs, is, h, h2 => by
    cases es with
    | nil => cases h; cases h2; exact pgs_nil
    | cons e es =>
      cases e with
      | Name y p =>
        simp only [tgEach] at h
        cases e1 : tgEach es with
        | none => rw [e1] at h; cases h
        | some ys =>
          rw [e1] at h; cases h
          simp only [slotsOf] at h2
          cases e2 : stOf sc N y with
          | none => rw [e2] at h2; cases h2
          | some i =>
            cases e3 : slotsOf sc N ys with
            | none => rw [e2, e3] at h2; cases h2
            | some js =>
              rw [e2, e3] at h2; cases h2
              exact pgs_cons (pg_st x e2) (pgs_names x e1 e3)
      | _ => cases h
theorem pg_or {tg : Expr} {g g' : TG} (h : PG X tg g) (h' : PG X tg g') : PG X tg (fun v σ H Q => g v σ H Q ∨ g' v σ H Q) :=
  ⟨fun pins s σ H v u Q I r hw => hw.elim (h.run pins s σ H v u Q I r) (h'.run pins s σ H v u Q I r)⟩
theorem pg_tg (x : XOk cA k c N X sc) (hn : c.hot = none) {tg : Expr} {xs : List Str} {is : List Nat} (h : tgNames tg = some xs) (h2 : slotsOf sc N xs = some is) : PG X tg (gTg X.K tg is) := by
  cases tg with
  | Name y p =>
    cases h
    simp only [slotsOf] at h2
    cases e2 : stOf sc N y with
    | none => rw [e2] at h2; cases h2
    | some i => rw [e2] at h2; cases h2; exact pg_st x e2
  | Tuple es kk p =>
    have h : tgEach es = some xs := h
    obtain ⟨h3, h4⟩ := each_names X.env h
    exact pg_or (pg_tup (x.calm hn) (pgs_names x h h2) (by rw [h3, slots_len h2]) h4) (pg_lst (x.calm hn) (pgs_names x h h2) (by rw [h3, slots_len h2]) h4)
  | _ => cases h
/-- the slots behind a target's store -/
def setV (σ : L2.St) : List Nat → List V → L2.St
  | i :: is, v :: vs => setV (σ.set i (some v)) is vs
  | _, _ => σ
theorem env_setAll {K : PySem.W.Frag} {ρ : Pl} {H : Hp} (hp : ρ.pin = none) : ∀ {is : List Nat} {ds : List D} {vs : List V} {σd : Env} {σ : L2.St}, EnvR K ρ H σd σ → Reps K ρ H ds vs → EnvR K ρ H (setAll σd is ds) (setV σ is vs)
  | [], ds, vs, _, _, e, r => by cases r <;> exact e
  | i :: is, _, _, _, _, e, .nil => e
  | i :: is, d :: ds, v :: vs, σd, σ, e, .cons q r => by
    show EnvR K ρ H (setAll (σd.set i (some d)) is ds) (setV (σ.set i (some v)) is vs)
    exact env_setAll hp (e.set q fun a z => by rw [hp] at z; cases z) r
theorem gNames_of : ∀ {is : List Nat} {vs : List V} {σ : L2.St} {H : Hp} {Q : L2.St → Hp → Prop}, vs.length = is.length → Q (setV σ is vs) H → gNames is vs σ H Q
  | [], [], _, _, _, _, q => ⟨rfl, q⟩
  | [], _ :: _, _, _, _, h, _ => by cases h
  | _ :: _, [], _, _, _, h, _ => by cases h
  | i :: is, v :: vs, σ, H, Q, h, q => ⟨v, vs, rfl, gNames_of (Nat.succ.inj h) q⟩
/-- an item goes to a target -/
theorem tg_of {K : PySem.W.Frag} {ρ : Pl} {H : Hp} (hp : ρ.pin = none) {tg : Expr} {xs : List Str} {is : List Nat} {σd σ' : Env} {σ : L2.St} {d : D} {v : V} {Q : L2.St → Hp → Prop} (h : tgNames tg = some xs) (h2 : slotsOf sc N xs = some is)
    (hb : bindTg tg sc N σd d = some σ') (env : EnvR K ρ H σd σ) (r : Rep K ρ H d v) (q : ∀ vs : List V, vs.length = is.length → EnvR K ρ H σ' (setV σ is vs) → Q (setV σ is vs) H) : gTg K tg is v σ H Q := by
  cases tg with
  | Name y p =>
    cases h
    simp only [slotsOf] at h2
    cases e2 : stOf sc N y with
    | none => rw [e2] at h2; cases h2
    | some i =>
      rw [e2] at h2; cases h2
      simp only [bindTg, e2] at hb
      cases hb
      exact q [v] rfl (env.set r fun a z => by rw [hp] at z; cases z)
  | Tuple es kk p =>
    have h : tgEach es = some xs := h
    simp only [bindTg, h, h2, bT] at hb
    cases d with
    | tup ds =>
      simp only [seqU] at hb
      split at hb <;> cases hb
      rename_i hl
      cases r with
      | tup at_ rs =>
        rename_i a vs
        have hl' : vs.length = is.length := by rw [← rs.length]; exact hl
        exact .inl ⟨a, vs, rfl, at_.sq, hl', gNames_of hl' (q vs hl' (env_setAll hp env rs))⟩
    | lst ds =>
      simp only [seqU] at hb
      split at hb <;> cases hb
      rename_i hl
      cases r with
      | lst at_ rs =>
        rename_i a vs
        have hl' : vs.length = is.length := by rw [← rs.length]; exact hl
        exact .inr ⟨a, vs, rfl, at_.sq, hl', gNames_of hl' (q vs hl' (env_setAll hp env rs))⟩
    | _ => cases hb
  | _ => cases h
theorem setV_out {i : Nat} : ∀ {is : List Nat} {vs : List V} {σ : L2.St}, i ∉ is → (setV σ is vs)[i]? = σ[i]?
  | [], vs, _, _ => by cases vs <;> rfl
  | _ :: _, [], _, _ => rfl
  | j :: is, v :: vs, σ, h => by
    show (setV (σ.set j (some v)) is vs)[i]? = _
    rw [setV_out (fun z => h (List.mem_cons_of_mem _ z)), List.getElem?_set_ne (fun z => h (by rw [z]; exact List.mem_cons_self))]
theorem setV_length : ∀ {is : List Nat} {vs : List V} {σ : L2.St}, (setV σ is vs).length = σ.length
  | [], vs, _ => by cases vs <;> rfl
  | _ :: _, [], _ => rfl
  | j :: is, v :: vs, σ => by
    show (setV (σ.set j (some v)) is vs).length = _
    rw [setV_length, List.length_set]
theorem wipe_in {i : Nat} : ∀ {is : List Nat} {σ : L2.St}, i ∈ is → (L2.wipe σ is)[i]? = if i < σ.length then some none else none
  | j :: is, σ, h => by
    show ((L2.wipe σ is).set j none)[i]? = _
    by_cases hj : j = i
    · subst hj
      by_cases hl : j < σ.length
      · rw [if_pos hl, List.getElem?_set_self (by rw [L2.wipe_length]; exact hl)]
      · rw [if_neg hl, List.getElem?_eq_none (by rw [List.length_set, L2.wipe_length]; omega)]
    · rw [List.getElem?_set_ne hj]
      rcases List.mem_cons.mp h with z | z
      · exact absurd z.symm hj
      · exact wipe_in z
theorem wipe_setV {is : List Nat} {vs : List V} {σ : L2.St} : L2.wipe (setV (L2.wipe σ is) is vs) is = L2.wipe (L2.wipe σ is) is ∧ L2.wipe (setV (L2.wipe σ is) is vs) is = L2.wipe σ is := by
  have key : ∀ τ : L2.St, τ.length = σ.length → (∀ i, i ∉ is → τ[i]? = σ[i]?) → L2.wipe τ is = L2.wipe σ is := by
    intro τ hl ho
    apply List.ext_getElem?
    intro i
    by_cases hi : i ∈ is
    · rw [wipe_in hi, wipe_in hi, hl]
    · rw [L2.wipe_out hi, L2.wipe_out hi]; exact ho i hi
  have l1 : (setV (L2.wipe σ is) is vs).length = σ.length := by rw [setV_length, L2.wipe_length]
  have o1 : ∀ i, i ∉ is → (setV (L2.wipe σ is) is vs)[i]? = σ[i]? := fun i hi => by rw [setV_out hi, L2.wipe_out hi]
  have l2 : (L2.wipe σ is).length = σ.length := L2.wipe_length _ _
  have o2 : ∀ i, i ∉ is → (L2.wipe σ is)[i]? = σ[i]? := fun i hi => L2.wipe_out hi
  exact ⟨(key _ l1 o1).trans (key _ l2 o2).symm, key _ l1 o1⟩

/-! ### a comprehension's block -/
theorem look_relabel {env : PySem.Env} : ∀ {names : List (Str × NameKind)} {x : Str} {kd : NameKind}, names.lookup x = some kd →
    (names.map fun (n, k) => if (k == NameKind.free && env.scope.kind == .function && env.kindOf n == some .cell) then (n, NameKind.cell) else (n, k)).lookup x = some kd ∨ (kd = .free ∧
    (names.map fun (n, k) => if (k == NameKind.free && env.scope.kind == .function && env.kindOf n == some .cell) then (n, NameKind.cell) else (n, k)).lookup x = some .cell)
  | [], _, _, h => by simp at h
  | (n, k) :: r, x, kd, h => by
    cases hx : x == n with
    | true =>
      simp only [List.lookup_cons, hx] at h
      cases h
      cases hc : (k == NameKind.free && env.scope.kind == .function && env.kindOf n == some .cell) with
      | true =>
        refine .inr ⟨?_, ?_⟩
        · rw [Bool.and_eq_true, Bool.and_eq_true] at hc
          exact beq_iff_eq.mp hc.1.1
        · rw [List.map_cons]; simp only [hc, if_true, List.lookup_cons, hx]
      | false =>
        refine .inl ?_
        rw [List.map_cons]; simp [hc, List.lookup_cons, hx]
    | false =>
      simp only [List.lookup_cons, hx] at h
      have ih := look_relabel (env := env) h
      rw [List.map_cons]
      cases hc : (k == NameKind.free && env.scope.kind == .function && env.kindOf n == some .cell) <;> simpa [hc, List.lookup_cons, hx] using ih
theorem XOk.blk (x : XOk cA k c N X sc) (hn : c.hot = none) (scope : Scope) (s : Shared) (H : Hp) (C : Addr) (cl : List (Str × Addr)) (fp : List Addr) : XOk cA k c N (X.blk s H scope (compEnvC scope cl C X.env) fp) scope where
  cfg := x.cfg
  calm := x.calm
  room := x.room
  un := x.un
  pinAt := x.pinAt
  tame := x.tame
  held := fun i y z => by rw [hn] at z; cases z
  names := x.names
  nd := x.nd
  vis := fun y kd h => by
    have l := look_relabel (env := X.env) h
    refine ⟨fun z => ?_, fun z => ?_⟩
    · rcases l with l | ⟨_, l⟩
      · rcases z with rfl | rfl | rfl
        · exact .inl l
        · exact .inr (.inl l)
        · exact .inr (.inr l)
      · exact .inr (.inl l)
    · subst z
      rcases l with l | ⟨z, _⟩
      · exact l
      · cases z
  loc := fun y kd h z => by
    have l := look_relabel (env := X.env) h
    rcases z with rfl | rfl
    · rcases l with l | ⟨z, _⟩
      · exact ⟨.inl l, .inr l⟩
      · cases z
    · rcases l with l | ⟨z, _⟩
      · refine ⟨.inr l, .inl ?_⟩
        show (scope.names.lookup y == some .cell) = true
        rw [h]; rfl
      · cases z
  cf := fun y h => by
    rcases h with h | h
    · rcases look_relabel (env := X.env) h with l | ⟨z, _⟩
      · exact .inl l
      · cases z
    · rcases look_relabel (env := X.env) h with l | ⟨_, l⟩
      · exact .inr l
      · exact .inl l
end
end Q
/-! Q8: comprehensions, calls; every expression is read. -/
namespace Q
open PySem PySem.Spec PyProof.Rows L2
section
variable {X : Cx} {cA : CA} {k : Nat} {c : Cfg} {N : List Str} {sc : Scope} {W : WX} {n : Nat}
abbrev W0 : WX := fun _ _ _ _ => False

/-- a turn of a comprehension -/
def turnF (c : Cfg) (N : List Str) (n : Nat) (scope : Scope) (tg elt : Expr) (ifs : List Expr) (is : List Nat) (σ : Env) : D → Store → Out (Option D) := fun d S2 => match bindTg tg scope N (wipeE σ is) d with
  | some σ2 => (match ifs with
    | [] => (ev c N n scope elt σ2 S2).bind fun y S3 => .ok (some y) S3
    | [t] => (evT c N n scope t σ2 S2).bind fun k S3 => if k = true then (ev c N n scope elt σ2 S3).bind fun y S4 => .ok (some y) S4 else .ok none S3
    | _ => .bad)
  | none => .bad
/-- errors out of a block, as the slots at its start want them -/
abbrev WA (W : WX) (σ : L2.St) : WX := fun cls d _ H => W cls d σ H
def ttOf (K : PySem.W.Frag) (cA : CA) (W : WX) (c : Cfg) (N : List Str) (n : Nat) (scope : Scope) : List Expr → TT
  | [] => tYes
  | [t] => tT K cA W (evT c N n scope t)
  | _ => fun _ _ _ => False

theorem XOk.blkA (x : XOk cA k c N X sc) (hn : c.hot = none) (scope : Scope) (s : Shared) (H : Hp) (C : Addr) (cl : List (Str × Addr)) (fp : List Addr) (xb : Value → Shared → Prop) : XOk cA k c N (X.blkA s H scope (compEnvC scope cl C X.env) fp xb) scope :=
  have y := x.blk hn scope s H C cl fp
  ⟨y.cfg, y.calm, y.room, y.un, y.pinAt, y.tame, (fun j z h => by rw [hn] at h; cases h), y.names, y.nd, y.vis, y.loc, y.cf⟩
theorem comp_read {it : Items} {f : D → Store → Out (Option D)} {J : It} {g : TG} {tt : TT} {te : TE} {is : List Nat} {σ : L2.St} {σd : Env} {ρ1 : Pl} {H1 : Hp} {S1 : Store} {pos : Pos} {Q : VK}
    (env : EnvR X.K ρ1 H1 σd σ) (st : StR X.K cA ρ1 H1 S1) (hJ : ItR X.K cA it ρ1 H1 J)
    (turn : ∀ ρ H S d v (P1 : V → Hp → Prop) (Nx : Hp → Prop), EnvR X.K ρ H σd σ → StR X.K cA ρ H S → Rep X.K ρ H d v →
      (match f d S with
        | .ok (some y) S' => ∀ ρ' H' u, Ext ρ H ρ' H' → StR X.K cA ρ' H' S' → Rep X.K ρ' H' y u → P1 u H'
        | .ok none S' => ∀ ρ' H', Ext ρ H ρ' H' → StR X.K cA ρ' H' S' → Nx H'
        | .exc x S' => ∀ ρ' H', Ext ρ H ρ' H' → StR X.K cA ρ' H' S' → W (.ref (cA.ad x)) none σ H'
        | .bad => False) →
      g v (L2.wipe σ is) H fun σ2 H2 => L2.wipe σ2 is = L2.wipe σ is ∧ tt σ2 H2 fun b H3 => if b = true then te σ2 H3 P1 else Nx H3)
    (h : tO X.K cA W σ ρ1 H1 (Rep X.K) ((compF it f loopMost 0 [] S1).bind fun ys S2 => newL c pos ys S2) Q) :
    ∀ D, H1 D = none → ∃ W' : Nat → Nat → Hp → Prop, (∃ m, W' 0 m (upd H1 D (.lst []))) ∧ ∀ i m H, W' i m H →
      (J.stop i H ∧ Q (.ref D) H) ∨ (J.go i H ∧ ∃ Nx : Hp → Prop, (∀ H', Nx H' → ∃ m', m' < m ∧ W' (i + 1) m' H') ∧ ∀ x H', J.yld i H x H' → g x (L2.wipe σ is) H' fun σ2 H2 => L2.wipe σ2 is = L2.wipe σ is ∧ tt σ2 H2 fun b H3 =>
        if b = true then te σ2 H3 fun y H4 => ∃ acc, H4 D = some (.lst acc) ∧ acc.length < sizeLine ∧ Nx (upd H4 D (.lst (acc ++ [y]))) else Nx H3) := by
  intro D hD
  have hDb : D ∉ ρ1.b := fun z => (st.bl D z).1 hD
  refine ⟨fun i m H => ∃ ρ S acc accV, Ext ρ1 H1 ρ H ∧ D ∈ ρ.b ∧ StR X.K cA ρ H S ∧ H D = some (.lst accV) ∧ Reps X.K ρ H acc accV ∧
    tO X.K cA W σ ρ1 H1 (Rep X.K) ((compF it f m i acc S).bind fun ys S2 => newL c pos ys S2) Q, ⟨loopMost, ?_⟩, ?_⟩
  · obtain ⟨e, s⟩ := lock_new (u := .lst []) st hD
    exact ⟨ρ1.lock D, S1, [], [], e, List.mem_cons_self, s, upd_same, .nil, h⟩
  · rintro i m H ⟨ρ, S, acc, accV, e, hb, s, hv, rs, q⟩
    have hdl : D ∉ ρ.l := (s.bl D hb).2
    cases m with
    | zero => exact q.elim
    | succ m =>
      obtain ⟨j1, j2⟩ := hJ ρ H S i e s
      have e0 : compF it f (m + 1) i acc S = (match it.get S i with
        | none => .bad
        | some none => .ok acc S
        | some (some x) => (match f x S with
          | .ok (some y) S1 => if acc.length < 16777216 then compF it f m (i + 1) (acc ++ [y]) S1 else .bad
          | .ok none S1 => compF it f m (i + 1) acc S1
          | .exc c S1 => .exc c S1
          | .bad => .bad)) := rfl
      rw [e0] at q
      cases g0 : it.get S i with
      | none => rw [g0] at q; exact q.elim
      | some o =>
        rw [g0] at q
        cases o with
        | none =>
          refine .inl ⟨j1 g0, ?_⟩
          have q : tO X.K cA W σ ρ1 H1 (Rep X.K) (newL c pos acc S) Q := q
          obtain ⟨s2, r2, rs2⟩ := unlock (p := D) s
          have ed := e.drop hDb
          have hnl : D ∉ (ρ.drop D).l := hdl
          have hnb : ¬ (ρ.drop D).has D := by
            rintro (z | z)
            · exact hnl z
            · exact of_decide_eq_true (List.mem_filter.mp z).2 rfl
          unfold newL at q
          split at q
          · have q : tO X.K cA W σ ρ1 H1 (Rep X.K) (.ok (.ref S.length) (S ++ [.lst acc])) Q := q
            have e3 : Ext ρ1 H1 ((ρ.drop D).more D) H := by
              obtain ⟨τ, t1, t2⟩ := ed.pre
              refine ⟨⟨τ ++ [D], ?_, fun a ha => ?_⟩, ed.lo, ed.hi, ed.keep, ed.tr, ed.pn⟩
              · show (ρ.drop D).l ++ [D] = _
                rw [t1, List.append_assoc]
              · rcases List.mem_append.mp ha with z | z
                · exact t2 a z
                · rw [List.mem_singleton.mp z]; exact hD
            obtain ⟨s3, hlast⟩ := unlock_keep (o := .lst acc) s hb fun ρ' k => ⟨accV, hv, k rs⟩
            exact q _ _ _ e3 s3 (.ref hlast)
          · have q : tO X.K cA W σ ρ1 H1 (Rep X.K) (.ok (.lst acc) S) Q := q
            exact q _ _ _ ed s2 (.lst (.inl ⟨.inl hv, hnb⟩) (rs2 rs))
        | some d =>
          have q : tO X.K cA W σ ρ1 H1 (Rep X.K) ((match f d S with
            | .ok (some y) S1 => if acc.length < 16777216 then compF it f m (i + 1) (acc ++ [y]) S1 else .bad
            | .ok none S1 => compF it f m (i + 1) acc S1
            | .exc c S1 => .exc c S1
            | .bad => .bad).bind fun ys S2 => newL c pos ys S2) Q := q
          obtain ⟨j3, j4⟩ := j2 d g0
          refine .inr ⟨j3, fun H' => ∃ ρ S acc accV, Ext ρ1 H1 ρ H' ∧ D ∈ ρ.b ∧ StR X.K cA ρ H' S ∧ H' D = some (.lst accV) ∧ Reps X.K ρ H' acc accV ∧
              tO X.K cA W σ ρ1 H1 (Rep X.K) ((compF it f m (i + 1) acc S).bind fun ys S2 => newL c pos ys S2) Q, fun H' z => ⟨m, Nat.lt_succ_self m, z⟩, fun v H' y => ?_⟩
          obtain ⟨ρ2, e2, s2, r2⟩ := j4 v H' y
          refine turn ρ2 H' S d v _ _ (env.ext (e.trans e2)) s2 r2 ?_
          cases fe : f d S with
          | exc x S' =>
            rw [fe] at q
            exact fun ρ' H4 e4 s4 => q ρ' H4 ((e.trans e2).trans e4) s4
          | bad => rw [fe] at q; exact q.elim
          | ok r S' =>
          cases r with
          | some y =>
            intro ρ' H4 u e4 s4 r4
            rw [fe] at q
            by_cases hl : acc.length < 16777216
            · have q : tO X.K cA W σ ρ1 H1 (Rep X.K) ((if acc.length < 16777216 then compF it f m (i + 1) (acc ++ [y]) S' else .bad).bind fun ys S2 => newL c pos ys S2) Q := q
              rw [if_pos hl] at q
              have e24 := e2.trans e4
              have hb4 : D ∈ ρ'.b := e24.lo D hb
              have hv4 : H4 D = some (.lst accV) := e24.keep D _ hdl hv
              obtain ⟨s5, r5, rs5⟩ := lock_turn (u := .lst (accV ++ [u])) s4 hb4
              refine ⟨accV, hv4, by rw [line_eq, ← rs.length]; exact hl, ρ', S', acc ++ [y], accV ++ [u], ((e.trans e24).turn hD), hb4, s5, upd_same, ?_, q⟩
              exact (rs5 (rs.ext e24)).append (.cons (r5 r4) .nil)
            · have q : tO X.K cA W σ ρ1 H1 (Rep X.K) ((if acc.length < 16777216 then compF it f m (i + 1) (acc ++ [y]) S' else .bad).bind fun ys S2 => newL c pos ys S2) Q := q
              rw [if_neg hl] at q; exact q.elim
          | none =>
            intro ρ' H4 e4 s4
            rw [fe] at q
            have e24 := e2.trans e4
            exact ⟨ρ', S', acc, accV, e.trans e24, e24.lo D hb, s4, e24.keep D _ hdl hv, rs.ext e24, q⟩
end
end Q
/-! Q9: comprehensions, calls; every expression is read. -/
namespace Q
open PySem PySem.Spec PyProof.Rows L2
section
variable {X : Cx} {cA : CA} {k : Nat} {c : Cfg} {N : List Str} {sc : Scope} {W : WX} {n : Nat}
structure AllE (cA : CA) (c : Cfg) (N : List Str) (n : Nat) (X : Cx) (sc : Scope) (W : WX) : Prop where
  e : SE cA c N n X sc W
  t : ST cA c N n X sc W
  b : SB cA c N n X sc W
  ts : STs cA c N n X sc W
  a : SA cA c N n X sc W
  p : SP' cA c N n X sc W
  i : SI cA c N n X sc W
theorem turn_read (hp : cA.pin = none) {ρ : Pl} {H : Hp} {S : Store} {σd : Env} {σ : L2.St} {d : D} {v : V} {tg elt : Expr} {ifs : List Expr} {scope : Scope} {xs : List Str} {is : List Nat} (h : tgNames tg = some xs) (h2 : slotsOf scope N xs = some is) (hi : ifs.length < 2)
    (P1 : V → Hp → Prop) (Nx : Hp → Prop) (env : EnvR X.K ρ H σd σ) (st : StR X.K cA ρ H S) (r : Rep X.K ρ H d v)
    (hm : match turnF c N n scope tg elt ifs is σd d S with
        | .ok (some y) S' => ∀ ρ' H' u, Ext ρ H ρ' H' → StR X.K cA ρ' H' S' → Rep X.K ρ' H' y u → P1 u H'
        | .ok none S' => ∀ ρ' H', Ext ρ H ρ' H' → StR X.K cA ρ' H' S' → Nx H'
        | .exc x S' => ∀ ρ' H', Ext ρ H ρ' H' → StR X.K cA ρ' H' S' → W (.ref (cA.ad x)) none σ H'
        | .bad => False) :
    gTg X.K tg is v (L2.wipe σ is) H fun σ2 H2 => L2.wipe σ2 is = L2.wipe σ is ∧ ttOf X.K cA (WA W σ) c N n scope ifs σ2 H2 fun b H3 => if b = true then tE X.K cA (WA W σ) (ev c N n scope elt) σ2 H3 P1 else Nx H3 := by
  unfold turnF at hm
  cases hb : bindTg tg scope N (wipeE σd is) d with
  | none => rw [hb] at hm; exact hm.elim
  | some σ2 =>
    rw [hb] at hm
    refine tg_of (st.pin.trans hp) h h2 hb (env.wipe (st.pin.trans hp) is) r fun vs hl env' => ⟨wipe_setV.2, ?_⟩
    rcases ifs with _ | ⟨t, _ | ⟨t2, ifs⟩⟩
    · show tE X.K cA (WA W σ) (ev c N n scope elt) _ H P1
      refine ⟨ρ, σ2, S, env', st, ?_⟩
      have hm : (match (ev c N n scope elt σ2 S).bind fun y S3 => Out.ok (some y) S3 with
        | .ok (some y) S' => ∀ ρ' H' u, Ext ρ H ρ' H' → StR X.K cA ρ' H' S' → Rep X.K ρ' H' y u → P1 u H'
        | .ok none S' => ∀ ρ' H', Ext ρ H ρ' H' → StR X.K cA ρ' H' S' → Nx H'
        | .exc x S' => ∀ ρ' H', Ext ρ H ρ' H' → StR X.K cA ρ' H' S' → W (.ref (cA.ad x)) none σ H'
        | .bad => False) := hm
      cases e : ev c N n scope elt σ2 S with
      | ok y S' => rw [e] at hm; exact hm
      | exc x S' => rw [e] at hm; exact hm
      | bad => rw [e] at hm; exact hm.elim
    · show tT X.K cA (WA W σ) (evT c N n scope t) _ H _
      refine ⟨ρ, σ2, S, env', st, ?_⟩
      have hm : (match (evT c N n scope t σ2 S).bind fun k S3 => if k = true then (ev c N n scope elt σ2 S3).bind fun y S4 => Out.ok (some y) S4 else Out.ok none S3 with
        | .ok (some y) S' => ∀ ρ' H' u, Ext ρ H ρ' H' → StR X.K cA ρ' H' S' → Rep X.K ρ' H' y u → P1 u H'
        | .ok none S' => ∀ ρ' H', Ext ρ H ρ' H' → StR X.K cA ρ' H' S' → Nx H'
        | .exc x S' => ∀ ρ' H', Ext ρ H ρ' H' → StR X.K cA ρ' H' S' → W (.ref (cA.ad x)) none σ H'
        | .bad => False) := hm
      cases e : evT c N n scope t σ2 S with
      | exc x S' => rw [e] at hm; exact hm
      | bad => rw [e] at hm; exact hm.elim
      | ok b S1 =>
        rw [e] at hm
        rintro ρ' H' b' e1 s1 rfl
        cases b with
        | false => exact hm ρ' H' e1 s1
        | true =>
          refine ⟨ρ', σ2, S1, env'.ext e1, s1, ?_⟩
          have hm : (match (ev c N n scope elt σ2 S1).bind fun y S4 => Out.ok (some y) S4 with
            | .ok (some y) S' => ∀ ρ' H' u, Ext ρ H ρ' H' → StR X.K cA ρ' H' S' → Rep X.K ρ' H' y u → P1 u H'
            | .ok none S' => ∀ ρ' H', Ext ρ H ρ' H' → StR X.K cA ρ' H' S' → Nx H'
            | .exc x S' => ∀ ρ' H', Ext ρ H ρ' H' → StR X.K cA ρ' H' S' → W (.ref (cA.ad x)) none σ H'
            | .bad => False) := hm
          cases e2 : ev c N n scope elt σ2 S1 with
          | ok y S' =>
            rw [e2] at hm
            exact fun ρ3 H3 u e3 s3 r3 => hm ρ3 H3 u (e1.trans e3) s3 r3
          | exc x S' =>
            rw [e2] at hm
            exact fun ρ3 H3 e3 s3 => hm ρ3 H3 (e1.trans e3) s3
          | bad => rw [e2] at hm; exact hm.elim
    · exact absurd hi (by simp)
theorem c_comp (x : XOk cA k c N X sc) (IH : ∀ X sc W, XOk cA k c N X sc → TakesA X W → AllE cA c N n X sc W) (tk : TakesA X W) {elt tg iter : Expr} {ifs : List Expr} {scope : Scope} {pos} :
    PE X (.ListComp elt [⟨tg, iter, ifs, 0⟩] scope pos) (tE X.K cA W (ev c N (n + 1) sc (.ListComp elt [⟨tg, iter, ifs, 0⟩] scope pos))) := by
  have e0 : ∀ σ S, ev c N (n + 1) sc (.ListComp elt [⟨tg, iter, ifs, 0⟩] scope pos) σ S = (match tgNames tg with
      | some xs => (match slotsOf scope N xs with
        | some is => if !c.calm || (isSet iter || (!L2.blkC N sc scope (xs.zip is) || decide (2 ≤ ifs.length))) then .bad else (evI c N n (isTup tg) sc iter σ S).bind fun it S1 => (compF it (turnF c N n scope tg elt ifs is σ) loopMost 0 [] S1).bind fun ys S2 => newL c pos ys S2
        | none => .bad)
      | none => .bad) := fun _ _ => rfl
  cases h : tgNames tg with
  | none => exact PE.none (tX_bad fun σ S => by rw [e0, h])
  | some xs =>
    cases h2 : slotsOf scope N xs with
    | none => exact PE.none (tX_bad fun σ S => by rw [e0, h]; simp only [h2])
    | some is =>
      cases hc : (!c.calm || (isSet iter || (!L2.blkC N sc scope (xs.zip is) || decide (2 ≤ ifs.length)))) with
      | true => exact PE.none (tX_bad fun σ S => by rw [e0, h]; simp only [h2]; rw [if_pos hc])
      | false =>
        obtain ⟨hcm, hc1⟩ := Bool.or_eq_false_iff.mp hc
        have hn : c.hot = none := calm_none (by simpa using hcm)
        obtain ⟨hs, hc2⟩ := Bool.or_eq_false_iff.mp hc1
        obtain ⟨hb, hl⟩ := Bool.or_eq_false_iff.mp hc2
        have hb : L2.blkC N sc scope (xs.zip is) = true := by simpa using hb
        have hl : ifs.length < 2 := by have := of_decide_eq_false hl; omega
        have ok := blkOk_by hb
        have ok' : BlkOk X.N X.env.scope scope (xs.zip is) := by
          rw [x.names]
          exact ⟨ok.kind, ok.uniq, ok.ix, fun y hy z => x.cf _ (ok.free y hy z), ok.own⟩
        have snd_eq : (xs.zip is).map (·.2) = is := by
          rw [List.map_snd_zip]
          exact Nat.le_of_eq (slots_len h2)
        have hT : ∀ σ, BlkT X (WE W σ) scope fun Y => PTs Y ifs (ttOf X.K cA (WA W σ) c N n scope ifs) := fun σ s H C cl fp xb tk' => by
          rcases ifs with _ | ⟨t, _ | ⟨t2, ifs⟩⟩
          · exact pts_nil
          · exact pts_one ((IH _ scope _ (x.blkA hn scope s H C cl fp xb) tk').t t)
          · exact absurd hl (by simp)
        have L := pe_lcX (X := X) (W := W) (ifs := ifs) (pos := pos) (tt := fun σ => ttOf X.K cA (WA W σ) c N n scope ifs) (te := fun σ => tE X.K cA (WA W σ) (ev c N n scope elt)) (g := gTg X.K tg is) tk (x.calm hn) (by rw [x.names]; exact x.nd) ((IH X sc W x tk).i tg iter) ok'
          (fun σ s H C cl fp xb tk' => pg_tg (x.blkA hn scope s H C cl fp xb) hn h h2) hT
          (fun σ s H C cl fp xb tk' => (IH _ scope _ (x.blkA hn scope s H C cl fp xb) tk').e elt) (set_ok hs X.env)
        rw [snd_eq] at L
        refine PE.weak L ?_
        rintro σ H Q ⟨ρ, σd, S, env, st, q⟩
        rw [e0, h] at q
        simp only [h2] at q
        rw [if_neg (by rw [hc]; exact Bool.false_ne_true)] at q
        refine ⟨ρ, σd, S, env, st, (tO.bind (R1 := fun ρ H it J => ItR X.K cA it ρ H J) q).post ?_⟩
        rintro J H1 ⟨ρ1, it, S1, e1, st1, hJ, h1⟩
        exact comp_read (env.ext e1) st1 hJ (fun ρ H S d v P1 Nx env st r hm => turn_read (x.pin hn) h h2 hl P1 Nx env st r hm) h1

theorem tO_wish {α β : Type} {K : PySem.W.Frag} {σ : L2.St} {ρ : Pl} {H : Hp} {R : Pl → Hp → α → β → Prop} {r : Out α} {Q : β → Hp → Prop} (h : tO K cA W σ ρ H R r Q) : tO K cA (fun cls d _ H' => W cls d σ H') [] ρ H R r Q := by
  cases r <;> exact h
theorem blt_calm (x : XOk cA k c N X sc) {f : Str} {b : Blt} (hf : c.free f = true) (hb : bltOf f = some b) (ne : b ≠ .int) : X.calm = true := by
  refine x.calm (x.of_free hf (fun z => ?_) (fun z => ?_))
  · subst z
    have : bltOf "isinstance" = none := by decide +kernel
    rw [this] at hb; cases hb
  · subst z
    have : bltOf "int" = some .int := by kernel_rfl
    rw [this] at hb; cases hb
    exact ne rfl
theorem blt_room (x : XOk cA k c N X sc) {f : Str} (hf : c.free f = true) (hb : bltOf f = some .repr) : X.A.guards = some [] ∧ X.A.units + 65 < cLine := by
  have hot : c.hot = none := x.of_free hf (fun z => by
    subst z
    have : bltOf "isinstance" = none := by decide +kernel
    rw [this] at hb; cases hb) (fun z => by
    subst z
    have : bltOf "int" = some .int := by kernel_rfl
    rw [this] at hb; cases hb)
  exact ⟨(x.room hot).gd, by have := x.un; omega⟩
/-- classes named one behind the other -/
theorem pa_kits (x : XOk cA k c N X sc) {y : Str} : ∀ {es : List Expr} {r : Bool}, kitAll c N sc y es = some r → ∃ (vs : List V) (us : List Value), PA X es (fun _ H Q => Q vs H) ∧ Paired ClsV vs us ∧ PySem.W.kitAny X.K (.ref (cA y)) us = some r ∧ vs.length = es.length
  | [], r, h => by
    cases h
    exact ⟨[], [], pa_nil, .nil, rfl, rfl⟩
  | e :: es, r, h => by
    cases e with
    | Name t tp =>
      simp only [kitAll] at h
      split at h
      · rename_i hc
        rw [Bool.and_eq_true] at hc
        obtain ⟨c0, c3⟩ := hc
        split at h
        · rename_i b r' hb hr
          cases h
          obtain ⟨vs, us, P, pr, ka, st⟩ := pa_kits x hr
          have hgt : nmOf sc N t = .glob := by
            cases q : nmOf sc N t with
            | glob => rfl
            | slot => rw [q] at c0; cases c0
            | no => rw [q] at c0; cases c0
          obtain ⟨q1, q2, q3⟩ := pn c3
          obtain ⟨v, u, hm, cl, ko, _, _⟩ := x.cfg.kit y t b hb
          have pe : PE X (.Name t tp) (tC v) := by
            rcases hm with ⟨m1, m2⟩ | ⟨m1, m2, m3⟩
            · exact pe_glob ((x.vis _ _ (nm_glob hgt)).2 rfl) m1 m2 q1
            · exact pe_bltn ((x.vis _ _ (nm_glob hgt)).2 rfl) m1 m2 m3 q3 q1
          refine ⟨v :: vs, u :: us, PA.weak (pa_cons pe P (star_one rfl _ _)) fun σ H Q q => q, .cons cl pr, kitAny_cons ko (fun z => by rw [z, Bool.false_or]; exact ka) (fun z => by rw [z, Bool.true_or]), by rw [List.length_cons, List.length_cons, st]⟩
        · cases h
      · cases h
    | _ => cases h
theorem c_held (x : XOk cA k c N X sc) {args : List Expr} {b : Bool} {p pos : Pos} (h : hotIs c N sc args = some b) (hgl : Gl X "isinstance") (hfr : c.free "isinstance" = true) (p1 : (("isinstance" : Str) == ("__debug__" : Str)) = false) :
    PE X (.Call (.Name "isinstance" p) args [] pos) (tE X.K cA W (fun _ S => .ok (.bl b) S)) := by
  have at_slot : ∀ {e : Str} {ep : Pos} {i : Nat}, ((nmOf sc N e).at_ i && plainName e) = true → PE X (.Name e ep) (tVar i) ∧ i < N.length := by
    intro e ep i hc
    rw [Bool.and_eq_true] at hc
    obtain ⟨c1, c2⟩ := hc
    obtain ⟨q1, q2, q3⟩ := pn c2
    cases hn : nmOf sc N e with
    | glob => rw [hn] at c1; cases c1
    | no => rw [hn] at c1; cases c1
    | slot j =>
      rw [hn] at c1
      have : i = j := beq_iff_eq.mp c1
      subst this
      obtain ⟨h1, kd, h2, h3⟩ := nm_slot hn
      exact ⟨pe_var (by rw [x.names]; exact h1) ((x.vis _ _ h2).1 h3) q1 q2, (List.getElem?_eq_some_iff.mp h1).1⟩
  unfold hotIs at h
  split at h
  · rename_i e ep t tp
    split at h
    · rename_i i y hh
      split at h
      · rename_i hc
        obtain ⟨a, hpin, r1, r2⟩ := (x.held i y hh (at_slot (ep := ep) hc).2).out
        obtain ⟨vs, us, P, pr, ka, sa⟩ := pa_kits x h
        cases pr with
        | nil => cases sa
        | cons cl pr =>
          cases pr with
          | cons _ _ => cases sa
          | nil =>
            rename_i v u
            have ko : PySem.W.kitOne X.K (.ref (cA y)) u = some b := by
              unfold PySem.W.kitAny at ka
              cases z : PySem.W.kitOne X.K (.ref (cA y)) u with
              | none => rw [z] at ka; cases ka
              | some t => rw [z] at ka; cases t <;> exact ka
            refine PE.weak (pe_callB r1 hgl (x.cfg.free _ hfr) (by decide +kernel) (pa_cons (at_slot hc).1 P (star_one rfl _ _)) (by decide) p1 (star_one rfl _ _) (star_any rfl)) ?_
            rintro σ H Q ⟨ρ, σd, S, env, st, q⟩
            refine ⟨.ref a, env.pin i a (st.pin.trans hpin), ?_⟩
            exact ⟨v, u, b, rfl, fun w r => cl.eq r, ko, q ρ H _ Ext.refl st (.bl b)⟩
      · cases h
    · cases h
  · rename_i e ep es ek tp
    split at h
    · rename_i i y hh
      split at h
      · rename_i hc
        rw [Bool.and_eq_true] at hc
        obtain ⟨hc, hlen⟩ := hc
        obtain ⟨a, hpin, r1, r2⟩ := (x.held i y hh (at_slot (ep := ep) hc).2).out
        have hlen := of_decide_eq_true hlen
        obtain ⟨vs, us, P, pr, ka, sa⟩ := pa_kits x h
        refine PE.weak (pe_callB r2 hgl (x.cfg.free _ hfr) (by decide +kernel) (pa_cons (at_slot hc).1 (pa_cons (pe_tup P) pa_nil (star_one rfl _ _)) (star_one rfl _ _)) (by decide) p1 (star_one rfl _ _) (star_any rfl)) ?_
        rintro σ H Q ⟨ρ, σd, S, env, st, q⟩
        refine ⟨.ref a, env.pin i a (st.pin.trans hpin), ?_⟩
        refine ⟨by rw [sa]; unfold sizeLine; omega, fun tp hp => ?_⟩
        obtain ⟨e1, s1⟩ := ext_new (u := .tup vs) st hp
        exact ⟨tp, vs, us, b, rfl, upd_same, pr, ka, q ρ _ _ e1 s1 (.bl b)⟩
      · cases h
    · cases h
  · cases h
/-- an instance is made -/
theorem make_of {φ : Fn} {C : Str} {xs : List D} {vs : List V} {ρ : Pl} {H : Hp} {S : Store} {Q : VK} {σ : L2.St} (st : StR X.K cA ρ H S) (r : Reps X.K ρ H xs vs) (q : tO X.K cA W σ ρ H (Rep X.K) (makeD C φ xs S) Q) {x dx : Addr} (hx : H x = none) (hd : H dx = none) (hn : dx ≠ x) :
    spOf X.K cA φ (.ref x :: vs) (upd (upd H dx (.own x)) x (.ins (cA C) dx [])) (fun v H2 => v = .non ∧ Q (.ref x) H2) (WE W σ) := by
  obtain ⟨e1, s1⟩ := ext_new (u := .own x) st hd
  have hx1 : upd H dx (.own x) x = none := by rw [upd_ne (Ne.symm hn)]; exact hx
  obtain ⟨e2, s2⟩ := ext_alloc (u := .ins (cA C) dx []) (o := .ins C []) s1 hx1 fun ρ' H' _ h => ⟨dx, [], h, .nil⟩
  have rx : Rep X.K (ρ.more x) (upd (upd H dx (.own x)) x (.ins (cA C) dx [])) (.ref S.length) (.ref x) := .ref (by
    show (ρ.l ++ [x])[S.length]? = some x
    rw [← st.len]; simp)
  have e12 := e1.trans e2
  refine ⟨ρ.more x, .ref S.length :: xs, S ++ [.ins C []], .cons rx (r.ext e12), s2, ?_⟩
  unfold makeD at q
  cases e : φ (.ref S.length :: xs) (S ++ [.ins C []]) with
  | bad => rw [e] at q; exact q.elim
  | exc y S' => rw [e] at q; exact fun ρ' H' e3 s3 => q ρ' H' (e12.trans e3) s3
  | ok d S' =>
    rw [e] at q
    cases d with
    | non =>
      intro ρ' H' v e3 s3 r3
      cases r3
      exact ⟨rfl, q ρ' H' (.ref x) (e12.trans e3) s3 (rx.ext e3)⟩
    | _ => exact q.elim
theorem evA_len {c : Cfg} {N : List Str} {sc : Scope} : ∀ (es : List Expr) (n : Nat) {σ : Env} {S S' : Store} {xs : List D}, evA c N n sc es σ S = .ok xs S' → xs.length = es.length
  | _, 0, _, _, _, _, h => by cases h
  | [], n + 1, _, _, _, _, h => by cases h; rfl
  | e :: es, n + 1, σ, S, S', xs, h => by
    have h : (if isStar e then .bad else (ev c N n sc e σ S).bind fun x S1 => (evA c N n sc es σ S1).bind fun ys S2 => .ok (x :: ys) S2) = Out.ok xs S' := h
    split at h
    · cases h
    · cases q : ev c N n sc e σ S with
      | ok x S1 =>
        rw [q] at h
        have h : ((evA c N n sc es σ S1).bind fun ys S2 => Out.ok (x :: ys) S2) = Out.ok xs S' := h
        cases q2 : evA c N n sc es σ S1 with
        | ok ys S2 =>
          rw [q2] at h
          cases h
          exact congrArg (· + 1) (evA_len es n q2)
        | exc => rw [q2] at h; cases h
        | bad => rw [q2] at h; cases h
      | exc => rw [q] at h; cases h
      | bad => rw [q] at h; cases h
theorem c_call (x : XOk cA k c N X sc) (IH : AllE cA c N n X sc W) (tk : TakesA X W) {f : Str} {p : Pos} {args : List Expr} {pos} :
    PE X (.Call (.Name f p) args [] pos) (tE X.K cA W (ev c N (n + 1) sc (.Call (.Name f p) args [] pos))) := by
  have e0 : ∀ σ S, ev c N (n + 1) sc (.Call (.Name f p) args [] pos) σ S = if plainName f && !args.any isStar then (match nmOf sc N f with
      | .glob => (match c.funs f with
        | some φ => (evA c N n sc args σ S).bind fun xs S1 => φ xs S1
        | none => (match c.mks f with
        | some φ => (evA c N n sc args σ S).bind fun xs S1 => makeD f φ xs S1
        | none => if c.free f then (if f == "isinstance" then (match hotIs c N sc args with
            | some b => .ok (.bl b) S
            | none => (match isArgs args with
              | some (a, t) => if (nmOf sc N t).isGlob && (c.free t && tyOk t && plainName t) then (ev c N n sc a σ S).bind fun x S1 => ofO S1 ((isTy S1 x t).map D.bl) else .bad
              | none => .bad))
          else if f == "dict" then (evA c N n sc args σ S).bind fun xs S1 => (match xs with
            | [x] => ofP (dictD S1 x)
            | _ => .bad)
          else (match (if f == "len" then lenSet? args else none) with
            | some (a, g) => if c.free g && (nmOf sc N g).isGlob then (ev c N n sc a σ S).bind fun x S1 => ofO S1 (lenSetD S1 x) else .bad
            | none => (match bltOf f with
              | some b => (evA c N n sc args σ S).bind fun xs S1 => blF c pos b xs S1
              | none => .bad)))
          else .bad))
      | _ => .bad) else .bad := fun _ _ => rfl
  have blts : nmOf sc N f = .glob → plainName f = true → args.any isStar = false → c.free f = true → PE X (.Call (.Name f p) args [] pos) (tE X.K cA W (fun σ S => (match bltOf f with
              | some b => (evA c N n sc args σ S).bind fun xs S1 => blF c pos b xs S1
              | none => .bad))) := by
    intro hg hp hs hf
    obtain ⟨p1, p2, p3⟩ := pn hp
    cases hb : bltOf f with
    | none => exact PE.none (tX_bad fun σ S => rfl)
    | some b =>
      obtain ⟨hv, hn⟩ := bltOf_cases hb
      cases args with
      | nil =>
        have bad : ∀ S, blF c pos b [] S = .bad := fun S => by
          unfold blF
          split
          · cases b <;> rfl
          · rfl
        refine PE.none ?_
        rintro σ H Q ⟨ρ, σd, S, env, st, q⟩
        cases n with
        | zero => exact q.elim
        | succ n =>
          have q : tO X.K cA W σ ρ H (Rep X.K) (blF c pos b [] S) Q := q
          rw [bad] at q
          exact q.elim
      | cons e es =>
        have hs' := hs
        rw [List.any_cons, Bool.or_eq_false_iff] at hs'
        have G : PE X (.Call (.Name f p) (e :: es) [] pos) (tCB (b.rule X.K) (tAs X.K cA W (evA c N n sc (e :: es)))) := by
          have ok := b.ok (fun ne => blt_calm x hf hb ne) (fun z => blt_room x hf (by rw [← z]; exact hb))
          have hm := x.cfg.free f hf
          have hgl := (x.vis _ _ (nm_glob hg)).2 rfl
          cases b with
          | len => exact pe_callB ok hgl hm hv (IH.a _) hn p1 (star_one hs'.1 _ _) (star_any hs'.2)
          | int => exact pe_callTy ok hgl hm hv (IH.a _) hn p1 (star_one hs'.1 _ _) (star_any hs'.2)
          | list => exact pe_callTy ok hgl hm hv (IH.a _) hn p1 (star_one hs'.1 _ _) (star_any hs'.2)
          | tuple => exact pe_callTy ok hgl hm hv (IH.a _) hn p1 (star_one hs'.1 _ _) (star_any hs'.2)
          | all => exact pe_callB ok hgl hm hv (IH.a _) hn p1 (star_one hs'.1 _ _) (star_any hs'.2)
          | abs => exact pe_callB ok hgl hm hv (IH.a _) hn p1 (star_one hs'.1 _ _) (star_any hs'.2)
          | min => exact pe_callB ok hgl hm hv (IH.a _) hn p1 (star_one hs'.1 _ _) (star_any hs'.2)
          | max => exact pe_callB ok hgl hm hv (IH.a _) hn p1 (star_one hs'.1 _ _) (star_any hs'.2)
          | str => exact pe_callTy ok hgl hm hv (IH.a _) hn p1 (star_one hs'.1 _ _) (star_any hs'.2)
          | any => exact pe_callB ok hgl hm hv (IH.a _) hn p1 (star_one hs'.1 _ _) (star_any hs'.2)
          | sum => exact pe_callB ok hgl hm hv (IH.a _) hn p1 (star_one hs'.1 _ _) (star_any hs'.2)
          | repr => exact pe_callB ok hgl hm hv (IH.a _) hn p1 (star_one hs'.1 _ _) (star_any hs'.2)
        refine PE.weak G ?_
        rintro σ H Q ⟨ρ, σd, S, env, st, q⟩
        refine ⟨ρ, σd, S, env, st, (tO.bind (R1 := Reps X.K) q).post ?_⟩
        rintro vs H1 ⟨ρ1, xs, S1, e1, st1, r1, h1⟩
        have h1 : tO X.K cA W σ ρ1 H1 (Rep X.K) (blF c pos b xs S1) Q := h1
        unfold blF at h1
        split at h1
        · split at h1
          · next y =>
            split at h1
            · next ys e2 =>
              obtain ⟨v, rfl, r⟩ := reps1 r1
              exact list_of st1 r e2 fun zs vs e3 rs => kon_ref st1 (by cases e3; exact h1) rs
            · exact h1.elim
          · exact h1.elim
        · obtain ⟨d, e2, kq⟩ := tO.ofO h1
          exact Blt.of st1 r1 e2 kq
  have lift : ∀ {g : Env → Store → Out D}, (∀ σ S, ev c N (n + 1) sc (.Call (.Name f p) args [] pos) σ S = g σ S) → PE X (.Call (.Name f p) args [] pos) (tE X.K cA W g) → PE X (.Call (.Name f p) args [] pos) (tE X.K cA W (ev c N (n + 1) sc (.Call (.Name f p) args [] pos))) := by
    intro g hg h
    refine PE.weak h ?_
    rintro σ H Q ⟨ρ, σd, S, env, st, q⟩
    rw [hg] at q
    exact ⟨ρ, σd, S, env, st, q⟩
  have none_ : (∀ σ S, ev c N (n + 1) sc (.Call (.Name f p) args [] pos) σ S = .bad) → PE X (.Call (.Name f p) args [] pos) (tE X.K cA W (ev c N (n + 1) sc (.Call (.Name f p) args [] pos))) := fun h => PE.none (tX_bad h)
  cases hp : plainName f with
  | false => exact none_ fun σ S => by rw [e0, hp]; rfl
  | true =>
    obtain ⟨p1, p2, p3⟩ := pn hp
    cases hs : args.any isStar with
    | true => exact none_ fun σ S => by rw [e0, hp, hs]; rfl
    | false =>
      have e1 : ∀ σ S, ev c N (n + 1) sc (.Call (.Name f p) args [] pos) σ S = (match nmOf sc N f with
      | .glob => (match c.funs f with
        | some φ => (evA c N n sc args σ S).bind fun xs S1 => φ xs S1
        | none => (match c.mks f with
        | some φ => (evA c N n sc args σ S).bind fun xs S1 => makeD f φ xs S1
        | none => if c.free f then (if f == "isinstance" then (match hotIs c N sc args with
            | some b => .ok (.bl b) S
            | none => (match isArgs args with
              | some (a, t) => if (nmOf sc N t).isGlob && (c.free t && tyOk t && plainName t) then (ev c N n sc a σ S).bind fun x S1 => ofO S1 ((isTy S1 x t).map D.bl) else .bad
              | none => .bad))
          else if f == "dict" then (evA c N n sc args σ S).bind fun xs S1 => (match xs with
            | [x] => ofP (dictD S1 x)
            | _ => .bad)
          else (match (if f == "len" then lenSet? args else none) with
            | some (a, g) => if c.free g && (nmOf sc N g).isGlob then (ev c N n sc a σ S).bind fun x S1 => ofO S1 (lenSetD S1 x) else .bad
            | none => (match bltOf f with
              | some b => (evA c N n sc args σ S).bind fun xs S1 => blF c pos b xs S1
              | none => .bad)))
          else .bad))
      | _ => .bad) := fun σ S => by rw [e0, hp, hs]; rfl
      cases hg : nmOf sc N f with
      | slot i => exact none_ fun σ S => by rw [e1, hg]
      | no => exact none_ fun σ S => by rw [e1, hg]
      | glob =>
        have hgl := (x.vis _ _ (nm_glob hg)).2 rfl
        cases hf : c.funs f with
        | some φ =>
          refine lift (g := fun σ S => (evA c N n sc args σ S).bind fun xs S1 => φ xs S1) (fun σ S => by rw [e1, hg]; simp only [hf]) ?_
          obtain ⟨fa, fd, ps, ds, dvs, dds, φ0, F, hm, hk, hb, hd, hr, hφ⟩ := x.cfg.fn f φ hf
          have main : ∀ (ds : List Value) (dvs : List V) (dds : List D), Binds X.K fd ps ds → Vals dvs ds → (∀ ρ H, Reps X.K ρ H dds dvs) → PE X (.Call (.Name f p) args [] pos) (tE X.K cA W (fun σ S => (evA c N n sc args σ S).bind fun xs S1 => φ0 (xs ++ dds) S1)) := by
            intro ds dvs dds hb hd hr
            cases args with
            | nil =>
              refine PE.weak (pe_call0S (E := WE W) F (x.room (x.of_fun hf)) hgl hm hk hb hd (passA tk) p1) ?_
              rintro σ H Q ⟨ρ, σd, S, env, st, q⟩
              cases n with
              | zero => exact q.elim
              | succ n => exact ⟨ρ, dds, S, by simpa using hr ρ H, st, tO_wish q⟩
            | cons e es =>
              have hs' := hs
              rw [List.any_cons, Bool.or_eq_false_iff] at hs'
              refine PE.weak (pe_callSD (E := WE W) F (x.room (x.of_fun hf)) hgl hm hk hb hd (passA tk) (IH.a (e :: es)) p1 (star_one hs'.1 _ _) (star_any hs'.2)) ?_
              rintro σ H Q ⟨ρ, σd, S, env, st, q⟩
              refine ⟨ρ, σd, S, env, st, (tO.bind (R1 := Reps X.K) q).post ?_⟩
              rintro vs H1 ⟨ρ1, xs, S1, e1, st1, r1, h1⟩
              exact ⟨ρ1, xs ++ dds, S1, r1.append (hr ρ1 H1), st1, tO_wish h1⟩
          rcases hφ with rfl | ⟨hb0, rfl⟩
          · exact main ds dvs dds hb hd hr
          · have put : ∀ {g g' : List D → Store → Out D}, (∀ xs S, xs.length = args.length → g xs S = g' xs S) → PE X (.Call (.Name f p) args [] pos) (tE X.K cA W (fun σ S => (evA c N n sc args σ S).bind g')) → PE X (.Call (.Name f p) args [] pos) (tE X.K cA W (fun σ S => (evA c N n sc args σ S).bind g)) := by
              intro g g' hg h
              refine PE.weak h ?_
              rintro σ H Q ⟨ρ, σd, S, env, st, q⟩
              refine ⟨ρ, σd, S, env, st, ?_⟩
              cases e : evA c N n sc args σd S with
              | ok xs S1 =>
                have q : tO X.K cA W σ ρ H (Rep X.K) ((evA c N n sc args σd S).bind g) Q := q
                rw [e] at q
                have q : tO X.K cA W σ ρ H (Rep X.K) (g xs S1) Q := q
                rw [hg xs S1 (evA_len args n e)] at q
                show tO X.K cA W σ ρ H (Rep X.K) ((evA c N n sc args σd S).bind g') Q
                rw [e]; exact q
              | exc y S1 =>
                have q : tO X.K cA W σ ρ H (Rep X.K) ((evA c N n sc args σd S).bind g) Q := q
                rw [e] at q
                show tO X.K cA W σ ρ H (Rep X.K) ((evA c N n sc args σd S).bind g') Q
                rw [e]; exact q
              | bad =>
                have q : tO X.K cA W σ ρ H (Rep X.K) ((evA c N n sc args σd S).bind g) Q := q
                rw [e] at q
                exact q.elim
            by_cases hl : args.length = ps.length
            · exact put (fun xs S h => by show (if xs.length = ps.length then φ0 xs S else φ0 (xs ++ dds) S) = _; rw [if_pos (h.trans hl), List.append_nil]) (main [] [] [] hb0 .nil fun _ _ => .nil)
            · exact put (fun xs S h => by show (if xs.length = ps.length then φ0 xs S else φ0 (xs ++ dds) S) = _; rw [if_neg fun z => hl (h.symm.trans z)]) (main ds dvs dds hb hd hr)
        | none =>
        cases hk : c.mks f with
        | some φ =>
          refine lift (g := fun σ S => (evA c N n sc args σ S).bind fun xs S1 => makeD f φ xs S1) (fun σ S => by rw [e1, hg]; simp only [hf, hk]) ?_
          obtain ⟨hm, j, fa, fd, ps, hj, M, F, hb⟩ := x.cfg.mkr f φ hk
          have rm := (x.room (x.of_mk hk)).mono hj
          cases args with
          | nil =>
            refine PE.weak (pe_makeS0 (E := WE W) M F rm hgl hm hb (passA tk) p1) ?_
            rintro σ H Q ⟨ρ, σd, S, env, st, q⟩
            cases n with
            | zero => exact q.elim
            | succ n => exact fun x dx a b c => make_of st .nil q a b c
          | cons e es =>
            have hs' := hs
            rw [List.any_cons, Bool.or_eq_false_iff] at hs'
            refine PE.weak (pe_makeS (E := WE W) M F rm hgl hm hb (passA tk) (IH.a (e :: es)) p1 (star_one hs'.1 _ _) (star_any hs'.2)) ?_
            rintro σ H Q ⟨ρ, σd, S, env, st, q⟩
            refine ⟨ρ, σd, S, env, st, (tO.bind (R1 := Reps X.K) q).post ?_⟩
            rintro vs H1 ⟨ρ1, xs, S1, e1, st1, r1, h1⟩
            exact fun x dx a b c => make_of st1 r1 h1 a b c
        | none =>
          cases hfr : c.free f with
          | false => exact none_ fun σ S => by rw [e1, hg]; simp only [hf, hk, hfr]; rfl
          | true =>
            have e2 : ∀ σ S, ev c N (n + 1) sc (.Call (.Name f p) args [] pos) σ S = (if f == "isinstance" then (match hotIs c N sc args with
                | some b => .ok (.bl b) S
                | none => (match isArgs args with
                  | some (a, t) => if (nmOf sc N t).isGlob && (c.free t && tyOk t && plainName t) then (ev c N n sc a σ S).bind fun x S1 => ofO S1 ((isTy S1 x t).map D.bl) else .bad
                  | none => .bad))
              else if f == "dict" then (evA c N n sc args σ S).bind fun xs S1 => (match xs with
                | [x] => ofP (dictD S1 x)
                | _ => .bad)
              else (match (if f == "len" then lenSet? args else none) with
                | some (a, g) => if c.free g && (nmOf sc N g).isGlob then (ev c N n sc a σ S).bind fun x S1 => ofO S1 (lenSetD S1 x) else .bad
                | none => (match bltOf f with
                  | some b => (evA c N n sc args σ S).bind fun xs S1 => blF c pos b xs S1
                  | none => .bad))) := fun σ S => by rw [e1, hg]; simp only [hf, hk, hfr, if_true]
            cases hi : (f == ("isinstance" : Str)) with
            | false =>
              have e4 : ∀ σ S, ev c N (n + 1) sc (.Call (.Name f p) args [] pos) σ S = (if f == "dict" then (evA c N n sc args σ S).bind fun xs S1 => (match xs with
                | [x] => ofP (dictD S1 x)
                | _ => .bad)
              else (match (if f == "len" then lenSet? args else none) with
                | some (a, g) => if c.free g && (nmOf sc N g).isGlob then (ev c N n sc a σ S).bind fun x S1 => ofO S1 (lenSetD S1 x) else .bad
                | none => (match bltOf f with
                  | some b => (evA c N n sc args σ S).bind fun xs S1 => blF c pos b xs S1
                  | none => .bad))) := fun σ S => by rw [e2, hi]; rfl
              cases hdi : (f == ("dict" : Str)) with
              | true =>
                have e5 : ∀ σ S, ev c N (n + 1) sc (.Call (.Name f p) args [] pos) σ S = (evA c N n sc args σ S).bind fun xs S1 => (match xs with
                | [x] => ofP (dictD S1 x)
                | _ => .bad) := fun σ S => by rw [e4, hdi]; rfl
                have hdi := beq_iff_eq.mp hdi
                subst hdi
                cases args with
                | nil =>
                  refine none_ fun σ S => ?_
                  rw [e5]
                  cases n <;> rfl
                | cons e es =>
                  have hs' := hs
                  rw [List.any_cons, Bool.or_eq_false_iff] at hs'
                  refine PE.weak (pe_callTy (CallR.or (call_dictP (x.calm (x.of_free hfr (by decide +kernel) (by decide +kernel)))) call_dictD) hgl (x.cfg.free _ hfr) (by decide +kernel) (IH.a (e :: es)) (by decide) p1 (star_one hs'.1 _ _) (star_any hs'.2)) ?_
                  rintro σ H Q ⟨ρ, σd, S, env, st, q⟩
                  rw [e5] at q
                  refine ⟨ρ, σd, S, env, st, (tO.bind (R1 := Reps X.K) q).post ?_⟩
                  rintro vs H1 ⟨ρ1, xs, S1, e1, st1, r1, h1⟩
                  rcases xs with _ | ⟨y, _ | ⟨y2, ys⟩⟩
                  · exact h1.elim
                  · obtain ⟨v, rfl, r⟩ := reps1 r1
                    obtain ⟨d, S', e6, kq⟩ := tO.ofP h1
                    exact dict_of st1 r e6 kq
                  · exact h1.elim
              | false =>
                have e5 : ∀ σ S, ev c N (n + 1) sc (.Call (.Name f p) args [] pos) σ S = (match (if f == "len" then lenSet? args else none) with
                | some (a, g) => if c.free g && (nmOf sc N g).isGlob then (ev c N n sc a σ S).bind fun x S1 => ofO S1 (lenSetD S1 x) else .bad
                | none => (match bltOf f with
                  | some b => (evA c N n sc args σ S).bind fun xs S1 => blF c pos b xs S1
                  | none => .bad)) := fun σ S => by rw [e4, hdi]; rfl
                cases hls : (if f == ("len" : Str) then lenSet? args else none) with
                | none => exact lift (g := fun σ S => (match bltOf f with
                  | some b => (evA c N n sc args σ S).bind fun xs S1 => blF c pos b xs S1
                  | none => .bad)) (fun σ S => by rw [e5, hls]) (blts hg hp hs hfr)
                | some ag =>
                  obtain ⟨a, g⟩ := ag
                  have e6 : ∀ σ S, ev c N (n + 1) sc (.Call (.Name f p) args [] pos) σ S = if c.free g && (nmOf sc N g).isGlob then (ev c N n sc a σ S).bind fun x S1 => ofO S1 (lenSetD S1 x) else .bad := fun σ S => by rw [e5, hls]
                  cases hc : (c.free g && (nmOf sc N g).isGlob) with
                  | false => exact none_ fun σ S => by rw [e6, hc]; rfl
                  | true =>
                    rw [Bool.and_eq_true] at hc
                    have hgg : nmOf sc N g = .glob := by
                      cases q : nmOf sc N g with
                      | glob => rfl
                      | slot => rw [q] at hc; cases hc.2
                      | no => rw [q] at hc; cases hc.2
                    have hf2 : f = "len" := by
                      cases q : (f == ("len" : Str)) with
                      | true => exact beq_iff_eq.mp q
                      | false => rw [q] at hls; cases hls
                    subst hf2
                    have hls : lenSet? args = some (a, g) := hls
                    have shape : ∃ p2 q2, args = [.Call (.Name "set" p2) [a] [] q2] ∧ g = "set" ∧ isStar' a = false := by
                      unfold lenSet? at hls
                      split at hls
                      · split at hls
                        · rename_i c2
                          cases hls
                          rw [Bool.and_eq_true] at c2
                          have hset : g = "set" := beq_iff_eq.mp c2.1
                          subst hset
                          exact ⟨_, _, rfl, rfl, by simpa using c2.2⟩
                        · cases hls
                      · cases hls
                    obtain ⟨p2, q2, rfl, rfl, hst⟩ := shape
                    have hst : isStar a = false := by cases a <;> first | rfl | cases hst
                    refine PE.weak (pe_lenSetS (x.calm (x.of_free hfr (by decide +kernel) (by decide +kernel))) hgl (x.cfg.free _ hfr) ((x.vis _ _ (nm_glob hgg)).2 rfl) (x.cfg.free _ hc.1) (IH.e a) (star_one hst _ _)) ?_
                    rintro σ H Q ⟨ρ, σd, S, env, st, q⟩
                    rw [e6, if_pos (by rw [Bool.and_eq_true]; exact hc)] at q
                    refine ⟨ρ, σd, S, env, st, (tO.bind (R1 := Rep X.K) q).post ?_⟩
                    rintro v H1 ⟨ρ1, d, S1, e1, st1, r1, h1⟩
                    obtain ⟨d2, e7, kq⟩ := tO.ofO h1
                    exact lenSet_of st1 r1 e7 kq
            | true =>
              have e3' : ∀ σ S, ev c N (n + 1) sc (.Call (.Name f p) args [] pos) σ S = (match hotIs c N sc args with
                | some b => .ok (.bl b) S
                | none => (match isArgs args with
                  | some (a, t) => if (nmOf sc N t).isGlob && (c.free t && tyOk t && plainName t) then (ev c N n sc a σ S).bind fun x S1 => ofO S1 ((isTy S1 x t).map D.bl) else .bad
                  | none => .bad)) := fun σ S => by rw [e2, hi]; rfl
              have hi := beq_iff_eq.mp hi
              cases hho : hotIs c N sc args with
              | some b =>
                subst hi
                exact lift (g := fun σ S => .ok (.bl b) S) (fun σ S => by rw [e3', hho]) (c_held x hho hgl hfr p1)
              | none =>
              have e3 : ∀ σ S, ev c N (n + 1) sc (.Call (.Name f p) args [] pos) σ S = (match isArgs args with
                | some (a, t) => if (nmOf sc N t).isGlob && (c.free t && tyOk t && plainName t) then (ev c N n sc a σ S).bind fun x S1 => ofO S1 ((isTy S1 x t).map D.bl) else .bad
                | none => .bad) := fun σ S => by rw [e3', hho]
              cases ha : isArgs args with
              | none => exact none_ fun σ S => by rw [e3, ha]
              | some at_ =>
                obtain ⟨a, t⟩ := at_
                have : ∃ tp, args = [a, .Name t tp] := by
                  unfold isArgs at ha
                  split at ha
                  · cases ha; exact ⟨_, rfl⟩
                  · cases ha
                obtain ⟨tp, rfl⟩ := this
                cases hc : ((nmOf sc N t).isGlob && (c.free t && tyOk t && plainName t)) with
                | false => exact none_ fun σ S => by rw [e3, ha]; simp only [hc]; rfl
                | true =>
                  refine lift (g := fun σ S => (ev c N n sc a σ S).bind fun x S1 => ofO S1 ((isTy S1 x t).map D.bl)) (fun σ S => by rw [e3, ha]; simp only [hc, if_true]) ?_
                  rw [Bool.and_eq_true, Bool.and_eq_true, Bool.and_eq_true] at hc
                  obtain ⟨c0, ⟨c1, c2⟩, c3⟩ := hc
                  have hgt : nmOf sc N t = .glob := by
                    cases q : nmOf sc N t with
                    | glob => rfl
                    | slot => rw [q] at c0; cases c0
                    | no => rw [q] at c0; cases c0
                  obtain ⟨q1, q2, q3⟩ := pn c3
                  have hs' := hs
                  rw [List.any_cons, Bool.or_eq_false_iff] at hs'
                  have ty : PE X (.Name t tp) (tC (.ty (tyNm t))) := pe_bltn ((x.vis _ _ (nm_glob hgt)).2 rfl) (x.cfg.free t c1) (boot_ty c2) rfl q3 q1
                  subst hi
                  refine PE.weak (pe_callB call_isi hgl (x.cfg.free _ hfr) (by decide +kernel) (pa_cons (IH.e a) (pa_cons ty pa_nil (star_one rfl _ _)) (star_one hs'.1 _ _)) (by decide) p1 (star_one hs'.1 _ _) (star_any hs'.2)) ?_
                  rintro σ H Q ⟨ρ, σd, S, env, st, q⟩
                  refine ⟨ρ, σd, S, env, st, (tO.bind (R1 := Rep X.K) q).post ?_⟩
                  rintro v H1 ⟨ρ1, d, S1, e1, st1, r1, h1⟩
                  obtain ⟨b, e4, kq⟩ := tO.ofO h1
                  cases e5 : isTy S1 d t with
                  | none => rw [e5] at e4; cases e4
                  | some bb =>
                    rw [e5] at e4; cases e4
                    obtain ⟨ta, t1, t2⟩ := tyx_rep st1 r1 c2 e5
                    exact ⟨v, .ty (tyNm t), .type ta, .type (tyNm t), bb, rfl, .ty _, t1, kit_ty t2, kon_here st1 kq (.bl _)⟩
theorem meth_split {r : Out D} {g : D → Store → Out D} {ρ : Pl} {H : Hp} {Q : VK} {σ : L2.St} (L R : V → Hp → Prop) (q : tO X.K cA W σ ρ H (Rep X.K) (r.bind g) Q)
    (h : ∀ d S1, tO X.K cA W σ ρ H (Rep X.K) (g d S1) Q → (∀ ρ1 H1 v, Ext ρ H ρ1 H1 → StR X.K cA ρ1 H1 S1 → Rep X.K ρ1 H1 d v → L v H1) ∨ (∀ ρ1 H1 v, Ext ρ H ρ1 H1 → StR X.K cA ρ1 H1 S1 → Rep X.K ρ1 H1 d v → R v H1)) :
    tO X.K cA W σ ρ H (Rep X.K) r L ∨ tO X.K cA W σ ρ H (Rep X.K) r R := by
  cases r with
  | bad => exact q.elim
  | exc y S1 => exact .inl q
  | ok d S1 => exact h d S1 q
theorem mtF_of {ρ : Pl} {H : Hp} {S : Store} {σ : L2.St} {pos : Pos} {i : MId} {x : D} {xs : List D} {v : V} {vs : List V} {Q : VK} (st : StR X.K cA ρ H S) (r : Rep X.K ρ H x v) (rs : Reps X.K ρ H xs vs) (h : tO X.K cA W σ ρ H (Rep X.K) (mtF c pos i x xs S) Q) : i.rule X.K v vs H Q := by
  unfold mtF at h
  split at h
  · unfold mtM at h
    split at h
    · next e => exact split_ref st r rs e h
    · exact h.elim
  · obtain ⟨y, S', e2, kq⟩ := tO.ofP h
    exact mth_of st r rs e2 kq
theorem c_meth (x : XOk cA k c N X sc) (IH : AllE cA c N n X sc W) (tk : TakesA X W) {o : Expr} {m : Str} {apos cpos : Pos} {args : List Expr} :
    PE X (.Call (.Attribute o m apos) args [] cpos) (tE X.K cA W (ev c N (n + 1) sc (.Call (.Attribute o m apos) args [] cpos))) := by
  have e0 : ∀ σ S, ev c N (n + 1) sc (.Call (.Attribute o m apos) args [] cpos) σ S = if apos.endLine == cpos.line && (okBase o && (!args.any isStar && decide (args.length < 20))) then (ev c N n sc o σ S).bind fun x S1 => (match mIdD S1 x m with
      | some i => (evA c N n sc args σ S1).bind fun xs S2 => mtF c cpos i x xs S2
      | none => (match methD (c.meths m) S1 x m with
        | some φ => (evA c N n sc args σ S1).bind fun xs S2 => φ (x :: xs) S2
        | none => .bad)) else .bad := fun _ _ => rfl
  cases hc : (apos.endLine == cpos.line && (okBase o && (!args.any isStar && decide (args.length < 20)))) with
  | false => exact PE.none (tX_bad fun σ S => by rw [e0, hc]; rfl)
  | true =>
    have hc' := hc
    rw [Bool.and_eq_true, Bool.and_eq_true, Bool.and_eq_true] at hc'
    obtain ⟨c1, c2, c3, c4⟩ := hc'
    have hs : args.any isStar = false := by simpa using c3
    have hl : args.length < 20 := of_decide_eq_true c4
    have own : ∀ {ρ : Pl} {H : Hp} {S : Store} {d : D} {v : V} {φ : Fn}, StR X.K cA ρ H S → Rep X.K ρ H d v → methD (c.meths m) S d m = some φ → ∃ a C dx fs, v = .ref a ∧ H a = some (.ins C dx fs) ∧ fs.lookup m = none ∧ MethOk X (L2.CX X.prog X.w) C m (spOf X.K cA φ) := by
      intro ρ H S d v φ st r h
      unfold methD at h
      split at h
      · next C fs hi =>
        split at h
        · next hn =>
          obtain ⟨l, a, dx, vs, rfl, rfl, g1, g2, g3, rs⟩ := ins_at st r hi
          obtain ⟨f, fd, ps, q1, q2, q3, q4⟩ := x.cfg.meth m C φ h
          exact ⟨a, _, dx, vs, rfl, g3, (rs.look (f := m)).1 (Option.isNone_iff_eq_none.mp hn), f, fd, ps, k, q1, q2, q3, x.room (x.of_meth h), q4⟩
        · cases h
      · cases h
    cases args with
    | nil =>
      refine PE.weak (PE.or (pe_mth0 (by have := x.un; omega) (IH.e o) c2 c1) (pe_methA0 (E := WE W) (CX := L2.CX X.prog X.w) (IH.e o) (base_ok c2 m X.env) c1 (passA tk))) ?_
      rintro σ H Q ⟨ρ, σd, S, env, st, q⟩
      rw [e0, if_pos hc] at q
      refine (meth_split _ _ q ?_).imp (fun z => ⟨ρ, σd, S, env, st, z⟩) fun z => ⟨ρ, σd, S, env, st, z⟩
      intro d S1 h0
      cases e : mIdD S1 d m with
      | some i =>
        left
        intro ρ1 H1 v e1 st1 r1
        have h1 := h0.ext e1
        rw [e] at h1
        obtain ⟨hm, ty⟩ := mId_of st1 r1 e
        refine ⟨i, hm, ty, ?_⟩
        cases n with
        | zero => exact h1.elim
        | succ n =>
          exact mtF_of st1 r1 .nil (show tO X.K cA W σ ρ1 H1 (Rep X.K) (mtF c cpos i d [] S1) Q from h1)
      | none =>
        rw [e] at h0
        cases em : methD (c.meths m) S1 d m with
        | none => simp only [em] at h0; exact h0.elim
        | some φ =>
          simp only [em] at h0
          right
          intro ρ1 H1 v e1 st1 r1
          have h1 := h0.ext e1
          obtain ⟨a, C, dx, fs, rfl, g1, g2, mo⟩ := own st1 r1 em
          refine ⟨a, C, dx, fs, _, rfl, g1, g2, mo, ?_⟩
          cases n with
          | zero => exact h1.elim
          | succ n => exact ⟨ρ1, [d], S1, .cons r1 .nil, st1, tO_wish h1⟩
    | cons a as =>
      have hs' := hs
      rw [List.any_cons, Bool.or_eq_false_iff] at hs'
      refine PE.weak (PE.or (pe_mth (by have := x.un; omega) (IH.e o) (IH.a (a :: as)) c2 c1 hs hl) (pe_methA (E := WE W) (CX := L2.CX X.prog X.w) (IH.e o) (base_ok c2 m X.env) ?few c1 (passA tk) (IH.a (a :: as)) (star_one hs'.1 _ _) (star_any hs'.2))) ?_
      case few =>
        have e1 : (backTo cpos (starEach (a :: as) X.env)).all (fun x => !x.1) = true := star_all hs
        have e2 : decide ((a :: as).length + ([] : List Keyword).length + (if ([] : List Keyword).isEmpty then 0 else 1) < 30) = true := by
          have e3 : (if ([] : List Keyword).isEmpty then 0 else 1) = 0 := rfl
          rw [e3]
          refine decide_eq_true ?_
          simp only [List.length_cons, List.length_nil] at hl ⊢
          omega
        rw [e1, e2]
        rfl
      rintro σ H Q ⟨ρ, σd, S, env, st, q⟩
      rw [e0, if_pos hc] at q
      refine (meth_split _ _ q ?_).imp (fun z => ⟨ρ, σd, S, env, st, z⟩) fun z => ⟨ρ, σd, S, env, st, z⟩
      intro d S1 h0
      cases e : mIdD S1 d m with
      | some i =>
        left
        intro ρ1 H1 v e1 st1 r1
        have h1 := h0.ext e1
        rw [e] at h1
        obtain ⟨hm, ty⟩ := mId_of st1 r1 e
        refine ⟨i, hm, ty, ρ1, σd, S1, env.ext e1, st1, (tO.bind (R1 := Reps X.K) h1).post ?_⟩
        rintro vs H2 ⟨ρ2, xs, S2, e2, st2, r2, h2⟩
        exact mtF_of st2 (r1.ext e2) r2 h2
      | none =>
        rw [e] at h0
        cases em : methD (c.meths m) S1 d m with
        | none => simp only [em] at h0; exact h0.elim
        | some φ =>
          simp only [em] at h0
          right
          intro ρ1 H1 v e1 st1 r1
          have h1 := h0.ext e1
          obtain ⟨a, C, dx, fs, rfl, g1, g2, mo⟩ := own st1 r1 em
          refine ⟨a, C, dx, fs, _, rfl, g1, g2, mo, ρ1, σd, S1, env.ext e1, st1, (tO.bind (R1 := Reps X.K) h1).post ?_⟩
          rintro vs H2 ⟨ρ2, xs, S2, e2, st2, r2, h2⟩
          exact ⟨ρ2, d :: xs, S2, .cons (r1.ext e2) r2, st2, tO_wish h2⟩
end

section
variable {X : Cx} {cA : CA} {k : Nat} {c : Cfg} {N : List Str} {sc : Scope} {W : WX} {n : Nat}
theorem c_fmt (ih : SE cA c N n X sc W) {a : Expr} {pos} : PE X (.FormattedValue a (-1) none pos) (tE X.K cA W (ev c N (n + 1) sc (.FormattedValue a (-1) none pos))) :=
  PE.weak (pe_fmt (ih a)) (one_w (r := fun v H Q => (∃ y : Str, v = .str y ∧ y.length ≤ sizeLine ∧ Q (.str y) H) ∨ ∃ i : Int, v = .int i ∧ i.natAbs.log2 < 1920 ∧ Q (.str (toString i)) H) (g := fun S x => ofO S (fmtD x)) fun σ ρ H S x v Q st rx h => by
    obtain ⟨d, e, k⟩ := tO.ofO h
    cases rx with
    | str y =>
      simp only [fmtD] at e
      split at e <;> cases e
      rename_i c
      exact .inl ⟨y, rfl, by rw [line_eq]; exact c, kon_here st k (.str _)⟩
    | int i =>
      simp only [fmtD] at e
      split at e <;> cases e
      rename_i c
      exact .inr ⟨i, rfl, c, kon_here st k (.str _)⟩
    | _ => cases e)
theorem tJs_of {σ : L2.St} {σd : Env} {Q : VK} : ∀ (es : List Expr) (acc : Str) {ρ : Pl} {H : Hp} {S : Store}, EnvR X.K ρ H σd σ → StR X.K cA ρ H S → tO X.K cA W σ ρ H (Rep X.K) (joinF (es.map fun e => ev c N n sc e) acc σd S) Q → tJs (es.map fun e => tE X.K cA W (ev c N n sc e)) acc σ H (fun out H1 => Q (.str out) H1)
  | [], acc, ρ, H, S, env, st, h => kon_here (d := .str acc) st h (.str _)
  | e :: es, acc, ρ, H, S, env, st, h => by
    refine ⟨ρ, σd, S, env, st, (tO.bind (R1 := Rep X.K) h).post ?_⟩
    rintro v H1 ⟨ρ1, x, S1, e1, st1, r1, h1⟩
    cases r1 with
    | str y =>
      by_cases c : (acc ++ y).length ≤ 16777216
      · simp only [if_pos c] at h1
        exact ⟨y, rfl, by rw [line_eq]; exact c, tJs_of es (acc ++ y) (env.ext e1) st1 h1⟩
      · simp only [if_neg c] at h1
        exact h1.elim
    | _ => exact h1.elim
theorem c_joined (ih : SE cA c N n X sc W) {es : List Expr} {pos} : PE X (.JoinedStr es pos) (tE X.K cA W (ev c N (n + 1) sc (.JoinedStr es pos))) := by
  have e0 : ∀ σ S, ev c N (n + 1) sc (.JoinedStr es pos) σ S = if 2 ≤ es.length then joinF (es.map fun e => ev c N n sc e) Str.empty σ S else .bad := fun _ _ => rfl
  by_cases h : 2 ≤ es.length
  · have pj : ∀ es : List Expr, PJ X es (es.map fun e => tE X.K cA W (ev c N n sc e)) := fun es => by
      induction es with
      | nil => exact .nil
      | cons e es i => exact .cons (ih e) i
    rcases es with _ | ⟨v1, _ | ⟨v2, rest⟩⟩
    · exact absurd h (by simp)
    · exact absurd h (by simp)
    refine PE.weak (pe_joined (pj (v1 :: v2 :: rest))) ?_
    rintro σ H Q ⟨ρ, σd, S, env, st, q⟩
    rw [e0, if_pos h] at q
    exact tJs_of _ _ env st q
  · exact PE.none (tX_bad fun σ S => by rw [e0, if_neg h])
end

/-! ### one of two defs in a list display, called -/
section
variable {X : Cx} {CX : CXT} {k k' : Nat} {f g : Addr} {fd gd : FuncData} {ps qs : List Str} {sp sq : Sp} {dvs evs : List V} {ds es' : List Value} {E : L2.St → XK} {fe : Expr} {tf : TE} {pos : Pos} {e : Expr} {es : List Expr} {t : TA}
theorem pe_call2 (F : FnOk X.prog X.w X.K X.mg X.base CX k f fd ps sp) (G : FnOk X.prog X.w X.K X.mg X.base CX k g gd qs sq) (hr : Room k X.A) (hk : PySem.W.keepIn X.K (.ref f) = true) (hk' : PySem.W.keepIn X.K (.ref g) = true)
    (hb : Binds X.K fd ps ds) (hb' : Binds X.K gd qs es') (hd : Vals dvs ds) (hd' : Vals evs es') (hx : ∀ σ, PassesAt CX X σ (E σ)) (hf : PE X fe tf) (ha : PA X (e :: es) t)
    (ht : eval (.Call fe (e :: es) [] pos) X.env = (do callWith pos (← eval fe X.env) [] (backTo pos (starEach (e :: es) X.env)) (backToKw pos (keywordEach [] X.env))))
    (he : starEach (e :: es) X.env = (false, eval e X.env) :: starEach es X.env) (hpl : (backTo pos (starEach es X.env)).any (·.1) = false) :
    PE X (.Call fe (e :: es) [] pos) (fun σ H Q => tf σ H fun y H1 => (y = V.ref f ∧ t σ H1 fun vs H2 => sp (vs ++ dvs) H2 Q (E σ)) ∨ (y = V.ref g ∧ t σ H1 fun vs H2 => sq (vs ++ evs) H2 Q (E σ))) := by
  refine ⟨fun pins s σ H Q I h => ?_⟩
  refine PyProof.Rows.Call_ (thn (hf.run pins s σ H _ I h) fun u s1 ⟨y, H1, I1, ry, q⟩ => ?_) ht
  rcases q with ⟨rfl, q⟩ | ⟨rfl, q⟩
  · obtain rfl : u = Value.ref f := ry
    refine PySem.W.callWith_K (h₀ := X.base) I1.ok.mod.kin hk (thn (ha.run pos pins s1 σ H1 _ I1 q) fun us s2 ⟨vs, H2, I2, r, q2⟩ => ⟨I2.kIn, ?_⟩) he hpl
    exact run_fnSD F hr hb hd (hx σ) I2 r q2
  · obtain rfl : u = Value.ref g := ry
    refine PySem.W.callWith_K (h₀ := X.base) I1.ok.mod.kin hk' (thn (ha.run pos pins s1 σ H1 _ I1 q) fun us s2 ⟨vs, H2, I2, r, q2⟩ => ⟨I2.kIn, ?_⟩) he hpl
    exact run_fnSD G hr hb' hd' (hx σ) I2 r q2
end
theorem c_callIx (x : XOk cA k c N X sc) (IH : AllE cA c N n X sc W) (tk : TakesA X W) {f g : Str} {p1 p2 lp : Pos} {i : Expr} {sp' : Pos} {a : Expr} {as : List Expr} {pos : Pos} :
    PE X (.Call (.Subscript (.List [.Name f p1, .Name g p2] lp) i sp') (a :: as) [] pos) (tE X.K cA W (ev c N (n + 1) sc (.Call (.Subscript (.List [.Name f p1, .Name g p2] lp) i sp') (a :: as) [] pos))) := by
  have e0 : ∀ σ S, ev c N (n + 1) sc (.Call (.Subscript (.List [.Name f p1, .Name g p2] lp) i sp') (a :: as) [] pos) σ S = if (plainName f && plainName g) && ((!(a :: as).any isStar && !isSlice i) && ((nmOf sc N f).isGlob && (nmOf sc N g).isGlob)) then (match c.funs f with
      | some φ => (match c.funs g with
        | some ψ => (ev c N n sc i σ S).bind fun y S1 => selF y ((evA c N n sc (a :: as) σ S1).bind fun xs S2 => φ xs S2) ((evA c N n sc (a :: as) σ S1).bind fun xs S2 => ψ xs S2)
        | none => .bad)
      | none => .bad) else .bad := fun _ _ => rfl
  have none_ : (∀ σ S, ev c N (n + 1) sc (.Call (.Subscript (.List [.Name f p1, .Name g p2] lp) i sp') (a :: as) [] pos) σ S = .bad) → PE X (.Call (.Subscript (.List [.Name f p1, .Name g p2] lp) i sp') (a :: as) [] pos) (tE X.K cA W (ev c N (n + 1) sc (.Call (.Subscript (.List [.Name f p1, .Name g p2] lp) i sp') (a :: as) [] pos))) := fun h => PE.none (tX_bad h)
  cases hc : (plainName f && plainName g) && ((!(a :: as).any isStar && !isSlice i) && ((nmOf sc N f).isGlob && (nmOf sc N g).isGlob)) with
  | false => exact none_ fun σ S => by rw [e0, hc]; rfl
  | true =>
    have hc' := hc
    rw [Bool.and_eq_true, Bool.and_eq_true, Bool.and_eq_true, Bool.and_eq_true, Bool.and_eq_true, Bool.not_eq_true', Bool.not_eq_true'] at hc'
    obtain ⟨⟨pf, pg⟩, ⟨hs, hsl⟩, gf, gg⟩ := hc'
    cases hf : c.funs f with
    | none => exact none_ fun σ S => by rw [e0, hc]; simp only [hf]; rfl
    | some φ =>
      cases hg : c.funs g with
      | none => exact none_ fun σ S => by rw [e0, hc]; simp only [hf, hg]; rfl
      | some ψ =>
        have glb : ∀ {z : Nm}, z.isGlob = true → z = .glob := fun {z} h => by cases z <;> first | rfl | cases h
        have hglf := (x.vis _ _ (nm_glob (glb gf))).2 rfl
        have hglg := (x.vis _ _ (nm_glob (glb gg))).2 rfl
        obtain ⟨pf1, -, -⟩ := pn pf
        obtain ⟨pg1, -, -⟩ := pn pg
        have norm : ∀ {y : Str} {φ : Fn}, c.funs y = some φ → ∃ fa fd ps ds dvs dds φ0, FnOk X.prog X.w X.K X.mg X.base (L2.CX X.prog X.w) k fa fd ps (spOf X.K cA φ0) ∧ X.mg y = some (.ref fa) ∧ PySem.W.keepIn X.K (.ref fa) = true ∧ Binds X.K fd ps ds ∧ Vals dvs ds ∧ (∀ ρ H, Reps X.K ρ H dds dvs) ∧
            ∀ xs S, xs.length = (a :: as).length → φ xs S = φ0 (xs ++ dds) S := by
          intro y φ hy
          obtain ⟨fa, fd, ps, ds, dvs, dds, φ0, F, hm, hk, hb, hd, hr, hφ⟩ := x.cfg.fn y φ hy
          rcases hφ with rfl | ⟨hb0, rfl⟩
          · exact ⟨fa, fd, ps, ds, dvs, dds, φ0, F, hm, hk, hb, hd, hr, fun _ _ _ => rfl⟩
          · by_cases hl : (a :: as).length = ps.length
            · exact ⟨fa, fd, ps, [], [], [], φ0, F, hm, hk, hb0, .nil, fun _ _ => .nil, fun xs S h => by show (if xs.length = ps.length then φ0 xs S else φ0 (xs ++ dds) S) = _; rw [if_pos (h.trans hl), List.append_nil]⟩
            · exact ⟨fa, fd, ps, ds, dvs, dds, φ0, F, hm, hk, hb, hd, hr, fun xs S h => by show (if xs.length = ps.length then φ0 xs S else φ0 (xs ++ dds) S) = _; rw [if_neg fun z => hl (h.symm.trans z)]⟩
        obtain ⟨fa, fd, ps, ds, dvs, dds, φ0, F, hmf, hkf, hbf, hdf, hrf, eφ⟩ := norm hf
        obtain ⟨ga, gd, qs, es', evs, dds', ψ0, G, hmg, hkg, hbg, hdg, hrg, eψ⟩ := norm hg
        have bindc : ∀ {h1 h2 : List D → Store → Out D}, (∀ xs S, xs.length = (a :: as).length → h1 xs S = h2 xs S) → ∀ σ S, (evA c N n sc (a :: as) σ S).bind h1 = (evA c N n sc (a :: as) σ S).bind h2 := by
          intro h1 h2 hh σ S
          cases e : evA c N n sc (a :: as) σ S with
          | ok xs S1 => exact hh xs S1 (evA_len (a :: as) n e)
          | exc y S1 => rfl
          | bad => rfl
        have hs' := hs
        rw [List.any_cons, Bool.or_eq_false_iff] at hs'
        have PEf : PE X (.Name f p1) (tC (V.ref fa)) := pe_glob hglf hmf rfl pf1
        have PEg : PE X (.Name g p2) (tC (V.ref ga)) := pe_glob hglg hmg rfl pg1
        have PL : PE X (.List [.Name f p1, .Name g p2] lp) (tLst (tCons (tC (V.ref fa)) (tCons (tC (V.ref ga)) tNil))) := pe_lst (pa_cons PEf (pa_cons PEg pa_nil))
        have PI := pe_ix (pos := sp') (ix_all (by have := x.un; omega)) PL (IH.e i) (plain_ix hsl)
        refine PE.weak (pe_call2 (E := WE W) F G (x.room (x.of_fun hf)) hkf hkg hbf hbg hdf hdg (passA tk) PI (IH.a (a :: as)) rfl (star_one hs'.1 _ _) (star_any hs'.2)) ?_
        rintro σ H Q ⟨ρ, σd, S, env, st, q⟩
        have q : tO X.K cA W σ ρ H (Rep X.K) (ev c N (n + 1) sc (.Call (.Subscript (.List [.Name f p1, .Name g p2] lp) i sp') (a :: as) [] pos) σd S) Q := q
        rw [e0, hc] at q
        simp only [if_true, hf, hg] at q
        refine ⟨by show (2 : Nat) ≤ _; decide, fun p hp => ?_⟩
        obtain ⟨e1, st1⟩ := ext_new (u := .lst [V.ref fa, V.ref ga]) st hp
        have pf : p ∉ ρ.l := st.freshL hp
        refine ⟨ρ, σd, S, env.ext e1, st1, (tO.bind (R1 := Rep X.K) (tO.ext e1 q)).post ?_⟩
        rintro u H2 ⟨ρ2, y, S1, e2, st2, ry, h2⟩
        have kp : H2 p = some (.lst [V.ref fa, V.ref ga]) := e2.keep p _ pf upd_same
        have h2 : tO X.K cA W σ ρ2 H2 (Rep X.K) (selF y ((evA c N n sc (a :: as) σd S1).bind fun xs S2 => φ xs S2) ((evA c N n sc (a :: as) σd S1).bind fun xs S2 => ψ xs S2)) Q := h2
        rw [bindc eφ, bindc eψ] at h2
        cases y with
        | int kk =>
          cases ry
          by_cases k0 : kk = 0
          · subst k0
            have h2 : tO X.K cA W σ ρ2 H2 (Rep X.K) ((evA c N n sc (a :: as) σd S1).bind fun xs S2 => φ0 (xs ++ dds) S2) Q := h2
            refine .inl (.inl ⟨p, _, 0, .ref fa, rfl, rfl, .inl (.inl kp), rfl, .inl ⟨rfl, ?_⟩⟩)
            refine ⟨ρ2, σd, S1, (env.ext e1).ext e2, st2, (tO.bind (R1 := Reps X.K) h2).post ?_⟩
            rintro vs H3 ⟨ρ3, xs, S3, e3, st3, r3, h3⟩
            exact ⟨ρ3, xs ++ dds, S3, r3.append (hrf ρ3 H3), st3, tO_wish h3⟩
          · by_cases k1 : kk = 1
            · subst k1
              have h2 : tO X.K cA W σ ρ2 H2 (Rep X.K) ((evA c N n sc (a :: as) σd S1).bind fun xs S2 => ψ0 (xs ++ dds') S2) Q := h2
              refine .inl (.inl ⟨p, _, 1, .ref ga, rfl, rfl, .inl (.inl kp), rfl, .inr ⟨rfl, ?_⟩⟩)
              refine ⟨ρ2, σd, S1, (env.ext e1).ext e2, st2, (tO.bind (R1 := Reps X.K) h2).post ?_⟩
              rintro vs H3 ⟨ρ3, xs, S3, e3, st3, r3, h3⟩
              exact ⟨ρ3, xs ++ dds', S3, r3.append (hrg ρ3 H3), st3, tO_wish h3⟩
            · have h2 : tO X.K cA W σ ρ2 H2 (Rep X.K) (if kk = 0 then (evA c N n sc (a :: as) σd S1).bind fun xs S2 => φ0 (xs ++ dds) S2 else if kk = 1 then (evA c N n sc (a :: as) σd S1).bind fun xs S2 => ψ0 (xs ++ dds') S2 else .bad) Q := h2
              rw [if_neg k0, if_neg k1] at h2
              exact h2.elim
        | _ => exact h2.elim
/-- EVERY EXPRESSION IS READ -/
theorem all_e {cA : CA} {k : Nat} {c : Cfg} {N : List Str} : ∀ n, ∀ m, m ≤ n → ∀ X sc W, XOk cA k c N X sc → TakesA X W → AllE cA c N m X sc W
  | 0, m, hm, X, sc, W, x, tk => by
    cases Nat.le_zero.mp hm
    exact ⟨fun e => PE.none (tX_bad fun _ _ => rfl), fun e => PT.none (tX_bad fun _ _ => rfl), fun op es pos => PE.none (tX_bad fun _ _ => rfl), fun op es pos => ⟨fun _ pins s σ H Q I q => (tX_bad (fun σ S => rfl) σ H Q q).elim⟩,
      fun es => PA.none (tX_bad fun _ _ => rfl), fun e => ⟨fun pins s σ H Q I q => (tX_bad (fun σ S => rfl) σ H Q q).elim⟩, fun tg e => PI.none (tX_bad fun _ _ => rfl)⟩
  | n + 1, m, hm, X, sc, W, x, tk => by
    by_cases h : m ≤ n
    · exact all_e n m h X sc W x tk
    · have e : m = n + 1 := by omega
      subst e
      have IH := all_e (cA := cA) (k := k) (c := c) (N := N) n n (Nat.le_refl n)
      have I := IH X sc W x tk
      refine ⟨fun e => ?_, c_test x (fun m' h' => (all_e n m' (Nat.le_of_lt h') X sc W x tk).e) I.e I.t I.ts, c_boolV I.e I.b, c_tests I.t I.ts, c_args I.e I.a, c_part I.e, c_iter x I.e⟩
      have none_ : (∀ σ S, ev c N (n + 1) sc e σ S = .bad) → PE X e (tE X.K cA W (ev c N (n + 1) sc e)) := fun h => PE.none (tX_bad h)
      cases e with
      | Constant kk j pos => exact c_const
      | Name y pos => exact c_name x
      | BinOp a op b pos => exact c_bin I.e
      | UnaryOp op a pos =>
        cases op with
        | Not => exact c_not I.e
        | USub => exact c_neg I.e
        | _ => exact none_ fun _ _ => rfl
      | BoolOp op es pos => exact c_boolE I.b
      | Compare a ops bs pos =>
        rcases ops with _ | ⟨op, _ | ⟨op', _ | ⟨op'', ops⟩⟩⟩
        · exact none_ fun _ _ => rfl
        · rcases bs with _ | ⟨b, _ | ⟨b', bs⟩⟩
          · exact none_ fun _ _ => rfl
          · exact c_cmp x I.e
          · exact none_ fun _ _ => rfl
        · rcases bs with _ | ⟨b, _ | ⟨b', _ | ⟨b'', bs⟩⟩⟩
          · exact none_ fun _ _ => rfl
          · exact none_ fun _ _ => rfl
          · exact c_chain x I.e
          · exact none_ fun _ _ => rfl
        · rcases bs with _ | ⟨b, _ | ⟨b', _ | ⟨b'', bs⟩⟩⟩ <;> exact none_ fun _ _ => rfl
      | IfExp t a b pos => exact c_ite I.e I.t
      | List es pos => exact c_list I.a
      | Dict ks vs pos =>
        cases ks with
        | nil =>
          cases vs with
          | nil => exact c_dict0
          | cons _ _ => exact none_ fun _ _ => rfl
        | cons k1 ks => exact c_disp (fun m' h' => (all_e n m' h' X sc W x tk).e) (by simp)
      | Tuple es j pos => exact c_tup I.a
      | Subscript a i pos =>
        cases hs : isSlice i with
        | false => exact c_sub x I.e hs
        | true =>
          cases i with
          | Slice lo hi step p2 =>
            cases step with
            | none => exact c_slice I.e I.p
            | some stp =>
              cases lo with
              | some _ => exact none_ fun _ _ => by simp only [ev]; split <;> simp_all [isSlice]
              | none =>
                cases hi with
                | some _ => exact none_ fun _ _ => by simp only [ev]; split <;> simp_all [isSlice]
                | none =>
                  cases stp <;> try exact none_ fun _ _ => rfl
                  rename_i op a2 p4
                  cases op <;> try exact none_ fun _ _ => rfl
                  cases a2 <;> try exact none_ fun _ _ => rfl
                  rename_i kk j p3
                  cases kk <;> try exact none_ fun _ _ => rfl
                  rename_i i
                  by_cases hi : i = 1
                  · subst hi; exact c_rev I.e
                  · refine none_ fun σ S => ?_
                    have : ∀ (i : Int), i ≠ 1 → ev c N (n + 1) sc (.Subscript a (.Slice none none (some (.UnaryOp .USub (.Constant (.int i) j p3) p4)) p2) pos) σ S = .bad := by
                      intro i hi
                      simp only [ev]
                      split <;> (try simp_all [isSlice]) <;> (rename_i h9; obtain ⟨rfl, rfl, rfl⟩ := h9; rfl)
                    exact this i hi
          | _ => cases hs
      | JoinedStr es pos => exact c_joined I.e
      | Attribute o f pos => exact c_attr x I.e
      | FormattedValue a cv sp pos =>
        cases sp with
        | some _ =>
          cases cv with
          | ofNat z => exact none_ fun _ _ => rfl
          | negSucc z => cases z <;> exact none_ fun _ _ => rfl
        | none =>
          cases cv with
          | ofNat z => exact none_ fun _ _ => rfl
          | negSucc z =>
            cases z with
            | zero => exact c_fmt I.e
            | succ z => exact none_ fun _ _ => rfl
      | Call f args kws pos =>
        cases kws with
        | cons _ _ =>
          cases f with
          | Subscript b i p =>
            refine none_ fun σ S => ?_
            cases b <;> try rfl
            rename_i es lp
            rcases es with _ | ⟨e1, _ | ⟨e2, _ | ⟨e3, es⟩⟩⟩ <;> try rfl
            all_goals (cases e1 <;> try rfl)
            all_goals (cases e2 <;> try rfl)
            all_goals (cases args <;> rfl)
          | _ => exact none_ fun _ _ => rfl
        | nil =>
          cases f with
          | Name f p => exact c_call x I tk
          | Attribute o m apos => exact c_meth x I tk
          | Subscript b i p =>
            cases args with
            | nil =>
              refine none_ fun σ S => ?_
              cases b <;> try rfl
              rename_i es lp
              rcases es with _ | ⟨e1, _ | ⟨e2, _ | ⟨e3, es⟩⟩⟩ <;> try rfl
              all_goals (cases e1 <;> try rfl)
              all_goals (cases e2 <;> rfl)
            | cons a as =>
              cases b with
              | List es lp =>
                rcases es with _ | ⟨e1, _ | ⟨e2, _ | ⟨e3, es⟩⟩⟩
                · exact none_ fun _ _ => rfl
                · cases e1 <;> exact none_ fun _ _ => rfl
                · cases e1 <;> first
                    | (exact none_ fun _ _ => rfl)
                    | (cases e2 <;> first
                      | (exact none_ fun _ _ => rfl)
                      | exact c_callIx x I tk)
                · cases e1 <;> first
                    | (exact none_ fun _ _ => rfl)
                    | (cases e2 <;> exact none_ fun _ _ => rfl)
              | _ => exact none_ fun _ _ => rfl
          | _ => exact none_ fun _ _ => rfl
      | ListComp elt gs scope pos =>
        rcases gs with _ | ⟨⟨tg, iter, ifs, as⟩, _ | ⟨g2, gs⟩⟩
        · exact none_ fun _ _ => rfl
        · cases as with
          | ofNat z =>
            cases z with
            | zero => exact c_comp x IH tk
            | succ z => exact none_ fun _ _ => rfl
          | negSucc z => exact none_ fun _ _ => rfl
        · cases as with
          | ofNat z => cases z <;> exact none_ fun _ _ => rfl
          | negSucc z => exact none_ fun _ _ => rfl
      | _ => exact none_ fun _ _ => rfl
end Q
/-! Q10: statements. -/
namespace Q
open PySem PySem.Spec PyProof.Rows L2
section
variable (K : PySem.W.Frag) (cA : CA)
def tFl (W : WX) (ρ : Pl) (H : Hp) (r : Fl) (D : Ends) : Prop := match r with
  | .nx σ' S' => ∀ ρ' H' σv, Ext ρ H ρ' H' → StR K cA ρ' H' S' → EnvR K ρ' H' σ' σv → D.nx σv H'
  | .bk σ' S' => ∀ ρ' H' σv, Ext ρ H ρ' H' → StR K cA ρ' H' S' → EnvR K ρ' H' σ' σv → D.bk σv H'
  | .ct σ' S' => ∀ ρ' H' σv, Ext ρ H ρ' H' → StR K cA ρ' H' S' → EnvR K ρ' H' σ' σv → D.ct σv H'
  | .rt d S' => ∀ ρ' H' v, Ext ρ H ρ' H' → StR K cA ρ' H' S' → Rep K ρ' H' d v → D.rt v H'
  | .exc x σ' S' => ∀ ρ' H' σv, Ext ρ H ρ' H' → StR K cA ρ' H' S' → EnvR K ρ' H' σ' σv → W (.ref (cA x)) none σv H'
  | .bad => False
def tSt (W : WX) (f : Env → Store → Fl) : TS := fun D σ H => ∃ ρ σd S, EnvR K ρ H σd σ ∧ StR K cA ρ H S ∧ tFl K cA W ρ H (f σd S) D
end
section
variable {K : PySem.W.Frag} {cA : CA} {ρ ρ' : Pl} {H H' : Hp} {W : WX} {α β : Type} {σ : L2.St}
theorem tFl.ext {r : Fl} {D : Ends} (e : Ext ρ H ρ' H') (h : tFl K cA W ρ H r D) : tFl K cA W ρ' H' r D := by
  cases r with
  | bad => exact h
  | _ => exact fun ρ2 H2 v e2 => h ρ2 H2 v (e.trans e2)
theorem tFl.use {R : Pl → Hp → α → β → Prop} {r : Out α} {f : α → Store → Fl} {σd : Env} {D : Ends} (env : EnvR K ρ H σd σ) (h : tFl K cA W ρ H (r.use σd f) D) :
    tO K cA W σ ρ H R r fun v H1 => ∃ ρ1 d S1, Ext ρ H ρ1 H1 ∧ StR K cA ρ1 H1 S1 ∧ R ρ1 H1 d v ∧ tFl K cA W ρ1 H1 (f d S1) D := by
  cases r with
  | ok d S => exact fun ρ1 H1 v e s r => ⟨ρ1, d, S, e, s, r, h.ext e⟩
  | exc x S => exact fun ρ1 H1 e s => h ρ1 H1 σ e s (env.ext e)
  | bad => exact h
theorem tFl.ends {r : Fl} {D D' : Ends} (h : tFl K cA W ρ H r D) (h1 : ∀ σ H, D.nx σ H → D'.nx σ H) (h2 : ∀ v H, D.rt v H → D'.rt v H) (h3 : ∀ σ H, D.bk σ H → D'.bk σ H) (h4 : ∀ σ H, D.ct σ H → D'.ct σ H) : tFl K cA W ρ H r D' := by
  cases r with
  | nx => exact fun ρ1 H1 v e s r => h1 _ _ (h ρ1 H1 v e s r)
  | rt => exact fun ρ1 H1 v e s r => h2 _ _ (h ρ1 H1 v e s r)
  | bk => exact fun ρ1 H1 v e s r => h3 _ _ (h ρ1 H1 v e s r)
  | ct => exact fun ρ1 H1 v e s r => h4 _ _ (h ρ1 H1 v e s r)
  | exc => exact h
  | bad => exact h
end
section
variable {X : Cx}
theorem PS.weak {st : Stmt} {t t' : TS} (h : PS X st t) (w : ∀ D σ H, t' D σ H → t D σ H) : PS X st t' := ⟨fun pins s σ H D I q => h.run pins s σ H D I (w D σ H q)⟩
theorem PSs.weak {st : List Stmt} {t t' : TS} (h : PSs X st t) (w : ∀ D σ H, t' D σ H → t D σ H) : PSs X st t' := ⟨fun pins s σ H D I q => h.run pins s σ H D I (w D σ H q)⟩
theorem PS.none {st : Stmt} {t : TS} (w : ∀ D σ H, ¬ t D σ H) : PS X st t := ⟨fun pins s σ H D I q => (w D σ H q).elim⟩
theorem PSs.none {st : List Stmt} {t : TS} (w : ∀ D σ H, ¬ t D σ H) : PSs X st t := ⟨fun pins s σ H D I q => (w D σ H q).elim⟩
theorem tSt_bad {K : PySem.W.Frag} {cA : CA} {W : WX} {f : Env → Store → Fl} (h : ∀ σ S, f σ S = .bad) : ∀ D σ H, ¬ tSt K cA W f D σ H := by
  rintro D σ H ⟨ρ, σd, S, _, _, q⟩
  rw [h] at q; exact q
end
/-- where statements run -/
structure XSt (X : Cx) (sc : Scope) : Prop where
  scope : X.env.scope = sc
  kind : X.env.scope.kind = .function
  pass : PassesOwn (model X.prog X.w) X.A X.env X.xe
  stk : X.stack = X.env :: X.outer
  frm : X.env.frame = some X.env.locals
section
variable {X : Cx} {cA : CA} {k : Nat} {c : Cfg} {N : List Str} {sc : Scope} {W : WX} {n : Nat}
abbrev SS (cA : CA) (c : Cfg) (N : List Str) (n : Nat) (X : Cx) (sc : Scope) (W : WX) : Prop := ∀ st, PS X st (tSt X.K cA W (ex c N sc n st))
abbrev SSs (cA : CA) (c : Cfg) (N : List Str) (n : Nat) (X : Cx) (sc : Scope) (W : WX) : Prop := ∀ sts, PSs X sts (tSt X.K cA W (exs c N sc n sts))

theorem sw_no {e : Expr} (h : ∀ a b s p, e ≠ .ListComp a b s p) (h2 : ∀ a b s p, e ≠ .SetComp a b s p) (h3 : ∀ a b d s p, e ≠ .DictComp a b d s p) (t : Option Expr) (l : Nat) (env : PySem.Env) : swapsWith e t l env = pure false := by
  cases e <;> first | rfl | exact absurd rfl (h _ _ _ _) | exact absurd rfl (h2 _ _ _ _) | exact absurd rfl (h3 _ _ _ _ _)
theorem sw_cell {elt : Expr} {gs : List Comprehension} {scope : Scope} {pos py : Pos} {y : Str} {l : Nat} {env : PySem.Env} (hy : env.scope.names.lookup y = some .cell) : swapsWith (.ListComp elt gs scope pos) (some (.Name y py)) l env = pure false := by
  have ky : env.kindOf y = some .cell := hy
  unfold swapsWith
  simp only [ky]
  have : (some NameKind.cell == some NameKind.local) = false := by decide
  rw [this, Bool.and_false, Bool.false_and, Bool.false_and]
theorem s_ret (I : AllE cA c N n X sc W) {e : Option Expr} {pos} : PS X (.Return e pos) (tSt X.K cA W (ex c N sc (n + 1) (.Return e pos))) := by
  cases e with
  | none => exact PS.weak ps_retN fun D σ H ⟨ρ, σd, S, env, st, q⟩ => q ρ H .non Ext.refl st .non
  | some e =>
    refine PS.weak (ps_ret (I.e e)) ?_
    rintro D σ H ⟨ρ, σd, S, env, st, q⟩
    refine ⟨ρ, σd, S, env, st, (tFl.use (R := Rep X.K) env q).post ?_⟩
    rintro v H1 ⟨ρ1, d, S1, e1, st1, r1, h1⟩
    exact h1 ρ1 H1 v Ext.refl st1 r1
theorem s_expr (I : AllE cA c N n X sc W) {e : Expr} {pos} : PS X (.Expr e pos) (tSt X.K cA W (ex c N sc (n + 1) (.Expr e pos))) := by
  cases e with
  | Call f as ks p =>
    refine PS.weak (ps_expr (I.e (.Call f as ks p)) rfl) ?_
    rintro D σ H ⟨ρ, σd, S, env, st, q⟩
    refine ⟨ρ, σd, S, env, st, (tFl.use (R := Rep X.K) env q).post ?_⟩
    rintro v H1 ⟨ρ1, d, S1, e1, st1, r1, h1⟩
    exact h1 ρ1 H1 σ Ext.refl st1 (env.ext e1)
  | _ => exact PS.none (tSt_bad fun _ _ => rfl)
theorem s_if (I : AllE cA c N n X sc W) (IS : SSs cA c N n X sc W) {t : Expr} {a b : List Stmt} {pos} : PS X (.If t a b pos) (tSt X.K cA W (ex c N sc (n + 1) (.If t a b pos))) := by
  refine PS.weak (ps_if (I.t t) (IS a) (IS b)) ?_
  rintro D σ H ⟨ρ, σd, S, env, st, q⟩
  refine ⟨ρ, σd, S, env, st, (tFl.use (R := RB) env q).post ?_⟩
  rintro v H1 ⟨ρ1, bb, S1, e1, st1, rfl, h1⟩
  cases bb with
  | true => exact ⟨ρ1, σd, S1, env.ext e1, st1, h1⟩
  | false => exact ⟨ρ1, σd, S1, env.ext e1, st1, h1⟩
/-- a comprehension's reading out of the interpreter's -/
theorem comp_tLc (hp : cA.pin = none) (I : AllE cA c N n X sc W) {elt tg iter : Expr} {ifs : List Expr} {scope : Scope} {pos : Pos} {xs : List Str} {is : List Nat} (h : tgNames tg = some xs) (h2 : slotsOf scope N xs = some is) (hl : ifs.length < 2) :
    ∀ σ H Q, tX X.K cA (Rep X.K) W (fun σ S => (evI c N n (isTup tg) sc iter σ S).bind fun it S1 => (compF it (turnF c N n scope tg elt ifs is σ) loopMost 0 [] S1).bind fun ys S2 => newL c pos ys S2) σ H Q →
      tLcX (iX X.K cA W (evI c N n (isTup tg) sc iter)) (gTg X.K tg is) (fun σ => ttOf X.K cA (WA W σ) c N n scope ifs) (fun σ => tE X.K cA (WA W σ) (ev c N n scope elt)) is σ H Q := by
  rintro σ H Q ⟨ρ, σd, S, env, st, q⟩
  refine ⟨ρ, σd, S, env, st, (tO.bind (R1 := fun ρ H it J => ItR X.K cA it ρ H J) q).post ?_⟩
  rintro J H1 ⟨ρ1, it, S1, e1, st1, hJ, h1⟩
  exact comp_read (env.ext e1) st1 hJ (fun ρ H S d v P1 Nx env st r hm => turn_read hp h h2 hl P1 Nx env st r hm) h1
theorem s_set (x : XOk cA k c N X sc) (xs : XSt X sc) (tk : TakesA X W) (IH : ∀ m, m ≤ n → ∀ X sc W, XOk cA k c N X sc → TakesA X W → AllE cA c N m X sc W) {y : Str} {p : Pos} {e : Expr} {pos} :
    PS X (.Assign [.Name y p] e pos) (tSt X.K cA W (ex c N sc (n + 1) (.Assign [.Name y p] e pos))) := by
  have e0 : ∀ σ S, ex c N sc (n + 1) (.Assign [.Name y p] e pos) σ S = if okSet sc y p e then (match stOf sc N y with
      | some i => if c.hotAt i then .bad else (ev c N n sc e σ S).use σ fun d S1 => .nx (σ.set i (some d)) S1
      | none => .bad) else .bad := fun _ _ => rfl
  have I := IH n (Nat.le_refl n) X sc W x tk
  cases ho : okSet sc y p e with
  | false => exact PS.none (tSt_bad fun σ S => by rw [e0, ho]; rfl)
  | true =>
    cases hi : stOf sc N y with
    | none => exact PS.none (tSt_bad fun σ S => by rw [e0, hi]; simp)
    | some i =>
      cases hat : c.hotAt i with
      | true => exact PS.none (tSt_bad fun σ S => by rw [e0, hi]; simp [hat])
      | false =>
      obtain ⟨h1, kd, h2, h3⟩ := st_slot hi
      obtain ⟨l1, l2⟩ := x.loc _ _ h2 h3
      have nd : X.N.Nodup := by rw [x.names]; exact x.nd
      have hn : X.N[i]? = some y := by rw [x.names]; exact h1
      have fin : ∀ {te : TE}, (∀ σ H Q, tE X.K cA W (ev c N n sc e) σ H Q → te σ H Q) → ∀ D σ H, tSt X.K cA W (ex c N sc (n + 1) (.Assign [.Name y p] e pos)) D σ H → tAsg te (gName i) D σ H := by
        rintro te hte D σ H ⟨ρ, σd, S, env, st, q⟩
        rw [e0, ho, if_pos rfl] at q
        simp only [hi, hat, Bool.false_eq_true, if_false] at q
        refine hte σ H _ ⟨ρ, σd, S, env, st, (tFl.use (R := Rep X.K) env q).post ?_⟩
        rintro v H1 ⟨ρ1, d, S1, e1, st1, r1, h1⟩
        exact h1 ρ1 H1 _ Ext.refl st1 ((env.ext e1).set r1 fun a => by rw [st1.pin]; exact x.free_at hat a)
      by_cases hc : ∃ a b s q, e = .ListComp a b s q
      · obtain ⟨elt, gs, scope, q, rfl⟩ := hc
        by_cases hcell : sc.names.lookup y = some .cell
        · exact PS.weak (ps_set nd hn l1 (I.e _) (sw_cell (by rw [xs.scope]; exact hcell)) l2) (fin fun _ _ _ h => h)
        have ho2 : (decide (sc.names.lookup y = some .local) && (p.line == q.line && !(scope.names.any fun (n, k) => n == y && (k == .local || k == .cell)))) = true := by
          have ho : (decide (sc.names.lookup y = some .cell) || decide (sc.names.lookup y = some .local) && (p.line == q.line && !(scope.names.any fun (n, k) => n == y && (k == .local || k == .cell)))) = true := ho
          rwa [decide_eq_false hcell, Bool.false_or] at ho
        have hok : okSet sc y p (.ListComp elt gs scope q) = true := by
          show (decide (sc.names.lookup y = some .cell) || decide (sc.names.lookup y = some .local) && (p.line == q.line && !(scope.names.any fun (n, k) => n == y && (k == .local || k == .cell)))) = true
          rw [ho2, Bool.or_true]
        cases n with
        | zero => exact PS.none (tSt_bad fun σ S => by rw [e0, ho]; simp only [hi, if_true, hat]; rfl)
        | succ n =>
          have I0 := IH n (Nat.le_succ n) X sc W x tk
          have none_ : (∀ σ S, ev c N (n + 1) sc (.ListComp elt gs scope q) σ S = .bad) → PS X (.Assign [.Name y p] (.ListComp elt gs scope q) pos) (tSt X.K cA W (ex c N sc (n + 1 + 1) (.Assign [.Name y p] (.ListComp elt gs scope q) pos))) := fun h =>
            PS.none (tSt_bad fun σ S => by rw [e0, ho]; simp only [hi, if_true, hat, h]; rfl)
          rcases gs with _ | ⟨⟨tg, iter, ifs, as⟩, _ | ⟨g2, gs⟩⟩
          · exact none_ fun _ _ => rfl
          · cases as with
            | negSucc z => exact none_ fun _ _ => rfl
            | ofNat z =>
              cases z with
              | succ z => exact none_ fun _ _ => rfl
              | zero =>
                have e1 : ∀ σ S, ev c N (n + 1) sc (.ListComp elt [⟨tg, iter, ifs, 0⟩] scope q) σ S = (match tgNames tg with
                  | some xs => (match slotsOf scope N xs with
                    | some is => if !c.calm || (isSet iter || (!L2.blkC N sc scope (xs.zip is) || decide (2 ≤ ifs.length))) then .bad else (evI c N n (isTup tg) sc iter σ S).bind fun it S1 => (compF it (turnF c N n scope tg elt ifs is σ) loopMost 0 [] S1).bind fun ys S2 => newL c q ys S2
                    | none => .bad)
                  | none => .bad) := fun _ _ => rfl
                cases h : tgNames tg with
                | none => exact none_ fun σ S => by show ev c N (n + 1) sc (.ListComp elt [⟨tg, iter, ifs, 0⟩] scope q) σ S = _; rw [e1, h]
                | some xs' =>
                  cases h2' : slotsOf scope N xs' with
                  | none => exact none_ fun σ S => by show ev c N (n + 1) sc (.ListComp elt [⟨tg, iter, ifs, 0⟩] scope q) σ S = _; rw [e1, h]; simp only [h2']
                  | some is =>
                    cases hc : (!c.calm || (isSet iter || (!L2.blkC N sc scope (xs'.zip is) || decide (2 ≤ ifs.length)))) with
                    | true => exact none_ fun σ S => by show ev c N (n + 1) sc (.ListComp elt [⟨tg, iter, ifs, 0⟩] scope q) σ S = _; rw [e1, h]; simp only [h2']; rw [if_pos hc]
                    | false =>
                      obtain ⟨hcm, hc1⟩ := Bool.or_eq_false_iff.mp hc
                      have hno : c.hot = none := calm_none (by simpa using hcm)
                      obtain ⟨hs, hc2⟩ := Bool.or_eq_false_iff.mp hc1
                      obtain ⟨hb, hl⟩ := Bool.or_eq_false_iff.mp hc2
                      have hb : L2.blkC N sc scope (xs'.zip is) = true := by simpa using hb
                      have hl : ifs.length < 2 := by have := of_decide_eq_false hl; omega
                      have ok := blkOk_by hb
                      have ok' : BlkOk X.N X.env.scope scope (xs'.zip is) := by
                        rw [x.names]
                        exact ⟨ok.kind, ok.uniq, ok.ix, fun y hy z => x.cf _ (ok.free y hy z), ok.own⟩
                      have snd_eq : (xs'.zip is).map (·.2) = is := by
                        rw [List.map_snd_zip]
                        exact Nat.le_of_eq (slots_len h2')
                      have hT : ∀ σ, BlkT X (WE W σ) scope fun Y => PTs Y ifs (ttOf X.K cA (WA W σ) c N n scope ifs) := fun σ s H C cl fp xb tk' => by
                        rcases ifs with _ | ⟨t, _ | ⟨t2, ifs⟩⟩
                        · exact pts_nil
                        · exact pts_one ((IH n (Nat.le_succ n) _ scope _ (x.blkA hno scope s H C cl fp xb) tk').t t)
                        · exact absurd hl (by simp)
                      simp only [Bool.and_eq_true] at ho2
                      obtain ⟨o1, o2, o3⟩ := ho2
                      have hyl : X.env.scope.names.lookup y = some .local := by rw [xs.scope]; exact of_decide_eq_true o1
                      have o3 : (scope.names.any fun (n, k) => n == y && (k == .local || k == .cell)) = false := by simpa using o3
                      have L := ps_setLcX (X := X) (W := W) (ifs := ifs) (pos := q) (spos := pos) (py := p) (tt := fun σ => ttOf X.K cA (WA W σ) c N n scope ifs) (te := fun σ => tE X.K cA (WA W σ) (ev c N n scope elt)) (g := gTg X.K tg is) tk (x.calm hno) nd hn hyl
                        (sw_true xs.kind hyl o2 o3) (I0.i tg iter) ok'
                        (fun σ s H C cl fp xb tk' => pg_tg (x.blkA hno scope s H C cl fp xb) hno h h2') hT
                        (fun σ s H C cl fp xb tk' => (IH n (Nat.le_succ n) _ scope _ (x.blkA hno scope s H C cl fp xb) tk').e elt) (set_ok hs X.env)
                      rw [snd_eq] at L
                      refine PS.weak L (fin fun σ H Q hq => comp_tLc (pos := q) (x.pin hno) I0 h h2' hl σ H Q ?_)
                      obtain ⟨ρ, σd, S, env, st, hq⟩ := hq
                      have hq : tO X.K cA W σ ρ H (Rep X.K) (ev c N (n + 1) sc (.ListComp elt [⟨tg, iter, ifs, 0⟩] scope q) σd S) Q := hq
                      rw [e1, h] at hq
                      simp only [h2'] at hq
                      rw [if_neg (by rw [hc]; exact Bool.false_ne_true)] at hq
                      exact ⟨ρ, σd, S, env, st, hq⟩
          · cases as with
            | ofNat z => cases z <;> exact none_ fun _ _ => rfl
            | negSucc z => exact none_ fun _ _ => rfl
      · refine PS.weak (ps_set nd hn l1 (I.e e) (sw_no (fun a b s q z => hc ⟨a, b, s, q, z⟩) (fun a b s q z => ?_) (fun a b d s q z => ?_) _ _ _) l2) (fin fun _ _ _ h => h)
        · subst z; cases ho
        · subst z; cases ho
theorem sole_no {tg e : Expr} (ht : ∀ x p, tg ≠ .Name x p) (l : Nat) (env : PySem.Env) : swapsWithSole [tg] e l env = pure false := by
  show swapsWith e (some tg) l env = pure false
  cases e <;> first | rfl | (cases tg <;> first | rfl | exact absurd rfl (ht _ _))
theorem s_sub (x : XOk cA k c N X sc) (I : AllE cA c N n X sc W) {o i e : Expr} {p pos} : PS X (.Assign [.Subscript o i p] e pos) (tSt X.K cA W (ex c N sc (n + 1) (.Assign [.Subscript o i p] e pos))) := by
  have e0 : ∀ σ S, ex c N sc (n + 1) (.Assign [.Subscript o i p] e pos) σ S = if isSlice i then .bad else (ev c N n sc e σ S).use σ fun d S1 => (ev c N n sc o σ S1).use σ fun x S2 => (ev c N n sc i σ S2).use σ fun y S3 => (match setD S3 x y d with
      | some S4 => .nx σ S4
      | none => .bad) := fun _ _ => rfl
  cases hs : isSlice i with
  | true => exact PS.none (tSt_bad fun σ S => by rw [e0, hs]; rfl)
  | false =>
    refine PS.weak (ps_asg (I.e e) (pg_sub (I.e o) (I.e i) (set_all (by have := x.un; omega)) (by intro v; cases i <;> first | rfl | cases hs)) (sole_no (fun _ _ z => by cases z) _ _) (by cases e <;> rfl) rfl) ?_
    rintro D σ H ⟨ρ, σd, S, env, st, q⟩
    rw [e0, hs] at q
    have q : tFl X.K cA W ρ H ((ev c N n sc e σd S).use σd fun d S1 => (ev c N n sc o σd S1).use σd fun x S2 => (ev c N n sc i σd S2).use σd fun y S3 => (match setD S3 x y d with
      | some S4 => .nx σd S4
      | none => .bad)) D := q
    refine ⟨ρ, σd, S, env, st, (tFl.use (R := Rep X.K) env q).post ?_⟩
    rintro v H1 ⟨ρ1, d, S1, e1, st1, r1, h1⟩
    refine ⟨ρ1, σd, S1, env.ext e1, st1, (tFl.use (R := Rep X.K) (env.ext e1) h1).post ?_⟩
    rintro u H2 ⟨ρ2, d2, S2, e2, st2, r2, h2⟩
    have env2 := (env.ext e1).ext e2
    refine ⟨ρ2, σd, S2, env2, st2, (tFl.use (R := Rep X.K) env2 h2).post ?_⟩
    rintro w H3 ⟨ρ3, d3, S3, e3, st3, r3, h3⟩
    cases e4 : setD S3 d2 d3 d with
    | none => rw [e4] at h3; exact h3.elim
    | some S4 =>
      rw [e4] at h3
      exact set_of st3 (r2.ext e3) r3 ((r1.ext e2).ext e3) e4 fun ρ' H' e5 st5 => h3 ρ' H' σ e5 st5 ((env2.ext e3).ext e5)
theorem s_attr (x : XOk cA k c N X sc) (I : AllE cA c N n X sc W) {o e : Expr} {f : Str} {p pos} : PS X (.Assign [.Attribute o f p] e pos) (tSt X.K cA W (ex c N sc (n + 1) (.Assign [.Attribute o f p] e pos))) := by
  have e0 : ∀ σ S, ex c N sc (n + 1) (.Assign [.Attribute o f p] e pos) σ S = (ev c N n sc e σ S).use σ fun d S1 => (ev c N n sc o σ S1).use σ fun x S2 => (match fldS (c.flds f) S2 x d f with
      | some S3 => .nx σ S3
      | none => .bad) := fun _ _ => rfl
  refine PS.weak (ps_fld (I.e o) (I.e e) (by cases e <;> rfl)) ?_
  rintro D σ H ⟨ρ, σd, S, env, st, q⟩
  rw [e0] at q
  refine ⟨ρ, σd, S, env, st, (tFl.use (R := Rep X.K) env q).post ?_⟩
  rintro v H1 ⟨ρ1, d, S1, e1, st1, r1, h1⟩
  refine ⟨ρ1, σd, S1, env.ext e1, st1, (tFl.use (R := Rep X.K) (env.ext e1) h1).post ?_⟩
  rintro u H2 ⟨ρ2, d2, S2, e2, st2, r2, h2⟩
  have env2 := (env.ext e1).ext e2
  cases e4 : fldS (c.flds f) S2 d2 d f with
  | none => rw [e4] at h2; exact h2.elim
  | some S4 =>
    rw [e4] at h2
    unfold fldS at e4
    split at e4
    · next l =>
      split at e4
      · next C fs hi =>
        split at e4
        · next hc =>
          cases e4
          rw [Bool.and_eq_true, decide_eq_true_eq] at hc
          obtain ⟨l', a, dx, vs, q1, rfl, g1, g2, g3, rs⟩ := ins_at st2 r2 hi
          cases q1
          have rv := r1.ext e2
          obtain ⟨e5, st5⟩ := ext_write (u := .ins (cA C) dx (L2.putF f v vs)) (o := .ins C (putFD f d fs)) st2 g2 fun H' e' g' => ⟨dx, _, g', (FReps.putF rv rs).ext e'⟩
          exact ⟨a, _, dx, vs, rfl, g3, (x.cfg.fld C f hc.1).1, (x.cfg.fld C f hc.1).2, by rw [← rs.len]; exact hc.2, h2 ρ2 _ σ e5 st5 (env2.ext e5)⟩
        · cases e4
      · cases e4
    · cases e4
/-- targets of all sorts -/
theorem tFl.seq {K : PySem.W.Frag} {cA : CA} {ρ : Pl} {H : Hp} {r : Fl} {f : Env → Store → Fl} {D : Ends} (h : tFl K cA W ρ H (r.seq f) D) :
    tFl K cA W ρ H r ⟨fun σ1 H1 => ∃ ρ1 σd1 S1, EnvR K ρ1 H1 σd1 σ1 ∧ StR K cA ρ1 H1 S1 ∧ tFl K cA W ρ1 H1 (f σd1 S1) D ∧ Ext ρ H ρ1 H1, D.rt, D.bk, D.ct⟩ := by
  cases r with
  | nx σ S => exact fun ρ1 H1 σ1 e s r => ⟨ρ1, _, _, r, s, tFl.ext e h, e⟩
  | rt => exact h
  | bk => exact h
  | ct => exact h
  | exc => exact h
  | bad => exact h
theorem pg_at {o : Expr} {f : Str} {p : Pos} {ta : TE} (ha : PE X o ta) : PG X (.Attribute o f p) (fun v σ H Q => ta σ H fun x H1 => ∃ a C dx fs, x = .ref a ∧ H1 a = some (.ins C dx fs) ∧ Cls X.K C ∧ NoAttr X.K C f ∧ fs.length < 1000 ∧ Q σ (upd H1 a (.ins C dx (L2.putF f v fs)))) := by
  refine ⟨fun pins s σ H v u Q I r h => ?_⟩
  rw [PySem.arm_assign_Attribute]
  refine wpAny_bind (wpAny_holding (thn (ha.run pins s σ H _ I h) fun ov s1 hh => ?_))
  obtain ⟨x, H1, I1, r1, a, C, dx, fs, ex, ea, hc, hn, hl, q⟩ := hh
  subst ex
  obtain rfl : ov = Value.ref a := r1
  refine wpAny_bind (wpAny_standAt (wpAny_bind (wpAny_holding (setattr_ok I1 ea hc hn hl r fun s2 I2 => ?_))))
  exact wpAny_release ⟨σ, _, I2, q⟩
theorem PG.weak {tg : Expr} {t t' : TG} (h : PG X tg t) (w : ∀ v σ H Q, t' v σ H Q → t v σ H Q) : PG X tg t' := ⟨fun pins s σ H v u Q I r q => h.run pins s σ H v u Q I r (w v σ H Q q)⟩
theorem PGs.weak {tg : List Expr} {t t' : TGs} (h : PGs X tg t) (w : ∀ v σ H Q, t' v σ H Q → t v σ H Q) : PGs X tg t' := ⟨fun pins s σ H v u Q I r q => h.run pins s σ H v u Q I r (w v σ H Q q)⟩
abbrev gOne (K : PySem.W.Frag) (cA : CA) (W : WX) (f : D → Env → Store → Fl) : TG := fun v σ H Q => ∃ ρ σd S d, EnvR K ρ H σd σ ∧ StR K cA ρ H S ∧ Rep K ρ H d v ∧ tFl K cA W ρ H (f d σd S) ⟨fun σ H => Q σ H, fun _ _ => False, fun _ _ => False, fun _ _ => False⟩
abbrev gAll (K : PySem.W.Frag) (cA : CA) (W : WX) (f : List D → Env → Store → Fl) : TGs := fun vs σ H Q => ∃ ρ σd S ds, EnvR K ρ H σd σ ∧ StR K cA ρ H S ∧ Reps K ρ H ds vs ∧ tFl K cA W ρ H (f ds σd S) ⟨fun σ H => Q σ H, fun _ _ => False, fun _ _ => False, fun _ _ => False⟩
/-- a value for an attribute -/
theorem fld_of (x : XOk cA k c N X sc) {ρ : Pl} {H : Hp} {S S4 : Store} {d d2 : D} {v u : V} {f : Str} (st2 : StR X.K cA ρ H S) (r2 : Rep X.K ρ H d2 u) (rv : Rep X.K ρ H d v) (e4 : fldS (c.flds f) S d2 d f = some S4) {Q : Hp → Prop} (hQ : ∀ ρ' H', Ext ρ H ρ' H' → StR X.K cA ρ' H' S4 → Q H') :
    ∃ a C dx fs, u = .ref a ∧ H a = some (.ins C dx fs) ∧ Cls X.K C ∧ NoAttr X.K C f ∧ fs.length < 1000 ∧ Q (upd H a (.ins C dx (L2.putF f v fs))) := by
  unfold fldS at e4
  split at e4
  · next l =>
    split at e4
    · next C fs hi =>
      split at e4
      · next hc =>
        cases e4
        rw [Bool.and_eq_true, decide_eq_true_eq] at hc
        obtain ⟨l', a, dx, vs, q1, rfl, g1, g2, g3, rs⟩ := ins_at st2 r2 hi
        cases q1
        obtain ⟨e5, st5⟩ := ext_write (u := .ins (cA C) dx (L2.putF f v vs)) (o := .ins C (putFD f d fs)) st2 g2 fun H' e' g' => ⟨dx, _, g', (FReps.putF rv rs).ext e'⟩
        exact ⟨a, _, dx, vs, rfl, g3, (x.cfg.fld C f hc.1).1, (x.cfg.fld C f hc.1).2, by rw [← rs.len]; exact hc.2, hQ ρ _ e5 st5⟩
      · cases e4
    · cases e4
  · cases e4
theorem pg_one (x : XOk cA k c N X sc) (hno : c.hot = none) (I : AllE cA c N n X sc W) : ∀ tg : Expr, okTg tg = true → PG X tg (gOne X.K cA W (asg1 c N n sc tg)) := by
  intro tg hk
  cases tg with
  | Name y p =>
    cases e2 : stOf sc N y with
    | none =>
      refine ⟨fun pins s σ H v u Q _ _ ⟨ρ, σd, S, d, _, _, _, q⟩ => ?_⟩
      have q : tFl X.K cA W ρ H (match stOf sc N y with | some i => if c.hotAt i then .bad else .nx (σd.set i (some d)) S | none => .bad) _ := q
      rw [e2] at q; exact q.elim
    | some i =>
      refine PG.weak (pg_st x e2) ?_
      rintro v σ H Q ⟨ρ, σd, S, d, env, st, r, q⟩
      have q : tFl X.K cA W ρ H (match stOf sc N y with | some i => if c.hotAt i then .bad else .nx (σd.set i (some d)) S | none => .bad) _ := q
      rw [e2] at q
      have hh : c.hotAt i = false := by unfold Cfg.hotAt; rw [hno]
      have q : tFl X.K cA W ρ H (if c.hotAt i then .bad else .nx (σd.set i (some d)) S) _ := q
      rw [hh] at q
      have hp : ρ.pin = none := st.pin.trans (x.pin hno)
      exact q ρ H _ Ext.refl st (env.set r fun a z => by rw [hp] at z; cases z)
  | Attribute o f p =>
    refine PG.weak (pg_at (I.e o)) ?_
    rintro v σ H Q ⟨ρ, σd, S, d, env, st, r, q⟩
    have q : tFl X.K cA W ρ H ((ev c N n sc o σd S).use σd fun x S2 => (match fldS (c.flds f) S2 x d f with
      | some S3 => .nx σd S3
      | none => .bad)) _ := q
    refine ⟨ρ, σd, S, env, st, (tFl.use (R := Rep X.K) env q).post ?_⟩
    rintro u H2 ⟨ρ2, d2, S2, e2, st2, r2, h2⟩
    cases e4 : fldS (c.flds f) S2 d2 d f with
    | none => rw [e4] at h2; exact h2.elim
    | some S4 =>
      rw [e4] at h2
      exact fld_of x st2 r2 (r.ext e2) e4 fun ρ' H' e5 st5 => h2 ρ' H' σ e5 st5 ((env.ext e2).ext e5)
  | Subscript o i p =>
    cases hs : isSlice i with
    | true =>
      refine ⟨fun pins s σ H v u Q _ _ ⟨ρ, σd, S, d, _, _, _, q⟩ => ?_⟩
      have q : tFl X.K cA W ρ H (if isSlice i then .bad else (ev c N n sc o σd S).use σd fun x S2 => (ev c N n sc i σd S2).use σd fun y S3 => (match setD S3 x y d with
        | some S4 => .nx σd S4
        | none => .bad)) _ := q
      rw [hs] at q; exact q.elim
    | false =>
      refine PG.weak (pg_sub (I.e o) (I.e i) (set_all (by have := x.un; omega)) (by intro v; cases i <;> first | rfl | cases hs)) ?_
      rintro v σ H Q ⟨ρ, σd, S, d, env, st, r, q⟩
      have q : tFl X.K cA W ρ H (if isSlice i then .bad else (ev c N n sc o σd S).use σd fun x S2 => (ev c N n sc i σd S2).use σd fun y S3 => (match setD S3 x y d with
        | some S4 => .nx σd S4
        | none => .bad)) _ := q
      rw [hs] at q
      have q : tFl X.K cA W ρ H ((ev c N n sc o σd S).use σd fun x S2 => (ev c N n sc i σd S2).use σd fun y S3 => (match setD S3 x y d with
        | some S4 => .nx σd S4
        | none => .bad)) _ := q
      refine ⟨ρ, σd, S, env, st, (tFl.use (R := Rep X.K) env q).post ?_⟩
      rintro u H2 ⟨ρ2, d2, S2, e2, st2, r2, h2⟩
      have env2 := env.ext e2
      refine ⟨ρ2, σd, S2, env2, st2, (tFl.use (R := Rep X.K) env2 h2).post ?_⟩
      rintro w H3 ⟨ρ3, d3, S3, e3, st3, r3, h3⟩
      cases e4 : setD S3 d2 d3 d with
      | none => rw [e4] at h3; exact h3.elim
      | some S4 =>
        rw [e4] at h3
        exact set_of st3 (r2.ext e3) r3 ((r.ext e2).ext e3) e4 fun ρ' H' e5 st5 => h3 ρ' H' σ e5 st5 ((env2.ext e3).ext e5)
  | _ => cases hk
theorem okTg_each {e : Expr} {es : List Expr} (h : okTg e = true) (env : PySem.Env) : (assignEach (e :: es) env).map (·.2) = assign e env :: (assignEach es env).map (·.2) ∧ (assignEach (e :: es) env).length = (assignEach es env).length + 1 ∧ ((assignEach (e :: es) env).findIdx? (·.1) = none ↔ (assignEach es env).findIdx? (·.1) = none) := by
  cases e <;> first | cases h | skip
  all_goals
    refine ⟨rfl, rfl, ?_⟩
    show List.findIdx? _ ((false, _) :: assignEach es env) = none ↔ _
    rw [List.findIdx?_cons]
    simp
theorem pg_all (x : XOk cA k c N X sc) (hno : c.hot = none) (I : AllE cA c N n X sc W) : ∀ es : List Expr, es.all okTg = true → PGs X es (gAll X.K cA W (asgs c N n sc es)) ∧ (assignEach es X.env).length = es.length ∧ (assignEach es X.env).findIdx? (·.1) = none
  | [], _ => by
    refine ⟨PGs.weak pgs_nil ?_, rfl, rfl⟩
    rintro vs σ H Q ⟨ρ, σd, S, ds, env, st, r, q⟩
    cases r with
    | nil => exact ⟨rfl, q ρ H σ Ext.refl st env⟩
    | cons _ _ => exact q.elim
  | e :: es, h => by
    rw [List.all_cons, Bool.and_eq_true] at h
    obtain ⟨i1, i2, i3⟩ := pg_all x hno I es h.2
    obtain ⟨o1, o2, o3⟩ := okTg_each (es := es) h.1 X.env
    refine ⟨PGs.weak (pgs_cons (pg_one x hno I e h.1) i1 o1) ?_, by rw [o2, i2]; rfl, o3.mpr i3⟩
    rintro vs σ H Q ⟨ρ, σd, S, ds, env, st, r, q⟩
    cases r with
    | nil => exact q.elim
    | cons r rs =>
      have q := tFl.seq q
      refine ⟨_, _, rfl, ρ, σd, S, _, env, st, r, q.ends ?_ (fun _ _ z => z) (fun _ _ z => z) (fun _ _ z => z)⟩
      rintro σ1 H1 ⟨ρ1, σd1, S1, env1, st1, q1, e1⟩
      exact ⟨ρ1, σd1, S1, _, env1, st1, rs.ext e1, q1⟩
/-- neither handed back nor left -/
def Fl.plain : Fl → Prop
  | .rt .. => False
  | .bk .. => False
  | .ct .. => False
  | _ => True
theorem Fl.plain.ends {K : PySem.W.Frag} {ρ : Pl} {H : Hp} {r : Fl} {D : Ends} (p : r.plain) (h : tFl K cA W ρ H r D) : tFl K cA W ρ H r ⟨fun σ H => D.nx σ H, fun _ _ => False, fun _ _ => False, fun _ _ => False⟩ := by
  cases r with
  | rt => exact p.elim
  | bk => exact p.elim
  | ct => exact p.elim
  | nx => exact h
  | exc => exact h
  | bad => exact h
theorem use_plain {α : Type} {r : Out α} {σ : Env} {f : α → Store → Fl} (h : ∀ a S, (f a S).plain) : (r.use σ f).plain := by
  cases r with
  | ok a S => exact h a S
  | exc => trivial
  | bad => trivial
theorem asg1_plain (tg : Expr) (d : D) (σ : Env) (S : Store) : (asg1 c N n sc tg d σ S).plain := by
  unfold asg1
  split
  · split
    · split <;> trivial
    · trivial
  · exact use_plain fun a S => by split <;> trivial
  · split
    · trivial
    · exact use_plain fun a S => use_plain fun b S => by split <;> trivial
  · trivial
theorem asgs_plain : ∀ (es : List Expr) (ds : List D) (σ : Env) (S : Store), (asgs c N n sc es ds σ S).plain
  | [], [], _, _ => trivial
  | [], _ :: _, _, _ => trivial
  | _ :: _, [], _, _ => trivial
  | e :: es, d :: ds, σ, S => by
    have p := asg1_plain (c := c) (N := N) (n := n) (sc := sc) e d σ S
    show ((asg1 c N n sc e d σ S).seq (asgs c N n sc es ds)).plain
    cases q : asg1 c N n sc e d σ S with
    | nx σ1 S1 => exact asgs_plain es ds σ1 S1
    | rt => rw [q] at p; exact p.elim
    | bk => rw [q] at p; exact p.elim
    | ct => rw [q] at p; exact p.elim
    | exc => trivial
    | bad => trivial
theorem filt_lt (f : Expr → Option Str) (h : ∀ e, isNm e = false → f e = none) : ∀ es : List Expr, es.all isNm = false → (es.filterMap f).length ≠ es.length
  | [], q => by cases q
  | e :: es, q => by
    rw [List.all_cons] at q
    have le : (es.filterMap f).length ≤ es.length := List.length_filterMap_le f es
    cases c : f e with
    | none => rw [List.filterMap_cons_none c, List.length_cons]; omega
    | some y =>
      have : isNm e = true := by
        cases z : isNm e with
        | true => rfl
        | false => rw [h e z] at c; cases c
      rw [this, Bool.true_and] at q
      rw [List.filterMap_cons_some c, List.length_cons, List.length_cons]
      have := filt_lt f h es q
      omega
theorem swap_mix {es : List Expr} {vs : List Expr} {k1 k2 : Nat} {p1 p2 : Pos} {env : PySem.Env} (h : es.all isNm = false) : swappedStores [.Tuple es k1 p1] (.Tuple vs k2 p2) env = pure none := by
  unfold swappedStores
  simp only []
  split
  · rfl
  split
  · rfl
  rw [if_pos (by
    rw [Bool.or_eq_true, bne_iff_ne]
    exact .inl (filt_lt _ (fun e q => by cases e <;> first | rfl | cases q) es h))]
theorem locS_ok {sc : Scope} {x : Str} (h : locS sc x = true) : sc.names.lookup x = some .local := by
  unfold locS at h
  split at h
  · next q => exact q
  · cases h
theorem swap_par2 {x y : Str} {px py p1 p2 : Pos} {a b : Expr} {k1 k2 : Nat} {env : PySem.Env} (hk : env.scope.kind = .function) (h : parC env.scope [.Name x px, .Name y py] [a, b] = true) : swappedStores [.Tuple [.Name x px, .Name y py] k1 p1] (.Tuple [a, b] k2 p2) env = pure (some [x, y]) := by
  unfold parC at h
  simp only [Bool.and_eq_true, Bool.not_eq_true', beq_iff_eq, beq_eq_false_iff_ne] at h
  obtain ⟨⟨hx, hy, hl, hn⟩, ha, hb, hf, hc⟩ := h
  have kx : env.kindOf x = some .local := locS_ok hx
  have ky : env.kindOf y = some .local := locS_ok hy
  have bk : env.blockKind = .function := by unfold Env.blockKind; rw [hk]; rfl
  unfold swappedStores
  simp only []
  split
  · next z =>
    rw [bk] at z
    cases z
  split
  · next z =>
    exfalso
    rw [List.any_cons, List.any_cons, List.any_nil, Bool.or_false, Bool.or_eq_true] at z
    rcases z with z | z
    · cases a <;> first | (cases z; done) | (exact absurd (show true = false from ha) (by decide))
    · cases b <;> first | (cases z; done) | (exact absurd (show true = false from hb) (by decide))
  have hn' : (y == x) = false := by simpa using Ne.symm hn
  have lx : (px.line == (Expr.Name x px).pos.line) = true := beq_self_eq_true _
  have ed : [x, y].eraseDups = [x, y] := by simp [List.eraseDups_cons, hn']
  have f1 : [a, b].all (foldedForSure 8) = false := by rw [List.all_cons, List.all_cons, List.all_nil, Bool.and_true]; exact hf
  have f2 : [a, b].all (constantsAlone 8) = false := by rw [List.all_cons, List.all_cons, List.all_nil, Bool.and_true]; exact hc
  simp only [List.filterMap, kx, ky, hl, List.head?, Option.map, Option.getD, beq_self_eq_true, Bool.and_self, if_true, lx, Bool.true_and, ed, f1, f2]
  rfl
theorem swap_par3 {x y z : Str} {px py pz p1 p2 : Pos} {a b d : Expr} {k1 k2 : Nat} {env : PySem.Env} (hk : env.scope.kind = .function) (h : parC env.scope [.Name x px, .Name y py, .Name z pz] [a, b, d] = true) : swappedStores [.Tuple [.Name x px, .Name y py, .Name z pz] k1 p1] (.Tuple [a, b, d] k2 p2) env = pure (some [x, y, z]) := by
  unfold parC at h
  simp only [Bool.and_eq_true, Bool.not_eq_true', beq_iff_eq, beq_eq_false_iff_ne] at h
  obtain ⟨⟨hx, hy, hz, hl, hm, n1, n2, n3⟩, ha, hb, hd, hf, hc⟩ := h
  have kx : env.kindOf x = some .local := locS_ok hx
  have ky : env.kindOf y = some .local := locS_ok hy
  have kz : env.kindOf z = some .local := locS_ok hz
  have bk : env.blockKind = .function := by unfold Env.blockKind; rw [hk]; rfl
  unfold swappedStores
  simp only []
  split
  · next q =>
    rw [bk] at q
    cases q
  split
  · next q =>
    exfalso
    rw [List.any_cons, List.any_cons, List.any_cons, List.any_nil, Bool.or_false, Bool.or_eq_true, Bool.or_eq_true] at q
    rcases q with q | q | q
    · cases a <;> first | (cases q; done) | (exact absurd (show true = false from ha) (by decide))
    · cases b <;> first | (cases q; done) | (exact absurd (show true = false from hb) (by decide))
    · cases d <;> first | (cases q; done) | (exact absurd (show true = false from hd) (by decide))
  have q1 : (y == x) = false := by simpa using Ne.symm n1
  have q2 : (z == x) = false := by simpa using Ne.symm n2
  have q3 : (z == y) = false := by simpa using Ne.symm n3
  have lx : (px.line == (Expr.Name x px).pos.line) = true := beq_self_eq_true _
  have ed : [x, y, z].eraseDups = [x, y, z] := by simp [List.eraseDups_cons, q1, q2, q3]
  have f1 : [a, b, d].all (foldedForSure 8) = false := by rw [List.all_cons, List.all_cons, List.all_cons, List.all_nil, Bool.and_true]; exact hf
  have f2 : [a, b, d].all (constantsAlone 8) = false := by rw [List.all_cons, List.all_cons, List.all_cons, List.all_nil, Bool.and_true]; exact hc
  simp only [List.filterMap, kx, ky, kz, hl, hm, List.head?, Option.map, Option.getD, beq_self_eq_true, Bool.and_self, if_true, lx, Bool.true_and, ed, f1, f2]
  rfl
theorem parV_ok {sc : Scope} {es vs : List Expr} {e : Expr} (h : parV sc es e = some vs) : (∃ k p, e = .Tuple vs k p) ∧ parC sc es vs = true := by
  unfold parV at h
  split at h
  · next k p =>
    split at h
    · next q => cases h; exact ⟨⟨k, p, rfl⟩, q⟩
    · cases h
  · cases h
theorem par_len {sc : Scope} {es vs : List Expr} (h : parC sc es vs = true) : (∃ x px y py a b, es = [.Name x px, .Name y py] ∧ vs = [a, b]) ∨ ∃ x px y py z pz a b d, es = [.Name x px, .Name y py, .Name z pz] ∧ vs = [a, b, d] := by
  unfold parC at h
  split at h
  · exact .inl ⟨_, _, _, _, _, _, rfl, rfl⟩
  · exact .inr ⟨_, _, _, _, _, _, _, _, _, rfl, rfl⟩
  · cases h
theorem slots_cons {sc : Scope} {N : List Str} {x : Str} {xs : List Str} {is : List Nat} (h : slotsOf sc N (x :: xs) = some is) : ∃ i js, is = i :: js ∧ stOf sc N x = some i ∧ slotsOf sc N xs = some js := by
  simp only [slotsOf] at h
  cases e1 : stOf sc N x with
  | none => rw [e1] at h; cases h
  | some i =>
    cases e2 : slotsOf sc N xs with
    | none => rw [e1, e2] at h; cases h
    | some js => rw [e1, e2] at h; cases h; exact ⟨i, js, rfl, rfl, rfl⟩
theorem ix_ne {N : List Str} {i j : Nat} {x y : Str} (hi : N[i]? = some x) (hj : N[j]? = some y) (h : (x == y) = false) : i ≠ j := fun e => by
  subst e
  rw [hi] at hj
  cases hj
  simp at h
theorem s_par (x : XOk cA k c N X sc) (xs : XSt X sc) (hno : c.hot = none) (I : AllE cA c N n X sc W) {es vs : List Expr} {ys : List Str} {is : List Nat} {j k2 : Nat} {p p2 pos : Pos} (h : tgNames (.Tuple es j p) = some ys) (h2 : slotsOf sc N ys = some is) (hp : parC sc es vs = true) :
    PS X (.Assign [.Tuple es j p] (.Tuple vs k2 p2) pos) (tSt X.K cA W fun σ S => (evA c N n sc vs σ S).use σ fun ds S1 => if ds.length = is.length then .nx (setAll σ is ds) S1 else .bad) := by
  have hs := xs.scope
  have hk := xs.kind
  have nd : X.N.Nodup := by rw [x.names]; exact x.nd
  have hp' : parC X.env.scope es vs = true := by rw [hs]; exact hp
  have rd : ∀ {vs' : List V} {ρ1 : Pl} {H1 : Hp} {ds : List D} {S1 : Store} {σd : Env} {σ : L2.St} {D' : Ends}, EnvR X.K ρ1 H1 σd σ → StR X.K cA ρ1 H1 S1 → Reps X.K ρ1 H1 ds vs' → tFl X.K cA W ρ1 H1 (.nx (setAll σd is ds) S1) D' → D'.nx (setV σ is vs') H1 := fun env st r q =>
    q _ _ _ Ext.refl st (env_setAll (st.pin.trans (x.pin hno)) env r)
  rcases par_len hp with ⟨x1, px, y1, py, a, b, rfl, rfl⟩ | ⟨x1, px, y1, py, z1, pz, a, b, d, rfl, rfl⟩
  · cases h
    obtain ⟨i, js, rfl, s1, h3⟩ := slots_cons h2
    obtain ⟨i2, js2, rfl, s2, h4⟩ := slots_cons h3
    cases h4
    obtain ⟨n1, -⟩ := st_slot s1
    obtain ⟨n2, -⟩ := st_slot s2
    have hh := hp
    unfold parC at hh
    simp only [Bool.and_eq_true, Bool.not_eq_true'] at hh
    obtain ⟨⟨hx, hy, hl, hn⟩, -⟩ := hh
    refine PS.weak (ps_par (x.calm hno) nd (by rw [x.names]; exact n1) (by rw [x.names]; exact n2) (ix_ne n1 n2 hn) (by rw [hs]; exact locS_ok hx) (by rw [hs]; exact locS_ok hy) (I.a [a, b]) (swap_par2 hk hp') (sole_no (fun _ _ z => by cases z) _ _)) ?_
    rintro D' σ H ⟨ρ, σd, S, env, st, q⟩
    refine ⟨ρ, σd, S, env, st, (tFl.use (R := Reps X.K) env q).post ?_⟩
    rintro vs1 H1 ⟨ρ1, ds, S1, e1, st1, r1, h1⟩
    have h1 : tFl X.K cA W ρ1 H1 (if ds.length = 2 then .nx (setAll σd [i, i2] ds) S1 else .bad) D' := h1
    by_cases hl2 : ds.length = 2
    · rw [if_pos hl2] at h1
      rw [r1.length] at hl2
      match vs1, hl2, r1 with
      | [u, v], _, r1 => exact ⟨u, v, rfl, rd (env.ext e1) st1 r1 h1⟩
    · rw [if_neg hl2] at h1; exact h1.elim
  · cases h
    obtain ⟨i, js, rfl, s1, h3⟩ := slots_cons h2
    obtain ⟨i2, js2, rfl, s2, h4⟩ := slots_cons h3
    obtain ⟨i3, js3, rfl, s3, h5⟩ := slots_cons h4
    cases h5
    obtain ⟨n1, -⟩ := st_slot s1
    obtain ⟨n2, -⟩ := st_slot s2
    obtain ⟨n3, -⟩ := st_slot s3
    have hh := hp
    unfold parC at hh
    simp only [Bool.and_eq_true, Bool.not_eq_true'] at hh
    obtain ⟨⟨hx, hy, hz, -, -, m1, m2, m3⟩, -⟩ := hh
    refine PS.weak (ps_par3 (x.calm hno) nd (by rw [x.names]; exact n1) (by rw [x.names]; exact n2) (by rw [x.names]; exact n3) (ix_ne n1 n2 m1) (ix_ne n1 n3 m2) (ix_ne n2 n3 m3) (by rw [hs]; exact locS_ok hx) (by rw [hs]; exact locS_ok hy) (by rw [hs]; exact locS_ok hz) (I.a [a, b, d]) (swap_par3 hk hp') (sole_no (fun _ _ z => by cases z) _ _)) ?_
    rintro D' σ H ⟨ρ, σd, S, env, st, q⟩
    refine ⟨ρ, σd, S, env, st, (tFl.use (R := Reps X.K) env q).post ?_⟩
    rintro vs1 H1 ⟨ρ1, ds, S1, e1, st1, r1, h1⟩
    have h1 : tFl X.K cA W ρ1 H1 (if ds.length = 3 then .nx (setAll σd [i, i2, i3] ds) S1 else .bad) D' := h1
    by_cases hl2 : ds.length = 3
    · rw [if_pos hl2] at h1
      rw [r1.length] at hl2
      match vs1, hl2, r1 with
      | [u, v, w], _, r1 => exact ⟨u, v, w, rfl, rd (env.ext e1) st1 r1 h1⟩
    · rw [if_neg hl2] at h1; exact h1.elim
theorem s_tup (x : XOk cA k c N X sc) (xst : XSt X sc) (I : AllE cA c N n X sc W) {es : List Expr} {j : Nat} {e : Expr} {p pos} : PS X (.Assign [.Tuple es j p] e pos) (tSt X.K cA W (ex c N sc (n + 1) (.Assign [.Tuple es j p] e pos))) := by
  have e0 : ∀ σ S, ex c N sc (n + 1) (.Assign [.Tuple es j p] e pos) σ S = if !c.calm then .bad else (match tgNames (.Tuple es j p) with
      | some xs => (match slotsOf sc N xs with
        | some is => if isTup e then (match parV sc es e with
            | some vs => (evA c N n sc vs σ S).use σ fun ds S1 => if ds.length = is.length then .nx (setAll σ is ds) S1 else .bad
            | none => .bad)
          else (ev c N n sc e σ S).use σ fun d S1 => (match bindTg (.Tuple es j p) sc N σ d with
          | some σ1 => .nx σ1 S1
          | none => .bad)
        | none => .bad)
      | none => if mixT es then (ev c N n sc e σ S).use σ fun d S1 => (match seqT d with
          | some ds => if ds.length = es.length then asgs c N n sc es ds σ S1 else .bad
          | none => .bad) else .bad) := fun _ _ => rfl
  have lift : ∀ {g : Env → Store → Fl}, (∀ σ S, ex c N sc (n + 1) (.Assign [.Tuple es j p] e pos) σ S = g σ S) → PS X (.Assign [.Tuple es j p] e pos) (tSt X.K cA W g) → PS X (.Assign [.Tuple es j p] e pos) (tSt X.K cA W (ex c N sc (n + 1) (.Assign [.Tuple es j p] e pos))) := by
    intro g hg h
    refine PS.weak h ?_
    rintro D σ H ⟨ρ, σd, S, env, st, q⟩
    rw [hg] at q
    exact ⟨ρ, σd, S, env, st, q⟩
  cases ht' : !c.calm with
  | true => exact PS.none (tSt_bad fun σ S => by rw [e0, ht']; rfl)
  | false =>
    have hno : c.hot = none := calm_none (by simpa using ht')
    cases h : tgNames (.Tuple es j p) with
    | none =>
      cases hm : mixT es with
      | false => exact PS.none (tSt_bad fun σ S => by rw [e0, ht', h, hm]; rfl)
      | true =>
        refine lift (g := fun σ S => (ev c N n sc e σ S).use σ fun d S1 => (match seqT d with
          | some ds => if ds.length = es.length then asgs c N n sc es ds σ S1 else .bad
          | none => .bad)) (fun σ S => by rw [e0, ht', h, hm]; rfl) ?_
        unfold mixT at hm
        rw [Bool.and_eq_true, Bool.not_eq_true'] at hm
        obtain ⟨i1, i2, i3⟩ := pg_all x hno I es hm.1
        refine PS.weak (ps_asg (I.e e) (pg_tup (x.calm hno) i1 i2 i3) (sole_no (fun _ _ z => by cases z) _ _) (by cases e <;> first | rfl | exact swap_mix hm.2) rfl) ?_
        rintro D σ H ⟨ρ, σd, S, env, st, q⟩
        refine ⟨ρ, σd, S, env, st, (tFl.use (R := Rep X.K) env q).post ?_⟩
        rintro v H1 ⟨ρ1, d, S1, e1, st1, r1, h1⟩
        cases r1 with
        | tup at_ rs =>
          rename_i ds a vs
          have h1 : tFl X.K cA W ρ1 H1 (if ds.length = es.length then asgs c N n sc es ds σd S1 else .bad) D := h1
          by_cases hl : ds.length = es.length
          · rw [if_pos hl] at h1
            exact ⟨a, vs, rfl, at_.sq, by rw [← rs.length]; exact hl, ρ1, σd, S1, ds, env.ext e1, st1, rs, (asgs_plain es ds σd S1).ends h1⟩
          · rw [if_neg hl] at h1; exact h1.elim
        | _ => exact h1.elim
    | some xs =>
      cases h2 : slotsOf sc N xs with
      | none => exact PS.none (tSt_bad fun σ S => by rw [e0, ht', h]; simp [h2])
      | some is =>
        cases ht : isTup e with
        | true =>
          cases hv : parV sc es e with
          | none => exact PS.none (tSt_bad fun σ S => by rw [e0, ht', h]; simp [h2, ht, hv])
          | some vs =>
            obtain ⟨⟨k2, p2, rfl⟩, hp⟩ := parV_ok hv
            exact lift (fun σ S => by rw [e0, ht', h]; simp [h2, ht, hv]) (s_par x xst hno I h h2 hp)
        | false =>
        refine PS.weak (ps_asg (I.e e) (pg_tg x hno h h2) (sole_no (fun _ _ z => by cases z) _ _) (by cases e <;> first | rfl | cases ht) rfl) ?_
        rintro D σ H ⟨ρ, σd, S, env, st, q⟩
        rw [e0, ht', h] at q
        simp only [h2, ht, Bool.false_eq_true, if_false] at q
        refine ⟨ρ, σd, S, env, st, (tFl.use (R := Rep X.K) env q).post ?_⟩
        rintro v H1 ⟨ρ1, d, S1, e1, st1, r1, h1⟩
        cases hb : bindTg (.Tuple es j p) sc N σd d with
        | none => rw [hb] at h1; exact h1.elim
        | some σ1 =>
          rw [hb] at h1
          exact tg_of (st1.pin.trans (x.pin hno)) h h2 hb (env.ext e1) r1 fun vs hl env' => h1 ρ1 H1 _ Ext.refl st1 env'
theorem s_while (xs : XSt X sc) (I : AllE cA c N n X sc W) (IS : SSs cA c N n X sc W) {t : Expr} {body : List Stmt} {pos} : PS X (.While t body [] pos) (tSt X.K cA W (ex c N sc (n + 1) (.While t body [] pos))) := by
  refine PS.weak (ps_while xs.pass (I.t t) (IS body)) ?_
  rintro D σ H ⟨ρ, σd, S, env, st, q⟩
  have q : tFl X.K cA W ρ H (whileF (evT c N n sc t) (exs c N sc n body) loopMost σd S) D := q
  refine ⟨fun m σ' H' => ∃ ρ' σd' S', EnvR X.K ρ' H' σd' σ' ∧ StR X.K cA ρ' H' S' ∧ tFl X.K cA W ρ' H' (whileF (evT c N n sc t) (exs c N sc n body) m σd' S') D,
    ⟨loopMost, ρ, σd, S, env, st, q⟩, ?_⟩
  rintro m σ' H' ⟨ρ', σd', S', env', st', q'⟩
  cases m with
  | zero => exact q'.elim
  | succ m =>
    refine ⟨ρ', σd', S', env', st', (tFl.use (R := RB) env' q').post ?_⟩
    rintro b H1 ⟨ρ1, bb, S1, e1, st1, rfl, h1⟩
    cases bb with
    | false => exact h1 ρ1 H1 σ' Ext.refl st1 (env'.ext e1)
    | true =>
      refine ⟨_, fun σ2 H2 z => ⟨m, Nat.lt_succ_self m, z⟩, ρ1, σd', S1, env'.ext e1, st1, ?_⟩
      have h2 : tFl X.K cA W ρ1 H1 (match exs c N sc n body σd' S1 with
        | .nx σ1 S2 => whileF (evT c N n sc t) (exs c N sc n body) m σ1 S2
        | .ct σ1 S2 => whileF (evT c N n sc t) (exs c N sc n body) m σ1 S2
        | .bk σ1 S2 => .nx σ1 S2
        | r => r) D := h1
      cases hx : exs c N sc n body σd' S1 with
      | nx σ1 S2 => rw [hx] at h2; exact fun ρ3 H3 σ3 e3 st3 env3 => ⟨ρ3, σ1, S2, env3, st3, h2.ext e3⟩
      | ct σ1 S2 => rw [hx] at h2; exact fun ρ3 H3 σ3 e3 st3 env3 => ⟨ρ3, σ1, S2, env3, st3, h2.ext e3⟩
      | bk σ1 S2 => rw [hx] at h2; exact h2
      | rt d S2 => rw [hx] at h2; exact h2
      | exc y σ1 S2 => rw [hx] at h2; exact h2
      | bad => rw [hx] at h2; exact h2
def forB (c : Cfg) (N : List Str) (sc : Scope) (n : Nat) (tg : Expr) (body : List Stmt) : D → Env → Store → Fl := fun d σ1 S2 => match bindTg tg sc N σ1 d with
  | some σ2 => exs c N sc n body σ2 S2
  | none => .bad
theorem s_for (x : XOk cA k c N X sc) (xst : XSt X sc) (I : AllE cA c N n X sc W) (IS : SSs cA c N n X sc W) {tg iter : Expr} {body : List Stmt} {pos} : PS X (.For tg iter body [] pos) (tSt X.K cA W (ex c N sc (n + 1) (.For tg iter body [] pos))) := by
  have e0 : ∀ σ S, ex c N sc (n + 1) (.For tg iter body [] pos) σ S = if !c.calm || isSet iter then .bad else (match tgNames tg with
      | some xs => (match slotsOf sc N xs with
        | some _ => (evI c N n (isTup tg) sc iter σ S).use σ fun it S1 => forF it (forB c N sc n tg body) loopMost 0 σ S1
        | none => .bad)
      | none => .bad) := fun _ _ => rfl
  cases ht' : (!c.calm || isSet iter) with
  | true => exact PS.none (tSt_bad fun σ S => by rw [e0, ht']; rfl)
  | false =>
    obtain ⟨hcm, ht⟩ := Bool.or_eq_false_iff.mp ht'
    have hno : c.hot = none := calm_none (by simpa using hcm)
    cases h : tgNames tg with
    | none => exact PS.none (tSt_bad fun σ S => by rw [e0, ht', h]; rfl)
    | some xs =>
      cases h2 : slotsOf sc N xs with
      | none => exact PS.none (tSt_bad fun σ S => by rw [e0, ht', h]; simp [h2])
      | some is =>
        refine PS.weak (ps_for xst.pass (x.calm hno) (I.i tg iter) (pg_tg x hno h h2) (IS body) (set_ok ht X.env)) ?_
        rintro D σ H ⟨ρ, σd, S, env, st, q⟩
        rw [e0, ht', h] at q
        simp only [h2, Bool.false_eq_true, if_false] at q
        refine ⟨ρ, σd, S, env, st, (tFl.use (R := fun ρ H it J => ItR X.K cA it ρ H J) env q).post ?_⟩
        rintro J H1 ⟨ρ1, it, S1, e1, st1, hJ, h1⟩
        refine ⟨fun i m σ' H' => ∃ ρ' σd' S', Ext ρ1 H1 ρ' H' ∧ EnvR X.K ρ' H' σd' σ' ∧ StR X.K cA ρ' H' S' ∧ tFl X.K cA W ρ' H' (forF it (forB c N sc n tg body) m i σd' S') D,
          ⟨loopMost, ρ1, σd, S1, Ext.refl, env.ext e1, st1, h1⟩, ?_⟩
        rintro i m σ' H' ⟨ρ', σd', S', e, env', st', q'⟩
        cases m with
        | zero => exact q'.elim
        | succ m =>
          obtain ⟨j1, j2⟩ := hJ ρ' H' S' i e st'
          have q' : tFl X.K cA W ρ' H' (match it.get S' i with
            | none => .bad
            | some none => .nx σd' S'
            | some (some d) => (match forB c N sc n tg body d σd' S' with
              | .nx σ1 S1 => forF it (forB c N sc n tg body) m (i + 1) σ1 S1
              | .ct σ1 S1 => forF it (forB c N sc n tg body) m (i + 1) σ1 S1
              | .bk σ1 S1 => .nx σ1 S1
              | r => r)) D := q'
          cases g0 : it.get S' i with
          | none => rw [g0] at q'; exact q'.elim
          | some o =>
            rw [g0] at q'
            cases o with
            | none => exact .inl ⟨j1 g0, q' ρ' H' σ' Ext.refl st' env'⟩
            | some d =>
              obtain ⟨j3, j4⟩ := j2 d g0
              refine .inr ⟨j3, _, fun σ2 H2 z => ⟨m, Nat.lt_succ_self m, z⟩, fun v H2 y => ?_⟩
              obtain ⟨ρ2, e2, st2, r2⟩ := j4 v H2 y
              have h3 : tFl X.K cA W ρ2 H2 (match forB c N sc n tg body d σd' S' with
                | .nx σ1 S1 => forF it (forB c N sc n tg body) m (i + 1) σ1 S1
                | .ct σ1 S1 => forF it (forB c N sc n tg body) m (i + 1) σ1 S1
                | .bk σ1 S1 => .nx σ1 S1
                | r => r) D := tFl.ext e2 q'
              unfold forB at h3
              cases hb : bindTg tg sc N σd' d with
              | none => rw [hb] at h3; exact h3.elim
              | some σ2 =>
                rw [hb] at h3
                refine tg_of (st2.pin.trans (x.pin hno)) h h2 hb (env'.ext e2) r2 fun vs hl env2 => ?_
                refine ⟨ρ2, σ2, S', env2, st2, ?_⟩
                have h3 : tFl X.K cA W ρ2 H2 (match exs c N sc n body σ2 S' with
                  | .nx σ1 S1 => forF it (forB c N sc n tg body) m (i + 1) σ1 S1
                  | .ct σ1 S1 => forF it (forB c N sc n tg body) m (i + 1) σ1 S1
                  | .bk σ1 S1 => .nx σ1 S1
                  | r => r) D := h3
                cases hx : exs c N sc n body σ2 S' with
                | nx σ1 S2 => rw [hx] at h3; exact fun ρ3 H3 σ3 e3 st3 env3 => ⟨ρ3, σ1, S2, (e.trans e2).trans e3, env3, st3, h3.ext e3⟩
                | ct σ1 S2 => rw [hx] at h3; exact fun ρ3 H3 σ3 e3 st3 env3 => ⟨ρ3, σ1, S2, (e.trans e2).trans e3, env3, st3, h3.ext e3⟩
                | bk σ1 S2 => rw [hx] at h3; exact h3
                | rt d S2 => rw [hx] at h3; exact h3
                | exc y σ1 S2 => rw [hx] at h3; exact h3
                | bad => rw [hx] at h3; exact h3
theorem s_raise (x : XOk cA k c N X sc) (tk : Takes X W) {y m : Str} {j : Nat} {p p2 p3 pos : Pos} : PS X (.Raise (some (.Call (.Name y p) [.Constant (.str m) j p2] [] p3)) none pos) (tSt X.K cA W (ex c N sc (n + 1) (.Raise (some (.Call (.Name y p) [.Constant (.str m) j p2] [] p3)) none pos))) := by
  have e0 : ∀ σ S, ex c N sc (n + 1) (.Raise (some (.Call (.Name y p) [.Constant (.str m) j p2] [] p3)) none pos) σ S = if plainName y && c.excs y && (nmOf sc N y).isGlob then .exc y σ S else .bad := fun _ _ => rfl
  cases hc : (plainName y && c.excs y && (nmOf sc N y).isGlob) with
  | false => exact PS.none (tSt_bad fun σ S => by rw [e0, hc]; rfl)
  | true =>
    have hc' := hc
    rw [Bool.and_eq_true, Bool.and_eq_true] at hc'
    obtain ⟨⟨c1, c2⟩, c3⟩ := hc'
    obtain ⟨q1, q2, q3⟩ := pn c1
    have hg : nmOf sc N y = .glob := by
      cases q : nmOf sc N y with
      | glob => rfl
      | slot => rw [q] at c3; cases c3
      | no => rw [q] at c3; cases c3
    obtain ⟨m1, m2, m3, m4, m5⟩ := x.cfg.exc y c2
    refine PS.weak (ps_raise (x.calm (x.of_exc c2)) tk (pmk_own PySem.F.excBase_ValueError m2 m1 m3 (raises_own m4 m5) ((x.vis _ _ (nm_glob hg)).2 rfl) q1)) ?_
    rintro D σ H ⟨ρ, σd, S, env, st, q⟩
    rw [e0, if_pos hc] at q
    exact q ρ H σ Ext.refl st env
/-- the pinned slot -/
def Pl.pinned (ρ : Pl) (p : Option (Nat × Addr)) : Pl := ⟨ρ.l, ρ.b, p⟩
theorem Rep.pinned {K : PySem.W.Frag} {ρ : Pl} {H : Hp} {p : Option (Nat × Addr)} {d : D} {v : V} (r : Rep K ρ H d v) : Rep K (ρ.pinned p) H d v := Rep.pl (ρ := ρ) (σ := ρ.pinned p) (fun _ _ h => h) (fun _ h => .inl h) r
theorem StR.pinned {K : PySem.W.Frag} {ρ : Pl} {H : Hp} {S : Store} {p : Option (Nat × Addr)} (s : StR K cA ρ H S) : StR K ⟨cA.ad, p⟩ (ρ.pinned p) H S := by
  refine ⟨s.len, s.nd, fun l o h => ?_, s.bl, rfl⟩
  obtain ⟨a, h1, h2⟩ := s.ob l o h
  refine ⟨a, h1, ?_⟩
  have h3 : ObR K cA (ρ.pinned p) H a o := ObR.pl (ρ := ρ) (σ := ρ.pinned p) (fun _ _ h => h) (fun _ h => .inl h) h2
  cases o <;> exact h3
theorem Ext.pinned {ρ ρ' : Pl} {H H' : Hp} {p q : Option (Nat × Addr)} (e : Ext (ρ.pinned q) H ρ' H') (h : ρ.pin = p) : Ext ρ H (ρ'.pinned p) H' := ⟨e.pre, e.lo, e.hi, e.keep, e.tr, h.symm⟩
theorem EnvR.pinNone {K : PySem.W.Frag} {ρ : Pl} {H : Hp} {σd : Env} {σ : L2.St} (r : EnvR K ρ H σd σ) : EnvR K (ρ.pinned none) H σd σ :=
  ⟨r.len, fun i d h => let ⟨v, h1, h2⟩ := r.get i d h; ⟨v, h1, h2.pinned⟩, fun _ _ h => by cases h⟩
theorem EnvR.pinAt {K : PySem.W.Frag} {ρ : Pl} {H : Hp} {σd : Env} {σ : L2.St} (r : EnvR K ρ H σd σ) {i : Nat} (hi : i < σ.length) (a : Addr) : EnvR K (ρ.pinned (some (i, a))) H (σd.set i none) (σ.set i (some (.ref a))) := by
  refine ⟨by simp [r.len], fun j d h => ?_, fun j b h => ?_⟩
  · by_cases hj : i = j
    · subst hj
      rw [List.getElem?_set_self (by rw [r.len]; exact hi)] at h
      cases h
    · rw [List.getElem?_set_ne hj] at h
      obtain ⟨v, h1, h2⟩ := r.get j d h
      exact ⟨v, by rw [List.getElem?_set_ne hj]; exact h1, h2.pinned⟩
  · cases h
    rw [List.getElem?_set_self hi]
theorem EnvR.forget {K : PySem.W.Frag} {ρ : Pl} {H : Hp} {σd : Env} {σ : L2.St} (r : EnvR K ρ H σd σ) (i : Nat) : EnvR K ρ H (σd.set i none) σ := by
  refine ⟨by simp [r.len], fun j d h => ?_, r.pin⟩
  by_cases hj : i = j
  · subst hj
    by_cases hl : i < σd.length
    · rw [List.getElem?_set_self hl] at h
      cases h
    · rw [List.getElem?_eq_none (by rw [List.length_set]; omega)] at h
      cases h
  · rw [List.getElem?_set_ne hj] at h
    exact r.get j d h
/-- a suite that holds an error -/
theorem XOk.suite (x : XOk cA k c N X sc) {y : Str} {i : Nat} {a : Addr} {oe : Obj} {pn : List (Addr × Obj)} {p : Option (Nat × Addr)} (hp : p = none ∧ i = N.length ∨ p = some (i, a)) (hx : ExcC X.K (cA y)) (hz : Zc (.ref (cA y)) none oe) (hf : ∃ vs, oe.data = .fields vs) : XOk ⟨cA.ad, p⟩ k (c.hotC i y) N (X.suite a ((a, oe) :: pn)) sc where
  cfg := ⟨(fun _ _ h => by cases h), x.cfg.var, fun f h => x.cfg.free f (by
      have h : (c.free f && (f == "isinstance" || f == "int")) = true := h
      rw [Bool.and_eq_true] at h; exact h.1), (fun _ h => by cases h), x.cfg.fld, x.cfg.dk, (fun _ _ _ h => by cases h), (fun _ _ h => by cases h), x.cfg.kit⟩
  calm := fun h => by cases h
  room := fun h => by cases h
  un := x.un
  pinAt := fun j b h => by
    rcases hp with ⟨rfl, _⟩ | rfl
    · cases h
    · cases h; exact ⟨y, rfl⟩
  tame := .inr ⟨fun _ => rfl, fun f h => by
      have h : (c.free f && (f == "isinstance" || f == "int")) = true := h
      rw [Bool.and_eq_true, Bool.or_eq_true, beq_iff_eq, beq_iff_eq] at h; exact h.2, fun _ => rfl, fun _ => rfl, fun _ => rfl⟩
  held := fun j z h lt => by
    cases h
    rcases hp with ⟨_, rfl⟩ | rfl
    · omega
    · exact ⟨a, rfl, call_isE hx hz hf, call_isET hx hz hf⟩
  names := x.names
  nd := x.nd
  vis := x.vis
  loc := x.loc
  cf := x.cf
theorem s_try (x : XOk cA k c N X sc) (xst : XSt X sc) (tk : Takes X W) (IB : ∀ cA c X sc W, XOk cA k c N X sc → XSt X sc → Takes X W → SSs cA c N n X sc W) {body suite : List Stmt} {y : Str} {np hpos pos : Pos} {nm : Option Str} {b0 : Stmt} :
    PS X (.Try body [.ExceptHandler (some (.Name y np)) nm (b0 :: suite) hpos] [] [] pos) (tSt X.K cA W (ex c N sc (n + 1) (.Try body [.ExceptHandler (some (.Name y np)) nm (b0 :: suite) hpos] [] [] pos))) := by
  have e0 : ∀ σ S, ex c N sc (n + 1) (.Try body [.ExceptHandler (some (.Name y np)) nm (b0 :: suite) hpos] [] [] pos) σ S = if c.calm && (plainName y && ((nmOf sc N y).isGlob && (c.kits y y).isSome)) then (match heldAt sc N nm with
      | some i => (match exs c N sc n body σ S with
        | .exc x σ1 S1 => (match c.kits x y with
          | some true => if nm.isSome && decide (σ1.length ≤ i) then .bad else hotEnd i (exs (c.hotC i x) N sc n (b0 :: suite) (σ1.set i none) S1)
          | some false => .exc x σ1 S1
          | none => .bad)
        | r => r)
      | none => .bad) else .bad := fun _ _ => rfl
  cases hc : (c.calm && (plainName y && ((nmOf sc N y).isGlob && (c.kits y y).isSome))) with
  | false => exact PS.none (tSt_bad fun σ S => by rw [e0, hc]; rfl)
  | true =>
    have hc' := hc
    rw [Bool.and_eq_true, Bool.and_eq_true, Bool.and_eq_true] at hc'
    obtain ⟨c1, c2, c3, c4⟩ := hc'
    have hno := calm_none c1
    have hpin : cA.pin = none := x.pin hno
    obtain ⟨q1, q2, q3⟩ := pn c2
    have hg : nmOf sc N y = .glob := by
      cases q : nmOf sc N y with
      | glob => rfl
      | slot => rw [q] at c3; cases c3
      | no => rw [q] at c3; cases c3
    obtain ⟨by_, hby⟩ := Option.isSome_iff_exists.mp c4
    obtain ⟨v0, u, hm0, cl0, _, _, _⟩ := x.cfg.kit y y by_ hby
    have hN : Names X y u := ⟨(x.vis _ _ (nm_glob hg)).2 rfl, q1, hm0.imp (fun z => z.1) (fun z => ⟨z.1, z.2.1, q3⟩)⟩
    have same : ∀ {z : Str} {b : Bool}, c.kits z y = some b → PySem.W.exmOne X.K (.ref (cA z)) u = some b ∧ ExcC X.K (cA z) := by
      intro z b hz
      obtain ⟨v1, u1, hm1, _, _, em, ec⟩ := x.cfg.kit z y b hz
      refine ⟨?_, ec⟩
      have : u1 = u := by
        rcases hm0 with ⟨m1, _⟩ | ⟨m1, m2, _⟩ <;> rcases hm1 with ⟨n1, _⟩ | ⟨n1, n2, _⟩
        · rw [m1] at n1; cases n1; rfl
        · rw [m1] at n1; cases n1
        · rw [m1] at n1; cases n1
        · rw [m2] at n2; cases n2; rfl
      rw [← this]; exact em
    cases hi : heldAt sc N nm with
    | none => exact PS.none (tSt_bad fun σ S => by rw [e0, hc, hi]; rfl)
    | some i =>
      have body_ok : ∀ (W : WX) (pn : List (Addr × Obj)) (xe : Value → Shared → Prop), Takes (X.tr pn xe) W → PassesOwn (model X.prog X.w) X.A X.env xe → PSs (X.tr pn xe) body (tSt X.K cA W (exs c N sc n body)) := by
        intro W' pn xe tk' ps
        have xo : XOk cA k c N (X.tr pn xe) sc := ⟨x.cfg, x.calm, x.room, x.un, x.pinAt, x.tame, (fun j z h => by rw [hno] at h; cases h), x.names, x.nd, x.vis, x.loc, x.cf⟩
        exact IB cA c (X.tr pn xe) sc W' xo ⟨xst.scope, xst.kind, ps, xst.stk, xst.frm⟩ tk' body
      have suite_ok : ∀ (p : Addr → Option (Nat × Addr)), (∀ a, p a = none ∧ i = N.length ∨ p a = some (i, a)) → ∀ (a : Addr) (oe : Obj) (cls : Value) (d : Option Addr) (pn : List (Addr × Obj)), Zc cls d oe → (∃ vs, oe.data = .fields vs) →
          PSs (X.suite a ((a, oe) :: pn)) (b0 :: suite) (fun D σ H => ∃ z, cls = .ref (cA z) ∧ d = none ∧ c.kits z y = some true ∧ tSt X.K ⟨cA.ad, p a⟩ (fun _ _ _ _ => False) (exs (c.hotC i z) N sc n (b0 :: suite)) D σ H) := by
        intro p hp a oe cls d pn hz hf
        refine ⟨fun pins s σ H D I ⟨z, e1, e2, hk, t⟩ => ?_⟩
        subst e1 e2
        have xo := x.suite (pn := pn) (hp a) (same hk).2 hz hf
        have xs : XSt (X.suite a ((a, oe) :: pn)) sc := ⟨xst.scope, xst.kind, fun _ _ h => h.elim, xst.stk, xst.frm⟩
        exact (IB ⟨cA.ad, p a⟩ (c.hotC i z) (X.suite a ((a, oe) :: pn)) sc (fun _ _ _ _ => False) xo xs (fun u s' h => by
          obtain ⟨_, _, _, _, _, _, _, _, _, _, _, _, _, _, _, _, w⟩ := h
          exact w.elim) (b0 :: suite)).run pins s σ H D I t
      have eA : (⟨cA.ad, none⟩ : CA) = cA := by rw [← hpin]
      cases nm with
      | none =>
        have hi' : N.length = i := Option.some.inj hi
        refine PS.weak (ps_try_only xst.stk xst.frm hN tk (tb := fun W => tSt X.K cA W (exs c N sc n body)) body_ok (suite_ok (fun _ => none) fun _ => .inl ⟨rfl, hi'.symm⟩)) ?_
        rintro D σ H ⟨ρ, σd, S, env, st, q⟩
        rw [e0, if_pos hc] at q
        simp only [hi] at q
        refine ⟨ρ, σd, S, env, st, ?_⟩
        cases hx : exs c N sc n body σd S with
        | nx σ1 S1 => rw [hx] at q; exact q
        | bk σ1 S1 => rw [hx] at q; exact q
        | ct σ1 S1 => rw [hx] at q; exact q
        | rt d S1 => rw [hx] at q; exact q
        | bad => rw [hx] at q; exact q
        | exc z σ1 S1 =>
          rw [hx] at q
          intro ρ1 H1 σv e1 st1 env1
          cases hk : c.kits z y with
          | none => simp only [hk] at q; exact q.elim
          | some b =>
            obtain ⟨em, _⟩ := same hk
            refine ⟨b, em, fun hb a ha => ?_, fun hb => ?_⟩
            · subst hb
              simp only [hk, Option.isSome_none, Bool.false_and, Bool.false_eq_true, if_false] at q
              refine ⟨z, rfl, rfl, hk, ρ1.pinned none, σ1.set i none, S1, (env1.pinNone).forget i, st1.pinned, ?_⟩
              have hp1 : ρ1.pin = none := st1.pin.trans hpin
              have e2 : Ext ρ H (ρ1.pinned none) H1 := by
                have z : ρ1.pinned none = ρ1 := by
                  show Pl.mk ρ1.l ρ1.b none = ρ1
                  rw [← hp1]
                rw [z]; exact e1
              cases hs : exs (c.hotC i z) N sc n (b0 :: suite) (σ1.set i none) S1 with
              | nx σ2 S2 => rw [hs] at q; exact fun ρ3 H3 σw e3 st3 env3 => q ρ3 H3 σw (e2.trans e3) (eA ▸ st3) (env3.forget i)
              | bk σ2 S2 => rw [hs] at q; exact fun ρ3 H3 σw e3 st3 env3 => q ρ3 H3 σw (e2.trans e3) (eA ▸ st3) (env3.forget i)
              | ct σ2 S2 => rw [hs] at q; exact fun ρ3 H3 σw e3 st3 env3 => q ρ3 H3 σw (e2.trans e3) (eA ▸ st3) (env3.forget i)
              | rt d S2 => rw [hs] at q; exact fun ρ3 H3 v e3 st3 r3 => q ρ3 H3 v (e2.trans e3) (eA ▸ st3) r3
              | exc w σ2 S2 => rw [hs] at q; exact q.elim
              | bad => rw [hs] at q; exact q
            · subst hb
              simp only [hk] at q
              exact q ρ1 H1 σv e1 st1 env1
      | some nm =>
        have hl : sc.names.lookup nm = some .local ∧ N.idxOf? nm = some i := by
          unfold heldAt at hi
          simp only at hi
          split at hi
          · next h => exact ⟨h, hi⟩
          · cases hi
        have hsl : nmOf sc N nm = .slot i := by
          unfold nmOf
          rw [hl.1]
          simp only [hl.2]
        have hni : X.N[i]? = some nm := by rw [x.names]; exact (nm_slot hsl).1
        have hkd : X.env.kindOf nm = some .local := by
          show X.env.scope.names.lookup nm = _
          rw [xst.scope]; exact hl.1
        refine PS.weak (ps_try_as xst.stk xst.frm (by rw [x.names]; exact x.nd) hni hkd hN tk (tb := fun W => tSt X.K cA W (exs c N sc n body)) body_ok (suite_ok (fun a => some (i, a)) fun _ => .inr rfl)) ?_
        rintro D σ H ⟨ρ, σd, S, env, st, q⟩
        rw [e0, if_pos hc] at q
        simp only [hi] at q
        refine ⟨ρ, σd, S, env, st, ?_⟩
        cases hx : exs c N sc n body σd S with
        | nx σ1 S1 => rw [hx] at q; exact q
        | bk σ1 S1 => rw [hx] at q; exact q
        | ct σ1 S1 => rw [hx] at q; exact q
        | rt d S1 => rw [hx] at q; exact q
        | bad => rw [hx] at q; exact q
        | exc z σ1 S1 =>
          rw [hx] at q
          intro ρ1 H1 σv e1 st1 env1
          cases hk : c.kits z y with
          | none => simp only [hk] at q; exact q.elim
          | some b =>
            obtain ⟨em, _⟩ := same hk
            refine ⟨b, em, fun hb a ha => ?_, fun hb => ?_⟩
            · subst hb
              simp only [hk, Option.isSome_some, Bool.true_and] at q
              by_cases lt : σ1.length ≤ i
              · rw [if_pos (decide_eq_true lt)] at q; exact q.elim
              rw [if_neg (by rw [decide_eq_false lt]; exact Bool.false_ne_true)] at q
              refine ⟨z, rfl, rfl, hk, ρ1.pinned (some (i, a)), σ1.set i none, S1, env1.pinAt (by rw [← env1.len]; omega) a, st1.pinned, ?_⟩
              have hp1 : ρ1.pin = none := st1.pin.trans hpin
              have np : ∀ {ρ3 : Pl} (b : Addr), (ρ3.pinned none).pin ≠ some (i, b) := fun b h => by cases h
              have s3 : ∀ {ρ3 : Pl} {H3 : Hp} {S3 : Store}, StR X.K ⟨cA.ad, some (i, a)⟩ ρ3 H3 S3 → StR X.K cA (ρ3.pinned none) H3 S3 := fun h => by
                have h := h.pinned (p := none)
                have e : (⟨(⟨cA.ad, some (i, a)⟩ : CA).ad, none⟩ : CA) = cA := eA
                rw [e] at h; exact h
              have x3 : ∀ {ρ3 : Pl} {H3 : Hp}, Ext (ρ1.pinned (some (i, a))) H1 ρ3 H3 → Ext ρ H (ρ3.pinned none) H3 := fun h => e1.trans (h.pinned hp1)
              cases hs : exs (c.hotC i z) N sc n (b0 :: suite) (σ1.set i none) S1 with
              | nx σ2 S2 => rw [hs] at q; exact fun ρ3 H3 σw e3 st3 env3 => q (ρ3.pinned none) H3 (σw.set i none) (x3 e3) (s3 st3) (env3.pinNone.setN np)
              | bk σ2 S2 => rw [hs] at q; exact fun ρ3 H3 σw e3 st3 env3 => q (ρ3.pinned none) H3 (σw.set i none) (x3 e3) (s3 st3) (env3.pinNone.setN np)
              | ct σ2 S2 => rw [hs] at q; exact fun ρ3 H3 σw e3 st3 env3 => q (ρ3.pinned none) H3 (σw.set i none) (x3 e3) (s3 st3) (env3.pinNone.setN np)
              | rt d S2 => rw [hs] at q; exact fun ρ3 H3 v e3 st3 r3 => q (ρ3.pinned none) H3 v (x3 e3) (s3 st3) r3.pinned
              | exc w σ2 S2 => rw [hs] at q; exact q.elim
              | bad => rw [hs] at q; exact q
            · subst hb
              simp only [hk] at q
              exact q ρ1 H1 σv e1 st1 env1
end
/-- EVERY STATEMENT IS READ -/
theorem all_s {k : Nat} {N : List Str} : ∀ n, ∀ cA c X sc W, XOk cA k c N X sc → XSt X sc → Takes X W → SS cA c N n X sc W ∧ SSs cA c N n X sc W
  | 0, cA, c, X, sc, W, x, xs, tk => ⟨fun st => PS.none (tSt_bad fun _ _ => rfl), fun st => PSs.none (tSt_bad fun _ _ => rfl)⟩
  | n + 1, cA, c, X, sc, W, x, xs, tk => by
    obtain ⟨I1, I2⟩ := all_s n cA c X sc W x xs tk
    have IE := all_e (cA := cA) (k := k) (c := c) (N := N) n
    have tA := takesA_of tk xs.stk xs.frm
    have I := IE n (Nat.le_refl n) X sc W x tA
    refine ⟨fun st => ?_, fun sts => ?_⟩
    · have none_ : (∀ σ S, ex c N sc (n + 1) st σ S = .bad) → PS X st (tSt X.K cA W (ex c N sc (n + 1) st)) := fun h => PS.none (tSt_bad h)
      cases st with
      | Pass pos => exact PS.weak ps_pass fun D σ H ⟨ρ, σd, S, env, st, q⟩ => q ρ H σ Ext.refl st env
      | Break pos => exact PS.weak ps_break fun D σ H ⟨ρ, σd, S, env, st, q⟩ => q ρ H σ Ext.refl st env
      | Continue pos => exact PS.weak ps_continue fun D σ H ⟨ρ, σd, S, env, st, q⟩ => q ρ H σ Ext.refl st env
      | Return e pos => exact s_ret I
      | Expr e pos => exact s_expr I
      | If t a b pos => exact s_if I I2
      | While t b o pos =>
        cases o with
        | nil => exact s_while xs I I2
        | cons _ _ => exact none_ fun _ _ => rfl
      | For tg it b o pos =>
        cases o with
        | nil => exact s_for x xs I I2
        | cons _ _ => exact none_ fun _ _ => rfl
      | Assign ts e pos =>
        rcases ts with _ | ⟨t, _ | ⟨t2, ts⟩⟩
        · exact none_ fun _ _ => rfl
        · cases t with
          | Name y p => exact s_set x xs tA IE
          | Subscript o i p => exact s_sub x I
          | Attribute o f p => exact s_attr x I
          | Tuple es j p => exact s_tup x xs I
          | _ => exact none_ fun _ _ => rfl
        · cases t <;> exact none_ fun _ _ => rfl
      | Raise e ca pos =>
        cases ca with
        | some _ => 
          cases e with
          | none => exact none_ fun _ _ => rfl
          | some e =>
            refine none_ fun _ _ => ?_
            cases e <;> try rfl
            rename_i f as ks p
            cases f <;> try rfl
            rcases as with _ | ⟨a, _ | ⟨b, as⟩⟩ <;> try rfl
            · cases a <;> try rfl
              rename_i kk j p2
              cases kk <;> try rfl
              cases ks <;> rfl
            · cases a <;> try rfl
              rename_i kk j p2
              cases kk <;> rfl
        | none =>
          cases e with
          | none => exact none_ fun _ _ => rfl
          | some e =>
            cases e <;> try exact none_ fun _ _ => rfl
            rename_i f as ks p
            cases f <;> try exact none_ fun _ _ => rfl
            rcases as with _ | ⟨a, _ | ⟨b, as⟩⟩ <;> try exact none_ fun _ _ => rfl
            · cases a <;> try exact none_ fun _ _ => rfl
              rename_i kk j p2
              cases kk <;> try exact none_ fun _ _ => rfl
              cases ks <;> try exact none_ fun _ _ => rfl
              exact s_raise x tk
            · cases a <;> try exact none_ fun _ _ => rfl
              rename_i kk j p2
              cases kk <;> exact none_ fun _ _ => rfl
      | Try body hs orelse fin pos =>
        cases orelse with
        | cons _ _ =>
          refine none_ fun _ _ => ?_
          rcases hs with _ | ⟨⟨t, nm, su, hp⟩, _ | ⟨h2, hs⟩⟩
          · rfl
          · cases t <;> try rfl
            rename_i t
            cases t <;> try rfl
            cases su <;> rfl
          · cases t <;> try rfl
            rename_i t
            cases t <;> try rfl
            cases su <;> rfl
        | nil =>
          cases fin with
          | cons _ _ =>
            refine none_ fun _ _ => ?_
            rcases hs with _ | ⟨⟨t, nm, su, hp⟩, _ | ⟨h2, hs⟩⟩
            · rfl
            · cases t <;> try rfl
              rename_i t
              cases t <;> try rfl
              cases su <;> rfl
            · cases t <;> try rfl
              rename_i t
              cases t <;> try rfl
              cases su <;> rfl
          | nil =>
            rcases hs with _ | ⟨⟨t, nm, su, hp⟩, _ | ⟨h2, hs⟩⟩
            · exact none_ fun _ _ => rfl
            · cases t with
              | none => exact none_ fun _ _ => rfl
              | some t =>
                cases t <;> try exact none_ fun _ _ => rfl
                cases su with
                | nil => exact none_ fun _ _ => rfl
                | cons b0 su => exact s_try x xs tk (fun cA c X sc W x xs tk => (all_s n cA c X sc W x xs tk).2)
            · refine none_ fun _ _ => ?_
              cases t <;> try rfl
              rename_i t
              cases t <;> try rfl
              cases su <;> rfl
      | _ => exact none_ fun _ _ => rfl
    · rcases sts with _ | ⟨s1, _ | ⟨s2, rest⟩⟩
      · exact PSs.weak pss_nil fun D σ H ⟨ρ, σd, S, env, st, q⟩ => q ρ H σ Ext.refl st env
      · exact PSs.weak (pss_one (I1 s1)) fun D σ H ⟨ρ, σd, S, env, st, q⟩ => ⟨ρ, σd, S, env, st, q⟩
      · refine PSs.weak (pss_cons (I1 s1) (I2 (s2 :: rest))) ?_
        rintro D σ H ⟨ρ, σd, S, env, st, q⟩
        refine ⟨ρ, σd, S, env, st, ?_⟩
        have q : tFl X.K cA W ρ H ((ex c N sc n s1 σd S).seq (exs c N sc n (s2 :: rest))) D := q
        cases h : ex c N sc n s1 σd S with
        | nx σ1 S1 =>
          rw [h] at q
          exact fun ρ1 H1 σv e1 st1 env1 => ⟨ρ1, σ1, S1, env1, st1, tFl.ext e1 q⟩
        | rt => rw [h] at q; exact q
        | bk => rw [h] at q; exact q
        | ct => rw [h] at q; exact q
        | exc => rw [h] at q; exact q
        | bad => rw [h] at q; exact q
end Q
/-! Q11: a def keeps its promise. -/
namespace Q
open PySem PySem.Spec PyProof.Rows L2
section
variable {K : PySem.W.Frag} {cA : CA} {ρ ρ' : Pl} {H H' : Hp}
/-- fewer places, for what names none of the dropped ones -/
theorem Rep.cutl {σ : Pl} {n : Nat} (hl : ∀ (i : Nat), i < n → σ.l[i]? = ρ.l[i]?) (hs : ∀ a, σ.has a → ρ.has a) : ∀ {d : D} {v : V}, Rep K ρ H d v → _root_.Q.below n d = true → Rep K σ H d v := by
  intro d v r
  refine Rep.rec (motive_1 := fun d v _ => _root_.Q.below n d = true → Rep K σ H d v) (motive_2 := fun ds vs _ => _root_.Q.belows n ds = true → Reps K σ H ds vs) ?_ ?_ ?_ ?_ ?_ ?_ ?_ ?_ ?_ r
  · exact fun _ => .non
  · exact fun b _ => .bl b
  · exact fun i _ => .int i
  · exact fun x _ => .str x
  · exact fun {ds a vs} ha _ ih hb => .tup (ha.imp (fun h => ⟨h.1, fun z => h.2 (hs _ z)⟩) id) (ih hb)
  · exact fun {ds a vs} ha _ ih hb => .lst (ha.imp (fun h => ⟨h.1, fun z => h.2 (hs _ z)⟩) id) (ih hb)
  · exact fun {l a} ha hb => .ref ((hl l (of_decide_eq_true hb)).trans ha)
  · exact fun _ => .nil
  · intro d v ds vs _ _ ih ihs hb
    have hb : (_root_.Q.below n d && _root_.Q.belows n ds) = true := hb
    rw [Bool.and_eq_true] at hb
    exact .cons (ih hb.1) (ihs hb.2)
theorem Reps.cutl {σ : Pl} {n : Nat} (hl : ∀ (i : Nat), i < n → σ.l[i]? = ρ.l[i]?) (hs : ∀ a, σ.has a → ρ.has a) : ∀ {ds : List D} {vs : List V}, Reps K ρ H ds vs → _root_.Q.belows n ds = true → Reps K σ H ds vs
  | _, _, .nil, _ => .nil
  | d :: ds, _, .cons r t, hb => by
    have hb : (_root_.Q.below n d && _root_.Q.belows n ds) = true := hb
    rw [Bool.and_eq_true] at hb
    exact .cons (r.cutl hl hs hb.1) (t.cutl hl hs hb.2)
theorem FReps.cutl {κ : Type} {σ : Pl} {n : Nat} (hl : ∀ (i : Nat), i < n → σ.l[i]? = ρ.l[i]?) (hs : ∀ a, σ.has a → ρ.has a) : ∀ {ds : List (κ × D)} {vs : List (κ × V)}, FReps K ρ H ds vs → _root_.Q.belows n (ds.map (·.2)) = true → FReps K σ H ds vs
  | _, _, .nil, _ => .nil
  | (k, d) :: ds, _, .cons r t, hb => by
    have hb : (_root_.Q.below n d && _root_.Q.belows n (ds.map (·.2))) = true := hb
    rw [Bool.and_eq_true] at hb
    exact .cons (r.cutl hl hs hb.1) (t.cutl hl hs hb.2)
theorem ObR.cutl {σ : Pl} {n : Nat} (hl : ∀ (i : Nat), i < n → σ.l[i]? = ρ.l[i]?) (hs : ∀ a, σ.has a → ρ.has a) {a : Addr} {o : Ob} (h : ObR K cA ρ H a o) (hb : _root_.Q.obBelow n o = true) : ObR K cA σ H a o := by
  cases o with
  | lst ds => obtain ⟨vs, h1, h2⟩ := h; exact ⟨vs, h1, h2.cutl hl hs hb⟩
  | ins C fs => obtain ⟨dx, vs, h1, h2⟩ := h; exact ⟨dx, vs, h1, h2.cutl hl hs hb⟩
  | dic kvs => obtain ⟨vs, h1, h2⟩ := h; exact ⟨vs, h1, h2.cutl hl hs hb⟩
  | dead => exact h
theorem StR.cutl {S S' : Store} (s : StR K cA ρ H S) (e : Ext ρ H ρ' H') (s' : StR K cA ρ' H' S') (hb : (S'.take S.length).all (obBelow S.length) = true) :
    ∃ σ : Pl, Ext ρ H σ H' ∧ StR K cA σ H' (S'.take S.length) ∧ (∀ (i : Nat), i < S.length → σ.l[i]? = ρ'.l[i]?) ∧ (∀ a, σ.has a → ρ'.has a) ∧ σ.b = ρ'.b ∧ σ.l = ρ'.l.take S.length := by
  obtain ⟨τ, hτ, hn⟩ := e.pre
  have hl : ∀ (i : Nat), i < S.length → ρ.l[i]? = ρ'.l[i]? := fun i hi => by
    rw [hτ, List.getElem?_append_left (by rw [s.len]; exact hi)]
  have hh : ∀ a, (Pl.mk ρ.l ρ'.b ρ.pin).has a → ρ'.has a := fun a z => z.imp (fun z => by rw [hτ]; exact List.mem_append_left _ z) id
  have le : S.length ≤ S'.length := by
    rw [← s.len, ← s'.len, hτ]; simp
  refine ⟨⟨ρ.l, ρ'.b, ρ.pin⟩, ⟨⟨[], by simp, by simp⟩, e.lo, e.hi, e.keep, e.tr, rfl⟩, ⟨?_, s.nd, ?_, ?_, s.pin⟩, hl, hh, rfl, ?_⟩
  · show ρ.l.length = _
    rw [List.length_take, s.len, Nat.min_eq_left le]
  · intro l o ho
    have lt : l < S.length := by
      rcases Nat.lt_or_ge l S.length with h | h
      · exact h
      · rw [List.getElem?_eq_none (by rw [List.length_take]; omega)] at ho; cases ho
    have ho' : S'[l]? = some o := by rw [← ho, List.getElem?_take, if_pos lt]
    obtain ⟨a, h1, h2⟩ := s'.ob l o ho'
    refine ⟨a, (hl l lt).trans h1, ObR.cutl (σ := ⟨ρ.l, ρ'.b, ρ.pin⟩) hl hh h2 ?_⟩
    exact List.all_eq_true.mp hb o (List.mem_of_getElem? ho)
  · exact fun a ha => ⟨(s'.bl a ha).1, fun z => (s'.bl a ha).2 (by rw [hτ]; exact List.mem_append_left _ z)⟩
  · show ρ.l = _
    rw [hτ, ← s.len]; simp
def fz (frz : Bool) (n : Nat) (d : D) (S : Store) : D := if frz then (match d with
  | .ref l => if l < n then d else (match S[l]? with
    | some (.lst xs) => .lst xs
    | _ => d)
  | d => d) else d
theorem fin_eq {frz : Bool} {n : Nat} {d : D} {S : Store} : fin frz n d S = if S.length = n ∧ frz = false then .ok (fz frz n d S) S else if below n (fz frz n d S) && (S.take n).all (obBelow n) then .ok (fz frz n d S) (S.take n) else .ok d S := rfl
theorem fin_ok {W : WX} {τ : L2.St} {S S' : Store} {frz : Bool} {d : D} {v : V} {Q : V → Hp → Prop} (s : StR K cA ρ H S) (e : Ext ρ H ρ' H') (s' : StR K cA ρ' H' S') (r : Rep K ρ' H' d v)
    (h : tO K cA W τ ρ H (Rep K) (fin frz S.length d S') Q) : Q v H' := by
  rw [fin_eq] at h
  split at h
  · next c =>
    rw [c.2] at h
    exact h ρ' H' v e s' r
  · split at h
    · next _ c =>
      rw [Bool.and_eq_true] at c
      obtain ⟨σ, e2, s2, hl, hs, hb, hτ⟩ := s.cutl e s' c.2
      refine h σ H' v e2 s2 ?_
      have c1 := c.1
      clear h
      revert c1
      unfold fz
      cases frz with
      | false => exact fun c1 => r.cutl hl hs c1
      | true =>
        rw [if_pos rfl]
        cases r with
        | ref ra =>
          rename_i l a
          simp only
          split
          · exact fun c1 => (Rep.ref ra).cutl hl hs c1
          · next lt =>
            split
            · next _ xs hx =>
              intro c1
              obtain ⟨vs, h1, h2⟩ := s'.at hx ra
              have na : ¬ σ.has a := by
                rintro (z | z)
                · rw [hτ] at z
                  obtain ⟨i, hi⟩ := List.mem_iff_getElem?.mp z
                  have hi2 : i < S.length := by
                    rcases Nat.lt_or_ge i S.length with h | h
                    · exact h
                    · rw [List.getElem?_eq_none (by rw [List.length_take]; omega)] at hi; cases hi
                  rw [List.getElem?_take, if_pos hi2] at hi
                  obtain ⟨p1, p2⟩ := List.getElem?_eq_some_iff.mp hi
                  obtain ⟨q1, q2⟩ := List.getElem?_eq_some_iff.mp ra
                  exact List.pairwise_iff_getElem.mp s'.nd i l p1 q1 (by omega) (p2.trans q2.symm)
                · rw [hb] at z
                  exact (s'.bl a z).2 (List.mem_of_getElem? ra)
              exact .lst (.inl ⟨.inl h1, na⟩) (h2.cutl hl hs c1)
            · exact fun c1 => (Rep.ref ra).cutl hl hs c1
        | non => exact fun c1 => Rep.cutl hl hs .non c1
        | bl b => exact fun c1 => Rep.cutl hl hs (.bl b) c1
        | int b => exact fun c1 => Rep.cutl hl hs (.int b) c1
        | str b => exact fun c1 => Rep.cutl hl hs (.str b) c1
        | tup h1 h2 => exact fun c1 => Rep.cutl hl hs (.tup h1 h2) c1
        | lst h1 h2 => exact fun c1 => Rep.cutl hl hs (.lst h1 h2) c1
    · exact h ρ' H' v e s' r
theorem finX_ok {W : WX} {τ : L2.St} {S S' : Store} {x : Str} {Q : V → Hp → Prop} (s : StR K cA ρ H S) (e : Ext ρ H ρ' H') (s' : StR K cA ρ' H' S') 
    (h : tO K cA W τ ρ H (Rep K) (finX S.length x S') Q) : W (.ref (cA x)) none τ H' := by
  unfold finX at h
  split at h
  · exact h ρ' H' e s'
  · split at h
    · next _ c =>
      obtain ⟨σ, e2, s2, _⟩ := s.cutl e s' c
      exact h σ H' e2 s2
    · exact h ρ' H' e s'
theorem env_start {N : List Str} {ds : List D} {vs : List V} (hp : ρ.pin = none) (r : Reps K ρ H ds vs) : EnvR K ρ H (ds.map some ++ List.replicate (N.length - ds.length) none) (L2.start N vs) := by
  refine ⟨by simp [L2.start, r.length], fun i d h => ?_, fun i a h => by rw [hp] at h; cases h⟩
  rcases Nat.lt_or_ge i ds.length with lt | ge
  · rw [List.getElem?_append_left (by simpa using lt), List.getElem?_map] at h
    cases e : ds[i]? with
    | none => rw [e] at h; cases h
    | some d' =>
      rw [e] at h
      cases h
      obtain ⟨v, h1, h2⟩ := r.get e
      refine ⟨v, ?_, h2⟩
      unfold L2.start
      rw [List.getElem?_append_left (by rw [List.length_map, ← r.length]; exact lt), List.getElem?_map, h1]
      rfl
  · rw [List.getElem?_append_right (by simpa using ge), List.getElem?_replicate] at h
    split at h <;> cases h
end
section
variable {P : Program} {w : World} {K : PySem.W.Frag} {mg : Str → Option Value} {base : Heap} {cA : CA}
theorem fn_ok {x qual : Str} {params : Arguments} {body : List Stmt} {scope : Scope} {dvs : List V} {f : Addr} {fd : FuncData} {N ps : List Str} {k fuel : Nat} {c : Cfg} {frz : Bool}
    (F : FunD K x qual params body scope dvs [] f fd) (sc : FnScope N ps scope) (C : CfgOk P w K mg base cA k c) (hot : c.hot = none) (hp : cA.pin = none) :
    FnOk P w K mg base (L2.CX P w) (k + 1) f fd ps (spOf K cA (runF c frz ps N scope fuel body)) := by
  have key : ∀ {vs : List V} {H : Hp} {Qv : VK} {E : XK}, spOf K cA (runF c frz ps N scope fuel body) vs H Qv E → ∃ ρ ds S, Reps K ρ H ds vs ∧ StR K cA ρ H S ∧ ds.length = ps.length ∧
      tO K cA (fun cls d _ H' => E cls d H') [] ρ H (Rep K) (match exs c N scope fuel body (ds.map some ++ List.replicate (N.length - ds.length) none) S with
        | .nx _ S' => fin frz S.length .non S'
        | .rt d S' => fin frz S.length d S'
        | .exc x _ S' => finX S.length x S'
        | _ => .bad) Qv := by
    rintro vs H Qv E ⟨ρ, ds, S, r, s, h⟩
    unfold runF at h
    split at h
    · next hl => exact ⟨ρ, ds, S, r, s, hl, h⟩
    · exact h.elim
  refine fnG F sc (fun vs H Qv E h => ?_) fun cdv A outer s H vs Qv E hr h => ?_
  · obtain ⟨ρ, ds, S, r, _, hl, _⟩ := key h
    rw [← r.length, hl]
  · obtain ⟨ρ, ds, S, r, st, hl, h⟩ := key h
    have xo : XOk cA k c N (cxOf (L2.CX P w) P w K mg base N qual scope f cdv A outer s H E) scope := ⟨C, (fun _ => rfl), (fun _ => hr), Nat.lt_of_le_of_lt (Nat.add_le_add_right (Nat.le_add_right _ _) _) hr.un, (fun i a h => by rw [hp] at h; cases h), .inl hot, (fun i z h => by rw [hot] at h; cases h), rfl, sc.nd, fun x kd hx => ⟨fun hk => by
        rcases hk with rfl | rfl | rfl
        · exact .inl hx
        · exact .inr (.inl hx)
        · exact .inr (.inr hx), fun hk => by subst hk; exact hx⟩,
      fun x kd hx hk => ⟨by
        rcases hk with rfl | rfl
        · exact .inl hx
        · exact .inr hx, .inl rfl⟩, fun x hx => hx⟩
    have xs : XSt (cxOf (L2.CX P w) P w K mg base N qual scope f cdv A outer s H E) scope := ⟨rfl, sc.kind, passes_of rfl, rfl, rfl⟩
    have tk : Takes (cxOf (L2.CX P w) P w K mg base N qual scope f cdv A outer s H E) (fun cls d _ H' => E cls d H') := takes_of rfl rfl rfl rfl
    refine ⟨_, (all_s fuel _ _ _ scope _ xo xs tk).2 body, ρ, _, S, env_start (st.pin.trans hp) r, st, ?_⟩
    show tFl K cA _ ρ H (exs c N scope fuel body _ S) _
    revert h
    cases exs c N scope fuel body (ds.map some ++ List.replicate (N.length - ds.length) none) S with
    | nx σ' S' => exact fun h ρ' H' σv e s' env => fin_ok st e s' .non h
    | rt d S' => exact fun h ρ' H' v e s' r' => fin_ok st e s' r' h
    | exc x σ' S' => exact fun h ρ' H' σv e s' env => finX_ok st e s' h
    | bad => exact fun h => h.elim
    | bk _ _ => exact fun h => h.elim
    | ct _ _ => exact fun h => h.elim
end
end Q
/-! Q12: the interpreter's steps as combinators (what a def comes to once its text is read), and the chain of a program's defs. -/
namespace Q
open PySem PySem.Spec PyProof.Rows L2
/-! ### expressions -/
abbrev XE := Env → Store → Out D
abbrev XT := Env → Store → Out Bool
abbrev XA := Env → Store → Out (List D)
abbrev XO := Env → Store → Out (Option Int)
abbrev XI := Env → Store → Out Items
def kk (d : D) : XE := fun _ S => .ok d S
def vv (i : Nat) : XE := fun σ S => match σ[i]? with
  | some (some d) => .ok d S
  | _ => .bad
def bi (op : Operator) (a b : XE) : XE := fun σ S => (a σ S).bind fun x S1 => (b σ S1).bind fun y S2 => ofO S2 (binD S2 op x y)
def biM (op : Operator) (a b : XE) : XE := fun σ S => (a σ S).bind fun x S1 => (b σ S1).bind fun y S2 => (match catD S2 op x y with
  | some (.lst xs) => .ok (.ref S2.length) (S2 ++ [.lst xs])
  | _ => .bad)
def liM (a : XA) : XE := fun σ S => (a σ S).bind fun xs S1 => (match Blt.list, xs with
  | .list, [x] => (match listD S1 x with
    | some (.lst ys) => .ok (.ref S1.length) (S1 ++ [.lst ys])
    | _ => .bad)
  | _, _ => .bad)
def dkc (ks : List Str) (a : XE) : XE := fun σ S => (a σ S).bind fun x S1 => dkIn ks x S1
def nt (a : XE) : XE := fun σ S => (a σ S).bind fun x S1 => ofO S1 ((truth S1 x).map fun b => .bl (!b))
def ng (a : XE) : XE := fun σ S => (a σ S).bind fun x S1 => (match x with
  | .int i => .ok (.int (-i)) S1
  | _ => .bad)
def cm (op : CmpOp) (a b : XE) : XE := fun σ S => (a σ S).bind fun x S1 => (b σ S1).bind fun y S2 => ofO S2 ((cmpD S2 op x y).map D.bl)
def cm2 (op op' : CmpOp) (a b b' : XE) : XE := fun σ S => (a σ S).bind fun x S1 => (b σ S1).bind fun y S2 => (match cmpD S2 op x y with
  | some true => (b' σ S2).bind fun z S3 => ofO S3 ((cmpD S3 op' y z).map D.bl)
  | some false => .ok (.bl false) S2
  | none => .bad)
def ie (t : XT) (a b : XE) : XE := fun σ S => (t σ S).bind fun k S1 => if k = true then a σ S1 else b σ S1
def lsv (as : XA) : XE := fun σ S => (as σ S).bind fun xs S1 => if xs.length ≤ 16777216 then .ok (.lst xs) S1 else .bad
def lsm (as : XA) : XE := fun σ S => (as σ S).bind fun xs S1 => if xs.length ≤ 16777216 then .ok (.ref S1.length) (S1 ++ [.lst xs]) else .bad
def tu (as : XA) : XE := fun σ S => (as σ S).bind fun xs S1 => if xs.length ≤ 16777216 then .ok (.tup xs) S1 else .bad
def di0 : XE := fun _ S => .ok (.ref S.length) (S ++ [.dic []])
/-- {k: v, ..} -/
abbrev XK := Env → Store → Out (List (L2.Key × D))
def k0 : XK := fun _ S => .ok [] S
def k1 (k v : XE) (r : XK) : XK := fun σ S => (k σ S).bind fun x S1 => (v σ S1).bind fun y S2 => (r σ S2).bind fun r S3 => (match keyD x with
  | some k => .ok ((k, y) :: r) S3
  | none => .bad)
def dis (r : XK) : XE := fun σ S => (r σ S).bind fun kvs S1 => .ok (.ref S1.length) (S1 ++ [.dic (mergeG [] kvs)])
def rvs (a : XE) : XE := fun σ S => (a σ S).bind fun x S1 => ofO S1 (revD S1 x)
def dct (as : XA) : XE := fun σ S => (as σ S).bind fun xs S1 => (match xs with
  | [x] => ofP (dictD S1 x)
  | _ => .bad)
def lset (a : XE) : XE := fun σ S => (a σ S).bind fun x S1 => ofO S1 (lenSetD S1 x)
def slm (a : XE) (lo hi : XO) : XE := fun σ S => (a σ S).bind fun x S1 => (lo σ S1).bind fun l S2 => (hi σ S2).bind fun h S3 => (match slD S3 x l h with
  | some (.lst xs) => .ok (.ref S3.length) (S3 ++ [.lst xs])
  | _ => .bad)
def fmv (a : XE) : XE := fun σ S => (a σ S).bind fun x S1 => ofO S1 (fmtD x)
def fst (ts : List XE) : XE := joinF ts Str.empty
def sl (a : XE) (lo hi : XO) : XE := fun σ S => (a σ S).bind fun x S1 => (lo σ S1).bind fun l S2 => (hi σ S2).bind fun h S3 => ofO S3 (slD S3 x l h)
def ix (a i : XE) : XE := fun σ S => (a σ S).bind fun x S1 => (i σ S1).bind fun y S2 => ofO S2 (ixD S2 x y)
def cix (φ ψ : Fn) (i : XE) (as : XA) : XE := fun σ S => (i σ S).bind fun y S1 => selF y ((as σ S1).bind fun xs S2 => φ xs S2) ((as σ S1).bind fun xs S2 => ψ xs S2)
def ca (φ : Fn) (as : XA) : XE := fun σ S => (as σ S).bind fun xs S1 => φ xs S1
def bl (b : Blt) (as : XA) : XE := fun σ S => (as σ S).bind fun xs S1 => ofO S1 (b.sem S1 xs)
def isn (a : XE) (t : Str) : XE := fun σ S => (a σ S).bind fun x S1 => ofO S1 ((isTy S1 x t).map D.bl)
def meT (ts : List (Str × Fn)) (m : Str) (o : XE) (as : XA) : XE := fun σ S => (o σ S).bind fun x S1 => (match mIdD S1 x m with
  | some i => (as σ S1).bind fun xs S2 => ofP (mthD S2 i x xs)
  | none => (match methD ts S1 x m with
    | some φ => (as σ S1).bind fun xs S2 => φ (x :: xs) S2
    | none => .bad))
def me (m : Str) (o : XE) (as : XA) : XE := meT [] m o as
/-- .. its new list into the store -/
def meM (m : Str) (o : XE) (as : XA) : XE := fun σ S => (o σ S).bind fun x S1 => (match mIdD S1 x m with
  | some i => (as σ S1).bind fun xs S2 => mtM S2 i x xs
  | none => (match methD ([] : List (Str × Fn)) S1 x m with
    | some φ => (as σ S1).bind fun xs S2 => φ (x :: xs) S2
    | none => .bad))
/-- x.f, x.f = v, C(..) -/
def fl (cs : List Str) (f : Str) (o : XE) : XE := fun σ S => (o σ S).bind fun x S1 => ofO S1 (fldD cs S1 x f)
def mkI (C : Str) (φ : Fn) (as : XA) : XE := fun σ S => (as σ S).bind fun xs S1 => makeD C φ xs S1
def lcv (is : List Nat) (it : XI) (bd : Env → D → Option Env) (elt : XE) : XE := fun σ S => (it σ S).bind fun it S1 => (compF it (fun d S2 => match bd (wipeE σ is) d with
  | some σ2 => (elt σ2 S2).bind fun y S3 => .ok (some y) S3
  | none => .bad) loopMost 0 [] S1).bind fun ys S2 => .ok (.lst ys) S2
def lcv1 (is : List Nat) (it : XI) (bd : Env → D → Option Env) (t : XT) (elt : XE) : XE := fun σ S => (it σ S).bind fun it S1 => (compF it (fun d S2 => match bd (wipeE σ is) d with
  | some σ2 => (t σ2 S2).bind fun k S3 => if k = true then (elt σ2 S3).bind fun y S4 => .ok (some y) S4 else .ok none S3
  | none => .bad) loopMost 0 [] S1).bind fun ys S2 => .ok (.lst ys) S2
def lcm (is : List Nat) (it : XI) (bd : Env → D → Option Env) (elt : XE) : XE := fun σ S => (it σ S).bind fun it S1 => (compF it (fun d S2 => match bd (wipeE σ is) d with
  | some σ2 => (elt σ2 S2).bind fun y S3 => .ok (some y) S3
  | none => .bad) loopMost 0 [] S1).bind fun ys S2 => .ok (.ref S2.length) (S2 ++ [.lst ys])
def lcm1 (is : List Nat) (it : XI) (bd : Env → D → Option Env) (t : XT) (elt : XE) : XE := fun σ S => (it σ S).bind fun it S1 => (compF it (fun d S2 => match bd (wipeE σ is) d with
  | some σ2 => (t σ2 S2).bind fun k S3 => if k = true then (elt σ2 S3).bind fun y S4 => .ok (some y) S4 else .ok none S3
  | none => .bad) loopMost 0 [] S1).bind fun ys S2 => .ok (.ref S2.length) (S2 ++ [.lst ys])
/-- binding one name, a tuple of names -/
def b1 (i : Nat) : Env → D → Option Env := fun σ d => some (σ.set i (some d))
/-! and, or: as values -/
def andE (a b : XE) : XE := fun σ S => (a σ S).bind fun x S1 => (match truth S1 x with
  | some k => if k = true then b σ S1 else .ok x S1
  | none => .bad)
def orE (a b : XE) : XE := fun σ S => (a σ S).bind fun x S1 => (match truth S1 x with
  | some k => if k = true then .ok x S1 else b σ S1
  | none => .bad)
/-! ### tests -/
def tNot (a : XT) : XT := fun σ S => (a σ S).bind fun k S1 => .ok (!k) S1
def tAnd (a b : XT) : XT := fun σ S => (a σ S).bind fun k S1 => if k = true then b σ S1 else .ok false S1
def tOr (a b : XT) : XT := fun σ S => (a σ S).bind fun k S1 => if k = true then .ok true S1 else b σ S1
def tCm (e : XE) : XT := fun σ S => (e σ S).bind fun x S1 => (match x with
  | .bl k => .ok k S1
  | _ => .bad)
def tTr (e : XE) : XT := fun σ S => (e σ S).bind fun x S1 => ofO S1 (truth S1 x)
/-! ### arguments, bounds, items -/
def a0 : XA := fun _ S => .ok [] S
def a1 (a : XE) (as : XA) : XA := fun σ S => (a σ S).bind fun x S1 => (as σ S1).bind fun xs S2 => .ok (x :: xs) S2
def p0 : XO := fun _ S => .ok none S
def p1 (a : XE) : XO := fun σ S => (a σ S).bind fun x S1 => (match x with
  | .int i => .ok (some i) S1
  | _ => .bad)
def iv (e : XE) : XI := fun σ S => (e σ S).bind fun x S1 => ofO S1 (itersD S1 x)
def r1 (a : XE) : XI := fun σ S => (a σ S).bind fun x S1 => (match x with
  | .int j => if small62 j then .ok (rangeD 0 j) S1 else .bad
  | _ => .bad)
def r2 (a b : XE) : XI := fun σ S => (a σ S).bind fun x S1 => (b σ S1).bind fun y S2 => (match x, y with
  | .int i, .int j => if small62 i && small62 j then .ok (rangeD i j) S2 else .bad
  | _, _ => .bad)
def zen (a : XE) : XI := fun σ S => (a σ S).bind fun x S1 => ofO S1 (enumD S1 x)
def zzp (a b : XE) : XI := fun σ S => (a σ S).bind fun x S1 => (b σ S1).bind fun y S2 => ofO S2 (zipD x y)
/-! ### statements -/
abbrev XS := Env → Store → Fl
def zPass : XS := fun σ S => .nx σ S
def zBrk : XS := fun σ S => .bk σ S
def zCnt : XS := fun σ S => .ct σ S
def zRet0 : XS := fun σ S => .rt .non S
def zRet (e : XE) : XS := fun σ S => (e σ S).use σ fun x S1 => .rt x S1
def zExp (e : XE) : XS := fun σ S => (e σ S).use σ fun _ S1 => .nx σ S1
def zIf (t : XT) (a b : XS) : XS := fun σ S => (t σ S).use σ fun k S1 => if k = true then a σ S1 else b σ S1
def zSet (i : Nat) (e : XE) : XS := fun σ S => (e σ S).use σ fun d S1 => .nx (σ.set i (some d)) S1
def zTup (is : List Nat) (e : XE) : XS := fun σ S => (e σ S).use σ fun d S1 => (match bT is σ d with
  | some σ1 => .nx σ1 S1
  | none => .bad)
def zSub (o i e : XE) : XS := fun σ S => (e σ S).use σ fun d S1 => (o σ S1).use σ fun x S2 => (i σ S2).use σ fun y S3 => (match setD S3 x y d with
  | some S4 => .nx σ S4
  | none => .bad)
def zFld (cs : List Str) (f : Str) (o e : XE) : XS := fun σ S => (e σ S).use σ fun d S1 => (o σ S1).use σ fun x S2 => (match fldS cs S2 x d f with
  | some S3 => .nx σ S3
  | none => .bad)
/-- a, b = x, y -/
def zPar (is : List Nat) (as : XA) : XS := fun σ S => (as σ S).use σ fun ds S1 => if ds.length = is.length then .nx (setAll σ is ds) S1 else .bad
/-- targets of all sorts -/
def tgN (i : Nat) : D → Env → Store → Fl := fun d σ S => .nx (σ.set i (some d)) S
def tgA (cs : List Str) (f : Str) (o : XE) : D → Env → Store → Fl := fun d σ S => (o σ S).use σ fun x S2 => (match fldS cs S2 x d f with
  | some S3 => .nx σ S3
  | none => .bad)
def tgI (o i : XE) : D → Env → Store → Fl := fun d σ S => (o σ S).use σ fun x S2 => (i σ S2).use σ fun y S3 => (match setD S3 x y d with
  | some S4 => .nx σ S4
  | none => .bad)
def zMix (gs : List (D → Env → Store → Fl)) (a : XE) : XS := fun σ S => (a σ S).use σ fun d S1 => (match seqT d with
  | some ds => if ds.length = gs.length then runT gs ds σ S1 else .bad
  | none => .bad)
/-- a statement that is not served -/
def zBad : XS := fun _ _ => .bad
def xBad : XE := fun _ _ => .bad
def zWhile (t : XT) (b : XS) : XS := fun σ S => whileF t b loopMost σ S
def zFor (bd : Env → D → Option Env) (it : XI) (b : XS) : XS := fun σ S => (it σ S).use σ fun it S1 => forF it (fun d σ1 S2 => match bd σ1 d with
  | some σ2 => b σ2 S2
  | none => .bad) loopMost 0 σ S1
def zRaise (x : Str) : XS := fun σ S => .exc x σ S
/-- isinstance of the error that is held -/
def kitS (kt : Str → Str → Option Bool) (x : Str) : List Str → Option Bool
  | [] => some false
  | t :: ts => (match kt x t, kitS kt x ts with
    | some b, some r => some (b || r)
    | _, _ => none)
def isE (kt : Str → Str → Option Bool) (x : Str) (ts : List Str) : XE := fun _ S => match kitS kt x ts with
  | some b => .ok (.bl b) S
  | none => .bad
/-- try: b except y as the name of slot i: h -/
def zTry (i : Nat) (nd : Bool) (kt : Str → Str → Option Bool) (y : Str) (b : XS) (h : Str → XS) : XS := fun σ S => match b σ S with
  | .exc x σ1 S1 => (match kt x y with
    | some true => if nd && decide (σ1.length ≤ i) then .bad else hotEnd i (h x (σ1.set i none) S1)
    | some false => .exc x σ1 S1
    | none => .bad)
  | r => r
def zSeq (a b : XS) : XS := fun σ S => (a σ S).seq b
/-- a def -/
def dF (frz : Bool) (np nn : Nat) (b : XS) : Fn := fun args S =>
  if args.length = np then (match b (args.map some ++ List.replicate (nn - args.length) none) S with
    | .nx _ S' => fin frz S.length .non S'
    | .rt d S' => fin frz S.length d S'
    | .exc x _ S' => finX S.length x S'
    | _ => .bad) else .bad

/-! ### the chain -/
def Cfg.add (c : Cfg) (x : Str) (φ : Fn) : Cfg := { c with funs := fun y => if y == x then some φ else c.funs y }
structure DefR where
  nm : Str
  st : Stmt
  ps : List Str
  N : List Str
  frz : Bool
  φ : Fn
  dfl : List Int
  cl : Option Str
  fn : Str
  qual : Str
def Cfg.addM (c : Cfg) (C m : Str) (φ : Fn) : Cfg := { c with meths := fun x => if x == m then (C, φ) :: c.meths x else c.meths x }
def Cfg.addK (c : Cfg) (C : Str) (φ : Fn) : Cfg := { c with mks := fun y => if y == C then some φ else c.mks y }
def argsOf : Stmt → Arguments
  | .FunctionDef _ a _ _ _ _ _ _ _ _ => a
  | _ => ⟨[], [], none, [], [], none, []⟩
def bodyOf : Stmt → List Stmt
  | .FunctionDef _ _ b _ _ _ _ _ _ _ => b
  | _ => []
def scopeOf : Stmt → Scope
  | .FunctionDef _ _ _ _ _ _ s _ _ _ => s
  | _ => ⟨.module, [], false, false, []⟩
def DefR.pl (r : DefR) : Str × Option Str := match r.cl with
  | none => (r.nm, none)
  | some C => (C, some r.nm)
def DefR.d (r : DefR) : He.DefD := ⟨r.pl, r.fn, r.qual, argsOf r.st, bodyOf r.st, scopeOf r.st, r.dfl.map He.Dv.int, []⟩
/-- called without the parameters that have defaults -/
def DefR.ψ (r : DefR) : Fn := match r.dfl with
  | [] => r.φ
  | ds => fun xs S => if xs.length = r.ps.length then r.φ xs S else r.φ (xs ++ ds.map D.int) S
/-- what is looked at in the text of a def -/
structure DefR.Ok (r : DefR) : Prop where
  sc : C8.scC r.N r.ps (scopeOf r.st) = true
  bind : r.dfl = [] → ∀ (kV doc pm : Value) (an : Option Addr) (cdv ct : Value) (us : List Value), us.length = r.ps.length → bindArgs (PySem.W.fnOf r.fn r.qual (argsOf r.st) (bodyOf r.st) (scopeOf r.st) .none kV doc pm an cdv ct) ⟨us, []⟩ = pure (r.ps.zip us)
  bindD : r.dfl ≠ [] → r.dfl.length ≤ r.ps.length ∧ ∀ (T : Addr) (kV doc pm : Value) (an : Option Addr) (cdv ct : Value) (us its : List Value), us.length = r.ps.length - r.dfl.length → its.length = r.dfl.length →
    ∃ k, bindArgs (PySem.W.fnOf r.fn r.qual (argsOf r.st) (bodyOf r.st) (scopeOf r.st) (.ref T) kV doc pm an cdv ct) ⟨us, []⟩ = seqItems? (.ref T) >>= k ∧ k (some its.toArray) = pure (r.ps.zip (us ++ its.drop 0))
  bindF : r.dfl ≠ [] → ∀ (T : Addr) (kV doc pm : Value) (an : Option Addr) (cdv ct : Value) (us its : List Value), us.length = r.ps.length → its.length = r.dfl.length →
    ∃ k, bindArgs (PySem.W.fnOf r.fn r.qual (argsOf r.st) (bodyOf r.st) (scopeOf r.st) (.ref T) kV doc pm an cdv ct) ⟨us, []⟩ = seqItems? (.ref T) >>= k ∧ k (some its.toArray) = pure (r.ps.zip (us ++ its.drop r.dfl.length))
/-- what a def adds -/
def DefR.put (r : DefR) (c : Cfg) : Cfg := match r.cl with
  | none => c.add r.nm r.ψ
  | some C => if r.nm == "__init__" then c.addK C r.φ else c.addM C r.nm r.φ
def DefR.lev (r : DefR) : Nat := match r.cl with
  | none => 1
  | some _ => 2
def levs : List DefR → Nat
  | [] => 0
  | r :: rs => r.lev + levs rs
/-- where a def stands -/
def DefR.AtK (r : DefR) (K : PySem.W.Frag) (mg : Str → Option Value) : Prop := match r.cl with
  | none => mg r.nm = some (.ref (He.ga K r.nm))
  | some C => r.dfl = [] ∧ if r.nm == "__init__" then mg C = some (.ref (He.ga K C)) ∧ Mk K (He.ga K C) (He.ma K (He.ga K C) "__init__") else Cls K (He.ga K C) ∧ Meth K (He.ga K C) r.nm (He.ma K (He.ga K C) r.nm)
/-- def behind def: each is what the interpreter makes of its text -/
def Steps (fuel : Nat) (c : Cfg) : List DefR → Prop
  | [] => True
  | r :: rs => (r.Ok ∧ runF c r.frz r.ps r.N (scopeOf r.st) fuel (bodyOf r.st) = r.φ) ∧ Steps fuel (r.put c) rs
def allC (c : Cfg) : List DefR → Cfg
  | [] => c
  | r :: rs => allC (r.put c) rs
theorem put_hot {r : DefR} {c : Cfg} (h : c.hot = none) : (r.put c).hot = none := by
  unfold DefR.put
  split
  · exact h
  · split <;> exact h
section
variable {P : Program} {w : World} {K : PySem.W.Frag} {mg : Str → Option Value} {base : Heap} {cA : CA} {k : Nat} {c : Cfg}
/-- the same, at a greater height -/
theorem CfgOk.up {j : Nat} (C : CfgOk P w K mg base cA k c) (h : k ≤ j) : CfgOk P w K mg base cA j c :=
  ⟨fun x φ q => by
    obtain ⟨f, fd, ps, ds, dvs, dds, φ0, h1, h2⟩ := C.fn x φ q
    exact ⟨f, fd, ps, ds, dvs, dds, φ0, h1.mono h, h2⟩, C.var, C.free, C.exc, C.fld, C.dk, fun m D φ q => by
    obtain ⟨f, fd, ps, h1, h2, h3, h4⟩ := C.meth m D φ q
    exact ⟨f, fd, ps, h1, h2, h3.mono h, h4⟩, fun D φ q => by
    obtain ⟨h0, i, f, fd, ps, h1, h2⟩ := C.mkr D φ q
    exact ⟨h0, i, f, fd, ps, Nat.le_trans h1 h, h2⟩, C.kit⟩
theorem CfgOk.add {x : Str} {φ : Fn} {f : Addr} {fd : FuncData} {ps : List Str} (C : CfgOk P w K mg base cA k c) (F : FnOk P w K mg base (L2.CX P w) (k + 1) f fd ps (spOf K cA φ)) (hm : mg x = some (.ref f)) (hk : PySem.W.keepIn K (.ref f) = true) (hb : Binds K fd ps []) :
    CfgOk P w K mg base cA (k + 1) (c.add x φ) := by
  have U := C.up (Nat.le_succ k)
  refine ⟨fun y ψ h => ?_, U.var, U.free, U.exc, U.fld, U.dk, U.meth, U.mkr, U.kit⟩
  have h : (if (y == x) = true then some φ else c.funs y) = some ψ := h
  split at h
  · next e =>
    cases h
    have e : y = x := eq_of_beq e
    subst e
    exact ⟨f, fd, ps, [], [], [], φ, F, hm, hk, hb, .nil, fun _ _ => .nil, .inl (by simp)⟩
  · obtain ⟨f, fd, ps, ds, dvs, dds, φ0, h1, h2⟩ := C.fn y ψ h
    exact ⟨f, fd, ps, ds, dvs, dds, φ0, h1.mono (Nat.le_succ k), h2⟩
theorem allC_hot : ∀ {rs : List DefR} {c : Cfg}, c.hot = none → (allC c rs).hot = none
  | [], _, h => h
  | r :: rs, c, h => allC_hot (rs := rs) (c := r.put c) (put_hot h)
theorem CfgOk.addM {D m : Str} {φ : Fn} {f : Addr} {fd : FuncData} {ps : List Str} (C : CfgOk P w K mg base cA k c) (F : FnOk P w K mg base (L2.CX P w) k f fd ps (spOf K cA φ)) (c1 : Cls K (cA D)) (c2 : Meth K (cA D) m f) (hb : Binds K fd ps []) :
    CfgOk P w K mg base cA k (c.addM D m φ) := by
  refine ⟨C.fn, C.var, C.free, C.exc, C.fld, C.dk, fun y E ψ h => ?_, C.mkr, C.kit⟩
  replace h : (if (y == m) = true then (D, φ) :: c.meths y else c.meths y).lookup E = some ψ := h
  by_cases e : (y == m) = true
  · rw [if_pos e] at h
    have e : y = m := eq_of_beq e
    subst e
    rw [List.lookup_cons] at h
    cases q : E == D with
    | true =>
      rw [q] at h
      cases h
      rw [beq_iff_eq.mp q]
      exact ⟨f, fd, ps, c1, c2, F, hb⟩
    | false =>
      rw [q] at h
      exact C.meth _ E ψ h
  · rw [if_neg e] at h
    exact C.meth y E ψ h
theorem CfgOk.addK {D : Str} {φ : Fn} {f : Addr} {fd : FuncData} {ps : List Str} {j : Nat} (C : CfgOk P w K mg base cA k c) (F : FnOk P w K mg base (L2.CX P w) j f fd ps (spOf K cA φ)) (hj : j + 1 ≤ k) (c1 : mg D = some (.ref (cA D))) (c2 : Mk K (cA D) f) (hb : Binds K fd ps []) :
    CfgOk P w K mg base cA k (c.addK D φ) := by
  refine ⟨C.fn, C.var, C.free, C.exc, C.fld, C.dk, C.meth, fun E ψ h => ?_, C.kit⟩
  have h : (if (E == D) = true then some φ else c.mks E) = some ψ := h
  split at h
  · next e =>
    cases h
    have e : E = D := eq_of_beq e
    subst e
    exact ⟨c1, j, f, fd, ps, hj, c2, F, hb⟩
  · exact C.mkr E ψ h
theorem CfgOk.addD {x : Str} {φ ψ : Fn} {f : Addr} {fd : FuncData} {ps : List Str} {ds : List Value} {is : List Int} (C : CfgOk P w K mg base cA k c) (F : FnOk P w K mg base (L2.CX P w) (k + 1) f fd ps (spOf K cA φ)) (hm : mg x = some (.ref f)) (hk : PySem.W.keepIn K (.ref f) = true) (hb : Binds K fd ps ds) (hd : Vals (is.map V.int) ds) (hb0 : Binds K fd ps [])
    (hψ : ψ = fun xs S => if xs.length = ps.length then φ xs S else φ (xs ++ is.map D.int) S) : CfgOk P w K mg base cA (k + 1) (c.add x ψ) := by
  have U := C.up (Nat.le_succ k)
  refine ⟨fun y χ h => ?_, U.var, U.free, U.exc, U.fld, U.dk, U.meth, U.mkr, U.kit⟩
  have h : (if (y == x) = true then some ψ else c.funs y) = some χ := h
  split at h
  · next e =>
    cases h
    have e : y = x := eq_of_beq e
    subst e
    refine ⟨f, fd, ps, ds, is.map V.int, is.map D.int, φ, F, hm, hk, hb, hd, fun ρ H => ?_, .inr ⟨hb0, hψ⟩⟩
    clear hψ hd
    induction is with
    | nil => exact .nil
    | cons i is ih => exact .cons (.int i) ih
  · obtain ⟨f, fd, ps, ds, dvs, dds, φ0, h1, h2⟩ := C.fn y χ h
    exact ⟨f, fd, ps, ds, dvs, dds, φ0, h1.mono (Nat.le_succ k), h2⟩
/-- one def more -/
theorem CfgOk.step {r : DefR} {fd : FuncData} (hA : ∀ C, cA C = He.ga K C) (C : CfgOk P w K mg base cA k c) (ok : r.Ok) (F : FunD K r.fn r.qual (argsOf r.st) (bodyOf r.st) (scopeOf r.st) (r.dfl.map V.int) [] (He.fAd K r.pl) fd) (FO : FnOk P w K mg base (L2.CX P w) (k + 1) (He.fAd K r.pl) fd r.ps (spOf K cA r.φ)) (hm : r.AtK K mg) :
    CfgOk P w K mg base cA (k + r.lev) (r.put c) := by
  unfold DefR.AtK at hm
  unfold DefR.put DefR.lev
  unfold DefR.pl at F FO
  cases hc : r.cl with
  | none =>
    rw [hc] at hm
    simp only [hc] at F FO hm ⊢
    have F : FunD K r.fn r.qual (argsOf r.st) (bodyOf r.st) (scopeOf r.st) (r.dfl.map V.int) [] (He.ga K r.nm) fd := F
    have FO : FnOk P w K mg base (L2.CX P w) (k + 1) (He.ga K r.nm) fd r.ps (spOf K cA r.φ) := FO
    by_cases h : r.dfl = []
    · have e : r.ψ = r.φ := by unfold DefR.ψ; rw [h]
      rw [e]
      have F' := F
      rw [h] at F'
      exact C.add FO hm F.kp (F'.bindsN (ok.bind h))
    · have e : r.ψ = fun xs S => if xs.length = r.ps.length then r.φ xs S else r.φ (xs ++ r.dfl.map D.int) S := by
        unfold DefR.ψ
        split
        · next q => exact absurd q h
        · rfl
      obtain ⟨hl, hb⟩ := ok.bindD h
      obtain ⟨ds, hd, bs⟩ := F.binds1 (r.ps.length - r.dfl.length) 0 (fun z => h (List.map_eq_nil_iff.mp z)) (by rw [List.length_map]; omega)
        (fun T kV doc pm an cdv ct us its h1 h2 => hb T kV doc pm an cdv ct us its h1 (by rw [List.length_map] at h2; exact h2))
      obtain ⟨ds0, hd0, bs0⟩ := F.binds1 r.ps.length r.dfl.length (fun z => h (List.map_eq_nil_iff.mp z)) (by rw [List.length_map]; omega)
        (fun T kV doc pm an cdv ct us its h1 h2 => ok.bindF h T kV doc pm an cdv ct us its h1 (by rw [List.length_map] at h2; exact h2))
      have hd0 : Vals ((r.dfl.map V.int).drop r.dfl.length) ds0 := hd0
      rw [List.drop_of_length_le (by rw [List.length_map]; exact Nat.le_refl _)] at hd0
      cases hd0
      exact C.addD FO hm F.kp bs hd bs0 e
  | some D =>
    rw [hc] at hm
    simp only [hc] at F FO hm ⊢
    obtain ⟨hd, hm⟩ := hm
    have F' := F
    rw [hd] at F'
    have B := F'.bindsN (ok.bind hd)
    have U := C.up (show k ≤ k + 2 by omega)
    split
    · next e =>
      rw [if_pos e] at hm
      have e : r.nm = "__init__" := eq_of_beq e
      rw [e] at FO
      exact U.addK (j := k + 1) FO (Nat.le_refl _) (by rw [hA]; exact hm.1) (by rw [hA]; exact hm.2) B
    · next e =>
      rw [if_neg e] at hm
      exact U.addM (FO.mono (by omega)) (by rw [hA]; exact hm.1) (by rw [hA]; exact hm.2) B
theorem chain {fuel : Nat} (hA : ∀ C, cA C = He.ga K C) (hp : cA.pin = none) : ∀ {rs : List DefR} {k : Nat} {c : Cfg}, c.hot = none → Steps fuel c rs → CfgOk P w K mg base cA k c →
    (∀ r ∈ rs, r.AtK K mg ∧ ∃ fd, FunD K r.fn r.qual (argsOf r.st) (bodyOf r.st) (scopeOf r.st) (r.dfl.map V.int) [] (He.fAd K r.pl) fd) →
    CfgOk P w K mg base cA (k + levs rs) (allC c rs)
  | [], k, c, _, _, C, _ => C
  | r :: rs, k, c, hot, st, C, h => by
    obtain ⟨⟨ok, e⟩, st⟩ := st
    obtain ⟨hm, fd, F⟩ := h r (List.mem_cons_self ..)
    have FO := fn_ok (cA := cA) (fuel := fuel) (frz := r.frz) F (C8.fnScope_by ok.sc) C hot hp
    rw [e] at FO
    have := chain hA hp (c := r.put c) (put_hot hot) st (C.step hA ok F FO hm) fun r' hr => h r' (List.mem_cons_of_mem _ hr)
    have e2 : k + levs (r :: rs) = k + r.lev + levs rs := by show k + (r.lev + levs rs) = _; omega
    rw [e2]
    exact this
end
end Q
/-! Q13: the end: from the interpreter's answer to the row. -/
namespace Q
open PySem PySem.Spec PyProof.Rows L2
/-! ### what stands behind the top -/
abbrev KitT := List (Str × List (Str × Bool))
def kitOf (kt : KitT) (x y : Str) : Option Bool := match kt.lookup x with
  | some ys => ys.lookup y
  | none => none
abbrev FldT := List (Str × List Str)
/-- results of operators that go into the store: where -/
abbrev MutB := List (Nat × Nat × Nat × Nat)
/-- dicts of the top, by their keys -/
abbrev DkT := List (Str × List Str)
def cfg0 (cs : List (Str × D)) (frees excs : List Str) (muts : List (Nat × Nat)) (kt : KitT) (ft : FldT) (mb : MutB) (ts : DkT) : Cfg where
  flds := fun f => (ft.lookup f).getD []
  funs := fun _ => none
  vars := fun x => cs.lookup x
  free := fun x => frees.contains x
  mutl := fun p => muts.contains (p.line, p.col)
  excs := fun x => excs.contains x
  kits := kitOf kt
  mutb := fun p => mb.contains (p.line, p.col, p.endLine, p.endCol)
  dks := fun g => ts.lookup g
mutual
/-- a written value -/
def repB (K : PySem.W.Frag) : D → Value → Bool
  | .non, .none => true
  | .bl b, .bool c => b == c
  | .int i, .int j _ => decide (i = j)
  | .str x, .str y _ => decide (x = y)
  | .tup ds, .ref a => (match K.lookup a with
    | some ⟨.type c, _, .seq its _, _⟩ => decide (c = "tuple") && (decide (its.size ≤ sizeLine) && repsB K ds its.toList)
    | _ => false)
  | .lst ds, .ref a => (match K.lookup a with
    | some ⟨.type c, none, .seq its _, _⟩ => decide (c = "list") && (decide (its.size ≤ sizeLine) && repsB K ds its.toList)
    | _ => false)
  | _, _ => false
def repsB (K : PySem.W.Frag) : List D → List Value → Bool
  | [], [] => true
  | d :: ds, u :: us => repB K d u && repsB K ds us
  | _, _ => false
end
mutual
theorem repB_ok {K : PySem.W.Frag} : ∀ (d : D) (u : Value), repB K d u = true → ∃ v, RelV v u ∧ ∀ ρ H, Rep K ρ H d v
  | .non, .none, _ => ⟨.non, rfl, fun _ _ => .non⟩
  | .bl b, .bool c, h => by
    have e : b = c := eq_of_beq (by simpa [repB] using h)
    subst e
    exact ⟨.bl b, rfl, fun _ _ => .bl b⟩
  | .int i, .int j t, h => by
    have e : i = j := of_decide_eq_true (by simpa [repB] using h)
    subst e
    exact ⟨.int i, ⟨t, rfl⟩, fun _ _ => .int i⟩
  | .str i, .str j t, h => by
    have e : i = j := of_decide_eq_true (by simpa [repB] using h)
    subst e
    exact ⟨.str i, ⟨t, rfl⟩, fun _ _ => .str i⟩
  | .tup ds, .ref a, h => by
    unfold repB at h
    split at h
    · next c od its n sl q =>
      simp only [Bool.and_eq_true, decide_eq_true_eq] at h
      obtain ⟨hc, hz, hr⟩ := h
      obtain ⟨vs, h1, h2⟩ := repsB_ok ds its.toList hr
      exact ⟨.ref a, rfl, fun ρ H => .tup (.inr ⟨_, its, n, q, by rw [hc], rfl, hz, h1⟩) (h2 ρ H)⟩
    · cases h
  | .lst ds, .ref a, h => by
    unfold repB at h
    split at h
    · next c its n sl q =>
      simp only [Bool.and_eq_true, decide_eq_true_eq] at h
      obtain ⟨hc, hz, hr⟩ := h
      obtain ⟨vs, h1, h2⟩ := repsB_ok ds its.toList hr
      exact ⟨.ref a, rfl, fun ρ H => .lst (.inr ⟨_, its, n, q, by rw [hc], rfl, rfl, hz, h1⟩) (h2 ρ H)⟩
    · cases h
  | .ref _, _, h => by simp [repB] at h
  | .non, .ellipsis, h | .non, .notImplemented, h | .non, .bool _, h | .non, .int _ _, h | .non, .float _ _, h | .non, .str _ _, h | .non, .bytes _ _, h | .non, .type _, h | .non, .builtin _, h | .non, .ref _, h => by simp [repB] at h
  | .bl _, .none, h | .bl _, .ellipsis, h | .bl _, .notImplemented, h | .bl _, .int _ _, h | .bl _, .float _ _, h | .bl _, .str _ _, h | .bl _, .bytes _ _, h | .bl _, .type _, h | .bl _, .builtin _, h | .bl _, .ref _, h => by simp [repB] at h
  | .int _, .none, h | .int _, .ellipsis, h | .int _, .notImplemented, h | .int _, .bool _, h | .int _, .float _ _, h | .int _, .str _ _, h | .int _, .bytes _ _, h | .int _, .type _, h | .int _, .builtin _, h | .int _, .ref _, h => by simp [repB] at h
  | .str _, .none, h | .str _, .ellipsis, h | .str _, .notImplemented, h | .str _, .bool _, h | .str _, .int _ _, h | .str _, .float _ _, h | .str _, .bytes _ _, h | .str _, .type _, h | .str _, .builtin _, h | .str _, .ref _, h => by simp [repB] at h
  | .tup _, .none, h | .tup _, .ellipsis, h | .tup _, .notImplemented, h | .tup _, .bool _, h | .tup _, .int _ _, h | .tup _, .float _ _, h | .tup _, .str _ _, h | .tup _, .bytes _ _, h | .tup _, .type _, h | .tup _, .builtin _, h => by simp [repB] at h
  | .lst _, .none, h | .lst _, .ellipsis, h | .lst _, .notImplemented, h | .lst _, .bool _, h | .lst _, .int _ _, h | .lst _, .float _ _, h | .lst _, .str _ _, h | .lst _, .bytes _ _, h | .lst _, .type _, h | .lst _, .builtin _, h => by simp [repB] at h
theorem repsB_ok {K : PySem.W.Frag} : ∀ (ds : List D) (us : List Value), repsB K ds us = true → ∃ vs, Vals vs us ∧ ∀ ρ H, Reps K ρ H ds vs
  | [], [], _ => ⟨[], .nil, fun _ _ => .nil⟩
  | d :: ds, u :: us, h => by
    have h : (repB K d u && repsB K ds us) = true := by simpa [repsB] using h
    rw [Bool.and_eq_true] at h
    obtain ⟨v, h1, h2⟩ := repB_ok d u h.1
    obtain ⟨vs, h3, h4⟩ := repsB_ok ds us h.2
    exact ⟨v :: vs, .cons h1 h3, fun ρ H => .cons (h2 ρ H) (h4 ρ H)⟩
  | [], _ :: _, h => by simp [repsB] at h
  | _ :: _, [], h => by simp [repsB] at h
end
def conB (cs : List (Str × D)) (K : PySem.W.Frag) : Bool := cs.all fun q => match PySem.W.nsIn K mainGlobals q.1 with
  | some (some u) => repB K q.2 u
  | _ => false
/-- an exception class of the program that isinstance asks -/
def excCB (K : PySem.W.Frag) (D : Addr) : Bool :=
  (PySem.W.findIn K (.ref D) "__getattribute__" == some (some (.builtin "BaseException.__getattribute__"))) && ((PySem.W.findIn K (.ref D) "__getattr__" == some none) && ((PySem.W.subIn K (.ref D) (.type "BaseException") == some true) && (PySem.W.hasDictIn K D &&
  ((PySem.W.findIn K (.ref D) "__class__" == some (some (.builtin "object.__class__"))) && ((PySem.W.specialIn K (.builtin "object.__class__") "__get__" == some (some (.builtin "getset_descriptor.__get__"))) && ((PySem.W.takesIn K (.builtin "object.__class__") == some true) && (PySem.W.mroIn K D (.type "object") == some true)))))))
theorem excCB_ok {K : PySem.W.Frag} {D : Addr} (h : excCB K D = true) : ExcC K D := by
  unfold excCB at h
  simp only [Bool.and_eq_true, beq_iff_eq] at h
  obtain ⟨h1, h2, h3, h4, h5, h6, h7, h8⟩ := h
  exact ⟨h1, h2, h3, h4, h5, h6, h7, h8⟩
def kitB1 (frees : List Str) (K : PySem.W.Frag) (x y : Str) (b : Bool) : Bool := match PySem.W.nsIn K mainGlobals y with
  | some (some (.ref a)) => (PySem.W.kitOne K (.ref (He.ga K x)) (.ref a) == some b) && (PySem.W.exmOne K (.ref (He.ga K x)) (.ref a) == some b)
  | _ => frees.contains y && (match bootBuiltins y with
    | some (.type n) => (PySem.W.kitOne K (.ref (He.ga K x)) (.type n) == some b) && (PySem.W.exmOne K (.ref (He.ga K x)) (.type n) == some b)
    | _ => false)
def kitB (kt : KitT) (frees : List Str) (K : PySem.W.Frag) : Bool := kt.all fun q => excCB K (He.ga K q.1) && q.2.all fun r => kitB1 frees K q.1 r.1 r.2
/-! ### the Hook: the defs, the facts, the constants -/
def refsQ (g : Addr → Option Obj) (a : Addr) : List Addr := match g a with
  | some o => He.refsD o
  | none => []
/-- addresses not met yet; those met are bits of a number -/
def newQ : List Addr → Nat → List Addr → (Nat → List Addr → List Addr) → List Addr
  | [], s, r, k => k s r
  | a :: as, s, r, k => match Nat.beq (Nat.mod (Nat.shiftRight s a) 2) 1 with
    | true => newQ as s r k
    | false => newQ as (Nat.add s (Nat.pow 2 a)) (a :: r) k
def bfsQ (g : Addr → Option Obj) : Nat → Nat → List Addr → List Addr → List Addr
  | 0, _, _, acc => acc
  | n + 1, s, fr, acc => newQ (fr.flatMap (refsQ g)) s [] fun s' r => bfsQ g n s' r (acc ++ r)
/-- what the module's names reach in n steps -/
def asQ (g : Addr → Option Obj) (n : Nat) : List Addr := bfsQ g n (Nat.pow 2 mainGlobals) [mainGlobals] [mainGlobals]
/-- a dict of the top: its keys, with their hashes -/
abbrev DkO := List (Option (List (Option (Str × Int))))
def dkW (K : PySem.W.Frag) (x : Str) : Option (List (Option (Str × Int))) := match PySem.W.nsIn K mainGlobals x with
  | some (some (.ref a)) => He.dicW K a
  | _ => none
def dkO (K : PySem.W.Frag) (ts : DkT) : DkO := ts.map fun t => dkW K t.1
def dkV (w : World) (ts : DkT) : DkO := ts.map fun t => some (He.keysIn w.params t.2)
abbrev AlQ := (He.AlD × Bool) × DkO
def obsK (fa : List He.Fa) (fn : List He.DefD) (cs : List (Str × D)) (kt : KitT) (frees : List Str) (ts : DkT) (K : PySem.W.Frag) : AlQ := ((He.obsD fa fn K, conB cs K && kitB kt frees K), dkO K ts)
def obsE (n : Nat) (fa : List He.Fa) (fn : List He.DefD) (cs : List (Str × D)) (kt : KitT) (frees : List Str) (ts : DkT) (g : Addr → Option Obj) : AlQ := obsK fa fn cs kt frees ts (He.frG g (asQ g n))
def SaysQ (fa : List He.Fa) (fn : List He.DefD) (cs : List (Str × D)) (kt : KitT) (frees : List Str) (ts : DkT) (w : World) (K : PySem.W.Frag) : Prop := He.SaysD fa fn K ∧ (conB cs K && kitB kt frees K) = true ∧ dkO K ts = dkV w ts
def hookE (n : Nat) (fa : List He.Fa) (fn : List He.DefD) (cs : List (Str × D)) (kt : KitT) (frees : List Str) (ts : DkT) : PySem.W.Hook where
  α := AlQ
  obs := fun s => obsE n fa fn cs kt frees ts s.heap.get?
  val := fun w => ((He.valD fn, true), dkV w ts)
  says := fun w h => ∃ K : PySem.W.Frag, K.In h ∧ SaysQ fa fn cs kt frees ts w K
  of := fun _ _ e => ⟨_, He.frG_in, congrArg (fun z : AlQ => z.1.1) e, congrArg (fun z : AlQ => z.1.2) e, congrArg (fun z : AlQ => z.2) e⟩
  keeps := fun _ _ _ ⟨K, hK, c⟩ k => ⟨K, PySem.W.Frag.In.keeps hK k, c⟩
theorem keys_any {P : Params} : ∀ {l : List DictEntry} {ks : List Str}, l.map He.keyOf = He.keysIn P ks → ∀ z : Str, (∃ r, (match l.find? (·.key.isStr z) with
      | some e => some (some e.val)
      | none => if l.any (·.refKey) then none else some none) = some r ∧ r.isSome = ks.contains z)
  | [], [], _, z => ⟨none, rfl, rfl⟩
  | [], _ :: _, h, _ => by cases h
  | _ :: _, [], h, _ => by cases h
  | e :: l, k :: ks, h, z => by
    have h1 : He.keyOf e :: l.map He.keyOf = some (k, PyData.keyHash P k) :: He.keysIn P ks := h
    injection h1 with h2 h3
    obtain ⟨r, q1, q2⟩ := keys_any h3 z
    unfold He.keyOf at h2
    split at h2
    · rename_i x t q
      have h4 := Option.some.inj h2
      obtain ⟨h5, -⟩ := Prod.mk.inj h4
      subst h5
      have rk : e.refKey = false := by unfold DictEntry.refKey; rw [q]
      by_cases c : x = z
      · refine ⟨some e.val, ?_, ?_⟩
        · have : e.key.isStr z = true := by rw [q, c]; simp [Value.isStr]
          rw [List.find?_cons, this]
        · rw [List.contains_cons, c]; simp
      · refine ⟨r, ?_, ?_⟩
        · have : e.key.isStr z = false := by rw [q]; simp [Value.isStr, c]
          rw [List.find?_cons, this, List.any_cons, rk, Bool.false_or]
          exact q1
        · rw [q2, List.contains_cons]
          have : (z == x) = false := by simpa using fun e => c e.symm
          rw [this, Bool.false_or]
    · cases h2
theorem dk_says {w : World} {K : PySem.W.Frag} {ts : DkT} (h : dkO K ts = dkV w ts) {g : Str} {ks : List Str} (hg : (g, ks) ∈ ts) : ∃ a es n, PySem.W.nsIn K mainGlobals g = some (some (.ref a)) ∧ KDict K w a es n ∧ ∀ z, ∃ r, PySem.W.nsIn K a z = some r ∧ r.isSome = ks.contains z := by
  have e : dkW K g = some (He.keysIn w.params ks) := (List.map_inj_left.mp h) (g, ks) hg
  unfold dkW at e
  split at e
  · next a q =>
    obtain ⟨es, n, kd⟩ := He.dicW_ok e
    refine ⟨a, es, n, q, kd, fun z => ?_⟩
    have e2 : es.toList.map He.keyOf = He.keysIn w.params ks := by
      unfold He.dicW at e
      rw [kd.at_] at e
      simp only at e
      split at e
      · exact Option.some.inj e
      · cases e
    have := keys_any e2 z
    unfold PySem.W.nsIn
    rw [kd.at_]
    exact this
  · cases e
theorem obsE_eq {n : Nat} {fa : List He.Fa} {fn : List He.DefD} {cs : List (Str × D)} {kt : KitT} {frees : List Str} {ts : DkT} {g : Addr → Option Obj} {s : Shared} (h : ∀ a, g a = s.heap.get? a) : obsE n fa fn cs kt frees ts g = (hookE n fa fn cs kt frees ts).obs s := by
  have e : g = s.heap.get? := funext h
  rw [e] <;> rfl
def DefR.fas (r : DefR) : List He.Fa := match r.cl with
  | none => [.glo r.nm]
  | some C => if r.nm == "__init__" then [.glo C, .mkr C] else [.cls C, .meth C r.nm]
def factsF (ft : FldT) : List He.Fa := ft.flatMap fun q => q.2.flatMap fun C => [.cls C, .noat C q.1]
def facts (rs : List DefR) (frees excs : List Str) (ft : FldT) : List He.Fa := rs.flatMap DefR.fas ++ (frees.map .free ++ (excs.map .glo ++ (excs.map .exc ++ factsF ft)))
theorem at_of {r : DefR} {K : PySem.W.Frag} {mg : Str → Option Value} {h : Heap} (X : K.In h) (G : h.Ns mainGlobals mg) (hd : r.cl = none ∨ r.dfl = []) (c : ∀ f ∈ r.fas, f.ok K = true) : r.AtK K mg := by
  unfold DefR.fas at c
  unfold DefR.AtK
  cases e : r.cl with
  | none =>
    rw [e] at c
    exact He.glo_ok X G (c _ (List.mem_cons_self ..))
  | some C =>
    rw [e] at c
    refine ⟨hd.resolve_left (by rw [e]; simp), ?_⟩
    simp only at c
    split
    · next z =>
      rw [if_pos z] at c
      exact ⟨He.glo_ok X G (c _ (List.mem_cons_self ..)), He.mkr_ok (c _ (List.mem_cons_of_mem _ (List.mem_cons_self ..)))⟩
    · next z =>
      rw [if_neg z] at c
      exact ⟨He.cls_ok (c _ (List.mem_cons_self ..)), He.meth_ok (c _ (List.mem_cons_of_mem _ (List.mem_cons_self ..)))⟩
theorem lookup_mem' {β : Type} {x : Str} {d : β} : ∀ {l : List (Str × β)}, l.lookup x = some d → (x, d) ∈ l
  | [], h => by cases h
  | (b, u) :: r, h => by
    rw [List.lookup_cons] at h
    split at h
    · next q =>
      cases h
      rw [beq_iff_eq.mp q]
      exact List.mem_cons_self ..
    · exact List.mem_cons_of_mem _ (lookup_mem' h)
section
variable {P : Program} {w : World} {K : PySem.W.Frag} {mg : Str → Option Value} {base h : Heap}
theorem cfg_start {fa : List He.Fa} {fn : List He.DefD} {cs : List (Str × D)} {frees excs : List Str} {muts : List (Nat × Nat)} {kt : KitT} {ft : FldT} {mb : MutB} {ts : DkT} (X : K.In h) (G : h.Ns mainGlobals mg) (c : He.SaysD fa fn K) (cc : conB cs K = true) (ck : kitB kt frees K = true) (cd : dkO K ts = dkV w ts)
    (hf : ∀ x ∈ frees, He.Fa.free x ∈ fa) (he : ∀ x ∈ excs, He.Fa.glo x ∈ fa ∧ He.Fa.exc x ∈ fa) (hft : ∀ f ∈ factsF ft, f ∈ fa) : CfgOk P w K mg base ⟨He.ga K, none⟩ 0 (cfg0 cs frees excs muts kt ft mb ts) where
  fn := fun x φ h => by cases h
  var := fun x d h => by
    have h : cs.lookup x = some d := h
    have hm : (x, d) ∈ cs := lookup_mem' h
    have := List.all_eq_true.mp cc _ hm
    split at this
    · next u q =>
      obtain ⟨v, h1, h2⟩ := repB_ok d u this
      exact ⟨u, v, PySem.W.mg_of X G q, h1, h2⟩
    · cases this
  free := fun x h => by
    have h : x ∈ frees := List.contains_iff_mem.mp h
    exact He.free_ok X G (c.facts (hf x h))
  exc := fun x h => by
    have h : x ∈ excs := List.contains_iff_mem.mp h
    obtain ⟨h1, h2⟩ := he x h
    obtain ⟨q1, q2, q3, q4⟩ := He.exc_ok (c.facts h2)
    exact ⟨He.glo_ok X G (c.facts h1), q1, q2, q3, q4⟩
  fld := fun C f h => by
    have h : ((ft.lookup f).getD []).contains C = true := h
    cases q : ft.lookup f with
    | none => rw [q] at h; cases h
    | some Cs =>
      rw [q] at h
      have h : C ∈ Cs := List.contains_iff_mem.mp h
      have m : ∀ z ∈ [He.Fa.cls C, He.Fa.noat C f], z ∈ fa := fun z hz => hft z (List.mem_flatMap.mpr ⟨(f, Cs), lookup_mem' q, List.mem_flatMap.mpr ⟨C, h, hz⟩⟩)
      exact ⟨He.cls_ok (c.facts (m _ (List.mem_cons_self ..))), He.noat_ok (c.facts (m _ (List.mem_cons_of_mem _ (List.mem_cons_self ..))))⟩
  dk := fun g ks h => by
    obtain ⟨a, es, n, q1, q2, q3⟩ := dk_says cd (lookup_mem' h)
    exact ⟨a, es, n, PySem.W.mg_of X G q1, q2, q3⟩
  meth := fun _ _ _ h => by cases h
  mkr := fun _ _ h => by cases h
  kit := fun x y b h => by
    have h : kitOf kt x y = some b := h
    unfold kitOf at h
    split at h
    · next ys q =>
      have h1 := List.all_eq_true.mp ck _ (lookup_mem' q)
      simp only [Bool.and_eq_true] at h1
      have h2 := List.all_eq_true.mp h1.2 _ (lookup_mem' h)
      unfold kitB1 at h2
      split at h2
      · next a z =>
        rw [Bool.and_eq_true, beq_iff_eq, beq_iff_eq] at h2
        exact ⟨.ref a, .ref a, .inl ⟨PySem.W.mg_of X G z, rfl⟩, .own a, h2.1, h2.2, excCB_ok h1.1⟩
      · rw [Bool.and_eq_true] at h2
        obtain ⟨h3, h4⟩ := h2
        split at h4
        · next n z =>
          rw [Bool.and_eq_true, beq_iff_eq, beq_iff_eq] at h4
          exact ⟨.ty n, .type n, .inr ⟨He.free_ok X G (c.facts (hf y (List.contains_iff_mem.mp h3))), z, rfl⟩, .ty n, h4.1, h4.2, excCB_ok h1.1⟩
        · cases h4
    · cases h
theorem all_ok {rs : List DefR} {r : DefR} {cs : List (Str × D)} {frees excs : List Str} {muts : List (Nat × Nat)} {kt : KitT} {ft : FldT} {mb : MutB} {ts : DkT} {fuel : Nat} (X : K.In h) (G : h.Ns mainGlobals mg) (c : He.SaysD (facts (rs ++ [r]) frees excs ft) ((rs ++ [r]).map DefR.d) K) (cc : conB cs K = true) (ck : kitB kt frees K = true) (cd : dkO K ts = dkV w ts)
    (st : Steps fuel (cfg0 cs frees excs muts kt ft mb ts) rs) (ok : r.Ok) (hD : r.dfl = []) (hC : r.cl = none) (hcl : rs.all (fun q => q.cl.isNone || q.dfl.isEmpty) = true) (e : runF (allC (cfg0 cs frees excs muts kt ft mb ts) rs) r.frz r.ps r.N (scopeOf r.st) fuel (bodyOf r.st) = r.φ) :
    mg r.nm = some (.ref (He.ga K r.nm)) ∧ ∃ fd, (∀ (s : Shared) (us : List Value), us.length = r.ps.length → BindsTo s fd ⟨us, []⟩ (r.ps.zip us)) ∧
      ∀ base : Heap, FnOk P w K mg base (L2.CX P w) (levs rs + 1) (He.ga K r.nm) fd r.ps (spOf K ⟨He.ga K, none⟩ r.φ) := by
  have fa : ∀ q ∈ rs ++ [r], ∀ f ∈ q.fas, f ∈ facts (rs ++ [r]) frees excs ft := fun q hq f hf => List.mem_append_left _ (List.mem_flatMap.mpr ⟨q, hq, hf⟩)
  have cl : ∀ q ∈ rs ++ [r], q.cl = none ∨ q.dfl = [] := fun q hq => by
    rcases List.mem_append.mp hq with h | h
    · have := List.all_eq_true.mp hcl q h
      rw [Bool.or_eq_true] at this
      exact this.imp Option.isNone_iff_eq_none.mp List.isEmpty_iff.mp
    · exact .inl (by rw [List.mem_singleton.mp h]; exact hC)
  have df : ∀ q ∈ rs ++ [r], q.AtK K mg ∧ ∃ fd, FunD K q.fn q.qual (argsOf q.st) (bodyOf q.st) (scopeOf q.st) (q.dfl.map V.int) [] (He.fAd K q.pl) fd := fun q hq => by
    obtain ⟨fd, F⟩ := c.defs (List.mem_map_of_mem (f := DefR.d) hq)
    have e : He.DefD.dvs K q.d = q.dfl.map V.int := by
      show (q.dfl.map He.Dv.int).map (He.Dv.v K) = _
      rw [List.map_map]; rfl
    have F' : FunD K q.fn q.qual (argsOf q.st) (bodyOf q.st) (scopeOf q.st) (He.DefD.dvs K q.d) [] (He.fAd K q.pl) fd := F
    rw [e] at F'
    exact ⟨at_of X G (cl q hq) fun f hf => c.facts (fa q hq f hf), fd, F'⟩
  obtain ⟨hm, fd, F⟩ := df r (by simp)
  have hm : mg r.nm = some (.ref (He.ga K r.nm)) := by
    unfold DefR.AtK at hm
    rw [hC] at hm
    exact hm
  have ea : He.fAd K r.pl = He.ga K r.nm := by
    unfold DefR.pl
    rw [hC]
    rfl
  rw [hD, ea] at F
  refine ⟨hm, fd, fun s us hl => F.bindsA (ok.bind hD) s us hl, fun base => ?_⟩
  have C0 : CfgOk P w K mg base ⟨He.ga K, none⟩ 0 (cfg0 cs frees excs muts kt ft mb ts) := cfg_start X G c cc ck cd
    (fun x hx => List.mem_append_right _ (List.mem_append_left _ (List.mem_map_of_mem hx)))
    (fun x hx => ⟨List.mem_append_right _ (List.mem_append_right _ (List.mem_append_left _ (List.mem_map_of_mem hx))), List.mem_append_right _ (List.mem_append_right _ (List.mem_append_right _ (List.mem_append_left _ (List.mem_map_of_mem hx))))⟩)
    (fun f hf => List.mem_append_right _ (List.mem_append_right _ (List.mem_append_right _ (List.mem_append_right _ hf))))
  have C := chain (fun _ => rfl) rfl (c := cfg0 cs frees excs muts kt ft mb ts) rfl st C0 fun q hq => df q (List.mem_append_left _ hq)
  rw [Nat.zero_add] at C
  have FO := fn_ok (cA := ⟨He.ga K, none⟩) (fuel := fuel) (frz := r.frz) F (C8.fnScope_by ok.sc) C (allC_hot rfl) rfl
  rw [e] at FO
  exact FO
theorem reps_ints {ρ : Pl} {H : Hp} : ∀ ns : List Int, Reps K ρ H (ns.map D.int) (ns.map V.int)
  | [] => .nil
  | n :: ns => .cons (.int n) (reps_ints ns)
/-- the promise at the law's own list -/
theorem at_law {cA : CA} {φ : Fn} {H : Hp} {a : Addr} {ns : List Int} (hO : Only H) (hS : SqL K H a (ns.map V.int)) (hφ : ∃ S, φ [.lst (ns.map D.int)] [] = .ok (.bl true) S) :
    spOf K cA φ [.ref a] H (fun v _ => v = .bl true) fun _ _ _ => False := by
  obtain ⟨S, e⟩ := hφ
  refine ⟨⟨[], [], cA.pin⟩, [.lst (ns.map D.int)], [], .cons (.lst ?_ (reps_ints ns)) .nil, ⟨rfl, List.nodup_nil, by intro l o h; simp at h, by simp, rfl⟩, ?_⟩
  · rcases hS with h | ⟨o, its, n, h⟩
    · exact .inl ⟨h, by rintro (z | z) <;> simp at z⟩
    · exact .inr ⟨o, its, n, h⟩
  · rw [e]
    intro ρ' H' v _ _ r
    cases r
    rfl
end
def CXA (P : Program) : CXT := fun o H s E e s' => ∃ w, L2.CX P w o H s E e s'
theorem FnOk.wide {P : Program} {w : World} {K : PySem.W.Frag} {mg : Str → Option Value} {base : Heap} {k : Nat} {f : Addr} {fd : FuncData} {ps : List Str} {sp : Sp} (F : FnOk P w K mg base (L2.CX P w) k f fd ps sp) : FnOk P w K mg base (CXA P) k f fd ps sp :=
  ⟨F.len, fun A outer s H args us vs Q E hr he hb hv hs => codeAny_mono (F.run A outer s H args us vs Q E hr he hb hv hs) fun r s' h => by
    cases r with
    | error e => exact ⟨w, h⟩
    | ok fl => cases fl <;> exact h⟩
/-- THE END: a law whose text the interpreter answers with True -/
theorem law_walk {l : PySem.W.OpenLaw} {q : Program} {loose : List Str} {XP : (Str → Option Value) → Heap → Prop} {d : DefRec} {rs : List DefR} {r : DefR} {cs : List (Str × D)} {frees excs : List Str} {muts : List (Nat × Nat)} {kt : KitT} {ft : FldT} {mb : MutB} {ts : DkT} {fuel n k : Nat} {x : Str}
    (hn : l.most = some n) (hn2 : n ≤ sizeLine) (hdf : d.params.defaults = []) (hr : Room (levs rs + 1) callerA) (hnm : d.name = r.nm) (hp : r.ps = [x])
    (st : Steps fuel (cfg0 cs frees excs muts kt ft mb ts) rs) (ok : r.Ok) (hD : r.dfl = []) (hC : r.cl = none) (hcl : rs.all (fun q => q.cl.isNone || q.dfl.isEmpty) = true) (e : runF (allC (cfg0 cs frees excs muts kt ft mb ts) rs) r.frz r.ps r.N (scopeOf r.st) fuel (bodyOf r.st) = r.φ)
    (hφ : ∀ ns : List Int, ns.length ≤ n → ∃ S, r.φ [.lst (ns.map D.int)] [] = .ok (.bl true) S) :
    PySem.W.WalkO q loose XP (hookE k (facts (rs ++ [r]) frees excs ft) ((rs ++ [r]).map DefR.d) cs kt frees ts).says l.row.toRowW d [] (fun f vs => PySem.call f vs) := by
  refine walk_ofG (CX := CXA l.prog) (x := x) hn hn2 hdf hr ?_ ?_
  · intro w mg fa h Y G hmg
    obtain ⟨K, KX, c, cq, cd⟩ := Y
    rw [Bool.and_eq_true] at cq
    obtain ⟨cc, ck⟩ := cq
    obtain ⟨hm, fd, hb, hF⟩ := all_ok (P := l.prog) (w := w) KX G c cc ck cd st ok hD hC hcl e
    rw [hnm, hm] at hmg
    cases hmg
    refine ⟨K, fd, spOf K ⟨He.ga K, none⟩ r.φ, KX, fun s u => ?_, fun H a ns hl hO hS => at_law hO hS (hφ ns hl), fun base _ _ => ?_⟩
    · have := hb s [u] (by rw [hp]; rfl)
      rw [hp] at this
      exact this
    · have := FnOk.wide (hF base)
      rw [hp] at this
      exact this
  · rintro H s e s' ⟨w, a, B, H', cls, d, _, _, _, _, _, _, _, z⟩
    exact z
end Q
/-! Q14: how the combinators are walked: rules, each for one head. -/
namespace Q
open PySem L2
abbrev EX := Str → Store → Prop
abbrev noX : EX := fun _ _ => False
/-- what a piece of work gives -/
structure W {α : Type} (r : Out α) (Q : α → Store → Prop) (E : EX) : Prop where
  out : match r with
    | .ok a S => Q a S
    | .exc c S => E c S
    | .bad => False
structure G {α : Type} (f : Env → Store → Out α) (σ : Env) (S : Store) (Q : α → Store → Prop) (E : EX) : Prop where
  out : W (f σ S) Q E
structure Bn (S : Store) (op : Operator) (x y : D) (Q : D → Prop) : Prop where
  out : ∃ d, binD S op x y = some d ∧ Q d
structure Cp (S : Store) (op : CmpOp) (x y : D) (Q : Bool → Prop) : Prop where
  out : ∃ b, cmpD S op x y = some b ∧ Q b
structure Tr (S : Store) (x : D) (Q : Bool → Prop) : Prop where
  out : ∃ b, truth S x = some b ∧ Q b
structure Bl (x : D) (Q : Bool → Prop) : Prop where
  out : ∃ b, x = .bl b ∧ Q b
structure IxP (S : Store) (x i : D) (Q : D → Prop) : Prop where
  out : ∃ d, ixD S x i = some d ∧ Q d
structure SlP (S : Store) (x : D) (l h : Option Int) (Q : D → Prop) : Prop where
  out : ∃ d, slD S x l h = some d ∧ Q d
structure IsP (S : Store) (x : D) (t : Str) (Q : Bool → Prop) : Prop where
  out : ∃ b, isTy S x t = some b ∧ Q b
structure BsP (S : Store) (b : Blt) (xs : List D) (Q : D → Prop) : Prop where
  out : ∃ d, b.sem S xs = some d ∧ Q d
structure FlP (cs : List Str) (S : Store) (x : D) (f : Str) (Q : D → Prop) : Prop where
  out : ∃ d, fldD cs S x f = some d ∧ Q d
structure FsP (cs : List Str) (S : Store) (x v : D) (f : Str) (Q : Store → Prop) : Prop where
  out : ∃ S', fldS cs S x v f = some S' ∧ Q S'
structure MeP (ts : List (Str × Fn)) (S : Store) (x : D) (m : Str) (A : MId → Prop) (B : Fn → Prop) : Prop where
  out : (∃ i, mIdD S x m = some i ∧ A i) ∨ (mIdD S x m = none ∧ ∃ φ, methD ts S x m = some φ ∧ B φ)
structure MdP (S : Store) (x : D) (m : Str) (Q : MId → Prop) : Prop where
  out : ∃ i, mIdD S x m = some i ∧ Q i
structure MtP (S : Store) (i : MId) (x : D) (xs : List D) (Q : D → Store → Prop) : Prop where
  out : ∃ d S', mthD S i x xs = some (d, S') ∧ Q d S'
structure LnP (n : Nat) (Q : Prop) : Prop where
  out : n ≤ 16777216 ∧ Q
structure IoP (x : D) (Q : Int → Prop) : Prop where
  out : ∃ i, x = .int i ∧ Q i
structure R1P (j : Int) (Q : Prop) : Prop where
  out : small62 j = true ∧ Q
structure ItP (S : Store) (x : D) (Q : Items → Prop) : Prop where
  out : ∃ it, itersD S x = some it ∧ Q it
structure EnP (S : Store) (x : D) (Q : Items → Prop) : Prop where
  out : ∃ it, enumD S x = some it ∧ Q it
structure ZpP (x y : D) (Q : Items → Prop) : Prop where
  out : ∃ it, zipD x y = some it ∧ Q it
structure RvP (S : Store) (x : D) (Q : D → Prop) : Prop where
  out : ∃ d, revD S x = some d ∧ Q d
structure LsP (S : Store) (x : D) (Q : D → Prop) : Prop where
  out : ∃ d, lenSetD S x = some d ∧ Q d
structure DcP (S : Store) (xs : List D) (Q : D → Store → Prop) : Prop where
  out : ∃ x d S', xs = [x] ∧ dictD S x = some (d, S') ∧ Q d S'
structure KyP (x : D) (Q : L2.Key → Prop) : Prop where
  out : ∃ k, keyD x = some k ∧ Q k
structure Br (k : Bool) (A B : Prop) : Prop where
  out : (k = true → A) ∧ (k = false → B)
structure StP (σ : Env) (i : Nat) (d : D) (Q : Env → Prop) : Prop where
  out : Q (σ.set i (some d))
structure BdP (bd : Env → D → Option Env) (σ : Env) (d : D) (Q : Env → Prop) : Prop where
  out : ∃ σ', bd σ d = some σ' ∧ Q σ'
structure TsP (σ : Env) (is : List Nat) (xs : List D) (Q : Env → Prop) : Prop where
  out : Q (setAll σ is xs)
structure SdP (S : Store) (o i v : D) (Q : Store → Prop) : Prop where
  out : ∃ S', setD S o i v = some S' ∧ Q S'
structure CtP (S : Store) (op : Operator) (x y : D) (Q : List D → Prop) : Prop where
  out : ∃ xs, catD S op x y = some (.lst xs) ∧ Q xs
structure LiP (S : Store) (xs : List D) (Q : List D → Prop) : Prop where
  out : ∃ x ys, xs = [x] ∧ listD S x = some (.lst ys) ∧ Q ys
structure DkP (ks : List Str) (x : D) (Q : Bool → Prop) : Prop where
  out : ∃ z, x = .str z ∧ Q (ks.contains z)
structure EqL (n m : Nat) (Q : Prop) : Prop where
  out : n = m ∧ Q
/-- a comprehension's turns -/
structure CfP (it : Items) (f : D → Store → Out (Option D)) (S : Store) (Q : List D → Store → Prop) : Prop where
  out : W (compF it f loopMost 0 [] S) Q noX
structure CfX (it : Items) (f : D → Store → Out (Option D)) (S : Store) (Q : List D → Store → Prop) (E : EX) : Prop where
  out : W (compF it f loopMost 0 [] S) Q E
/-- how a statement may end -/
structure Ks where
  nx : Env → Store → Prop
  rt : D → Store → Prop
  bk : Env → Store → Prop
  ct : Env → Store → Prop
  ex : Str → Env → Store → Prop
def kOf (K : Ks) : Fl → Prop
  | .nx σ S => K.nx σ S
  | .rt d S => K.rt d S
  | .bk σ S => K.bk σ S
  | .ct σ S => K.ct σ S
  | .exc x σ S => K.ex x σ S
  | .bad => False
structure Z (z : XS) (σ : Env) (S : Store) (K : Ks) : Prop where
  out : kOf K (z σ S)
structure SnP (σ : Env) (i : Nat) (q : Env → Prop) : Prop where
  out : q (σ.set i none)
/-- an error that a try meets -/
structure TyP (i : Nat) (nd : Bool) (kt : Str → Str → Option Bool) (y : Str) (h : Str → XS) (x : Str) (σ : Env) (S : Store) (K : Ks) : Prop where
  out : kOf K (match kt x y with
    | some true => if nd && decide (σ.length ≤ i) then .bad else hotEnd i (h x (σ.set i none) S)
    | some false => .exc x σ S
    | none => .bad)
structure LpP (it : Items) (f : D → Env → Store → Fl) (σ : Env) (S : Store) (K : Ks) : Prop where
  out : kOf K (forF it f loopMost 0 σ S)
structure WhP (t : XT) (b : XS) (σ : Env) (S : Store) (K : Ks) : Prop where
  out : kOf K (whileF t b loopMost σ S)
section
variable {α β : Type} {S : Store} {σ : Env} {E : EX} {QD : D → Store → Prop} {QB : Bool → Store → Prop} {QA : List D → Store → Prop} {QO : Option Int → Store → Prop} {QI : Items → Store → Prop} {a b c d : XE} {t : XT} {as : XA} {op op' : CmpOp} {bo : Operator} {x y : D} {i j : Nat} {P : D → Prop} {PB : Bool → Prop}
theorem W.bind {r : Out α} {f : α → Store → Out β} {Q : β → Store → Prop} (h : W r (fun x S1 => W (f x S1) Q E) E) : W (r.bind f) Q E := by
  obtain ⟨h⟩ := h
  cases r with
  | ok x S => exact h
  | exc x S => exact ⟨h⟩
  | bad => exact h.elim
theorem W.ofO {o : Option α} {Q : α → Store → Prop} (h : ∃ d, o = some d ∧ Q d S) : W (_root_.Q.ofO S o) Q E := by
  obtain ⟨d, rfl, h⟩ := h
  exact ⟨h⟩
theorem W.post {r : Out α} {Q Q' : α → Store → Prop} (h : W r Q E) (hq : ∀ x S, Q x S → Q' x S) : W r Q' E := by
  obtain ⟨h⟩ := h
  refine ⟨?_⟩
  cases r with
  | ok x S => exact hq _ _ h
  | exc x S => exact h
  | bad => exact h.elim
theorem G_isE {kt : Str → Str → Option Bool} {x : Str} {ts : List Str} {k : Bool} (e : kitS kt x ts = some k) (h : QD (.bl k) S) : G (isE kt x ts) σ S QD E := by
  refine ⟨?_⟩
  unfold isE
  rw [e]
  exact ⟨h⟩
theorem G_kk (h : QD x S) : G (kk x) σ S QD E := ⟨⟨h⟩⟩
theorem G_vv0 (h : QD x S) : G (vv 0) (some x :: σ) S QD E := ⟨⟨h⟩⟩
theorem G_vvs {o : Option D} (h : G (vv i) σ S QD E) : G (vv (i + 1)) (o :: σ) S QD E := by
  obtain ⟨⟨h⟩⟩ := h
  exact ⟨⟨h⟩⟩
theorem G_vv (e : σ[i]? = some (some x)) (h : QD x S) : G (vv i) σ S QD E := by
  refine ⟨⟨?_⟩⟩
  unfold vv
  rw [e]
  exact h
theorem G_bi (h : G a σ S (fun x S1 => G b σ S1 (fun y S2 => Bn S2 bo x y fun d => QD d S2) E) E) : G (bi bo a b) σ S QD E :=
  ⟨.bind (h.out.post fun _ _ h => .bind (h.out.post fun _ _ h => .ofO h.out))⟩
theorem map_ex {o : Option α} {f : α → D} (h : ∃ b, o = some b ∧ P (f b)) : ∃ d, o.map f = some d ∧ P d := by
  obtain ⟨b, rfl, h⟩ := h
  exact ⟨_, rfl, h⟩
theorem G_biM (h : G a σ S (fun x S1 => G b σ S1 (fun y S2 => CtP S2 bo x y fun xs => QD (.ref S2.length) (S2 ++ [.lst xs])) E) E) : G (biM bo a b) σ S QD E :=
  ⟨.bind (h.out.post fun _ _ h => .bind (h.out.post fun _ _ h => by
    obtain ⟨xs, e, h⟩ := h.out
    simp only [e]
    exact ⟨h⟩))⟩
theorem G_liM (h : G as σ S (fun xs S1 => LiP S1 xs fun ys => QD (.ref S1.length) (S1 ++ [.lst ys])) E) : G (liM as) σ S QD E :=
  ⟨.bind (h.out.post fun _ _ h => by
    obtain ⟨x, ys, rfl, e, h⟩ := h.out
    simp only [e]
    exact ⟨h⟩)⟩
theorem G_dkc {ks : List Str} (h : G a σ S (fun x S1 => DkP ks x fun k => QD (.bl k) S1) E) : G (dkc ks a) σ S QD E :=
  ⟨.bind (h.out.post fun _ _ h => by
    obtain ⟨z, rfl, h2⟩ := h.out
    exact ⟨h2⟩)⟩
theorem G_nt (h : G a σ S (fun x S1 => Tr S1 x fun b => QD (.bl (!b)) S1) E) : G (nt a) σ S QD E :=
  ⟨.bind (h.out.post fun _ _ h => .ofO (map_ex (P := fun d => QD d _) h.out))⟩
theorem G_ng (h : G a σ S (fun x S1 => IoP x fun i => QD (.int (-i)) S1) E) : G (ng a) σ S QD E :=
  ⟨.bind (h.out.post fun _ _ h => by obtain ⟨i, rfl, h'⟩ := h.out; exact ⟨h'⟩)⟩
theorem G_cm (h : G a σ S (fun x S1 => G b σ S1 (fun y S2 => Cp S2 op x y fun k => QD (.bl k) S2) E) E) : G (cm op a b) σ S QD E :=
  ⟨.bind (h.out.post fun _ _ h => .bind (h.out.post fun _ _ h => .ofO (map_ex (P := fun d => QD d _) h.out)))⟩
theorem G_cm2 (h : G a σ S (fun x S1 => G b σ S1 (fun y S2 => Cp S2 op x y fun k => Br k (G d σ S2 (fun z S3 => Cp S3 op' y z fun k => QD (.bl k) S3) E) (QD (.bl false) S2)) E) E) : G (cm2 op op' a b d) σ S QD E :=
  ⟨.bind (h.out.post fun _ _ h => .bind (h.out.post fun _ _ h => by
    obtain ⟨k, e, h⟩ := h.out
    rw [e]
    cases k with
    | true => exact .bind ((h.out.1 rfl).out.post fun _ _ h => .ofO (map_ex (P := fun d => QD d _) h.out))
    | false => exact ⟨h.out.2 rfl⟩))⟩
theorem Br.w {k : Bool} {r r' : Out α} {Q : α → Store → Prop} (h : Br k (W r Q E) (W r' Q E)) : W (if k = true then r else r') Q E := by
  cases k with
  | true => exact h.out.1 rfl
  | false => exact h.out.2 rfl
theorem Br.imp {k : Bool} {A B A' B' : Prop} (h : Br k A B) (f : A → A') (g : B → B') : Br k A' B' := ⟨⟨fun e => f (h.out.1 e), fun e => g (h.out.2 e)⟩⟩
theorem G_ie (h : G t σ S (fun k S1 => Br k (G a σ S1 QD E) (G b σ S1 QD E)) E) : G (ie t a b) σ S QD E :=
  ⟨.bind (h.out.post fun _ _ h => (h.imp (fun h => h.out) fun h => h.out).w)⟩
theorem LnP.w {n : Nat} {r : Out α} {Q : α → Store → Prop} (h : LnP n (W r Q E)) : W (if n ≤ 16777216 then r else .bad) Q E := by
  rw [if_pos h.out.1]
  exact h.out.2
theorem G_lsv (h : G as σ S (fun xs S1 => LnP xs.length (QD (.lst xs) S1)) E) : G (lsv as) σ S QD E :=
  ⟨.bind (h.out.post fun _ _ h => LnP.w ⟨h.out.1, ⟨h.out.2⟩⟩)⟩
theorem G_lsm (h : G as σ S (fun xs S1 => LnP xs.length (QD (.ref S1.length) (S1 ++ [.lst xs]))) E) : G (lsm as) σ S QD E :=
  ⟨.bind (h.out.post fun _ _ h => LnP.w ⟨h.out.1, ⟨h.out.2⟩⟩)⟩
theorem G_tu (h : G as σ S (fun xs S1 => LnP xs.length (QD (.tup xs) S1)) E) : G (tu as) σ S QD E :=
  ⟨.bind (h.out.post fun _ _ h => LnP.w ⟨h.out.1, ⟨h.out.2⟩⟩)⟩
theorem G_di0 (h : QD (.ref S.length) (S ++ [.dic []])) : G di0 σ S QD E := ⟨⟨h⟩⟩
theorem G_sl {lo hi : XO} (h : G a σ S (fun x S1 => G lo σ S1 (fun l S2 => G hi σ S2 (fun u S3 => SlP S3 x l u fun d => QD d S3) E) E) E) : G (sl a lo hi) σ S QD E :=
  ⟨.bind (h.out.post fun _ _ h => .bind (h.out.post fun _ _ h => .bind (h.out.post fun _ _ h => .ofO h.out)))⟩
structure SmP (S : Store) (x : D) (l h : Option Int) (Q : D → Store → Prop) : Prop where
  out : ∃ xs, slD S x l h = some (.lst xs) ∧ Q (.ref S.length) (S ++ [.lst xs])
theorem G_slm {lo hi : XO} (h : G a σ S (fun x S1 => G lo σ S1 (fun l S2 => G hi σ S2 (fun u S3 => SmP S3 x l u QD) E) E) E) : G (slm a lo hi) σ S QD E :=
  ⟨.bind (h.out.post fun _ _ h => .bind (h.out.post fun _ _ h => .bind (h.out.post fun _ _ h => by
    obtain ⟨xs, e, h⟩ := h.out
    rw [e]
    exact ⟨h⟩)))⟩
structure FmP (x : D) (Q : D → Prop) : Prop where
  out : ∃ d, fmtD x = some d ∧ Q d
theorem G_fmv (h : G a σ S (fun x S1 => FmP x fun d => QD d S1) E) : G (fmv a) σ S QD E :=
  ⟨.bind (h.out.post fun _ _ h => .ofO h.out)⟩
structure JnP (x : D) (acc : Str) (Q : Str → Prop) : Prop where
  out : ∃ y, x = .str y ∧ (acc ++ y).length ≤ 16777216 ∧ Q (acc ++ y)
theorem G_j0 {acc : Str} (h : QD (.str acc) S) : G (joinF [] acc) σ S QD E := ⟨⟨h⟩⟩
theorem G_j1 {acc : Str} {ts : List XE} (h : G a σ S (fun x S1 => JnP x acc fun acc' => G (joinF ts acc') σ S1 QD E) E) : G (joinF (a :: ts) acc) σ S QD E :=
  ⟨.bind (h.out.post fun _ _ h => by
    obtain ⟨y, rfl, hy, h⟩ := h.out
    show W (if (acc ++ y).length ≤ 16777216 then _ else _) _ _
    rw [if_pos hy]
    exact h.out)⟩
theorem G_fst {ts : List XE} (h : G (joinF ts Str.empty) σ S QD E) : G (fst ts) σ S QD E := ⟨h.out⟩
theorem G_ix (h : G a σ S (fun x S1 => G b σ S1 (fun y S2 => IxP S2 x y fun d => QD d S2) E) E) : G (ix a b) σ S QD E :=
  ⟨.bind (h.out.post fun _ _ h => .bind (h.out.post fun _ _ h => .ofO h.out))⟩
theorem G_ca {φ : Fn} (h : G as σ S (fun xs S1 => W (φ xs S1) QD E) E) : G (ca φ as) σ S QD E := ⟨.bind h.out⟩
structure SxP (y : D) (A B : Prop) : Prop where
  out : (y = .int 0 ∧ A) ∨ (y = .int 1 ∧ B)
theorem Sx_0 {A B : Prop} (h : A) : SxP (.int 0) A B := ⟨.inl ⟨rfl, h⟩⟩
theorem Sx_1 {A B : Prop} (h : B) : SxP (.int 1) A B := ⟨.inr ⟨rfl, h⟩⟩
theorem G_cix {φ ψ : Fn} {i : XE} (h : G i σ S (fun y S1 => SxP y (G as σ S1 (fun xs S2 => W (φ xs S2) QD E) E) (G as σ S1 (fun xs S2 => W (ψ xs S2) QD E) E)) E) : G (cix φ ψ i as) σ S QD E :=
  ⟨.bind (h.out.post fun y S1 h => by
    rcases h.out with ⟨rfl, hg⟩ | ⟨rfl, hg⟩
    · show W ((as σ S1).bind fun xs S2 => φ xs S2) QD E
      exact .bind hg.out
    · show W ((as σ S1).bind fun xs S2 => ψ xs S2) QD E
      exact .bind hg.out)⟩
theorem G_bl {bt : Blt} (h : G as σ S (fun xs S1 => BsP S1 bt xs fun d => QD d S1) E) : G (bl bt as) σ S QD E :=
  ⟨.bind (h.out.post fun _ _ h => .ofO h.out)⟩
theorem G_isn {ty : Str} (h : G a σ S (fun x S1 => IsP S1 x ty fun k => QD (.bl k) S1) E) : G (isn a ty) σ S QD E :=
  ⟨.bind (h.out.post fun _ _ h => .ofO (map_ex (P := fun d => QD d _) h.out))⟩
theorem G_me {m : Str} (h : G a σ S (fun x S1 => MdP S1 x m fun i => G as σ S1 (fun xs S2 => MtP S2 i x xs QD) E) E) : G (me m a as) σ S QD E :=
  ⟨.bind (h.out.post fun _ _ h => by
    obtain ⟨i, e, h⟩ := h.out
    rw [e]
    exact .bind (h.out.post fun _ _ h => by
      obtain ⟨d, S', e, h⟩ := h.out
      rw [e]
      exact ⟨h⟩))⟩
structure MmP (S : Store) (x : D) (xs : List D) (Q : List D → Prop) : Prop where
  out : ∃ ys, mthD S .split x xs = some (.lst ys, S) ∧ Q ys
theorem G_meM {m : Str} (h : G a σ S (fun x S1 => MdP S1 x m fun i => i = .split ∧ G as σ S1 (fun xs S2 => MmP S2 x xs fun ys => QD (.ref S2.length) (S2 ++ [.lst ys])) E) E) : G (meM m a as) σ S QD E :=
  ⟨.bind (h.out.post fun _ _ h => by
    obtain ⟨i, e, rfl, h⟩ := h.out
    rw [e]
    exact .bind (h.out.post fun _ _ h => by
      obtain ⟨ys, e, h⟩ := h.out
      unfold mtM
      rw [e]
      exact ⟨h⟩))⟩
theorem G_meT {ts : List (Str × Fn)} {m : Str} (h : G a σ S (fun x S1 => MeP ts S1 x m (fun i => G as σ S1 (fun xs S2 => MtP S2 i x xs QD) E) (fun φ => G as σ S1 (fun xs S2 => W (φ (x :: xs) S2) QD E) E)) E) : G (meT ts m a as) σ S QD E :=
  ⟨.bind (h.out.post fun _ _ h => by
    rcases h.out with ⟨i, e, h⟩ | ⟨e, φ, e2, h⟩
    · rw [e]
      exact .bind (h.out.post fun _ _ h => by
        obtain ⟨d, S', e, h⟩ := h.out
        rw [e]
        exact ⟨h⟩)
    · rw [e]
      simp only [e2]
      exact .bind h.out)⟩
theorem G_fl {cs : List Str} {f : Str} (h : G a σ S (fun x S1 => FlP cs S1 x f fun d => QD d S1) E) : G (fl cs f a) σ S QD E :=
  ⟨.bind (h.out.post fun _ _ h => .ofO h.out)⟩
theorem G_mkI {C : Str} {φ : Fn} (h : G as σ S (fun xs S1 => W (φ (.ref S1.length :: xs) (S1 ++ [.ins C []])) (fun d S2 => d = .non ∧ QD (.ref S1.length) S2) E) E) : G (mkI C φ as) σ S QD E :=
  ⟨.bind (h.out.post fun xs S1 h => by
    obtain ⟨h⟩ := h
    refine ⟨?_⟩
    unfold makeD
    cases e : φ (.ref S1.length :: xs) (S1 ++ [.ins C []]) with
    | bad => rw [e] at h; exact h
    | exc y S' => rw [e] at h; exact h
    | ok d S' =>
      rw [e] at h
      obtain ⟨rfl, h⟩ := h
      exact h)⟩
theorem G_andE (h : G a σ S (fun x S1 => Tr S1 x fun k => Br k (G b σ S1 QD E) (QD x S1)) E) : G (andE a b) σ S QD E :=
  ⟨.bind (h.out.post fun _ _ h => by
    obtain ⟨k, e, h⟩ := h.out
    rw [e]
    exact (h.imp (fun h => h.out) fun h => ⟨h⟩).w)⟩
theorem G_orE (h : G a σ S (fun x S1 => Tr S1 x fun k => Br k (QD x S1) (G b σ S1 QD E)) E) : G (orE a b) σ S QD E :=
  ⟨.bind (h.out.post fun _ _ h => by
    obtain ⟨k, e, h⟩ := h.out
    rw [e]
    exact (h.imp (fun h => (⟨h⟩ : W (.ok _ _) QD E)) fun h => h.out).w)⟩
theorem G_tNot (h : G t σ S (fun k S1 => QB (!k) S1) E) : G (tNot t) σ S QB E := ⟨.bind (h.out.post fun _ _ h => ⟨h⟩)⟩
theorem G_tAnd {u : XT} (h : G t σ S (fun k S1 => Br k (G u σ S1 QB E) (QB false S1)) E) : G (tAnd t u) σ S QB E :=
  ⟨.bind (h.out.post fun _ _ h => (h.imp (fun h => h.out) fun h => ⟨h⟩).w)⟩
theorem G_tOr {u : XT} (h : G t σ S (fun k S1 => Br k (QB true S1) (G u σ S1 QB E)) E) : G (tOr t u) σ S QB E :=
  ⟨.bind (h.out.post fun _ _ h => (h.imp (fun h => (⟨h⟩ : W (.ok _ _) QB E)) fun h => h.out).w)⟩
theorem G_tCm (h : G a σ S (fun x S1 => Bl x fun k => QB k S1) E) : G (tCm a) σ S QB E :=
  ⟨.bind (h.out.post fun _ _ h => by obtain ⟨k, rfl, h'⟩ := h.out; exact ⟨h'⟩)⟩
theorem G_tTr (h : G a σ S (fun x S1 => Tr S1 x fun k => QB k S1) E) : G (tTr a) σ S QB E :=
  ⟨.bind (h.out.post fun _ _ h => .ofO h.out)⟩
theorem G_a0 (h : QA [] S) : G a0 σ S QA E := ⟨⟨h⟩⟩
theorem G_a1 (h : G a σ S (fun x S1 => G as σ S1 (fun xs S2 => QA (x :: xs) S2) E) E) : G (a1 a as) σ S QA E :=
  ⟨.bind (h.out.post fun _ _ h => .bind (h.out.post fun _ _ h => ⟨h⟩))⟩
theorem G_p0 (h : QO none S) : G p0 σ S QO E := ⟨⟨h⟩⟩
theorem G_p1 (h : G a σ S (fun x S1 => IoP x fun i => QO (some i) S1) E) : G (p1 a) σ S QO E :=
  ⟨.bind (h.out.post fun _ _ h => by obtain ⟨i, rfl, h'⟩ := h.out; exact ⟨h'⟩)⟩
theorem G_iv (h : G a σ S (fun x S1 => ItP S1 x fun it => QI it S1) E) : G (iv a) σ S QI E :=
  ⟨.bind (h.out.post fun _ _ h => .ofO h.out)⟩
theorem G_zen (h : G a σ S (fun x S1 => EnP S1 x fun it => QI it S1) E) : G (zen a) σ S QI E :=
  ⟨.bind (h.out.post fun _ _ h => .ofO h.out)⟩
theorem G_zzp (h : G a σ S (fun x S1 => G b σ S1 (fun y S2 => ZpP x y fun it => QI it S2) E) E) : G (zzp a b) σ S QI E :=
  ⟨.bind (h.out.post fun _ _ h => .bind (h.out.post fun _ _ h => .ofO h.out))⟩
theorem G_rvs (h : G a σ S (fun x S1 => RvP S1 x fun d => QD d S1) E) : G (rvs a) σ S QD E :=
  ⟨.bind (h.out.post fun _ _ h => .ofO h.out)⟩
theorem G_lset (h : G a σ S (fun x S1 => LsP S1 x fun d => QD d S1) E) : G (lset a) σ S QD E :=
  ⟨.bind (h.out.post fun _ _ h => .ofO h.out)⟩
theorem G_dct (h : G as σ S (fun xs S1 => DcP S1 xs QD) E) : G (dct as) σ S QD E :=
  ⟨.bind (h.out.post fun _ _ h => by
    obtain ⟨x, d, S', rfl, e, h⟩ := h.out
    show W (ofP (dictD _ x)) _ _
    rw [e]
    exact ⟨h⟩)⟩
theorem G_k0 {QK : List (L2.Key × D) → Store → Prop} (h : QK [] S) : G k0 σ S QK E := ⟨⟨h⟩⟩
theorem G_k1 {r : XK} {QK : List (L2.Key × D) → Store → Prop} (h : G a σ S (fun x S1 => G b σ S1 (fun y S2 => G r σ S2 (fun r S3 => KyP x fun k => QK ((k, y) :: r) S3) E) E) E) : G (k1 a b r) σ S QK E :=
  ⟨.bind (h.out.post fun _ _ h => .bind (h.out.post fun _ _ h => .bind (h.out.post fun _ _ h => by
    obtain ⟨k, e, h⟩ := h.out
    rw [e]
    exact ⟨h⟩)))⟩
theorem G_dis {r : XK} (h : G r σ S (fun kvs S1 => QD (.ref S1.length) (S1 ++ [.dic (mergeG [] kvs)])) E) : G (dis r) σ S QD E :=
  ⟨.bind (h.out.post fun _ _ h => ⟨h⟩)⟩
theorem G_r1 (h : G a σ S (fun x S1 => IoP x fun i => R1P i (QI (rangeD 0 i) S1)) E) : G (r1 a) σ S QI E :=
  ⟨.bind (h.out.post fun _ _ h => by
    obtain ⟨i, rfl, h'⟩ := h.out
    show W (if small62 i = true then _ else _) _ _
    rw [if_pos h'.out.1]
    exact ⟨h'.out.2⟩)⟩
theorem G_r2 (h : G a σ S (fun x S1 => G b σ S1 (fun y S2 => IoP x fun i => IoP y fun j => R1P i (R1P j (QI (rangeD i j) S2))) E) E) : G (r2 a b) σ S QI E :=
  ⟨.bind (h.out.post fun _ _ h => .bind (h.out.post fun _ _ h => by
    obtain ⟨i, rfl, h1⟩ := h.out
    obtain ⟨j, rfl, h2⟩ := h1.out
    show W (if (small62 i && small62 j) = true then _ else _) _ _
    rw [if_pos (by rw [h2.out.1, h2.out.2.out.1]; rfl)]
    exact ⟨h2.out.2.out.2⟩))⟩
theorem W.anyE {r : Out α} {Q : α → Store → Prop} (h : W r Q noX) : W r Q E := by
  obtain ⟨h⟩ := h
  refine ⟨?_⟩
  cases r with
  | ok x S => exact h
  | exc x S => exact h.elim
  | bad => exact h.elim
theorem G_lcv {is : List Nat} {it : XI} {bd : Env → D → Option Env} (h : G it σ S (fun it S1 => CfP it (fun d S2 => match bd (wipeE σ is) d with
    | some σ2 => (a σ2 S2).bind fun y S3 => .ok (some y) S3
    | none => .bad) S1 fun ys S2 => QD (.lst ys) S2) E) : G (lcv is it bd a) σ S QD E :=
  ⟨.bind (h.out.post fun _ _ h => .bind (h.out.anyE.post fun _ _ h => ⟨h⟩))⟩
theorem G_lcv1 {is : List Nat} {it : XI} {bd : Env → D → Option Env} (h : G it σ S (fun it S1 => CfP it (fun d S2 => match bd (wipeE σ is) d with
    | some σ2 => (t σ2 S2).bind fun k S3 => if k = true then (a σ2 S3).bind fun y S4 => .ok (some y) S4 else .ok none S3
    | none => .bad) S1 fun ys S2 => QD (.lst ys) S2) E) : G (lcv1 is it bd t a) σ S QD E :=
  ⟨.bind (h.out.post fun _ _ h => .bind (h.out.anyE.post fun _ _ h => ⟨h⟩))⟩
theorem G_lcm {is : List Nat} {it : XI} {bd : Env → D → Option Env} (h : G it σ S (fun it S1 => CfP it (fun d S2 => match bd (wipeE σ is) d with
    | some σ2 => (a σ2 S2).bind fun y S3 => .ok (some y) S3
    | none => .bad) S1 fun ys S2 => QD (.ref S2.length) (S2 ++ [.lst ys])) E) : G (lcm is it bd a) σ S QD E :=
  ⟨.bind (h.out.post fun _ _ h => .bind (h.out.anyE.post fun _ _ h => ⟨h⟩))⟩
theorem G_lcm1 {is : List Nat} {it : XI} {bd : Env → D → Option Env} (h : G it σ S (fun it S1 => CfP it (fun d S2 => match bd (wipeE σ is) d with
    | some σ2 => (t σ2 S2).bind fun k S3 => if k = true then (a σ2 S3).bind fun y S4 => .ok (some y) S4 else .ok none S3
    | none => .bad) S1 fun ys S2 => QD (.ref S2.length) (S2 ++ [.lst ys])) E) : G (lcm1 is it bd t a) σ S QD E :=
  ⟨.bind (h.out.post fun _ _ h => .bind (h.out.anyE.post fun _ _ h => ⟨h⟩))⟩
theorem GX_lcv {is : List Nat} {it : XI} {bd : Env → D → Option Env} (h : G it σ S (fun it S1 => CfX it (fun d S2 => match bd (wipeE σ is) d with
    | some σ2 => (a σ2 S2).bind fun y S3 => .ok (some y) S3
    | none => .bad) S1 (fun ys S2 => QD (.lst ys) S2) E) E) : G (lcv is it bd a) σ S QD E :=
  ⟨.bind (h.out.post fun _ _ h => .bind (h.out.post fun _ _ h => ⟨h⟩))⟩
theorem GX_lcm {is : List Nat} {it : XI} {bd : Env → D → Option Env} (h : G it σ S (fun it S1 => CfX it (fun d S2 => match bd (wipeE σ is) d with
    | some σ2 => (a σ2 S2).bind fun y S3 => .ok (some y) S3
    | none => .bad) S1 (fun ys S2 => QD (.ref S2.length) (S2 ++ [.lst ys])) E) E) : G (lcm is it bd a) σ S QD E :=
  ⟨.bind (h.out.post fun _ _ h => .bind (h.out.post fun _ _ h => ⟨h⟩))⟩
/-! statements -/
variable {nx bk ct : Env → Store → Prop} {rt : D → Store → Prop} {ex : Str → Env → Store → Prop} {z z' : XS}
abbrev oX (ex : Str → Env → Store → Prop) (σ : Env) : EX := fun x S => ex x σ S
theorem use_k {r : Out α} {f : α → Store → Fl} (h : W r (fun x S1 => kOf ⟨nx, rt, bk, ct, ex⟩ (f x S1)) (oX ex σ)) : kOf ⟨nx, rt, bk, ct, ex⟩ (r.use σ f) := by
  obtain ⟨h⟩ := h
  cases r with
  | ok x S => exact h
  | exc x S => exact h
  | bad => exact h.elim
theorem Z_pass (h : nx σ S) : Z zPass σ S ⟨nx, rt, bk, ct, ex⟩ := ⟨h⟩
theorem Z_brk (h : bk σ S) : Z zBrk σ S ⟨nx, rt, bk, ct, ex⟩ := ⟨h⟩
theorem Z_cnt (h : ct σ S) : Z zCnt σ S ⟨nx, rt, bk, ct, ex⟩ := ⟨h⟩
theorem Z_ret0 (h : rt .non S) : Z zRet0 σ S ⟨nx, rt, bk, ct, ex⟩ := ⟨h⟩
theorem Z_ret (h : G a σ S rt (oX ex σ)) : Z (zRet a) σ S ⟨nx, rt, bk, ct, ex⟩ := ⟨use_k h.out⟩
theorem Z_exp (h : G a σ S (fun _ S1 => nx σ S1) (oX ex σ)) : Z (zExp a) σ S ⟨nx, rt, bk, ct, ex⟩ := ⟨use_k h.out⟩
theorem Z_if (h : G t σ S (fun k S1 => Br k (Z z σ S1 ⟨nx, rt, bk, ct, ex⟩) (Z z' σ S1 ⟨nx, rt, bk, ct, ex⟩)) (oX ex σ)) : Z (zIf t z z') σ S ⟨nx, rt, bk, ct, ex⟩ :=
  ⟨use_k (h.out.post fun k S1 h => by
    cases k with
    | true => exact (h.out.1 rfl).out
    | false => exact (h.out.2 rfl).out)⟩
theorem Z_set (h : G a σ S (fun d S1 => StP σ i d fun σ1 => nx σ1 S1) (oX ex σ)) : Z (zSet i a) σ S ⟨nx, rt, bk, ct, ex⟩ :=
  ⟨use_k (h.out.post fun _ _ h => h.out)⟩
theorem Z_tup {is : List Nat} (h : G a σ S (fun d S1 => BdP (bT is) σ d fun σ1 => nx σ1 S1) (oX ex σ)) : Z (zTup is a) σ S ⟨nx, rt, bk, ct, ex⟩ :=
  ⟨use_k (h.out.post fun _ _ h => by
    obtain ⟨σ1, e, h⟩ := h.out
    rw [e]
    exact h)⟩
theorem Z_par {is : List Nat} (h : G as σ S (fun ds S1 => EqL ds.length is.length (TsP σ is ds fun σ1 => nx σ1 S1)) (oX ex σ)) : Z (zPar is as) σ S ⟨nx, rt, bk, ct, ex⟩ :=
  ⟨use_k (h.out.post fun _ _ h => by
    rw [if_pos h.out.1]
    exact h.out.2.out)⟩
/-- targets of all sorts, one behind the other -/
structure RnP (gs : List (D → Env → Store → Fl)) (ds : List D) (σ : Env) (S : Store) (K : Ks) : Prop where
  out : kOf K (runT gs ds σ S)
structure TgP (g : D → Env → Store → Fl) (d : D) (σ : Env) (S : Store) (K : Ks) : Prop where
  out : kOf K (g d σ S)
theorem Rn_0 (h : nx σ S) : RnP [] [] σ S ⟨nx, rt, bk, ct, ex⟩ := ⟨h⟩
theorem Rn_s {g : D → Env → Store → Fl} {gs : List (D → Env → Store → Fl)} {d : D} {ds : List D} (h : TgP g d σ S ⟨fun σ1 S1 => RnP gs ds σ1 S1 ⟨nx, rt, bk, ct, ex⟩, rt, bk, ct, ex⟩) : RnP (g :: gs) (d :: ds) σ S ⟨nx, rt, bk, ct, ex⟩ := by
  obtain ⟨h⟩ := h
  refine ⟨?_⟩
  show kOf ⟨nx, rt, bk, ct, ex⟩ ((g d σ S).seq (runT gs ds))
  cases e : g d σ S with
  | nx σ1 S1 => rw [e] at h; exact h.out
  | _ => rw [e] at h; exact h
theorem Tg_N {d : D} (h : StP σ i d fun σ1 => nx σ1 S) : TgP (tgN i) d σ S ⟨nx, rt, bk, ct, ex⟩ := ⟨h.out⟩
theorem Tg_A {cs : List Str} {f : Str} {d : D} (h : G a σ S (fun x S2 => FsP cs S2 x d f fun S3 => nx σ S3) (oX ex σ)) : TgP (tgA cs f a) d σ S ⟨nx, rt, bk, ct, ex⟩ :=
  ⟨use_k (h.out.post fun _ _ h => by
    obtain ⟨S4, e, h⟩ := h.out
    rw [e]
    exact h)⟩
theorem Tg_I {d : D} (h : G a σ S (fun x S2 => G b σ S2 (fun y S3 => SdP S3 x y d fun S4 => nx σ S4) (oX ex σ)) (oX ex σ)) : TgP (tgI a b) d σ S ⟨nx, rt, bk, ct, ex⟩ :=
  ⟨use_k (h.out.post fun _ _ h => use_k (h.out.post fun _ _ h => by
    obtain ⟨S4, e, h⟩ := h.out
    rw [e]
    exact h))⟩
structure MxP (gs : List (D → Env → Store → Fl)) (d : D) (σ : Env) (S : Store) (K : Ks) : Prop where
  out : ∃ ds, d = .tup ds ∧ ds.length = gs.length ∧ RnP gs ds σ S K
theorem Mx_t {gs : List (D → Env → Store → Fl)} {ds : List D} {K : Ks} (hl : ds.length = gs.length) (h : RnP gs ds σ S K) : MxP gs (.tup ds) σ S K := ⟨⟨ds, rfl, hl, h⟩⟩
theorem Z_mix {gs : List (D → Env → Store → Fl)} (h : G a σ S (fun d S1 => MxP gs d σ S1 ⟨nx, rt, bk, ct, ex⟩) (oX ex σ)) : Z (zMix gs a) σ S ⟨nx, rt, bk, ct, ex⟩ :=
  ⟨use_k (h.out.post fun _ _ h => by
    obtain ⟨ds, rfl, hl, h⟩ := h.out
    show kOf _ (if ds.length = gs.length then _ else _)
    rw [if_pos hl]
    exact h.out)⟩
theorem Z_sub (h : G c σ S (fun d S1 => G a σ S1 (fun x S2 => G b σ S2 (fun y S3 => SdP S3 x y d fun S4 => nx σ S4) (oX ex σ)) (oX ex σ)) (oX ex σ)) : Z (zSub a b c) σ S ⟨nx, rt, bk, ct, ex⟩ :=
  ⟨use_k (h.out.post fun _ _ h => use_k (h.out.post fun _ _ h => use_k (h.out.post fun _ _ h => by
    obtain ⟨S4, e, h⟩ := h.out
    rw [e]
    exact h)))⟩
theorem Z_fld {cs : List Str} {f : Str} (h : G b σ S (fun d S1 => G a σ S1 (fun x S2 => FsP cs S2 x d f fun S3 => nx σ S3) (oX ex σ)) (oX ex σ)) : Z (zFld cs f a b) σ S ⟨nx, rt, bk, ct, ex⟩ :=
  ⟨use_k (h.out.post fun _ _ h => use_k (h.out.post fun _ _ h => by
    obtain ⟨S4, e, h⟩ := h.out
    rw [e]
    exact h))⟩
theorem Z_seq (h : Z z σ S ⟨fun σ1 S1 => Z z' σ1 S1 ⟨nx, rt, bk, ct, ex⟩, rt, bk, ct, ex⟩) : Z (zSeq z z') σ S ⟨nx, rt, bk, ct, ex⟩ := by
  obtain ⟨h⟩ := h
  refine ⟨?_⟩
  show kOf ⟨nx, rt, bk, ct, ex⟩ ((z σ S).seq z')
  cases e : z σ S with
  | nx σ1 S1 => rw [e] at h; exact h.out
  | _ => rw [e] at h; exact h
/-- what holds behind an if -/
theorem Z_ifm {z1 z2 : XS} (J : Env → Store → Prop) (h : Z (zIf t z1 z2) σ S ⟨J, rt, bk, ct, ex⟩) (h2 : ∀ σ1 S1, J σ1 S1 → Z z' σ1 S1 ⟨nx, rt, bk, ct, ex⟩) : Z (zSeq (zIf t z1 z2) z') σ S ⟨nx, rt, bk, ct, ex⟩ := by
  obtain ⟨h⟩ := h
  refine ⟨?_⟩
  show kOf ⟨nx, rt, bk, ct, ex⟩ ((zIf t z1 z2 σ S).seq z')
  cases e : zIf t z1 z2 σ S with
  | nx σ1 S1 => rw [e] at h; exact (h2 _ _ h).out
  | _ => rw [e] at h; exact h
/-- try: what comes of the body; what comes of the suite -/
theorem Z_try {i : Nat} {nd : Bool} {kt : Str → Str → Option Bool} {y : Str} {b : XS} {h : Str → XS} (hb : Z b σ S ⟨nx, rt, bk, ct, fun x σ1 S1 => TyP i nd kt y h x σ1 S1 ⟨nx, rt, bk, ct, ex⟩⟩) : Z (zTry i nd kt y b h) σ S ⟨nx, rt, bk, ct, ex⟩ := by
  obtain ⟨hb⟩ := hb
  refine ⟨?_⟩
  unfold zTry
  cases e : b σ S with
  | nx σ1 S1 => rw [e] at hb; exact hb
  | rt d S1 => rw [e] at hb; exact hb
  | bk σ1 S1 => rw [e] at hb; exact hb
  | ct σ1 S1 => rw [e] at hb; exact hb
  | bad => rw [e] at hb; exact hb
  | exc x σ1 S1 => rw [e] at hb; exact hb.out
theorem Ty_yes {i : Nat} {nd : Bool} {kt : Str → Str → Option Bool} {x y : Str} {h : Str → XS} (e : kt x y = some true) (l : (nd && decide (σ.length ≤ i)) = false)
    (hh : SnP σ i fun σ0 => Z (h x) σ0 S ⟨fun σ S => SnP σ i fun σ1 => nx σ1 S, rt, fun σ S => SnP σ i fun σ1 => bk σ1 S, fun σ S => SnP σ i fun σ1 => ct σ1 S, fun _ _ _ => False⟩) : TyP i nd kt y h x σ S ⟨nx, rt, bk, ct, ex⟩ := by
  refine ⟨?_⟩
  simp only [e, l, Bool.false_eq_true, if_false]
  obtain ⟨hh⟩ := hh.out
  cases z : h x (σ.set i none) S with
  | nx σ1 S1 => rw [z] at hh; exact hh.out
  | rt d S1 => rw [z] at hh; exact hh
  | bk σ1 S1 => rw [z] at hh; exact hh.out
  | ct σ1 S1 => rw [z] at hh; exact hh.out
  | bad => rw [z] at hh; exact hh
  | exc x σ1 S1 => rw [z] at hh; exact hh.elim
theorem Ty_no {i : Nat} {nd : Bool} {kt : Str → Str → Option Bool} {x y : Str} {h : Str → XS} (e : kt x y = some false) (hh : ex x σ S) : TyP i nd kt y h x σ S ⟨nx, rt, bk, ct, ex⟩ := by
  refine ⟨?_⟩
  simp only [e]
  exact hh
theorem Z_mid (J : Env → Store → Prop) (h : Z z σ S ⟨J, rt, bk, ct, ex⟩) (h2 : ∀ σ1 S1, J σ1 S1 → Z z' σ1 S1 ⟨nx, rt, bk, ct, ex⟩) : Z (zSeq z z') σ S ⟨nx, rt, bk, ct, ex⟩ := by
  obtain ⟨h⟩ := h
  refine ⟨?_⟩
  show kOf ⟨nx, rt, bk, ct, ex⟩ ((z σ S).seq z')
  cases e : z σ S with
  | nx σ1 S1 => rw [e] at h; exact (h2 _ _ h).out
  | _ => rw [e] at h; exact h
theorem Z_while (h : WhP t z σ S ⟨nx, rt, bk, ct, ex⟩) : Z (zWhile t z) σ S ⟨nx, rt, bk, ct, ex⟩ := ⟨h.out⟩
theorem Z_for {bd : Env → D → Option Env} {it : XI} (h : G it σ S (fun it S1 => LpP it (fun d σ1 S2 => match bd σ1 d with
    | some σ2 => z σ2 S2
    | none => .bad) σ S1 ⟨nx, rt, bk, ct, ex⟩) (oX ex σ)) : Z (zFor bd it z) σ S ⟨nx, rt, bk, ct, ex⟩ := ⟨use_k (h.out.post fun _ _ h => h.out)⟩
theorem Z_raise {x : Str} (h : ex x σ S) : Z (zRaise x) σ S ⟨nx, rt, bk, ct, ex⟩ := ⟨h⟩
/-! a def -/
structure FnP (frz : Bool) (n : Nat) (d : D) (S : Store) (Q : D → Store → Prop) (E : EX) : Prop where
  out : W (fin frz n d S) Q E
abbrev kF (frz : Bool) (n : Nat) (Q : D → Store → Prop) (E : EX) : Ks where
  nx := fun _ S' => FnP frz n .non S' Q E
  rt := fun d S' => FnP frz n d S' Q E
  bk := fun _ _ => False
  ct := fun _ _ => False
  ex := fun x _ S' => W (finX n x S') Q E
theorem W_dF {frz : Bool} {np nn : Nat} {args : List D} {σ : Env} (h : Z z σ S (kF frz S.length QD E)) (hl : args.length = np := by rfl) (e : args.map some ++ List.replicate (nn - args.length) none = σ := by rfl) : W (dF frz np nn z args S) QD E := by
  subst e
  unfold dF
  rw [if_pos hl]
  obtain ⟨h⟩ := h
  cases e : z (args.map some ++ List.replicate (nn - args.length) none) S with
  | nx σ1 S1 => rw [e] at h; exact h.out
  | rt d S1 => rw [e] at h; exact h.out
  | exc x σ1 S1 => rw [e] at h; exact h
  | bk σ1 S1 => rw [e] at h; exact h.elim
  | ct σ1 S1 => rw [e] at h; exact h.elim
  | bad => rw [e] at h; exact h.elim
theorem FnP_same {n : Nat} {S' : Store} (hl : S'.length = n) (h : QD x S') : FnP false n x S' QD E := by
  refine ⟨?_⟩
  unfold fin
  simp only [hl, and_self, ↓reduceIte]
  exact ⟨h⟩
theorem FnP_self (h : QD x S) : FnP false S.length x S QD E := FnP_same rfl h
/-! ### values -/
variable {n m : Int} {Q : D → Prop} {xs ys : List D}
theorem Bn_add (h : Q (.int (n + m))) : Bn S .Add (.int n) (.int m) Q := ⟨⟨_, rfl, h⟩⟩
theorem Bn_sub (h : Q (.int (n - m))) : Bn S .Sub (.int n) (.int m) Q := ⟨⟨_, rfl, h⟩⟩
theorem Bn_mul (hb : n.natAbs.log2 + m.natAbs.log2 < 1000000) (h : Q (.int (n * m))) : Bn S .Mult (.int n) (.int m) Q := ⟨⟨_, by simp only [binD, arith, if_pos hb, Option.map_some], h⟩⟩
theorem Bn_fdiv (hb : 0 < m ∧ m.natAbs.log2 < 9000) (h : Q (.int (n / m))) : Bn S .FloorDiv (.int n) (.int m) Q := ⟨⟨_, by simp only [binD, arith, if_pos hb, Option.map_some], h⟩⟩
theorem Bn_mod (hb : 0 < m) (h : Q (.int (n % m))) : Bn S .Mod (.int n) (.int m) Q := ⟨⟨_, by simp only [binD, arith, if_pos hb, Option.map_some], h⟩⟩
theorem Bn_pow (hb : 0 ≤ m ∧ m ≤ 1000000 ∧ n.natAbs < 2 ^ 64) (h : Q (.int (n ^ m.toNat))) : Bn S .Pow (.int n) (.int m) Q := ⟨⟨_, by simp only [binD, arith, if_pos hb, Option.map_some], h⟩⟩
theorem Bn_shl (hb : 0 ≤ m ∧ (Builtin.Int.intBits n : Int) + m ≤ 2 ^ 27) (h : Q (.int (n * 2 ^ m.toNat))) : Bn S .LShift (.int n) (.int m) Q := ⟨⟨_, by simp only [binD, arith, if_pos hb, Option.map_some], h⟩⟩
theorem Bn_shr (hb : 0 ≤ m) (h : Q (.int (n / 2 ^ m.toNat))) : Bn S .RShift (.int n) (.int m) Q := ⟨⟨_, by simp only [binD, arith, if_pos hb, Option.map_some], h⟩⟩
theorem Bn_and (h : Q (.int (Builtin.bitAnd n m))) : Bn S .BitAnd (.int n) (.int m) Q := ⟨⟨_, rfl, h⟩⟩
theorem Bn_str {u v : Str} (hb : u.length + v.length ≤ 16777216) (h : Q (.str (u ++ v))) : Bn S .Add (.str u) (.str v) Q := ⟨⟨_, by simp only [binD, if_pos hb], h⟩⟩
theorem Bn_strN {u : Str} (hb : -1000000 ≤ n ∧ n ≤ 1000000 ∧ u.length * n.toNat ≤ 1000000) (h : Q (.str (timesS u n))) : Bn S .Mult (.str u) (.int n) Q := ⟨⟨_, by simp only [binD, if_pos hb], h⟩⟩
theorem Bn_tupN (hb : -1000000 ≤ n ∧ n ≤ 1000000 ∧ xs.length * n.toNat ≤ 1000000) (h : Q (.tup (List.replicate n.toNat xs).flatten)) : Bn S .Mult (.tup xs) (.int n) Q := ⟨⟨_, by simp only [binD, if_pos hb], h⟩⟩
theorem Bn_lstN (hb : -1000000 ≤ n ∧ n ≤ 1000000 ∧ xs.length * n.toNat ≤ 1000000) (h : Q (.lst (List.replicate n.toNat xs).flatten)) : Bn S .Mult (.lst xs) (.int n) Q := ⟨⟨_, by simp only [binD, catD, seqL, if_pos hb], h⟩⟩
theorem Bn_tup (hb : xs.length + ys.length ≤ 16777216) (h : Q (.tup (xs ++ ys))) : Bn S .Add (.tup xs) (.tup ys) Q := ⟨⟨_, by simp only [binD, if_pos hb], h⟩⟩
theorem Bn_lst (hb : xs.length + ys.length ≤ 16777216) (h : Q (.lst (xs ++ ys))) : Bn S .Add (.lst xs) (.lst ys) Q := ⟨⟨_, by
  have h1 : xs.length ≤ 16777216 := by omega
  have h2 : ys.length ≤ 16777216 := by omega
  simp only [binD, catD, seqL, if_pos (And.intro h1 (And.intro h2 hb))], h⟩⟩
theorem Cp_lt (h : PB (decide (n < m))) : Cp S .Lt (.int n) (.int m) PB := ⟨⟨_, rfl, h⟩⟩
theorem Cp_le (h : PB (decide (n ≤ m))) : Cp S .LtE (.int n) (.int m) PB := ⟨⟨_, rfl, h⟩⟩
theorem Cp_gt (h : PB (decide (m < n))) : Cp S .Gt (.int n) (.int m) PB := ⟨⟨_, rfl, h⟩⟩
theorem Cp_ge (h : PB (decide (m ≤ n))) : Cp S .GtE (.int n) (.int m) PB := ⟨⟨_, rfl, h⟩⟩
theorem eqD_int : eqD S (.int n) (.int m) = some (decide (n = m)) := by
  have : eqD S (.int n) (.int m) = some (PyData.eqv (.int n) (.int m)) := rfl
  rw [this, PyData.eqv]
  rfl
theorem Cp_eqi (h : PB (decide (n = m))) : Cp S .Eq (.int n) (.int m) PB := ⟨⟨_, eqD_int (S := S), h⟩⟩
theorem Cp_nei (h : PB (!decide (n = m))) : Cp S .NotEq (.int n) (.int m) PB := ⟨⟨_, (congrArg (Option.map (! ·)) (eqD_int (S := S) (n := n) (m := m)) : _), h⟩⟩
theorem Cp_is {k l : Bool} (h : PB (decide (k = l))) : Cp S .Is (.bl k) (.bl l) PB := ⟨⟨_, rfl, h⟩⟩
theorem Cp_isn {k l : Bool} (h : PB (!decide (k = l))) : Cp S .IsNot (.bl k) (.bl l) PB := ⟨⟨_, rfl, h⟩⟩
theorem Cp_eqb {k l : Bool} (h : PB (k == l)) : Cp S .Eq (.bl k) (.bl l) PB := ⟨⟨_, by cases k <;> cases l <;> rfl, h⟩⟩
theorem Cp_neb {k l : Bool} (h : PB (k != l)) : Cp S .NotEq (.bl k) (.bl l) PB := ⟨⟨_, by cases k <;> cases l <;> rfl, h⟩⟩
/-- by computing -/
theorem Cp_by {k : Bool} (e : cmpD S op x y = some k) (h : PB k) : Cp S op x y PB := ⟨⟨_, e, h⟩⟩
theorem Tr_bl {k : Bool} (h : PB k) : Tr S (.bl k) PB := ⟨⟨_, rfl, h⟩⟩
theorem Tr_int (h : PB (n != 0)) : Tr S (.int n) PB := ⟨⟨_, rfl, h⟩⟩
theorem Tr_non (h : PB false) : Tr S .non PB := ⟨⟨_, rfl, h⟩⟩
theorem Tr_lst (h : PB (!xs.isEmpty)) : Tr S (.lst xs) PB := ⟨⟨_, rfl, h⟩⟩
theorem Tr_tup (h : PB (!xs.isEmpty)) : Tr S (.tup xs) PB := ⟨⟨_, rfl, h⟩⟩
theorem Bl_bl {k : Bool} (h : PB k) : Bl (.bl k) PB := ⟨⟨_, rfl, h⟩⟩
theorem Io_int {q : Int → Prop} (h : q n) : IoP (.int n) q := ⟨⟨_, rfl, h⟩⟩
theorem R1_mk {q : Prop} (hb : -(2 ^ 62) ≤ n ∧ n < 2 ^ 62) (h : q) : R1P n q := ⟨⟨by unfold small62; simp only [Bool.and_eq_true, decide_eq_true_eq]; exact hb, h⟩⟩
theorem Ix_by (e : ixD S x y = some (x' : D)) (h : Q x') : IxP S x y Q := ⟨⟨_, e, h⟩⟩
theorem atI_nat {xs : List D} {k : Int} (h0 : 0 ≤ k) (h1 : k < xs.length) : ∃ d, L2.atI xs k = some d ∧ xs[k.toNat]? = some d := by
  unfold L2.atI L2.ixN
  rw [if_pos h0, if_pos h1]
  have : k.toNat < xs.length := by omega
  exact ⟨xs[k.toNat], by simp [this], by simp [this]⟩
theorem Ix_lst {k : Int} (h0 : 0 ≤ k) (h1 : k < xs.length) (h : ∀ d, xs[k.toNat]? = some d → Q d) : IxP S (.lst xs) (.int k) Q := by
  obtain ⟨d, e1, e2⟩ := atI_nat h0 h1
  exact ⟨⟨d, e1, h d e2⟩⟩
theorem Ix_tup {k : Int} (h0 : 0 ≤ k) (h1 : k < xs.length) (h : ∀ d, xs[k.toNat]? = some d → Q d) : IxP S (.tup xs) (.int k) Q := by
  obtain ⟨d, e1, e2⟩ := atI_nat h0 h1
  exact ⟨⟨d, e1, h d e2⟩⟩
theorem Is_by {ty : Str} {k : Bool} (e : isTy S x ty = some k) (h : PB k) : IsP S x ty PB := ⟨⟨_, e, h⟩⟩
theorem Bs_by {bt : Blt} (e : bt.sem S xs = some x) (h : Q x) : BsP S bt xs Q := ⟨⟨_, e, h⟩⟩
theorem Bs_int (h : Q (.int n)) : BsP S .int [.int n] Q := ⟨⟨_, rfl, h⟩⟩
theorem Bs_intb {k : Bool} (h : Q (.int (if k then 1 else 0))) : BsP S .int [.bl k] Q := ⟨⟨_, rfl, h⟩⟩
theorem Bs_len (h : Q (.int ys.length)) : BsP S .len [.lst ys] Q := ⟨⟨_, rfl, h⟩⟩
theorem Bs_lent (h : Q (.int ys.length)) : BsP S .len [.tup ys] Q := ⟨⟨_, rfl, h⟩⟩
theorem Bs_min (h : Q (.int (if m < n then m else n))) : BsP S .min [.int n, .int m] Q := ⟨⟨_, rfl, h⟩⟩
theorem Bs_max (h : Q (.int (if m > n then m else n))) : BsP S .max [.int n, .int m] Q := ⟨⟨_, rfl, h⟩⟩
theorem Bs_abs (h : Q (.int (if n < 0 then -n else n))) : BsP S .abs [.int n] Q := ⟨⟨_, rfl, h⟩⟩
theorem Md_bits {q : MId → Prop} (h : q .bitLength) : MdP S (.int n) "bit_length" q := ⟨⟨_, rfl, h⟩⟩
theorem Mt_bits (h : QD (.int (Builtin.Int.intBits n : Nat)) S) : MtP S .bitLength (.int n) [] QD := ⟨⟨_, _, rfl, h⟩⟩
theorem Ln_mk {l : Nat} {q : Prop} (hb : l ≤ 16777216) (h : q) : LnP l q := ⟨⟨hb, h⟩⟩
theorem It_lst {q : Items → Prop} (h : q ⟨xs, none, false⟩) : ItP S (.lst xs) q := ⟨⟨_, rfl, h⟩⟩
theorem En_lst {q : Items → Prop} (h : q ⟨xs, none, true⟩) : EnP S (.lst xs) q := ⟨⟨_, rfl, h⟩⟩
theorem Zp_tup {q : Items → Prop} (h : q ⟨pairUp xs ys, none, false⟩) : ZpP (.tup xs) (.tup ys) q := ⟨⟨_, rfl, h⟩⟩
theorem Zp_lst {q : Items → Prop} (h : q ⟨pairUp xs ys, none, false⟩) : ZpP (.lst xs) (.lst ys) q := ⟨⟨_, rfl, h⟩⟩
theorem Zp_lt {q : Items → Prop} (h : q ⟨pairUp xs ys, none, false⟩) : ZpP (.lst xs) (.tup ys) q := ⟨⟨_, rfl, h⟩⟩
theorem Zp_tl {q : Items → Prop} (h : q ⟨pairUp xs ys, none, false⟩) : ZpP (.tup xs) (.lst ys) q := ⟨⟨_, rfl, h⟩⟩
theorem Rv_lst (h : Q (.lst xs.reverse)) : RvP S (.lst xs) Q := ⟨⟨_, rfl, h⟩⟩
theorem Dc_mk {QD : D → Store → Prop} {S' : Store} (e : dictD S y = some (x, S')) (h : QD x S') : DcP S [y] QD := ⟨⟨_, _, _, rfl, e, h⟩⟩
theorem Ky_str {z : Str} {q : L2.Key → Prop} (h : q (.inr z)) : KyP (.str z) q := ⟨⟨_, rfl, h⟩⟩
theorem Ky_int {q : L2.Key → Prop} (h : q (.inl n)) : KyP (.int n) q := ⟨⟨_, rfl, h⟩⟩
theorem It_tup {q : Items → Prop} (h : q ⟨xs, none, false⟩) : ItP S (.tup xs) q := ⟨⟨_, rfl, h⟩⟩
theorem Br_t {k : Bool} {A B : Prop} (e : k = true) (h : A) : Br k A B := ⟨⟨fun _ => h, fun z => absurd (e.symm.trans z) (by decide)⟩⟩
theorem Br_f {k : Bool} {A B : Prop} (e : k = false) (h : B) : Br k A B := ⟨⟨fun z => absurd (e.symm.trans z) (by decide), fun _ => h⟩⟩
theorem Br_dec {p : Prop} [Decidable p] {A B : Prop} (h1 : p → A) (h2 : ¬ p → B) : Br (decide p) A B := ⟨⟨fun z => h1 (of_decide_eq_true z), fun z => h2 (of_decide_eq_false z)⟩⟩
theorem Br_not {k : Bool} {A B : Prop} (h : Br k B A) : Br (!k) A B := by
  obtain ⟨h1, h2⟩ := h.out
  exact ⟨⟨fun z => h2 (by simpa using z), fun z => h1 (by simpa using z)⟩⟩
theorem St_0 {o : Option D} {q : Env → Prop} (h : q (some x :: σ)) : StP (o :: σ) 0 x q := ⟨h⟩
theorem St_s {o : Option D} {q : Env → Prop} (h : StP σ i x fun σ1 => q (o :: σ1)) : StP (o :: σ) (i + 1) x q := ⟨h.out⟩
theorem Bd_b1 {q : Env → Prop} (h : StP σ i x q) : BdP (b1 i) σ x q := ⟨⟨_, rfl, h.out⟩⟩
theorem Bd_bT {is : List Nat} {q : Env → Prop} (hl : xs.length = is.length) (h : TsP σ is xs q) : BdP (bT is) σ (.tup xs) q := ⟨⟨_, by unfold bT; simp only [seqU, if_pos hl], h.out⟩⟩
theorem Bd_bTl {is : List Nat} {q : Env → Prop} (hl : xs.length = is.length) (h : TsP σ is xs q) : BdP (bT is) σ (.lst xs) q := ⟨⟨_, by unfold bT; simp only [seqU, if_pos hl], h.out⟩⟩
theorem Ts_0 {q : Env → Prop} (h : q σ) : TsP σ [] [] q := ⟨h⟩
theorem Ts_s {is : List Nat} {q : Env → Prop} (h : StP σ i x fun σ1 => TsP σ1 is xs q) : TsP σ (i :: is) (x :: xs) q := ⟨h.out.out⟩
end
/-! ### loops -/
section
variable {S : Store} {σ : Env} {nx bk ct : Env → Store → Prop} {rt : D → Store → Prop} {ex : Str → Env → Store → Prop} {it : Items}
/-- one turn of a for -/
structure TnP (f : D → Env → Store → Fl) (d : D) (σ : Env) (S : Store) (K0 : Ks) : Prop where
  out : kOf K0 (f d σ S)
theorem Tn_mk {bd : Env → D → Option Env} {z : XS} {d : D} (h : BdP bd σ d fun σ1 => Z z σ1 S ⟨nx, rt, bk, ct, ex⟩) : TnP (fun d σ1 S2 => match bd σ1 d with
    | some σ2 => z σ2 S2
    | none => .bad) d σ S ⟨nx, rt, bk, ct, ex⟩ := by
  obtain ⟨σ1, e, h⟩ := h.out
  refine ⟨?_⟩
  show kOf ⟨nx, rt, bk, ct, ex⟩ (match bd σ d with | some σ2 => z σ2 S | none => .bad)
  rw [e]
  exact h.out
theorem forF_inv {f : D → Env → Store → Fl} (I : Nat → Env → Store → Prop) {xs : List D} {w : Nat → D → D} (hg : ∀ i σ S, I i σ S → it.get S i = some (xs[i]?.map (w i))) (step : ∀ i d σ S, xs[i]? = some d → I i σ S → TnP f (w i d) σ S ⟨I (i + 1), rt, nx, I (i + 1), ex⟩)
    (stop : ∀ σ S, I xs.length σ S → nx σ S) : ∀ (m i : Nat) (σ : Env) (S : Store), xs.length < i + m → i ≤ xs.length → I i σ S → kOf ⟨nx, rt, bk, ct, ex⟩ (forF it f m i σ S)
  | 0, i, σ, S, h1, h2, _ => absurd h1 (by omega)
  | m + 1, i, σ, S, h1, h2, hI => by
    have hg' := hg i σ S hI
    unfold forF
    rw [hg']
    cases e : xs[i]? with
    | none =>
      have : xs.length ≤ i := List.getElem?_eq_none_iff.mp e
      have e2 : i = xs.length := by omega
      subst e2
      exact stop _ _ hI
    | some d =>
      have lt : i < xs.length := (List.getElem?_eq_some_iff.mp e).1
      have st := (step i d σ S e hI).out
      show kOf ⟨nx, rt, bk, ct, ex⟩ (match f (w i d) σ S with
        | .nx σ1 S1 => forF it f m (i + 1) σ1 S1
        | .ct σ1 S1 => forF it f m (i + 1) σ1 S1
        | .bk σ1 S1 => .nx σ1 S1
        | r => r)
      cases q : f (w i d) σ S with
      | nx σ1 S1 => rw [q] at st; exact forF_inv I hg step stop m (i + 1) σ1 S1 (by omega) (by omega) st
      | ct σ1 S1 => rw [q] at st; exact forF_inv I hg step stop m (i + 1) σ1 S1 (by omega) (by omega) st
      | bk σ1 S1 => rw [q] at st; exact st
      | rt d S1 => rw [q] at st; exact st
      | exc x σ1 S1 => rw [q] at st; exact st
      | bad => rw [q] at st; exact st.elim
/-- any walk: what stands at each turn -/
theorem Lp_invG {f : D → Env → Store → Fl} {xs : List D} (w : Nat → D → D) (I : Nat → Env → Store → Prop) (hg : ∀ i σ S, I i σ S → it.get S i = some (xs[i]?.map (w i))) (h0 : I 0 σ S) (step : ∀ i d σ S, xs[i]? = some d → I i σ S → TnP f (w i d) σ S ⟨I (i + 1), rt, nx, I (i + 1), ex⟩)
    (stop : ∀ σ S, I xs.length σ S → nx σ S) (hl : xs.length < 100000) : LpP it f σ S ⟨nx, rt, bk, ct, ex⟩ :=
  ⟨forF_inv I hg step stop 100000 0 σ S (by omega) (Nat.zero_le _) h0⟩
/-- a list of the store, walked -/
theorem Lp_invR {f : D → Env → Store → Fl} {xs ys : List D} {l : Nat} (I : Nat → Env → Store → Prop) (hg : ∀ i σ S, I i σ S → S[l]? = some (.lst xs)) (h0 : I 0 σ S) (step : ∀ i d σ S, xs[i]? = some d → I i σ S → TnP f d σ S ⟨I (i + 1), rt, nx, I (i + 1), ex⟩)
    (stop : ∀ σ S, I xs.length σ S → nx σ S) (hl : xs.length < 100000) : LpP ⟨ys, some l, false⟩ f σ S ⟨nx, rt, bk, ct, ex⟩ :=
  Lp_invG (fun _ d => d) I (fun i σ S h => by show (match S[l]? with | some (.lst xs) => some (xs[i]?.map (wrapI false i)) | _ => none) = _; rw [hg i σ S h]; rfl) h0 step stop hl
theorem Lp_invW {f : D → Env → Store → Fl} (I : Nat → Env → Store → Prop) (h0 : I 0 σ S) (step : ∀ i d σ S, it.xs[i]? = some d → I i σ S → TnP f (wrapI it.enum i d) σ S ⟨I (i + 1), rt, nx, I (i + 1), ex⟩)
    (stop : ∀ σ S, I it.xs.length σ S → nx σ S) (hl : it.xs.length < 100000) (ha : it.at_ = none := by rfl) : LpP it f σ S ⟨nx, rt, bk, ct, ex⟩ :=
  Lp_invG (wrapI it.enum) I (fun i σ S _ => by unfold Items.get; rw [ha]) h0 step stop hl
theorem Lp_inv {f : D → Env → Store → Fl} (I : Nat → Env → Store → Prop) (h0 : I 0 σ S) (step : ∀ i d σ S, it.xs[i]? = some d → I i σ S → TnP f d σ S ⟨I (i + 1), rt, nx, I (i + 1), ex⟩)
    (stop : ∀ σ S, I it.xs.length σ S → nx σ S) (hl : it.xs.length < 100000) (ha : it.at_ = none := by rfl) (he : it.enum = false := by rfl) : LpP it f σ S ⟨nx, rt, bk, ct, ex⟩ :=
  Lp_invW I h0 (fun i d σ S h hI => by rw [he]; exact step i d σ S h hI) stop hl ha
theorem Lp_invE {f : D → Env → Store → Fl} {xs : List D} (I : Nat → Env → Store → Prop) (h0 : I 0 σ S) (step : ∀ i d σ S, xs[i]? = some d → I i σ S → TnP f (.tup [.int (i : Nat), d]) σ S ⟨I (i + 1), rt, nx, I (i + 1), ex⟩)
    (stop : ∀ σ S, I xs.length σ S → nx σ S) (hl : xs.length < 100000) : LpP ⟨xs, none, true⟩ f σ S ⟨nx, rt, bk, ct, ex⟩ := Lp_invW (it := ⟨xs, none, true⟩) I h0 step stop hl
theorem whileF_inv {t : XT} {z : XS} (I : Nat → Env → Store → Prop) (step : ∀ n σ S, I n σ S → G t σ S (fun k S1 => Br k (Z z σ S1 ⟨fun σ S => ∃ m, m < n ∧ I m σ S, rt, nx, fun σ S => ∃ m, m < n ∧ I m σ S, ex⟩) (nx σ S1)) (oX ex σ)) :
    ∀ (m n : Nat) (σ : Env) (S : Store), n < m → I n σ S → kOf ⟨nx, rt, bk, ct, ex⟩ (whileF t z m σ S)
  | 0, n, σ, S, h, _ => absurd h (by omega)
  | m + 1, n, σ, S, h, hI => by
    unfold whileF
    refine use_k ((step n σ S hI).out.post fun k S1 h1 => ?_)
    cases k with
    | false => exact h1.out.2 rfl
    | true =>
      have st := (h1.out.1 rfl).out
      rw [if_pos rfl]
      cases q : z σ S1 with
      | nx σ1 S2 =>
        rw [q] at st
        obtain ⟨n', hn, hI'⟩ := st
        exact whileF_inv I step m n' σ1 S2 (by omega) hI'
      | ct σ1 S2 =>
        rw [q] at st
        obtain ⟨n', hn, hI'⟩ := st
        exact whileF_inv I step m n' σ1 S2 (by omega) hI'
      | bk σ1 S1 => rw [q] at st; exact st
      | rt d S1 => rw [q] at st; exact st
      | exc x σ1 S1 => rw [q] at st; exact st
      | bad => rw [q] at st; exact st.elim
theorem Wh_inv {t : XT} {z : XS} (I : Nat → Env → Store → Prop) (n : Nat) (hn : n < 100000) (h0 : I n σ S)
    (step : ∀ n σ S, I n σ S → G t σ S (fun k S1 => Br k (Z z σ S1 ⟨fun σ S => ∃ m, m < n ∧ I m σ S, rt, nx, fun σ S => ∃ m, m < n ∧ I m σ S, ex⟩) (nx σ S1)) (oX ex σ)) : WhP t z σ S ⟨nx, rt, bk, ct, ex⟩ :=
  ⟨whileF_inv I step 100000 n σ S hn h0⟩
/-- a comprehension with an invariant: what has been made, how far -/
theorem compF_inv {f : D → Store → Out (Option D)} {E : EX} {Q : List D → Store → Prop} (I : Nat → List D → Store → Prop) {xs : List D} {w : Nat → D → D} (hg : ∀ i acc S, I i acc S → it.get S i = some (xs[i]?.map (w i))) (hl : xs.length < 100000)
    (step : ∀ i d acc S, xs[i]? = some d → I i acc S → acc.length ≤ i → W (f (w i d) S) (fun o S1 => match o with
      | some y => I (i + 1) (acc ++ [y]) S1
      | none => I (i + 1) acc S1) E) (stop : ∀ acc S, I xs.length acc S → Q acc S) :
    ∀ (m i : Nat) (acc : List D) (S : Store), xs.length < i + m → i ≤ xs.length → acc.length ≤ i → I i acc S → W (compF it f m i acc S) Q E
  | 0, i, acc, S, h1, h2, _, _ => absurd h1 (by omega)
  | m + 1, i, acc, S, h1, h2, h3, hI => by
    have hg' := hg i acc S hI
    unfold compF
    rw [hg']
    cases e : xs[i]? with
    | none =>
      have : xs.length ≤ i := List.getElem?_eq_none_iff.mp e
      have e2 : i = xs.length := by omega
      subst e2
      exact ⟨stop _ _ hI⟩
    | some d =>
      have lt : i < xs.length := (List.getElem?_eq_some_iff.mp e).1
      have st := (step i d acc S e hI h3).out
      show W (match f (w i d) S with
        | .ok (some y) S1 => if acc.length < 16777216 then compF it f m (i + 1) (acc ++ [y]) S1 else .bad
        | .ok none S1 => compF it f m (i + 1) acc S1
        | .exc c S1 => .exc c S1
        | .bad => .bad) Q E
      cases q : f (w i d) S with
      | ok o S1 =>
        rw [q] at st
        cases o with
        | some y =>
          show W (if acc.length < 16777216 then _ else _) _ _
          rw [if_pos (by omega)]
          exact compF_inv I hg hl step stop m (i + 1) (acc ++ [y]) S1 (by omega) (by omega) (by rw [List.length_append, List.length_singleton]; omega) st
        | none => exact compF_inv I hg hl step stop m (i + 1) acc S1 (by omega) (by omega) (by omega) st
      | exc x S1 => rw [q] at st; exact ⟨st⟩
      | bad => rw [q] at st; exact st.elim
theorem Cf_invG {f : D → Store → Out (Option D)} {QL : List D → Store → Prop} {xs : List D} (w : Nat → D → D) (I : Nat → List D → Store → Prop) (hg : ∀ i acc S, I i acc S → it.get S i = some (xs[i]?.map (w i))) (hl : xs.length < 100000) (h0 : I 0 [] S)
    (step : ∀ i d acc S, xs[i]? = some d → I i acc S → acc.length ≤ i → W (f (w i d) S) (fun o S1 => match o with
      | some y => I (i + 1) (acc ++ [y]) S1
      | none => I (i + 1) acc S1) noX) (stop : ∀ acc S, I xs.length acc S → QL acc S) : CfP it f S QL :=
  ⟨compF_inv I hg hl step stop 100000 0 [] S (by omega) (Nat.zero_le _) (Nat.zero_le _) h0⟩
theorem Cf_invR {f : D → Store → Out (Option D)} {QL : List D → Store → Prop} {xs ys : List D} {l : Nat} (I : Nat → List D → Store → Prop) (hg : ∀ i acc S, I i acc S → S[l]? = some (.lst xs)) (hl : xs.length < 100000) (h0 : I 0 [] S)
    (step : ∀ i d acc S, xs[i]? = some d → I i acc S → acc.length ≤ i → W (f d S) (fun o S1 => match o with
      | some y => I (i + 1) (acc ++ [y]) S1
      | none => I (i + 1) acc S1) noX) (stop : ∀ acc S, I xs.length acc S → QL acc S) : CfP ⟨ys, some l, false⟩ f S QL :=
  Cf_invG (fun _ d => d) I (fun i acc S h => by show (match S[l]? with | some (.lst xs) => some (xs[i]?.map (wrapI false i)) | _ => none) = _; rw [hg i acc S h]; rfl) hl h0 step stop
theorem Cf_invRE {f : D → Store → Out (Option D)} {QL : List D → Store → Prop} {xs ys : List D} {l : Nat} (I : Nat → List D → Store → Prop) (hg : ∀ i acc S, I i acc S → S[l]? = some (.lst xs)) (hl : xs.length < 100000) (h0 : I 0 [] S)
    (step : ∀ i d acc S, xs[i]? = some d → I i acc S → acc.length ≤ i → W (f (.tup [.int (i : Nat), d]) S) (fun o S1 => match o with
      | some y => I (i + 1) (acc ++ [y]) S1
      | none => I (i + 1) acc S1) noX) (stop : ∀ acc S, I xs.length acc S → QL acc S) : CfP ⟨ys, some l, true⟩ f S QL :=
  Cf_invG (wrapI true) I (fun i acc S h => by show (match S[l]? with | some (.lst xs) => some (xs[i]?.map (wrapI true i)) | _ => none) = _; rw [hg i acc S h]) hl h0 step stop
theorem Cf_invW {f : D → Store → Out (Option D)} {QL : List D → Store → Prop} (I : Nat → List D → Store → Prop) (hl : it.xs.length < 100000) (h0 : I 0 [] S)
    (step : ∀ i d acc S, it.xs[i]? = some d → I i acc S → acc.length ≤ i → W (f (wrapI it.enum i d) S) (fun o S1 => match o with
      | some y => I (i + 1) (acc ++ [y]) S1
      | none => I (i + 1) acc S1) noX) (stop : ∀ acc S, I it.xs.length acc S → QL acc S) (ha : it.at_ = none := by rfl) : CfP it f S QL :=
  Cf_invG (wrapI it.enum) I (fun i acc S _ => by unfold Items.get; rw [ha]) hl h0 step stop
theorem Cf_inv {f : D → Store → Out (Option D)} {QL : List D → Store → Prop} (I : Nat → List D → Store → Prop) (hl : it.xs.length < 100000) (h0 : I 0 [] S)
    (step : ∀ i d acc S, it.xs[i]? = some d → I i acc S → acc.length ≤ i → W (f d S) (fun o S1 => match o with
      | some y => I (i + 1) (acc ++ [y]) S1
      | none => I (i + 1) acc S1) noX) (stop : ∀ acc S, I it.xs.length acc S → QL acc S) (ha : it.at_ = none := by rfl) (he : it.enum = false := by rfl) : CfP it f S QL :=
  Cf_invW I hl h0 (fun i d acc S h hI ha => by rw [he]; exact step i d acc S h hI ha) stop ha
theorem Cf_invE {f : D → Store → Out (Option D)} {QL : List D → Store → Prop} {xs : List D} (I : Nat → List D → Store → Prop) (hl : xs.length < 100000) (h0 : I 0 [] S)
    (step : ∀ i d acc S, xs[i]? = some d → I i acc S → acc.length ≤ i → W (f (.tup [.int (i : Nat), d]) S) (fun o S1 => match o with
      | some y => I (i + 1) (acc ++ [y]) S1
      | none => I (i + 1) acc S1) noX) (stop : ∀ acc S, I xs.length acc S → QL acc S) : CfP ⟨xs, none, true⟩ f S QL := Cf_invW (it := ⟨xs, none, true⟩) I hl h0 step stop
/-- .. errors let out -/
theorem Cx_inv {f : D → Store → Out (Option D)} {E : EX} {QL : List D → Store → Prop} (I : Nat → List D → Store → Prop) (hl : it.xs.length < 100000) (h0 : I 0 [] S)
    (step : ∀ i d acc S, it.xs[i]? = some d → I i acc S → acc.length ≤ i → W (f d S) (fun o S1 => match o with
      | some y => I (i + 1) (acc ++ [y]) S1
      | none => I (i + 1) acc S1) E) (stop : ∀ acc S, I it.xs.length acc S → QL acc S) (ha : it.at_ = none := by rfl) (he : it.enum = false := by rfl) : CfX it f S QL E :=
  ⟨compF_inv (w := fun _ d => d) I (fun i acc S _ => by unfold Items.get; rw [ha, he]; rfl) hl step stop 100000 0 [] S (by omega) (Nat.zero_le _) (Nat.zero_le _) h0⟩
/-- names forgotten ahead of a comprehension's turn -/
structure WpP (σ : Env) (is : List Nat) (q : Env → Prop) : Prop where
  out : q (wipeE σ is)
theorem Wp_0 {q : Env → Prop} (h : q σ) : WpP σ [] q := ⟨h⟩
theorem Wp_s {i : Nat} {is : List Nat} {q : Env → Prop} (h : WpP σ is fun σ1 => SnP σ1 i q) : WpP σ (i :: is) q := ⟨h.out.out⟩
theorem Sn_0 {o : Option D} {q : Env → Prop} (h : q (none :: σ)) : SnP (o :: σ) 0 q := ⟨h⟩
theorem Sn_s {i : Nat} {o : Option D} {q : Env → Prop} (h : SnP σ i fun σ1 => q (o :: σ1)) : SnP (o :: σ) (i + 1) q := ⟨h.out⟩
theorem CtX_mk {bd : Env → D → Option Env} {a : XE} {is : List Nat} {d : D} {Q : Option D → Store → Prop} {E : EX} (h : WpP σ is fun σ0 => BdP bd σ0 d fun σ1 => G a σ1 S (fun y S1 => Q (some y) S1) E) : W (match bd (wipeE σ is) d with
    | some σ2 => (a σ2 S).bind fun y S3 => .ok (some y) S3
    | none => .bad) Q E := by
  obtain ⟨σ1, e, h⟩ := h.out.out
  rw [e]
  exact .bind (h.out.post fun _ _ h => ⟨h⟩)
/-- one turn of a comprehension -/
theorem Ct_mk {bd : Env → D → Option Env} {a : XE} {is : List Nat} {d : D} {Q : Option D → Store → Prop} (h : WpP σ is fun σ0 => BdP bd σ0 d fun σ1 => G a σ1 S (fun y S1 => Q (some y) S1) noX) : W (match bd (wipeE σ is) d with
    | some σ2 => (a σ2 S).bind fun y S3 => .ok (some y) S3
    | none => .bad) Q noX := by
  obtain ⟨σ1, e, h⟩ := h.out.out
  rw [e]
  exact .bind (h.out.post fun _ _ h => ⟨h⟩)
theorem Ct_mk1 {bd : Env → D → Option Env} {a : XE} {t : XT} {is : List Nat} {d : D} {Q : Option D → Store → Prop} (h : WpP σ is fun σ0 => BdP bd σ0 d fun σ1 => G t σ1 S (fun k S1 => Br k (G a σ1 S1 (fun y S2 => Q (some y) S2) noX) (Q none S1)) noX) : W (match bd (wipeE σ is) d with
    | some σ2 => (t σ2 S).bind fun k S3 => if k = true then (a σ2 S3).bind fun y S4 => .ok (some y) S4 else .ok none S3
    | none => .bad) Q noX := by
  obtain ⟨σ1, e, h⟩ := h.out.out
  rw [e]
  exact .bind (h.out.post fun _ _ h => (h.imp (fun h => W.bind (f := fun y S4 => Out.ok (some y) S4) (Q := Q) (h.out.post fun _ _ h => ⟨h⟩)) fun h => (⟨h⟩ : W (.ok none _) Q noX)).w)
end
/-! ### equality of plain data -/
mutual
def pln : D → Bool
  | .non => true
  | .int _ => true
  | .str _ => true
  | .tup xs => plns xs
  | .lst xs => plns xs
  | _ => false
def plns : List D → Bool
  | [] => true
  | x :: xs => pln x && plns xs
end
mutual
theorem eqv_pln : ∀ (x y : D) (a b : PyData), pln x = true → pln y = true → toPy x = some a → toPy y = some b → (PyData.eqv a b = true ↔ x = y)
  | x, y, a, b, hx, hy, ha, hb => by
    cases x with
    | bl => simp [pln] at hx
    | ref => simp [pln] at hx
    | non =>
      simp only [toPy, Option.some.injEq] at ha; subst ha
      cases y with
      | bl => simp [pln] at hy
      | ref => simp [pln] at hy
      | non => simp only [toPy, Option.some.injEq] at hb; subst hb; simp [PyData.eqv]
      | int => simp only [toPy, Option.some.injEq] at hb; subst hb; simp [PyData.eqv]
      | str => simp only [toPy, Option.some.injEq] at hb; subst hb; simp [PyData.eqv]
      | tup ys => simp only [toPy] at hb; split at hb <;> cases hb; simp [PyData.eqv]
      | lst ys => simp only [toPy] at hb; split at hb <;> cases hb; simp [PyData.eqv]
    | int i =>
      simp only [toPy, Option.some.injEq] at ha; subst ha
      cases y with
      | bl => simp [pln] at hy
      | ref => simp [pln] at hy
      | non => simp only [toPy, Option.some.injEq] at hb; subst hb; simp [PyData.eqv]
      | int => simp only [toPy, Option.some.injEq] at hb; subst hb; simp [PyData.eqv]
      | str => simp only [toPy, Option.some.injEq] at hb; subst hb; simp [PyData.eqv]
      | tup ys => simp only [toPy] at hb; split at hb <;> cases hb; simp [PyData.eqv]
      | lst ys => simp only [toPy] at hb; split at hb <;> cases hb; simp [PyData.eqv]
    | str i =>
      simp only [toPy, Option.some.injEq] at ha; subst ha
      cases y with
      | bl => simp [pln] at hy
      | ref => simp [pln] at hy
      | non => simp only [toPy, Option.some.injEq] at hb; subst hb; simp [PyData.eqv]
      | int => simp only [toPy, Option.some.injEq] at hb; subst hb; simp [PyData.eqv]
      | str => simp only [toPy, Option.some.injEq] at hb; subst hb; simp [PyData.eqv]
      | tup ys => simp only [toPy] at hb; split at hb <;> cases hb; simp [PyData.eqv]
      | lst ys => simp only [toPy] at hb; split at hb <;> cases hb; simp [PyData.eqv]
    | tup xs =>
      simp only [toPy] at ha; split at ha <;> cases ha
      rename_i as ea
      cases y with
      | bl => simp [pln] at hy
      | ref => simp [pln] at hy
      | non => simp only [toPy, Option.some.injEq] at hb; subst hb; simp [PyData.eqv]
      | int => simp only [toPy, Option.some.injEq] at hb; subst hb; simp [PyData.eqv]
      | str => simp only [toPy, Option.some.injEq] at hb; subst hb; simp [PyData.eqv]
      | tup ys =>
        simp only [toPy] at hb; split at hb <;> cases hb
        rename_i bs eb
        rw [PyData.eqv, eqvs_pln xs ys as bs (by simpa [pln] using hx) (by simpa [pln] using hy) ea eb]
        simp
      | lst ys => simp only [toPy] at hb; split at hb <;> cases hb; simp [PyData.eqv]
    | lst xs =>
      simp only [toPy] at ha; split at ha <;> cases ha
      rename_i as ea
      cases y with
      | bl => simp [pln] at hy
      | ref => simp [pln] at hy
      | non => simp only [toPy, Option.some.injEq] at hb; subst hb; simp [PyData.eqv]
      | int => simp only [toPy, Option.some.injEq] at hb; subst hb; simp [PyData.eqv]
      | str => simp only [toPy, Option.some.injEq] at hb; subst hb; simp [PyData.eqv]
      | lst ys =>
        simp only [toPy] at hb; split at hb <;> cases hb
        rename_i bs eb
        rw [PyData.eqv, eqvs_pln xs ys as bs (by simpa [pln] using hx) (by simpa [pln] using hy) ea eb]
        simp
      | tup ys => simp only [toPy] at hb; split at hb <;> cases hb; simp [PyData.eqv]
theorem eqvs_pln : ∀ (xs ys : List D) (as bs : List PyData), plns xs = true → plns ys = true → toPys xs = some as → toPys ys = some bs → (PyData.eqvAll as bs = true ↔ xs = ys)
  | [], [], as, bs, _, _, ha, hb => by
    simp only [toPys, Option.some.injEq] at ha hb
    subst ha hb
    simp [PyData.eqvAll]
  | [], y :: ys, as, bs, _, _, ha, hb => by
    simp only [toPys] at ha hb
    split at hb <;> cases hb
    cases ha
    simp [PyData.eqvAll]
  | x :: xs, [], as, bs, _, _, ha, hb => by
    simp only [toPys] at ha hb
    split at ha <;> cases ha
    cases hb
    simp [PyData.eqvAll]
  | x :: xs, y :: ys, as, bs, hx, hy, ha, hb => by
    simp only [toPys] at ha hb
    split at ha <;> cases ha
    split at hb <;> cases hb
    rename_i _ _ a as ea eas _ _ b bs eb ebs
    simp only [plns, Bool.and_eq_true] at hx hy
    rw [PyData.eqvAll, Bool.and_eq_true, eqv_pln x y a b hx.1 hy.1 ea eb, eqvs_pln xs ys as bs hx.2 hy.2 eas ebs]
    simp
end
/-- may be compared -/
def EqOk (S : Store) (x : D) : Prop := pln x = true ∧ ∃ a, toPy x = some a ∧ SeqAt.shaped a = true
mutual
/-- plain data of so much depth at most -/
def fine : Nat → D → Bool
  | _, .non => true
  | _, .int _ => true
  | _, .str x => PyData.strOk x
  | n + 1, .tup xs => fines n xs
  | n + 1, .lst xs => fines n xs
  | _, _ => false
def fines : Nat → List D → Bool
  | _, [] => true
  | n, x :: xs => fine n x && fines n xs
end
mutual
theorem fine_ok : ∀ (n : Nat) (x : D), fine n x = true → pln x = true ∧ ∃ a, toPy x = some a ∧ a.canLay0 = true ∧ a.depth ≤ n
  | n, .non, _ => ⟨rfl, _, rfl, rfl, Nat.zero_le _⟩
  | n, .int _, _ => ⟨rfl, _, rfl, rfl, Nat.zero_le _⟩
  | n, .str x, h => ⟨rfl, _, rfl, by simpa [fine, PyData.canLay0] using h, Nat.zero_le _⟩
  | n, .bl _, h => by cases n <;> simp [fine] at h
  | n, .ref _, h => by cases n <;> simp [fine] at h
  | 0, .tup _, h => by simp [fine] at h
  | 0, .lst _, h => by simp [fine] at h
  | n + 1, .tup xs, h => by
    obtain ⟨h1, as, h2, h3, h4⟩ := fines_ok n xs (by simpa [fine] using h)
    exact ⟨by simpa [pln] using h1, .tuple as, by simp [toPy, h2], by simpa [PyData.canLay0] using h3, by simp only [PyData.depth]; omega⟩
  | n + 1, .lst xs, h => by
    obtain ⟨h1, as, h2, h3, h4⟩ := fines_ok n xs (by simpa [fine] using h)
    exact ⟨by simpa [pln] using h1, .list as, by simp [toPy, h2], by simpa [PyData.canLay0] using h3, by simp only [PyData.depth]; omega⟩
theorem fines_ok : ∀ (n : Nat) (xs : List D), fines n xs = true → plns xs = true ∧ ∃ as, toPys xs = some as ∧ PyData.canLayAll0 as = true ∧ PyData.depthAll as ≤ n
  | n, [], _ => ⟨rfl, [], rfl, rfl, Nat.zero_le _⟩
  | n, x :: xs, h => by
    rw [fines, Bool.and_eq_true] at h
    obtain ⟨p1, a, p2, p3, p4⟩ := fine_ok n x h.1
    obtain ⟨q1, as, q2, q3, q4⟩ := fines_ok n xs h.2
    exact ⟨by simp [plns, p1, q1], a :: as, by simp [toPys, p2, q2], by simp [PyData.canLayAll0, p3, q3], by simp only [PyData.depthAll]; omega⟩
end
theorem fines_all {n : Nat} : ∀ {xs : List D}, (∀ x ∈ xs, fine n x = true) → fines n xs = true
  | [], _ => rfl
  | x :: xs, h => by rw [fines, h x (List.mem_cons_self ..), fines_all fun y hy => h y (List.mem_cons_of_mem _ hy)]; rfl
theorem EqOk.of {S : Store} {x : D} {n : Nat} (h : fine n x = true) (hn : n ≤ 64) : EqOk S x := by
  obtain ⟨h1, a, h2, h3, h4⟩ := fine_ok n x h
  refine ⟨h1, a, h2, ?_⟩
  unfold SeqAt.shaped
  rw [h3, decide_eq_true (by omega)]; rfl
theorem res_pln {S : Store} : ∀ (n : Nat) (x : D), pln x = true → res n S x = x
  | 0, _, _ => rfl
  | n + 1, .non, _ => rfl
  | n + 1, .int _, _ => rfl
  | n + 1, .str _, _ => rfl
  | n + 1, .bl _, _ => rfl
  | n + 1, .ref _, h => by simp [pln] at h
  | n + 1, .tup xs, h => by
    have h' : plns xs = true := by simpa [pln] using h
    clear h
    rw [res]
    congr 1
    induction xs with
    | nil => rfl
    | cons x xs ih =>
      rw [plns, Bool.and_eq_true] at h'
      rw [List.map_cons, res_pln n x h'.1, ih h'.2]
  | n + 1, .lst xs, h => by
    have h' : plns xs = true := by simpa [pln] using h
    clear h
    rw [res]
    congr 1
    induction xs with
    | nil => rfl
    | cons x xs ih =>
      rw [plns, Bool.and_eq_true] at h'
      rw [List.map_cons, res_pln n x h'.1, ih h'.2]
theorem toPyS_pln {S : Store} {x : D} (h : pln x = true) : toPyS S x = toPy x := by
  unfold toPyS
  rw [res_pln 8 x h]
theorem eqD_pln {S : Store} {x y : D} (hx : EqOk S x) (hy : EqOk S y) : ∃ b, eqD S x y = some b ∧ (b = true ↔ x = y) := by
  obtain ⟨p1, a, e1, s1⟩ := hx
  obtain ⟨p2, b, e2, s2⟩ := hy
  refine ⟨PyData.eqv a b, ?_, eqv_pln x y a b p1 p2 e1 e2⟩
  unfold eqD
  rw [toPyS_pln p1, toPyS_pln p2, e1, e2]
  simp only [s1, s2, and_self, ↓reduceIte]
theorem Cp_eq {S : Store} {x y : D} {PB : Bool → Prop} (hx : EqOk S x) (hy : EqOk S y) (h1 : x = y → PB true) (h2 : x ≠ y → PB false) : Cp S .Eq x y PB := by
  obtain ⟨b, e, h⟩ := eqD_pln hx hy
  refine ⟨⟨b, e, ?_⟩⟩
  cases b with
  | true => exact h1 (h.mp rfl)
  | false => exact h2 fun z => by cases h.mpr z
theorem Cp_ne {S : Store} {x y : D} {PB : Bool → Prop} (hx : EqOk S x) (hy : EqOk S y) (h1 : x = y → PB false) (h2 : x ≠ y → PB true) : Cp S .NotEq x y PB := by
  obtain ⟨b, e, h⟩ := eqD_pln hx hy
  refine ⟨⟨!b, by show (eqD S x y).map _ = _; rw [e]; rfl, ?_⟩⟩
  cases b with
  | true => exact h1 (h.mp rfl)
  | false => exact h2 fun z => by cases h.mpr z
section
variable {S : Store} {Q : D → Prop} {xs : List D} {l : Nat} {k : Int} {x : D}
theorem seqO_ref (e : S[l]? = some (.lst xs)) : seqO S (.ref l) = some xs := by
  show (match S[l]? with | some (.lst xs) => some xs | _ => none) = _
  rw [e]
theorem Ix_ref (e : S[l]? = some (.lst xs)) (e2 : L2.atI xs k = some x) (h : Q x) : IxP S (.ref l) (.int k) Q :=
  ⟨⟨x, by
    have e3 : dicOf S (.ref l) = none := by
      show (match S[l]? with | some (.dic kvs) => some kvs | _ => none) = _
      rw [e]
    unfold ixD
    rw [e3]
    show (match seqO S (.ref l) with | some xs => L2.atI xs k | none => none) = _
    rw [seqO_ref e]; exact e2, h⟩⟩
theorem dicOf_ref {kvs : List (L2.Key × D)} (e : S[l]? = some (.dic kvs)) : dicOf S (.ref l) = some kvs := by
  show (match S[l]? with | some (.dic kvs) => some kvs | _ => none) = _
  rw [e]
theorem dicOf_lst (e : S[l]? = some (.lst xs)) : dicOf S (.ref l) = none := by
  show (match S[l]? with | some (.dic kvs) => some kvs | _ => none) = _
  rw [e]
theorem Ix_key {kvs : List (L2.Key × D)} {y : D} {kk : L2.Key} (e : S[l]? = some (.dic kvs)) (ek : keyD y = some kk) (e2 : valG kvs kk = some x) (h : Q x) : IxP S (.ref l) y Q :=
  ⟨⟨x, by unfold ixD; rw [dicOf_ref e, ek]; exact e2, h⟩⟩
theorem Sd_key {kvs : List (L2.Key × D)} {y v : D} {kk : L2.Key} {q : Store → Prop} (e : S[l]? = some (.dic kvs)) (ek : keyD y = some kk) (hl : kvs.length < 16777216) (h : q (S.set l (.dic (putG kvs kk v)))) : SdP S (.ref l) y v q :=
  ⟨⟨_, by unfold setD; rw [dicOf_ref e, ek]; exact if_pos hl, h⟩⟩
theorem Sd_ref {j : Nat} {v : D} {q : Store → Prop} (e : S[l]? = some (.lst xs)) (e2 : L2.ixN xs.length k = some j) (h : ∀ S', S'[l]? = some (.lst (xs.set j v)) → S'.length = S.length → (∀ i, i ≠ l → S'[i]? = S[i]?) → q S') : SdP S (.ref l) (.int k) v q := by
  refine ⟨⟨S.set l (.lst (xs.set j v)), ?_, h _ ?_ (by simp) fun i hi => by rw [List.getElem?_set_ne (Ne.symm hi)]⟩⟩
  · have e3 : dicOf S (.ref l) = none := by
      show (match S[l]? with | some (.dic kvs) => some kvs | _ => none) = _
      rw [e]
    unfold setD
    rw [e3]
    show (match S[l]? with | some (.lst xs) => (match L2.ixN xs.length k with | some j => some (S.set l (.lst (xs.set j v))) | none => none) | _ => none) = _
    rw [e]
    show (match L2.ixN xs.length k with | some j => some (S.set l (.lst (xs.set j v))) | none => none) = _
    rw [e2]
  · rw [List.getElem?_set_self (List.getElem?_eq_some_iff.mp e).1]
theorem Mt_app {y : D} {QD : D → Store → Prop} (e : S[l]? = some (.lst xs)) (hl : xs.length < 16777216) (h : ∀ S', S'[l]? = some (.lst (xs ++ [y])) → S'.length = S.length → (∀ i, i ≠ l → S'[i]? = S[i]?) → QD .non S') : MtP S .append (.ref l) [y] QD := by
  refine ⟨⟨.non, S.set l (.lst (xs ++ [y])), ?_, h _ ?_ (by simp) fun i hi => by rw [List.getElem?_set_ne (Ne.symm hi)]⟩⟩
  · show (match S[l]? with | some (.lst ys) => if ys.length < 16777216 then some (D.non, S.set l (.lst (ys ++ [y]))) else none | _ => none) = _
    rw [e]
    exact if_pos hl
  · rw [List.getElem?_set_self (List.getElem?_eq_some_iff.mp e).1]
theorem seqL_ref (e : S[l]? = some (.lst xs)) : seqL S (.ref l) = some xs := by
  show (match S[l]? with | some (.lst xs) => some xs | _ => none) = _
  rw [e]
theorem seqL_dic {kvs : List (L2.Key × D)} (e : S[l]? = some (.dic kvs)) : seqL S (.ref l) = none := by
  show (match S[l]? with | some (.lst xs) => some xs | _ => none) = _
  rw [e]
theorem Md_app {q : MId → Prop} (e : S[l]? = some (.lst xs)) (h : q .append) : MdP S (.ref l) "append" q :=
  ⟨⟨.append, by simp only [mIdD, seqL_ref e]; rfl, h⟩⟩
theorem Md_pop {q : MId → Prop} (e : S[l]? = some (.lst xs)) (h : q .pop) : MdP S (.ref l) "pop" q :=
  ⟨⟨.pop, by simp only [mIdD, seqL_ref e]; rfl, h⟩⟩
theorem Md_get {kvs : List (L2.Key × D)} {q : MId → Prop} (e : S[l]? = some (.dic kvs)) (h : q .get) : MdP S (.ref l) "get" q :=
  ⟨⟨.get, by simp only [mIdD, seqL_dic e, dicOf_ref e]; rfl, h⟩⟩
theorem Fl_ref {cs : List Str} {C f : Str} {fs : List (Str × D)} {d : D} {q : D → Prop} (e : S[l]? = some (.ins C fs)) (hc : cs.contains C = true) (hl : fs.lookup f = some d) (h : q d) : FlP cs S (.ref l) f q :=
  ⟨⟨d, by
    have e1 : insOf S (.ref l) = some (C, fs) := by unfold insOf; simp only [e]
    unfold fldD
    rw [e1]
    simp only [hc, if_true, hl], h⟩⟩
theorem Fs_ref {cs : List Str} {C f : Str} {fs : List (Str × D)} {v : D} {q : Store → Prop} (e : S[l]? = some (.ins C fs)) (hc : cs.contains C = true) (hl : fs.length < 1000) (h : q (S.set l (.ins C (putFD f v fs)))) : FsP cs S (.ref l) v f q :=
  ⟨⟨_, by
    have e1 : insOf S (.ref l) = some (C, fs) := by unfold insOf; simp only [e]
    unfold fldS
    simp only [e1, hc, hl, decide_true, Bool.and_self, if_true], h⟩⟩
theorem Me_own {ts : List (Str × Fn)} {C m : Str} {fs : List (Str × D)} {φ : Fn} {A : MId → Prop} {B : Fn → Prop} (e : S[l]? = some (.ins C fs)) (hm : fs.lookup m = none) (hl : ts.lookup C = some φ) (h : B φ) : MeP ts S (.ref l) m A B :=
  ⟨.inr ⟨by unfold mIdD seqL dicOf; simp only [e], φ, by
    have e1 : insOf S (.ref l) = some (C, fs) := by unfold insOf; simp only [e]
    unfold methD
    rw [e1]
    simp only [hm, Option.isNone_none, if_true, hl], h⟩⟩
theorem Me_in {ts : List (Str × Fn)} {m : Str} {x : D} {A : MId → Prop} {B : Fn → Prop} (h : MdP S x m A) : MeP ts S x m A B := ⟨.inl h.out⟩
theorem Md_split {z : Str} {q : MId → Prop} (h : q .split) : MdP S (.str z) "split" q := ⟨⟨_, rfl, h⟩⟩
theorem Md_join {z : Str} {q : MId → Prop} (h : q .join) : MdP S (.str z) "join" q := ⟨⟨_, rfl, h⟩⟩
theorem Md_idx {q : MId → Prop} (h : q .index) : MdP S (.lst xs) "index" q := ⟨⟨_, rfl, h⟩⟩
theorem Mt_split {a b : Str} {QD : D → Store → Prop} (hb : (b.length == 0) = false ∧ a.length + 2 ≤ 16777216) (h : QD (.lst ((Txt.split a b).map D.str)) S) : MtP S .split (.str a) [.str b] QD :=
  ⟨⟨_, _, by simp only [mthD, if_pos hb], h⟩⟩
theorem strs_map : ∀ zs : List Str, strsOf (zs.map D.str) = some zs
  | [] => rfl
  | z :: zs => by simp only [List.map_cons, strsOf, strs_map zs]
theorem Mt_join {a : Str} {zs : List Str} {QD : D → Store → Prop} (hb : (zs.map (·.length)).sum + zs.length * a.length ≤ 16777216) (h : QD (.str (Txt.join a zs)) S) : MtP S .join (.str a) [.lst (zs.map D.str)] QD :=
  ⟨⟨_, _, by simp only [mthD, seqO, seqL, strs_map, if_pos hb], h⟩⟩
theorem Is_ref {t : Str} {PB : Bool → Prop} (e : S[l]? = some (.lst xs)) (h : PB (t == "list")) : IsP S (.ref l) t PB :=
  ⟨⟨_, by show (match S[l]? with | some (.lst _) => some (t == "list") | some (.dic _) => some (t == "dict") | _ => none) = _; rw [e], h⟩⟩
theorem Bs_lenr (e : S[l]? = some (.lst xs)) (h : Q (.int xs.length)) : BsP S .len [.ref l] Q :=
  ⟨⟨_, by show (match seqO S (.ref l) with | some xs => some (D.int xs.length) | none => none) = _; rw [seqO_ref e], h⟩⟩
theorem Bs_tupr (e : S[l]? = some (.lst xs)) (h : Q (.tup xs)) : BsP S .tuple [.ref l] Q :=
  ⟨⟨_, by show (match seqO S (.ref l) with | some ys => some (D.tup ys) | none => none) = _; rw [seqO_ref e], h⟩⟩
theorem Bs_lsr (e : S[l]? = some (.lst xs)) (h : Q (.lst xs)) : BsP S .list [.ref l] Q :=
  ⟨⟨_, by show (match seqO S (.ref l) with | some ys => some (D.lst ys) | none => none) = _; rw [seqO_ref e], h⟩⟩
theorem Sl_lst {lo hi : Option Int} (h : Q (.lst (cut xs lo hi))) : SlP S (.lst xs) lo hi Q := ⟨⟨_, rfl, h⟩⟩
theorem Sl_tup {lo hi : Option Int} (h : Q (.tup (cut xs lo hi))) : SlP S (.tup xs) lo hi Q := ⟨⟨_, rfl, h⟩⟩
/-- what a def hands back of its own store -/
theorem Fn_own {n : Nat} {d : D} {S' : Store} {QD : D → Store → Prop} {E : EX} (hl : n < S'.length) (hb : (S'.take n).all (obBelow n) = true) (h1 : below n d = true → QD d (S'.take n)) (h2 : below n d = false → QD d S') : FnP false n d S' QD E := by
  refine ⟨?_⟩
  rw [fin_eq, if_neg (by omega)]
  show W (if (below n d && (S'.take n).all (obBelow n)) = true then .ok d (S'.take n) else .ok d S') QD E
  rw [hb, Bool.and_true]
  cases e : below n d with
  | true => exact ⟨h1 e⟩
  | false => exact ⟨h2 e⟩
end
theorem log_lt {n : Int} {k : Nat} (hk : 0 < k) (h : n.natAbs < 2 ^ k) : n.natAbs.log2 < k := by
  by_cases h0 : n.natAbs = 0
  · rw [h0]; simpa using hk
  · exact (Nat.log2_lt h0).mpr h
theorem mul_ok {n m : Int} {i j : Nat} (h1 : n.natAbs < 2 ^ i) (h2 : m.natAbs < 2 ^ j) (h3 : 0 < i ∧ 0 < j ∧ i + j ≤ 1000000) : n.natAbs.log2 + m.natAbs.log2 < 1000000 := by
  have := log_lt h3.1 h1
  have := log_lt h3.2.1 h2
  omega
section
variable {S : Store} {Q : D → Prop} {n m : Int}
theorem Bn_mulS (h1 : -1000000000000000000000000000000 < n ∧ n < 1000000000000000000000000000000) (h2 : -1000000000000000000000000000000 < m ∧ m < 1000000000000000000000000000000) (h : Q (.int (n * m))) : Bn S .Mult (.int n) (.int m) Q :=
  Bn_mul (mul_ok (i := 100) (j := 100) (by omega) (by omega) (by decide)) h
theorem Bn_fdivS (h1 : 0 < m) (h2 : m < 1000000000000000000000000000000) (h : Q (.int (n / m))) : Bn S .FloorDiv (.int n) (.int m) Q :=
  Bn_fdiv ⟨h1, Nat.lt_trans (log_lt (k := 100) (by decide) (by omega)) (by decide)⟩ h
end
section
variable {S : Store} {Q : D → Prop} {xs : List D} {k n m : Int}
/-- one of these, by a number that is not known -/
theorem Ix_pick (P : D → Prop) (h0 : 0 ≤ k) (h1 : k < xs.length) (ha : ∀ d ∈ xs, P d) (h : ∀ d, P d → Q d) : IxP S (.lst xs) (.int k) Q :=
  Ix_lst h0 h1 fun d e => h d (ha d (List.mem_of_getElem? e))
theorem Ix_pickT (P : D → Prop) (h0 : 0 ≤ k) (h1 : k < xs.length) (ha : ∀ d ∈ xs, P d) (h : ∀ d, P d → Q d) : IxP S (.tup xs) (.int k) Q :=
  Ix_tup h0 h1 fun d e => h d (ha d (List.mem_of_getElem? e))
theorem Bn_powC {v : Int} (hb : 0 ≤ m ∧ m ≤ 1000000 ∧ n.natAbs < 2 ^ 64) (e : n ^ m.toNat = v) (h : Q (.int v)) : Bn S .Pow (.int n) (.int m) Q := Bn_pow hb (by rw [e]; exact h)
theorem Fn_ref {l i : Nat} {S' : Store} {QD : D → Store → Prop} {E : EX} (h1 : i ≤ l) (h2 : i < S'.length) (h : QD (.ref l) S') : FnP false i (.ref l) S' QD E := by
  refine ⟨?_⟩
  rw [fin_eq, if_neg (by omega)]
  show W (if (below i (.ref l) && (S'.take i).all (obBelow i)) = true then .ok (.ref l) (S'.take i) else .ok (.ref l) S') QD E
  have : below i (.ref l) = false := decide_eq_false (by omega)
  rw [this, Bool.false_and]
  exact ⟨h⟩
theorem Fn_law {b : Bool} {S' : Store} {QD : D → Store → Prop} {E : EX} (h : ∀ S, QD (.bl b) S) : FnP false 0 (.bl b) S' QD E := by
  refine ⟨?_⟩
  rw [fin_eq]
  split
  · exact ⟨h _⟩
  · split <;> exact ⟨h _⟩
theorem law_true {φ : Fn} {ns : List Int} (h : W (φ [.lst (ns.map D.int)] []) (fun d _ => d = .bl true) noX) : ∃ S, φ [.lst (ns.map D.int)] [] = .ok (.bl true) S := by
  obtain ⟨h⟩ := h
  cases e : φ [.lst (ns.map D.int)] [] with
  | ok d S => rw [e] at h; exact ⟨S, by rw [show d = .bl true from h]⟩
  | exc => rw [e] at h; exact h.elim
  | bad => rw [e] at h; exact h.elim
theorem cut_mem {α : Type} {xs : List α} {lo hi : Option Int} {d : α} (h : d ∈ cut xs lo hi) : d ∈ xs := List.mem_of_mem_drop (List.mem_of_mem_take h)
theorem cut_len {α : Type} {xs : List α} {lo hi : Option Int} : (cut xs lo hi).length ≤ xs.length := by
  unfold cut
  rw [List.length_take, List.length_drop]
  omega
end
/-! ### lists, wherever they stand -/
section
variable {S : Store} {d x : D} {xs : List D} {Q : D → Prop} {PB : Bool → Prop} {k : Int}
theorem seqL_two (e : seqL S d = some xs) : d = .lst xs ∨ ∃ l, d = .ref l ∧ S[l]? = some (.lst xs) := by
  cases d with
  | lst ys => cases e; exact .inl rfl
  | ref l =>
    refine .inr ⟨l, rfl, ?_⟩
    have e : (match S[l]? with | some (.lst xs) => some xs | _ => none) = some xs := e
    cases q : S[l]? with
    | none => rw [q] at e; cases e
    | some o =>
      rw [q] at e
      cases o with
      | lst ys => cases e; rfl
      | _ => cases e
  | _ => cases e
theorem seqL_seqO (e : seqL S d = some xs) : seqO S d = some xs := by
  rcases seqL_two e with rfl | ⟨l, rfl, h⟩
  · rfl
  · exact seqO_ref h
theorem Bs_lenq (e : seqL S d = some xs) (h : Q (.int xs.length)) : BsP S .len [d] Q := by
  rcases seqL_two e with rfl | ⟨l, rfl, z⟩
  · exact Bs_len h
  · exact Bs_lenr z h
theorem Bs_lstq (e : seqL S d = some xs) (h : Q (.lst xs)) : BsP S .list [d] Q := by
  rcases seqL_two e with rfl | ⟨l, rfl, z⟩
  · exact Bs_by (x := .lst xs) rfl h
  · exact ⟨⟨.lst xs, by show listD S (.ref l) = _; simp only [listD, seqO_ref z], h⟩⟩
theorem Is_lstq {t : Str} (e : seqL S d = some xs) (h : PB (t == "list")) : IsP S d t PB := by
  rcases seqL_two e with rfl | ⟨l, rfl, z⟩
  · exact Is_by rfl h
  · exact Is_ref z h
theorem Rv_tup (h : Q (.tup xs.reverse)) : RvP S (.tup xs) Q := ⟨⟨_, rfl, h⟩⟩
theorem Rv_q (e : seqL S d = some xs) (h : Q (.lst xs.reverse)) : RvP S d Q := ⟨⟨_, by unfold revD; rw [e], h⟩⟩
theorem Sl_q {lo hi : Option Int} (e : seqL S d = some xs) (h : Q (.lst (cut xs lo hi))) : SlP S d lo hi Q := by
  rcases seqL_two e with rfl | ⟨l, rfl, z⟩
  · exact Sl_lst h
  · refine ⟨⟨_, ?_, h⟩⟩
    show (match seqL S (.ref l) with | some xs => some (D.lst (cut xs lo hi)) | none => none) = _
    rw [e]
theorem Ix_q (h0 : 0 ≤ k) (h1 : k < xs.length) (e : seqL S d = some xs) (h : ∀ y, xs[k.toNat]? = some y → Q y) : IxP S d (.int k) Q := by
  rcases seqL_two e with rfl | ⟨l, rfl, z⟩
  · exact Ix_lst h0 h1 h
  · obtain ⟨y, e1, e2⟩ := atI_nat h0 h1
    exact Ix_ref z e1 (h y e2)
theorem Tr_q (e : seqL S d = some xs) (h : PB (!xs.isEmpty)) : Tr S d PB := by
  rcases seqL_two e with rfl | ⟨l, rfl, z⟩
  · exact Tr_lst h
  · exact ⟨⟨_, by show (match seqO S (.ref l) with | some xs => some (!xs.isEmpty) | none => none) = _; rw [seqO_ref z], h⟩⟩
theorem res_q {n : Nat} (e : seqL S d = some xs) : res (n + 1) S d = .lst (xs.map (res n S)) := by
  rcases seqL_two e with rfl | ⟨l, rfl, z⟩
  · rfl
  · rw [res, z]
theorem map_res {n : Nat} : ∀ {xs : List D}, plns xs = true → xs.map (res n S) = xs
  | [], _ => rfl
  | x :: xs, h => by
    rw [plns, Bool.and_eq_true] at h
    rw [List.map_cons, res_pln n x h.1, map_res h.2]
/-- fine data in a list, wherever it stands: x in d -/
theorem any_mem {a : PyData} : ∀ {xs : List D} {as : List PyData}, plns xs = true → pln x = true → toPy x = some a → toPys xs = some as → (as.any (fun z => PyData.eqv z a) = true ↔ x ∈ xs)
  | [], as, _, _, _, h => by cases h; simp
  | y :: ys, as, hp, hx, ha, h => by
    rw [plns, Bool.and_eq_true] at hp
    simp only [toPys] at h
    cases e1 : toPy y with
    | none => rw [e1] at h; cases h
    | some b =>
      cases e2 : toPys ys with
      | none => rw [e1, e2] at h; cases h
      | some bs =>
        rw [e1, e2] at h; cases h
        rw [List.any_cons, Bool.or_eq_true, any_mem hp.2 hx ha e2, eqv_pln y x b a hp.1 hx e1 ha, List.mem_cons]
        constructor
        · rintro (h | h)
          · exact .inl h.symm
          · exact .inr h
        · rintro (h | h)
          · exact .inl h.symm
          · exact .inr h
theorem dicOf_q (e : seqL S d = some xs) : dicOf S d = none := by
  rcases seqL_two e with rfl | ⟨l, rfl, z⟩
  · rfl
  · exact dicOf_lst z
theorem inD_q {n m : Nat} (e : seqL S d = some xs) (hx : fine n x = true) (hn : n ≤ 64) (hs : fines m xs = true) (hm : m ≤ 63) : ∃ b, inD S x d = some b ∧ (b = true ↔ x ∈ xs) := by
  obtain ⟨p1, a, a1, a2, a3⟩ := fine_ok n x hx
  obtain ⟨q1, as, b1, b2, b3⟩ := fines_ok m xs hs
  have e1 : toPyS S x = some a := by rw [toPyS_pln p1]; exact a1
  have e2 : toPyS S d = some (.list as) := by
    unfold toPyS
    rw [res_q e, map_res q1, toPy, b1]
  have s1 : SeqAt.shaped a = true := by unfold SeqAt.shaped; rw [a2, decide_eq_true (by omega)]; rfl
  have s2 : SeqAt.shaped (.list as) = true := by
    unfold SeqAt.shaped
    rw [PyData.canLay0, b2, decide_eq_true (by simp only [PyData.depth]; omega)]; rfl
  refine ⟨as.any fun z => PyData.eqv z a, ?_, any_mem q1 p1 a1 b1⟩
  have e3 : inObj S x d = some (as.any fun z => PyData.eqv z a) := by
    unfold inObj
    rw [dicOf_q e]
    show inSeq S x d = _
    unfold inSeq
    rw [e1, e2]
    exact if_pos ⟨s1, s2⟩
  unfold inD
  rcases seqL_two e with rfl | ⟨l, rfl, z⟩ <;> cases x <;> exact e3
/-- == [] of what can't be laid out -/
theorem eqD_nil (e : seqL S d = some xs) (hn : xs ≠ [] → toPyS S d = none) : eqD S d (.lst []) = some xs.isEmpty := by
  unfold eqD
  cases xs with
  | nil =>
    have e1 : toPyS S d = some (.list []) := by
      unfold toPyS
      rcases seqL_two e with rfl | ⟨l, rfl, z⟩
      · rfl
      · show toPy (match S[l]? with | some (.lst xs) => D.lst (xs.map (res 7 S)) | _ => D.ref l) = _
        rw [z]; rfl
    have e2 : toPyS S (.lst []) = some (.list []) := rfl
    rw [e1, e2]
    rfl
  | cons x t =>
    rw [hn (by simp)]
    show (match seqL S d, seqL S (.lst []) with | some xs, some ys => if xs.length = ys.length then none else some false | _, _ => dicEqD S d (.lst [])) = _
    rw [e]
    rfl
theorem Cp_eqnil (e : seqL S d = some xs) (hn : xs ≠ [] → toPyS S d = none) (h : PB xs.isEmpty) : Cp S .Eq d (.lst []) PB := ⟨⟨_, eqD_nil e hn, h⟩⟩
theorem Cp_nenil (e : seqL S d = some xs) (hn : xs ≠ [] → toPyS S d = none) (h : PB (!xs.isEmpty)) : Cp S .NotEq d (.lst []) PB := ⟨⟨_, by show (eqD S d (.lst [])).map _ = _; rw [eqD_nil e hn]; rfl, h⟩⟩
theorem toPyS_recs {l : Nat} {t : List D} {kvs : List (L2.Key × D)} (e : seqL S d = some (.ref l :: t)) (g : S[l]? = some (.dic kvs)) : toPyS S d = none := by
  unfold toPyS
  rw [show (8 : Nat) = 7 + 1 from rfl]
  have r : res (7 + 1) S d = .lst ((D.ref l :: t).map (res 7 S)) := by
    rcases seqL_two e with rfl | ⟨j, rfl, z⟩
    · rfl
    · show (match S[j]? with | some (.lst xs) => D.lst (xs.map (res 7 S)) | _ => D.ref j) = _
      rw [z]
  have r2 : res 7 S (.ref l) = .ref l := by
    show (match S[l]? with | some (.lst xs) => D.lst (xs.map (res 6 S)) | _ => D.ref l) = _
    rw [g]
  rw [r, List.map_cons, r2]
  rfl
theorem Bn_catq {y : D} {ys : List D} (e1 : seqL S d = some xs) (e2 : seqL S y = some ys) (hb : xs.length + ys.length ≤ 16777216) (h : Q (.lst (xs ++ ys))) : Bn S .Add d y Q := by
  refine ⟨⟨.lst (xs ++ ys), ?_, h⟩⟩
  have c : catD S .Add d y = some (.lst (xs ++ ys)) := by
    unfold catD
    simp only [e1, e2]
    rw [if_pos ⟨by omega, by omega, hb⟩]
  rcases seqL_two e1 with rfl | ⟨l, rfl, _⟩ <;> exact c
theorem Ct_q {y : D} {ys : List D} {q : List D → Prop} (e1 : seqL S d = some xs) (e2 : seqL S y = some ys) (hb : xs.length + ys.length ≤ 16777216) (h : q (xs ++ ys)) : CtP S .Add d y q := by
  refine ⟨⟨xs ++ ys, ?_, h⟩⟩
  simp only [catD, e1, e2]
  rw [if_pos ⟨by omega, by omega, hb⟩]
theorem Ct_m {k : Int} {q : List D → Prop} (e1 : seqL S d = some xs) (hb : -1000000 ≤ k ∧ k ≤ 1000000 ∧ xs.length * k.toNat ≤ 1000000) (h : q (List.replicate k.toNat xs).flatten) : CtP S .Mult d (.int k) q := by
  refine ⟨⟨_, ?_, h⟩⟩
  simp only [catD, e1]
  rw [if_pos hb]
theorem Li_q {q : List D → Prop} (e : seqL S d = some xs) (h : q xs) : LiP S [d] q := by
  refine ⟨⟨d, xs, rfl, ?_, h⟩⟩
  have e2 := seqL_seqO e
  rcases seqL_two e with rfl | ⟨l, rfl, z⟩
  · rfl
  · show (match seqO S (.ref l) with | some ys => some (D.lst ys) | none => none) = _
    rw [e2]
theorem Li_t {ys : List D} {q : List D → Prop} (h : q ys) : LiP S [.tup ys] q := ⟨⟨_, ys, rfl, rfl, h⟩⟩
theorem Dk_s {ks : List Str} {z : Str} {q : Bool → Prop} (h : q (ks.contains z)) : DkP ks (.str z) q := ⟨⟨z, rfl, h⟩⟩
theorem El_mk {n m : Nat} {q : Prop} (e : n = m) (h : q) : EqL n m q := ⟨⟨e, h⟩⟩
theorem Cp_inq {n m : Nat} (e : seqL S d = some xs) (hx : fine n x = true) (hn : n ≤ 64) (hs : fines m xs = true) (hm : m ≤ 63) (h1 : x ∈ xs → PB true) (h2 : x ∉ xs → PB false) : Cp S .In x d PB := by
  obtain ⟨b, e1, h⟩ := inD_q e hx hn hs hm
  refine ⟨⟨b, e1, ?_⟩⟩
  cases b with
  | true => exact h1 (h.mp rfl)
  | false => exact h2 fun z => by cases h.mpr z
theorem Cp_ninq {n m : Nat} (e : seqL S d = some xs) (hx : fine n x = true) (hn : n ≤ 64) (hs : fines m xs = true) (hm : m ≤ 63) (h1 : x ∈ xs → PB false) (h2 : x ∉ xs → PB true) : Cp S .NotIn x d PB := by
  obtain ⟨b, e1, h⟩ := inD_q e hx hn hs hm
  refine ⟨⟨!b, by show (inD S x d).map _ = _; rw [e1]; rfl, ?_⟩⟩
  cases b with
  | true => exact h1 (h.mp rfl)
  | false => exact h2 fun z => by cases h.mpr z
end
end Q

local macro_rules | `(tactic| fail "q1") => `(tactic| (with_reducible (first | apply Q.G_vvs | apply Q.G_vv0 | apply Q.G_kk | apply Q.G_bi | apply Q.G_ca | apply Q.G_a1 | apply Q.G_a0 | apply Q.Z_seq | apply Q.Z_set | apply Q.St_s | apply Q.St_0 | apply Q.G_ix | apply Q.G_cm | apply Q.G_tCm | apply Q.Bl_bl | apply Q.Z_if | apply Q.Z_ret | apply Q.G_bl | apply Q.G_tTr | apply Q.G_tNot | apply Q.G_tAnd | apply Q.G_tOr | apply Q.G_isn | apply Q.G_me | apply Q.G_lsv | apply Q.G_tu | apply Q.G_lsm | apply Q.G_nt | apply Q.G_ng | apply Q.G_cm2 | apply Q.G_ie | apply Q.G_sl | apply Q.G_andE | apply Q.G_orE | apply Q.G_p0 | apply Q.G_p1 | apply Q.G_iv | apply Q.G_r1 | apply Q.G_r2 | apply Q.G_lcv | apply Q.G_lcv1 | apply Q.G_lcm | apply Q.G_lcm1 | apply Q.Z_exp | apply Q.Z_pass | apply Q.Z_brk | apply Q.Z_cnt | apply Q.Z_ret0 | apply Q.Z_tup | apply Q.Z_sub | apply Q.Z_while | apply Q.Z_for | apply Q.Z_raise | apply Q.FnP_self | apply Q.Bn_add | apply Q.Bn_sub | apply Q.Bn_and | apply Q.Cp_lt | apply Q.Cp_le | apply Q.Cp_gt | apply Q.Cp_ge | apply Q.Cp_eqi | apply Q.Cp_nei | apply Q.Cp_is | apply Q.Cp_isn | apply Q.Tr_bl | apply Q.Tr_int | apply Q.Tr_lst | apply Q.Tr_tup | apply Q.Tr_non | apply Q.Io_int | apply Q.Bs_int | apply Q.Bs_intb | apply Q.Bs_len | apply Q.Bs_lent | apply Q.Bs_min | apply Q.Bs_max | apply Q.Bs_abs | apply Q.Md_bits | apply Q.Mt_bits | apply Q.It_lst | apply Q.It_tup | apply Q.Br_not | apply Q.Bd_b1 | apply Q.G_di0 | apply Q.Sl_lst | apply Q.Sl_tup | apply Q.Wp_0 | apply Q.Wp_s | apply Q.Sn_0 | apply Q.Sn_s | apply Q.Ct_mk1 | apply Q.Ct_mk | apply Q.Tn_mk | apply Q.G_zen | apply Q.G_zzp | apply Q.G_rvs | apply Q.G_lset | apply Q.G_dct | apply Q.G_k0 | apply Q.G_k1 | apply Q.G_dis | apply Q.En_lst | apply Q.Zp_tup | apply Q.Zp_lst | apply Q.Zp_lt | apply Q.Zp_tl | apply Q.Rv_lst | apply Q.Rv_tup | apply Q.Ky_str | apply Q.Ky_int | apply Q.Md_split | apply Q.Md_join | apply Q.Md_idx | apply Q.Ts_0 | apply Q.Ts_s | apply Q.Cp_eqb | apply Q.Cp_neb | apply Q.Z_try | apply Q.G_slm | apply Q.G_fmv | apply Q.G_fst | apply Q.G_j0 | apply Q.G_j1 | apply Q.G_biM | apply Q.G_liM | apply Q.G_dkc | apply Q.Z_par | apply Q.Z_mix | apply Q.Rn_0 | apply Q.Rn_s | apply Q.Tg_N | apply Q.Tg_A | apply Q.Tg_I | apply Q.Dk_s | apply Q.Z_fld | apply Q.G_fl | apply Q.G_meT | apply Q.G_mkI | apply Q.Li_t | apply Q.G_cix | apply Q.Sx_0 | apply Q.Sx_1)))
local macro_rules | `(tactic| fail "q2") => `(tactic| (first | refine Q.El_mk rfl ?_ | refine Q.Mx_t rfl ?_ | refine Q.Ln_mk (Nat.le_of_ble_eq_true rfl) ?_ | refine Q.Bn_mod (by first | decide | omega) ?_ | refine Q.Bd_bT rfl ?_ | refine Q.Ix_by rfl ?_ | refine Q.Is_by (k := true) rfl ?_ | refine Q.Is_by (k := false) rfl ?_ | refine Q.R1_mk (by first | decide | omega) ?_ | refine Q.Bn_mulS (by omega) (by omega) ?_ | refine Q.Bn_fdivS (by omega) (by omega) ?_ | (apply Q.Ix_ref; assumption; exact rfl) | (apply Q.Sd_ref; assumption; exact rfl; intro _ _ _ _) | (apply Q.Bs_lenr; assumption) | (apply Q.Md_app; assumption)))
local macro_rules | `(tactic| fail "q3") => `(tactic| (first | refine Q.Br_t rfl ?_ | refine Q.Br_f rfl ?_ | refine Q.Br_t (decide_eq_true (by omega)) ?_ | refine Q.Br_f (decide_eq_false (by omega)) ?_ | (with_reducible refine Q.Br_dec (fun _ => ?_) (fun _ => ?_))))
local macro_rules | `(tactic| fail "q4") => `(tactic| (first | refine Q.Br_t rfl ?_ | refine Q.Br_f rfl ?_ | refine Q.Br_t (decide_eq_true (by omega)) ?_ | refine Q.Br_f (decide_eq_false (by omega)) ?_))
/-! Q15: plain helpers that lean on no law: texts, names, works, lists wherever they stand. -/
namespace Q
open PySem L2
theorem range_get {j : Int} {i : Nat} {d : D} (h : (rangeD 0 j).xs[i]? = some d) : d = .int i ∧ (i : Int) < j := by
  unfold rangeD at h
  simp only [List.getElem?_map] at h
  cases e : (List.range (j - 0).toNat)[i]? with
  | none => rw [e] at h; cases h
  | some k =>
    rw [e] at h
    obtain ⟨h1, h2⟩ := List.getElem?_eq_some_iff.mp e
    rw [List.getElem_range] at h2
    simp at h1
    cases h
    refine ⟨by subst h2; simp, by omega⟩
theorem range_len {j : Int} : (rangeD 0 j).xs.length = j.toNat := by
  unfold rangeD
  simp
/-- no object names another -/
def Flat (S : Store) : Prop := ∀ (i : Nat) (o : Ob), S[i]? = some o → ∀ n : Nat, obBelow n o = true
theorem Flat.all {S : Store} (h : Flat S) (n : Nat) : (S.take n).all (obBelow n) = true := by
  rw [List.all_eq_true]
  intro o ho
  obtain ⟨i, hi⟩ := List.mem_iff_getElem?.mp (List.mem_of_mem_take ho)
  exact h i o hi n
theorem Flat.take {S : Store} (h : Flat S) (n : Nat) : Flat (S.take n) := fun i o e => by
  rw [List.getElem?_take] at e
  split at e
  · exact h i o e
  · cases e
theorem take_get {S : Store} {i n : Nat} (h : i < n) : (S.take n)[i]? = S[i]? := by rw [List.getElem?_take, if_pos h]
/-- what a def of its own objects hands back: nothing of them -/
theorem Fn_val {n : Nat} {d : D} {S' : Store} {QD : D → Store → Prop} {E : EX} (hl : n < S'.length) (hb : (S'.take n).all (obBelow n) = true) (hd : below n d = true) (h : QD d (S'.take n)) : FnP false n d S' QD E :=
  Fn_own hl hb (fun _ => h) (fun z => by rw [hd] at z; cases z)
mutual
theorem below_fine : ∀ (n : Nat) (x : D) (m : Nat), fine n x = true → below m x = true
  | _, .non, _, _ => rfl
  | _, .int _, _, _ => rfl
  | _, .str _, _, _ => rfl
  | n, .bl _, _, h => rfl
  | n, .ref _, _, h => by cases n <;> simp [fine] at h
  | 0, .tup _, _, h => by simp [fine] at h
  | 0, .lst _, _, h => by simp [fine] at h
  | n + 1, .tup xs, m, h => below_fines n xs m (by simpa [fine] using h)
  | n + 1, .lst xs, m, h => below_fines n xs m (by simpa [fine] using h)
theorem below_fines : ∀ (n : Nat) (xs : List D) (m : Nat), fines n xs = true → belows m xs = true
  | _, [], _, _ => rfl
  | n, x :: xs, m, h => by
    rw [fines, Bool.and_eq_true] at h
    rw [belows, below_fine n x m h.1, below_fines n xs m h.2]; rfl
end
def low26 (c : Nat) : Bool := decide (97 ≤ c) && decide (c ≤ 122)
theorem letters_mem (c : Nat) : decide (c ∈ (Str.ofString "abcdefghijklmnopqrstuvwxyz").cps.toList) = low26 c := by
  have e : (Str.ofString "abcdefghijklmnopqrstuvwxyz").cps.toList = (List.range 26).map (97 + ·) := by decide +kernel
  rw [e]
  unfold low26
  rw [Bool.eq_iff_iff, decide_eq_true_eq, Bool.and_eq_true, decide_eq_true_eq, decide_eq_true_eq, List.mem_map]
  constructor
  · rintro ⟨k, hk, rfl⟩
    rw [List.mem_range] at hk
    omega
  · intro h
    exact ⟨c - 97, List.mem_range.mpr (by omega), by omega⟩
theorem Cp_sign {S : Store} {c : Nat} {Q : Bool → Prop} (h : Q (low26 c)) : Cp S .In (.str ⟨#[c]⟩) (.str "abcdefghijklmnopqrstuvwxyz") Q := by
  refine ⟨⟨low26 c, ?_, h⟩⟩
  show some (!(Builtin.Str.occurrences (Str.ofString "abcdefghijklmnopqrstuvwxyz") ⟨#[c]⟩ 0 (Str.ofString "abcdefghijklmnopqrstuvwxyz").length 1).isEmpty) = _
  rw [StrLaws.found_one, letters_mem]
theorem Bs_lenS {S : Store} {a : List Nat} {Q : D → Prop} (hl : a.length ≤ 16777216) (h : Q (.int a.length)) : BsP S .len [.str (SX.S a)] Q := by
  refine ⟨⟨.int a.length, ?_, h⟩⟩
  show (if (SX.S a).length ≤ 16777216 then some (D.int (SX.S a).length) else none) = _
  rw [SX.S_len, if_pos hl]
theorem It_str {S : Store} {a : List Nat} {q : Items → Prop} (h : q ⟨a.map fun c => .str ⟨#[c]⟩, none, false⟩) : ItP S (.str (SX.S a)) q := ⟨⟨_, rfl, h⟩⟩
theorem bls_map : ∀ bs : List Bool, blsOf (bs.map D.bl) = some bs
  | [] => rfl
  | b :: bs => by simp only [List.map_cons, blsOf, bls_map bs]
theorem Bs_all {S : Store} {bs : List Bool} {Q : D → Prop} (h : Q (.bl (bs.all id))) : BsP S .all [.lst (bs.map D.bl)] Q :=
  ⟨⟨.bl (bs.all id), by show allD S (.lst (bs.map D.bl)) = _; simp only [allD, seqL, bls_map], h⟩⟩
def okName (a : List Nat) : Bool := decide (1 ≤ a.length) && (decide (a.length ≤ 8) && a.all low26)
/-- what is no text -/
inductive NoS (S : Store) : D → Prop
  | non : NoS S .non
  | bl (b : Bool) : NoS S (.bl b)
  | int (i : Int) : NoS S (.int i)
  | tup (xs : List D) : NoS S (.tup xs)
  | lst (xs : List D) : NoS S (.lst xs)
  | ref (l : Nat) (xs : List D) (h : S[l]? = some (.lst xs)) : NoS S (.ref l)
  | dic (l : Nat) (kvs : List (L2.Key × D)) (h : S[l]? = some (.dic kvs)) : NoS S (.ref l)
theorem Is_dic {S : Store} {l : Nat} {kvs : List (L2.Key × D)} {t : Str} {PB : Bool → Prop} (e : S[l]? = some (.dic kvs)) (h : PB (t == "dict")) : IsP S (.ref l) t PB :=
  ⟨⟨_, by show (match S[l]? with | some (.lst _) => some (t == "list") | some (.dic _) => some (t == "dict") | _ => none) = _; rw [e], h⟩⟩
theorem joinL_nil : ∀ ys : List (List Nat), TL.joinL [] ys = ys.flatten
  | [] => rfl
  | [p] => by simp [TL.joinL]
  | p :: q :: r => by rw [TL.joinL, joinL_nil (q :: r)]; rfl
theorem flat_one : ∀ a : List Nat, (a.map fun c => [c]).flatten = a
  | [] => rfl
  | c :: a => by rw [List.map_cons, List.flatten_cons, flat_one a]; rfl
theorem Mt_join1 {S : Store} {a : List Nat} {QD : D → Store → Prop} (hl : a.length ≤ 1000000) (h : QD (.str (SX.S a)) S) : MtP S .join (.str "") [.lst (a.map fun c => .str ⟨#[c]⟩)] QD := by
  have e : (a.map fun c => D.str ⟨#[c]⟩) = ((a.map fun c => [c]).map SX.S).map D.str := by
    rw [List.map_map, List.map_map]; rfl
  rw [e]
  refine Mt_join ?_ ?_
  · rw [SX.lens]
    have : ((a.map fun c => [c]).map (·.length)).sum = a.length := by
      clear h e hl
      induction a with
      | nil => rfl
      | cons c a ih => rw [List.map_cons, List.map_cons, List.sum_cons, ih, List.length_cons]; simp; omega
    rw [this]
    have z : (Str.ofString "").length = 0 := by decide +kernel
    rw [z]
    omega
  · have z : Str.ofString "" = SX.S [] := by decide +kernel
    rw [z, SX.join_S, joinL_nil, flat_one]
    exact h
theorem atI_S {a : List Nat} {n : Int} (h0 : 0 ≤ n) (h1 : n < a.length) : ∃ c, a[n.toNat]? = some c ∧ L2.atI a n = some c := by
  have lt : n.toNat < a.length := by omega
  refine ⟨a[n.toNat], List.getElem?_eq_getElem lt, ?_⟩
  unfold L2.atI L2.ixN
  rw [if_pos h0, if_pos h1]
  simp [lt]
theorem Ix_strS {S : Store} {a : List Nat} {n : Int} {Q : D → Prop} (hl : a.length ≤ 1000000) (h0 : 0 ≤ n) (h1 : n < a.length) (h : ∀ c ∈ a, Q (.str ⟨#[c]⟩)) : IxP S (.str (SX.S a)) (.int n) Q := by
  obtain ⟨c, e1, e2⟩ := atI_S h0 h1
  refine ⟨⟨.str ⟨#[c]⟩, ?_, h c (List.mem_of_getElem? e1)⟩⟩
  show (if (SX.S a).length ≤ 16777216 then (match L2.atI a n with | some c => some (D.str ⟨#[c]⟩) | none => none) else none) = _
  rw [SX.S_len, if_pos (by omega), e2]
theorem Sl_to {S : Store} {a : List Nat} {n : Int} {Q : D → Prop} (hl : a.length ≤ 1000000) (h0 : 0 ≤ n) (h : Q (.str (SX.S (a.take n.toNat)))) : SlP S (.str (SX.S a)) none (some n) Q :=
  ⟨⟨_, by show (if (SX.S a).length ≤ 16777216 then some (D.str (Txt.slice (SX.S a) none (some n))) else none) = _; rw [SX.S_len, if_pos (by omega), SX.slice_to h0], h⟩⟩
theorem Sl_from {S : Store} {a : List Nat} {n : Int} {Q : D → Prop} (hl : a.length ≤ 1000000) (h0 : 0 ≤ n) (h : Q (.str (SX.S (a.drop n.toNat)))) : SlP S (.str (SX.S a)) (some n) none Q :=
  ⟨⟨_, by show (if (SX.S a).length ≤ 16777216 then some (D.str (Txt.slice (SX.S a) (some n) none)) else none) = _; rw [SX.S_len, if_pos (by omega), SX.slice_from h0], h⟩⟩
theorem Bn_catS {S : Store} {a b : List Nat} {Q : D → Prop} (hb : a.length + b.length ≤ 1000000) (h : Q (.str (SX.S (a ++ b)))) : Bn S .Add (.str (SX.S a)) (.str (SX.S b)) Q := by
  refine Bn_str (by rw [SX.S_len, SX.S_len]; omega) ?_
  rw [SX.S_cat]; exact h
theorem alpha : Str.ofString "abcdefghijklmnopqrstuvwxyz" = SX.S ((List.range 26).map (97 + ·)) := by decide +kernel
abbrev dS (a : List Nat) : D := .str (SX.S a)
def sOk (a : List Nat) : Bool := a.all fun c => decide (c < 1114112)
theorem strOk_S {a : List Nat} (h : sOk a = true) : PyData.strOk (SX.S a) = true := by
  unfold sOk at h
  show a.toArray.all (fun c => decide (c < 0x110000)) = true
  rw [List.all_toArray]
  exact h
theorem fine_S {a : List Nat} {n : Nat} (h : sOk a = true) : fine n (dS a) = true := by cases n <;> exact strOk_S h
theorem okName_s {a : List Nat} (h : okName a = true) : sOk a = true := by
  unfold okName at h
  rw [Bool.and_eq_true, Bool.and_eq_true] at h
  unfold sOk
  rw [List.all_eq_true]
  intro c hc
  have := List.all_eq_true.mp h.2.2 c hc
  unfold low26 at this
  rw [Bool.and_eq_true, decide_eq_true_eq, decide_eq_true_eq] at this
  exact decide_eq_true (by omega)
theorem okName_len {a : List Nat} (h : okName a = true) : 1 ≤ a.length ∧ a.length ≤ 8 := by
  unfold okName at h
  rw [Bool.and_eq_true, Bool.and_eq_true, decide_eq_true_eq, decide_eq_true_eq] at h
  exact ⟨h.1, h.2.1⟩
theorem dS_inj {a b : List Nat} (h : dS a = dS b) : a = b := by
  injection h with h
  exact SX.S_inj h
theorem Cp_eqS {S : Store} {a b : List Nat} {PB : Bool → Prop} (ha : sOk a = true) (hb : sOk b = true) (h : PB (decide (a = b))) : Cp S .Eq (dS a) (dS b) PB := by
  refine Cp_eq (EqOk.of (n := 0) (fine_S ha) (by decide)) (EqOk.of (n := 0) (fine_S hb) (by decide)) (fun e => ?_) (fun e => ?_)
  · rw [decide_eq_true (dS_inj e)] at h; exact h
  · rw [decide_eq_false (fun z => e (by rw [z]))] at h; exact h
theorem fines_S {ns : List (List Nat)} {n : Nat} (h : ∀ a ∈ ns, sOk a = true) : fines n (ns.map dS) = true := by
  refine fines_all fun x hx => ?_
  obtain ⟨a, ha, rfl⟩ := List.mem_map.mp hx
  exact fine_S (h a ha)
theorem mem_dS {ns : List (List Nat)} {a : List Nat} : dS a ∈ ns.map dS ↔ a ∈ ns := by
  constructor
  · intro h
    obtain ⟨b, hb, e⟩ := List.mem_map.mp h
    rw [← dS_inj e]; exact hb
  · exact fun h => List.mem_map_of_mem h
theorem Cp_inS {S : Store} {d : D} {ns : List (List Nat)} {a : List Nat} {PB : Bool → Prop} (e : seqL S d = some (ns.map dS)) (ha : sOk a = true) (hs : ∀ b ∈ ns, sOk b = true) (h : PB (decide (a ∈ ns))) : Cp S .In (dS a) d PB :=
  Cp_inq (n := 0) (m := 0) e (fine_S ha) (by decide) (fines_S hs) (by decide) (fun z => by rw [decide_eq_true (mem_dS.mp z)] at h; exact h) (fun z => by rw [decide_eq_false (fun q => z (mem_dS.mpr q))] at h; exact h)
theorem Cp_ninS {S : Store} {d : D} {ns : List (List Nat)} {a : List Nat} {PB : Bool → Prop} (e : seqL S d = some (ns.map dS)) (ha : sOk a = true) (hs : ∀ b ∈ ns, sOk b = true) (h : PB (!decide (a ∈ ns))) : Cp S .NotIn (dS a) d PB :=
  Cp_ninq (n := 0) (m := 0) e (fine_S ha) (by decide) (fines_S hs) (by decide) (fun z => by rw [decide_eq_true (mem_dS.mp z)] at h; exact h) (fun z => by rw [decide_eq_false (fun q => z (mem_dS.mpr q))] at h; exact h)
/-- a text in a tuple of two texts -/
theorem Cp_in2 {S : Store} {a b c : List Nat} {PB : Bool → Prop} (ha : sOk a = true) (hb : sOk b = true) (hc : sOk c = true) (h : PB (decide (a = b) || decide (a = c))) : Cp S .In (dS a) (.tup [dS b, dS c]) PB := by
  obtain ⟨p1, x, a1, a2, a3⟩ := fine_ok 0 (dS a) (fine_S ha)
  have hs : fines 0 [dS b, dS c] = true := fines_S (ns := [b, c]) (by simp [hb, hc])
  obtain ⟨q1, as, b1, b2, b3⟩ := fines_ok 0 [dS b, dS c] hs
  have e1 : toPyS S (dS a) = some x := by rw [toPyS_pln p1]; exact a1
  have e2 : toPyS S (.tup [dS b, dS c]) = some (.tuple as) := by
    rw [toPyS_pln (by simpa [pln] using q1), toPy, b1]
  have s1 : SeqAt.shaped x = true := by unfold SeqAt.shaped; rw [a2, decide_eq_true (by omega)]; rfl
  have s2 : SeqAt.shaped (.tuple as) = true := by
    unfold SeqAt.shaped
    rw [PyData.canLay0, b2, decide_eq_true (by simp only [PyData.depth]; omega)]; rfl
  have m := any_mem q1 p1 a1 b1
  refine ⟨⟨as.any fun z => PyData.eqv z x, ?_, ?_⟩⟩
  · show inSeq S (dS a) (.tup [dS b, dS c]) = _
    unfold inSeq
    rw [e1, e2]
    exact if_pos ⟨s1, s2⟩
  · have : (as.any fun z => PyData.eqv z x) = (decide (a = b) || decide (a = c)) := by
      rw [Bool.eq_iff_iff, m, Bool.or_eq_true, decide_eq_true_eq, decide_eq_true_eq]
      have := mem_dS (ns := [b, c]) (a := a)
      simp only [List.map_cons, List.map_nil, List.mem_cons, List.not_mem_nil, or_false] at this
      simp only [List.mem_cons, List.not_mem_nil, or_false]
      exact this
    rw [this]
    exact h
theorem ItCf_q {S : Store} {d : D} {xs : List D} {f : D → Store → Out (Option D)} {QL : List D → Store → Prop} (I : Nat → List D → Store → Prop) (hI : ∀ i acc S', I i acc S' → seqL S' d = some xs) (hl : xs.length < 100000) (h0 : I 0 [] S)
    (step : ∀ i x acc S', xs[i]? = some x → I i acc S' → acc.length ≤ i → W (f x S') (fun o S1 => match o with
      | some y => I (i + 1) (acc ++ [y]) S1
      | none => I (i + 1) acc S1) noX) (stop : ∀ acc S', I xs.length acc S' → QL acc S') : ItP S d (fun it => CfP it f S QL) := by
  have e := hI 0 [] S h0
  rcases seqL_two e with rfl | ⟨l, rfl, z⟩
  · exact It_lst (Cf_inv (it := ⟨xs, none, false⟩) I hl h0 step stop)
  · refine ⟨⟨⟨xs, some l, false⟩, by show (match S[l]? with | some (.lst xs) => some (Items.mk xs (some l) false) | _ => none) = _; rw [z], ?_⟩⟩
    refine Cf_invR I (fun i acc S' h => ?_) hl h0 step stop
    have := hI i acc S' h
    rcases seqL_two this with q | ⟨l', q, z'⟩
    · cases q
    · cases q; exact z'
theorem replicate_snoc {α : Type} (i : Nat) (b : α) : List.replicate i b ++ [b] = List.replicate (i + 1) b := (List.replicate_succ' ..).symm
theorem all_true (n : Nat) : (List.replicate n true).all id = true := by
  induction n with
  | zero => rfl
  | succ n ih => rw [List.replicate_succ, List.all_cons, ih]; rfl
theorem onceS_nodup : ∀ (xs acc : List Str), (acc ++ xs).Nodup → onceS acc xs = acc ++ xs
  | [], acc, _ => by simp [onceS]
  | x :: xs, acc, h => by
    have hx : x ∉ acc := by
      intro z
      rw [List.nodup_append] at h
      exact h.2.2 x z x (List.mem_cons_self ..) rfl
    unfold onceS
    rw [if_neg hx, onceS_nodup xs (acc ++ [x]) (by simpa using h)]
    simp
theorem nodup_S {ns : List (List Nat)} (h : ns.Nodup) : (ns.map SX.S).Nodup := by
  unfold List.Nodup at *
  rw [List.pairwise_map]
  exact h.imp fun h e => h (SX.S_inj e)
theorem map_dS (ns : List (List Nat)) : ns.map dS = (ns.map SX.S).map D.str := by rw [List.map_map]; rfl
theorem Ls_S {S : Store} {d : D} {ns : List (List Nat)} {Q : D → Prop} (e : seqL S d = some (ns.map dS)) (hn : ns.Nodup) (hl : ns.length ≤ 1000) (h : Q (.int ns.length)) : LsP S d Q := by
  refine ⟨⟨.int ns.length, ?_, h⟩⟩
  unfold lenSetD
  rw [seqL_seqO e, map_dS]
  simp only [strs_map]
  rw [if_pos (by rw [List.length_map]; exact hl), onceS_nodup _ [] (by rw [List.nil_append]; exact nodup_S hn), List.nil_append, List.length_map]
inductive Sm where
  | own | add (i : Int) | spin (i : Int) | call (b : Bool) (h n : List Nat)
def cOwn : List Nat := [111, 119, 110]
def cAdd : List Nat := [97, 100, 100]
def cSpin : List Nat := [115, 112, 105, 110]
def cMake : List Nat := [109, 97, 107, 101]
def cAsk : List Nat := [97, 115, 107]
theorem kOwn : Str.ofString "own" = SX.S cOwn := by decide +kernel
theorem kAdd : Str.ofString "add" = SX.S cAdd := by decide +kernel
theorem kSpin : Str.ofString "spin" = SX.S cSpin := by decide +kernel
theorem kMake : Str.ofString "make" = SX.S cMake := by decide +kernel
theorem kAsk : Str.ofString "ask" = SX.S cAsk := by decide +kernel
def cCall (b : Bool) : List Nat := if b then cAsk else cMake
def dSm : Sm → D
  | .own => .tup [dS cOwn]
  | .add i => .tup [dS cAdd, .int i]
  | .spin i => .tup [dS cSpin, .int i]
  | .call b h n => .tup [dS (cCall b), dS h, dS n]
def okSm (hs ns : List (List Nat)) : Sm → Prop
  | .own => True
  | .add i => -1000 ≤ i ∧ i ≤ 1000
  | .spin i => 1 ≤ i ∧ i ≤ 4
  | .call _ h n => h ∈ hs ∧ n ∈ ns
def isCall : Sm → Bool
  | .call .. => true
  | _ => false
theorem cCall_s (b : Bool) : sOk (cCall b) = true := by cases b <;> decide
theorem nempty {S : Store} {x : D} {xs : List D} {PB : Bool → Prop} {n : Nat} (hf : fine n (.tup (x :: xs)) = true) (hn : n ≤ 64) (h : PB false) : Cp S .Eq (.tup (x :: xs)) (.tup []) PB :=
  Cp_eq (EqOk.of hf hn) (EqOk.of (n := 1) rfl (by decide)) (fun e => by injection e with e; cases e) (fun _ => h)
structure okBody (hs ns : List (List Nat)) (b : List Sm) : Prop where
  len : b.length ≤ 6
  all : ∀ m ∈ b, okSm hs ns m
  calls : (b.filter isCall).length ≤ 3
def dBody (b : List Sm) : D := .tup (b.map dSm)
theorem fst_call {S : Store} {m : Sm} {PB : Bool → Prop} (h : PB (isCall m)) : ∃ x, IxP S (dSm m) (.int 0) (fun d => d = x) ∧ Cp S .In x (.tup [dS cMake, dS cAsk]) PB := by
  cases m with
  | own => exact ⟨dS cOwn, ⟨⟨_, rfl, rfl⟩⟩, Cp_in2 (by decide) (by decide) (by decide) h⟩
  | add i => exact ⟨dS cAdd, ⟨⟨_, rfl, rfl⟩⟩, Cp_in2 (by decide) (by decide) (by decide) h⟩
  | spin i => exact ⟨dS cSpin, ⟨⟨_, rfl, rfl⟩⟩, Cp_in2 (by decide) (by decide) (by decide) h⟩
  | call b hh n => exact ⟨dS (cCall b), ⟨⟨_, rfl, rfl⟩⟩, Cp_in2 (cCall_s b) (by decide) (by decide) (by cases b <;> exact h)⟩
abbrev Wk := List Nat × List Sm
def dWork (w : Wk) : D := .tup [dS w.1, dBody w.2]
def nms (ws : List Wk) : List (List Nat) := ws.map (·.1)
theorem nms_len (ws : List Wk) : (nms ws).length = ws.length := List.length_map ..
theorem mem_nms {ws : List Wk} {w : Wk} (h : w ∈ ws) : w.1 ∈ nms ws := List.mem_map_of_mem h
structure okW (hs : List (List Nat)) (ws : List Wk) : Prop where
  h1 : 1 ≤ hs.length
  h4 : hs.length ≤ 4
  hn : hs.Nodup
  hg : ∀ a ∈ hs, okName a = true
  w1 : 1 ≤ ws.length
  w5 : ws.length ≤ 5
  wn : (nms ws).Nodup
  wg : ∀ a ∈ nms ws, okName a = true
  wb : ∀ w ∈ ws, okBody hs (nms ws) w.2
theorem ItTr_q {S : Store} {d : D} {xs : List D} {f : D → Store → Out (Option D)} {QL : List D → Store → Prop} (e : seqL S d = some xs) (hl : xs.length < 100000) (step : ∀ x ∈ xs, W (f x S) (fun o S1 => o = some (.bl true) ∧ S1 = S) noX) (stop : QL ((List.replicate xs.length true).map D.bl) S) : ItP S d (fun it => CfP it f S QL) := by
  refine ItCf_q (xs := xs) (fun i acc S' => S' = S ∧ acc = (List.replicate i true).map D.bl) (fun i acc S' h => by rw [h.1]; exact e) hl ⟨rfl, rfl⟩ ?_ ?_
  · rintro i x acc S' hx ⟨rfl, rfl⟩ _
    refine (step x (List.mem_of_getElem? hx)).post ?_
    rintro o S1 ⟨rfl, rfl⟩
    exact ⟨rfl, by rw [← replicate_snoc, List.map_append]; rfl⟩
  · rintro acc S' ⟨rfl, rfl⟩
    exact stop
theorem ItMap_q {α : Type} {S : Store} {d : D} {ws : List α} {g h : α → D} {f : D → Store → Out (Option D)} {QL : List D → Store → Prop} (e : seqL S d = some (ws.map g)) (hl : ws.length < 100000) (step : ∀ w ∈ ws, W (f (g w) S) (fun o S1 => o = some (h w) ∧ S1 = S) noX) (stop : QL (ws.map h) S) : ItP S d (fun it => CfP it f S QL) := by
  refine ItCf_q (xs := ws.map g) (fun i acc S' => S' = S ∧ acc = (ws.take i).map h) (fun i acc S' h => by rw [h.1]; exact e) (by rw [List.length_map]; exact hl) ⟨rfl, rfl⟩ ?_ ?_
  · rintro i x acc S' hx ⟨rfl, rfl⟩ _
    rw [List.getElem?_map, Option.map_eq_some_iff] at hx
    obtain ⟨w, hw, rfl⟩ := hx
    refine (step w (List.mem_of_getElem? hw)).post ?_
    rintro o S1 ⟨rfl, rfl⟩
    exact ⟨rfl, by rw [List.take_succ, hw, List.map_append]; rfl⟩
  · rintro acc S' ⟨rfl, rfl⟩
    rw [List.length_map, List.take_length]
    exact stop
theorem map_nms (ws : List Wk) : ws.map (fun w => dS w.1) = (nms ws).map dS := by unfold nms; rw [List.map_map]; rfl
/-- all but the place l stays -/
structure Kp (l : Nat) (S S' : Store) : Prop where
  len : S.length ≤ S'.length
  get : ∀ i, i ≠ l → i < S.length → S'[i]? = S[i]?
theorem Kp.refl {l : Nat} {S : Store} : Kp l S S := ⟨Nat.le_refl _, fun _ _ _ => rfl⟩
theorem Kp.trans {l : Nat} {S S1 S2 : Store} (h : Kp l S S1) (g : Kp l S1 S2) : Kp l S S2 :=
  ⟨Nat.le_trans h.len g.len, fun i hi hl => by rw [g.get i hi (Nat.lt_of_lt_of_le hl h.len), h.get i hi hl]⟩
theorem Kp.same {l : Nat} {S S' : Store} (h : S'.length = S.length) (g : ∀ i, i ≠ l → S'[i]? = S[i]?) : Kp l S S' := ⟨by omega, fun i hi _ => g i hi⟩
theorem Kp.app {l : Nat} {S T : Store} : Kp l S (S ++ T) := ⟨by rw [List.length_append]; omega, fun i _ hl => List.getElem?_append_left hl⟩
theorem Kp.take {l n : Nat} {S S' : Store} (h : Kp l S S') (hn : S.length ≤ n) : Kp l S (S'.take n) :=
  ⟨by rw [List.length_take]; have := h.len; omega, fun i hi hl => by rw [take_get (by omega), h.get i hi hl]⟩
theorem seqL_lt {S : Store} {j : Nat} {xs : List D} (e : seqL S (.ref j) = some xs) : S[j]? = some (.lst xs) ∧ j < S.length := by
  rcases seqL_two e with z | ⟨i, z, h⟩
  · cases z
  · cases z
    exact ⟨h, (List.getElem?_eq_some_iff.mp h).1⟩
theorem Kp.seq {l : Nat} {S S' : Store} {d : D} {xs : List D} (h : Kp l S S') (e : seqL S d = some xs) (hd : d ≠ .ref l) : seqL S' d = some xs := by
  rcases seqL_two e with rfl | ⟨j, rfl, z⟩
  · exact e
  · exact seqL_ref (by rw [h.get j (fun q => hd (by rw [q])) (List.getElem?_eq_some_iff.mp z).1]; exact z)
theorem Fn_any {n : Nat} {d : D} {S' : Store} {QD : D → Store → Prop} {E : EX} (h1 : QD d S') (h2 : below n d = true → QD d (S'.take n)) : FnP false n d S' QD E := by
  refine ⟨?_⟩
  rw [fin_eq]
  split
  · exact ⟨h1⟩
  · show W (if (below n d && (S'.take n).all (obBelow n)) = true then .ok d (S'.take n) else .ok d S') QD E
    split
    · rename_i z
      exact ⟨h2 (by rw [Bool.and_eq_true] at z; exact z.1)⟩
    · exact ⟨h1⟩
def letter (n : Int) : Nat := 97 + n.toNat
theorem Ix_alpha {S : Store} {n : Int} {Q : D → Prop} (h0 : 0 ≤ n) (h1 : n < 26) (h : Q (dS [letter n])) : IxP S (.str "abcdefghijklmnopqrstuvwxyz") (.int n) Q := by
  rw [alpha]
  obtain ⟨c, e1, e2⟩ := atI_S (a := (List.range 26).map (97 + ·)) h0 (by rw [List.length_map, List.length_range]; omega)
  refine ⟨⟨.str ⟨#[c]⟩, ?_, ?_⟩⟩
  · show (if (SX.S ((List.range 26).map (97 + ·))).length ≤ 16777216 then (match L2.atI ((List.range 26).map (97 + ·)) n with | some c => some (D.str ⟨#[c]⟩) | none => none) else none) = _
    rw [SX.S_len, if_pos (by rw [List.length_map, List.length_range]; omega), e2]
  · rw [List.getElem?_map, Option.map_eq_some_iff] at e1
    obtain ⟨i, hi, rfl⟩ := e1
    have : i = n.toNat := by
      obtain ⟨_, z⟩ := List.getElem?_eq_some_iff.mp hi
      rw [List.getElem_range] at z
      exact z.symm
    subst this
    exact h
theorem CfRange {S : Store} {m : Int} {f : D → Store → Out (Option D)} {QL : List D → Store → Prop} (g : Nat → D) (hm : m < 1000) (step : ∀ i : Nat, (i : Int) < m → W (f (.int i) S) (fun o S1 => o = some (g i) ∧ S1 = S) noX) (stop : QL ((List.range m.toNat).map g) S) : CfP (rangeD 0 m) f S QL := by
  refine Cf_inv (fun i acc S' => S' = S ∧ acc = (List.range i).map g) (by rw [range_len]; omega) ⟨rfl, rfl⟩ ?_ ?_
  · rintro i d acc S' hd ⟨rfl, rfl⟩ _
    obtain ⟨rfl, hi⟩ := range_get hd
    refine (step i hi).post ?_
    rintro o S1 ⟨rfl, rfl⟩
    exact ⟨rfl, by rw [List.range_succ, List.map_append]; rfl⟩
  · rintro acc S' ⟨rfl, rfl⟩
    rw [range_len]
    exact stop
theorem times_S {c : Nat} {k : Nat} : timesS (SX.S [c]) ((k : Int) + 1) = SX.S (List.replicate (k + 1) c) := by
  unfold timesS
  split
  · have : k = 0 := by omega
    subst this; rfl
  · rw [if_neg (by rw [SX.S_len, List.length_singleton]; decide)]
    have : ((k : Int) + 1).toNat = k + 1 := by omega
    rw [this]
    show Str.mk ((List.replicate (k + 1) [c]).flatten.toArray) = ⟨(List.replicate (k + 1) c).toArray⟩
    congr 2
    generalize k + 1 = n
    induction n with
    | zero => rfl
    | succ n ih => rw [List.replicate_succ, List.flatten_cons, ih]; rfl
theorem Bs_tupq {S : Store} {d : D} {xs : List D} {Q : D → Prop} (e : seqL S d = some xs) (h : Q (.tup xs)) : BsP S .tuple [d] Q :=
  ⟨⟨.tup xs, by show (match seqO S d with | some ys => some (D.tup ys) | none => none) = _; rw [seqL_seqO e], h⟩⟩
theorem filter_snoc (b : List Sm) (m : Sm) : ((b ++ [m]).filter isCall).length = (b.filter isCall).length + (if isCall m then 1 else 0) := by
  rw [List.filter_append, List.length_append]
  congr 1
  cases h : isCall m <;> simp [List.filter, h]
theorem atI_last {α : Type} {xs : List α} (h : 0 < xs.length) : ∃ x, x ∈ xs ∧ L2.atI xs (-1) = some x := by
  refine ⟨xs[xs.length - 1], List.getElem_mem .., ?_⟩
  unfold L2.atI L2.ixN
  rw [if_neg (by decide), if_pos (by omega)]
  have : ((-1 : Int) + xs.length).toNat = xs.length - 1 := by omega
  simp only [this]
  exact List.getElem?_eq_getElem (by omega)
theorem cut_to {α : Type} (xs : List α) (i : Nat) (h : i ≤ xs.length) : cut xs none (some (i : Int)) = xs.take i := by
  show List.take ((if (i : Int) < 0 then ((i : Int) + xs.length).toNat else min (i : Int).toNat xs.length) - 0) (List.drop 0 xs) = _
  rw [if_neg (by omega), List.drop_zero]
  congr 1
  omega
theorem cut_from {α : Type} (xs : List α) (i : Nat) (h : i ≤ xs.length) : cut xs (some (i : Int)) none = xs.drop i := by
  show List.take (xs.length - (if (i : Int) < 0 then ((i : Int) + xs.length).toNat else min (i : Int).toNat xs.length)) (List.drop (if (i : Int) < 0 then ((i : Int) + xs.length).toNat else min (i : Int).toNat xs.length) xs) = _
  rw [if_neg (by omega)]
  have : min (i : Int).toNat xs.length = i := by omega
  rw [this, List.take_of_length_le (by rw [List.length_drop]; omega)]
theorem En_ref {S : Store} {l : Nat} {xs : List D} {q : Items → Prop} (e : S[l]? = some (.lst xs)) (h : q ⟨xs, some l, true⟩) : EnP S (.ref l) q := by
  refine ⟨⟨_, ?_, h⟩⟩
  show (match S[l]? with | some (.lst xs) => some (Items.mk xs (some l) true) | _ => none) = _
  rw [e]
theorem It_ref {S : Store} {l : Nat} {xs : List D} {q : Items → Prop} (e : S[l]? = some (.lst xs)) (h : q ⟨xs, some l, false⟩) : ItP S (.ref l) q := by
  refine ⟨⟨_, ?_, h⟩⟩
  show (match S[l]? with | some (.lst xs) => some (Items.mk xs (some l) false) | _ => none) = _
  rw [e]
theorem putG_new {α : Type} {kvs : List (L2.Key × α)} {k : L2.Key} {v : α} (h : ∀ kv ∈ kvs, kv.1 ≠ k) : putG kvs k v = kvs ++ [(k, v)] := by
  unfold putG
  rw [if_neg]
  intro z
  obtain ⟨kv, hm, e⟩ := List.any_eq_true.mp z
  exact h kv hm (of_decide_eq_true e)
theorem mergeG_nodup {α : Type} : ∀ (kvs acc : List (L2.Key × α)), ((acc ++ kvs).map (·.1)).Nodup → mergeG acc kvs = acc ++ kvs
  | [], acc, _ => by simp [mergeG]
  | kv :: kvs, acc, h => by
    have hx : ∀ q ∈ acc, q.1 ≠ kv.1 := by
      intro q hq e
      rw [List.map_append, List.nodup_append] at h
      exact h.2.2 q.1 (List.mem_map_of_mem hq) kv.1 (List.mem_cons_self ..) e
    show mergeG (putG acc kv.1 kv.2) kvs = _
    rw [putG_new hx, mergeG_nodup kvs _ (by simpa using h)]
    simp
theorem valG_mem {α : Type} : ∀ {kvs : List (L2.Key × α)} {k : L2.Key} {v : α}, (kvs.map (·.1)).Nodup → (k, v) ∈ kvs → valG kvs k = some v
  | [], _, _, _, h => by simp at h
  | (k', v') :: kvs, k, v, nd, h => by
    rw [List.map_cons, List.nodup_cons] at nd
    unfold valG
    rw [List.find?_cons]
    rcases List.mem_cons.mp h with e | e
    · injection e with e1 e2
      subst e1 e2
      simp
    · have : k' ≠ k := fun z => nd.1 (by rw [z]; exact List.mem_map_of_mem (f := (·.1)) e)
      rw [decide_eq_false this]
      exact valG_mem nd.2 e
def kvs (ws : List Wk) : List (L2.Key × D) := ws.map fun w => (.inr (SX.S w.1), dBody w.2)
theorem pairs_kvs : ∀ ws : List Wk, pairsD (ws.map dWork) = some (kvs ws)
  | [] => rfl
  | w :: ws => by
    show (match keyD (dS w.1), pairsD (ws.map dWork) with | some k, some r => some ((k, dBody w.2) :: r) | _, _ => none) = _
    rw [pairs_kvs ws]
    rfl
theorem kvs_nodup {ws : List Wk} (h : (nms ws).Nodup) : ((kvs ws).map (·.1)).Nodup := by
  have e : (kvs ws).map (·.1) = (nms ws).map fun a => (Sum.inr (SX.S a) : L2.Key) := by unfold kvs nms; rw [List.map_map, List.map_map]; rfl
  rw [e]
  unfold List.Nodup at *
  rw [List.pairwise_map]
  exact h.imp fun h e => h (SX.S_inj (Sum.inr.inj e))
theorem seqL_app {S T : Store} {d : D} {xs : List D} (e : seqL S d = some xs) : seqL (S ++ T) d = some xs := by
  rcases seqL_two e with rfl | ⟨j, rfl, z⟩
  · exact e
  · exact seqL_ref (by rw [List.getElem?_append_left (List.getElem?_eq_some_iff.mp z).1]; exact z)
theorem Dc_q {S : Store} {d : D} {xs : List D} {kv : List (L2.Key × D)} {Q : D → Store → Prop} (e : seqL S d = some xs) (p : pairsD xs = some kv) (nd : (kv.map (·.1)).Nodup) (h : Q (.ref S.length) (S ++ [.dic kv])) : DcP S [d] Q := by
  refine ⟨⟨d, .ref S.length, S ++ [.dic kv], rfl, ?_, h⟩⟩
  have m : mergeG [] kv = kv := mergeG_nodup kv [] (by simpa using nd)
  unfold dictD
  rw [dicOf_q e, e]
  simp only [p, m]
theorem fine_Sm {hs ns : List (List Nat)} {m : Sm} (s1 : ∀ b ∈ hs, sOk b = true) (s2 : ∀ b ∈ ns, sOk b = true) (hm : okSm hs ns m) : fine 1 (dSm m) = true := by
  cases m with
  | own =>
    show (fine 0 (dS cOwn) && true) = true
    rw [fine_S (by decide)]; rfl
  | add i =>
    show (fine 0 (dS cAdd) && (fine 0 (.int i) && true)) = true
    rw [fine_S (by decide)]; rfl
  | spin i =>
    show (fine 0 (dS cSpin) && (fine 0 (.int i) && true)) = true
    rw [fine_S (by decide)]; rfl
  | call b h n =>
    show (fine 0 (dS (cCall b)) && (fine 0 (dS h) && (fine 0 (dS n) && true))) = true
    rw [fine_S (cCall_s b), fine_S (s1 h hm.1), fine_S (s2 n hm.2)]; rfl
theorem fine_body {hs ns : List (List Nat)} {b : List Sm} (s1 : ∀ b ∈ hs, sOk b = true) (s2 : ∀ b ∈ ns, sOk b = true) (hb : okBody hs ns b) : fine 2 (dBody b) = true := by
  show fines 1 (b.map dSm) = true
  refine fines_all fun x hx => ?_
  obtain ⟨m, hm, rfl⟩ := List.mem_map.mp hx
  exact fine_Sm s1 s2 (hb.all m hm)
theorem okW.s1 {hs : List (List Nat)} {ws : List Wk} (ok : okW hs ws) : ∀ b ∈ hs, sOk b = true := fun b hb => okName_s (ok.hg b hb)
theorem okW.s2 {hs : List (List Nat)} {ws : List Wk} (ok : okW hs ws) : ∀ b ∈ nms ws, sOk b = true := fun b hb => okName_s (ok.wg b hb)
theorem fine_works {hs : List (List Nat)} {ws : List Wk} (ok : okW hs ws) : fine 4 (.lst (ws.map dWork)) = true := by
  show fines 3 (ws.map dWork) = true
  refine fines_all fun x hx => ?_
  obtain ⟨w, hw, rfl⟩ := List.mem_map.mp hx
  show (fine 2 (dS w.1) && (fine 2 (dBody w.2) && true)) = true
  rw [fine_S (ok.s2 _ (mem_nms hw)), fine_body ok.s1 ok.s2 (ok.wb w hw)]; rfl
theorem fine_names {ns : List (List Nat)} {n : Nat} (h : ∀ a ∈ ns, sOk a = true) : fine (n + 1) (.lst (ns.map dS)) = true := fines_S h
theorem fine_bodies {hs : List (List Nat)} {ws : List Wk} (ok : okW hs ws) : fine 3 (.lst (ws.map fun w => dBody w.2)) = true := by
  show fines 2 _ = true
  refine fines_all fun x hx => ?_
  obtain ⟨w, hw, rfl⟩ := List.mem_map.mp hx
  exact fine_body ok.s1 ok.s2 (ok.wb w hw)
/-- comparing what names lists of the store -/
theorem Cp_neR {S : Store} {x y x' y' : D} {PB : Bool → Prop} (ex : res 8 S x = x') (ey : res 8 S y = y') (hx : EqOk S x') (hy : EqOk S y') (h1 : x' = y' → PB false) (h2 : x' ≠ y' → PB true) : Cp S .NotEq x y PB := by
  obtain ⟨p1, a, e1, t1⟩ := hx
  obtain ⟨p2, b, e2, t2⟩ := hy
  have m := eqv_pln x' y' a b p1 p2 e1 e2
  have e : eqD S x y = some (PyData.eqv a b) := by
    unfold eqD toPyS
    rw [ex, ey, e1, e2]
    simp only [t1, t2, and_self, ↓reduceIte]
  refine ⟨⟨!PyData.eqv a b, by show (eqD S x y).map _ = _; rw [e]; rfl, ?_⟩⟩
  cases z : PyData.eqv a b with
  | true => exact h1 (m.mp z)
  | false => exact h2 fun q => by rw [m.mpr q] at z; cases z
theorem nodup_rev {α : Type} {xs : List α} (h : xs.Nodup) : xs.reverse.Nodup := by
  unfold List.Nodup at *
  rw [List.pairwise_reverse]
  exact h.imp fun h e => h e.symm
theorem okW.rev {hs : List (List Nat)} {ws : List Wk} (ok : okW hs ws) : okW hs.reverse ws.reverse := by
  have en : nms ws.reverse = (nms ws).reverse := by unfold nms; rw [List.map_reverse]
  refine ⟨by rw [List.length_reverse]; exact ok.h1, by rw [List.length_reverse]; exact ok.h4, nodup_rev ok.hn, fun a ha => ok.hg a (List.mem_reverse.mp ha), by rw [List.length_reverse]; exact ok.w1, by rw [List.length_reverse]; exact ok.w5, by rw [en]; exact nodup_rev ok.wn, fun a ha => ok.wg a (by rw [en] at ha; exact List.mem_reverse.mp ha), fun w hw => ?_⟩
  have ob := ok.wb w (List.mem_reverse.mp hw)
  refine ⟨ob.len, fun m hm => ?_, ob.calls⟩
  have := ob.all m hm
  cases m with
  | call b h n => exact ⟨List.mem_reverse.mpr this.1, by rw [en]; exact List.mem_reverse.mpr this.2⟩
  | _ => exact this
theorem finX_same {S : Store} {c : Str} {Qd : D → Store → Prop} {E : EX} (h : E c S) : W (finX S.length c S) Qd E := by
  unfold finX
  rw [if_pos rfl]
  exact ⟨h⟩
/-- plain data that is no text -/
def Odd (x : D) : Prop := ∃ p, (∀ S, toPyS S x = some p) ∧ SeqAt.shaped p = true ∧ (∀ q : Str, PyData.eqv (.str q) p = false) ∧ ∀ z : Str, x ≠ .str z
theorem any_odd {p : PyData} (hp : ∀ q : Str, PyData.eqv (.str q) p = false) : ∀ {ns : List (List Nat)} {as : List PyData}, toPys (ns.map dS) = some as → (as.any fun z => PyData.eqv z p) = false
  | [], as, h => by cases h; rfl
  | n :: ns, as, h => by
    simp only [List.map_cons, toPys, toPy] at h
    cases e2 : toPys (ns.map dS) with
    | none => rw [e2] at h; cases h
    | some bs =>
      rw [e2] at h; cases h
      rw [List.any_cons, hp, any_odd hp e2]; rfl
theorem inD_odd {S : Store} {d x : D} {ns : List (List Nat)} (e : seqL S d = some (ns.map dS)) (hx : Odd x) (hs : ∀ b ∈ ns, sOk b = true) : inD S x d = some false := by
  obtain ⟨p, p1, p3, p4, p5⟩ := hx
  obtain ⟨q1, as, b1, b2, b3⟩ := fines_ok 0 _ (fines_S hs)
  have e1 : toPyS S x = some p := p1 S
  have e2 : toPyS S d = some (.list as) := by
    unfold toPyS
    rw [res_q e, map_res q1, toPy, b1]
  have s2 : SeqAt.shaped (.list as) = true := by
    unfold SeqAt.shaped
    rw [PyData.canLay0, b2, decide_eq_true (by simp only [PyData.depth]; omega)]; rfl
  have e3 : inObj S x d = some false := by
    unfold inObj
    rw [dicOf_q e]
    show inSeq S x d = _
    unfold inSeq
    rw [e1, e2]
    rw [← any_odd p4 b1]
    exact if_pos ⟨p3, s2⟩
  unfold inD
  rcases seqL_two e with rfl | ⟨l, rfl, z⟩ <;> cases x <;> first | exact e3 | exact absurd rfl (p5 _)
theorem Cp_nino {S : Store} {d x : D} {ns : List (List Nat)} {PB : Bool → Prop} (e : seqL S d = some (ns.map dS)) (hx : Odd x) (hs : ∀ b ∈ ns, sOk b = true) (h : PB true) : Cp S .NotIn x d PB := by
  refine ⟨⟨true, ?_, h⟩⟩
  show (inD S x d).map (! ·) = _
  rw [inD_odd e hx hs]; rfl
theorem odd_fine {n : Nat} {x : D} (h : fine n x = true) (hn : n ≤ 64) (hx : ∀ z, x ≠ .str z) : Odd x := by
  obtain ⟨p1, p, e, c, d⟩ := fine_ok n x h
  refine ⟨p, fun S => by rw [toPyS_pln p1]; exact e, ?_, ?_, hx⟩
  · unfold SeqAt.shaped
    rw [c, decide_eq_true (by omega)]; rfl
  · intro q
    cases x with
    | str z => exact absurd rfl (hx z)
    | bl b => simp [pln] at p1
    | ref l => simp [pln] at p1
    | non => cases e; simp [PyData.eqv]
    | int i => cases e; simp [PyData.eqv]
    | tup xs => simp only [toPy] at e; split at e <;> cases e; simp [PyData.eqv]
    | lst xs => simp only [toPy] at e; split at e <;> cases e; simp [PyData.eqv]
theorem odd_bl (b : Bool) : Odd (.bl b) := ⟨.bool b, fun _ => rfl, rfl, fun q => by simp [PyData.eqv], fun z h => by cases h⟩
theorem odd_non : Odd .non := odd_fine (n := 0) rfl (by decide) fun z h => by cases h
theorem odd_int (i : Int) : Odd (.int i) := odd_fine (n := 0) rfl (by decide) fun z h => by cases h
theorem odd_tup1 {a : List Nat} (h : sOk a = true) : Odd (.tup [dS a]) := odd_fine (n := 1) (by show (fine 0 (dS a) && true) = true; rw [fine_S h]; rfl) (by decide) fun z h => by cases h
theorem odd_lst1 {a : List Nat} (h : sOk a = true) : Odd (.lst [dS a]) := odd_fine (n := 1) (by show (fine 0 (dS a) && true) = true; rw [fine_S h]; rfl) (by decide) fun z h => by cases h
/-- by computing -/
theorem Bn_by {S : Store} {op : Operator} {x y d : D} {Q : D → Prop} (e : binD S op x y = some d) (h : Q d) : Bn S op x y Q := ⟨⟨d, e, h⟩⟩
/-- a comprehension that leaves the store as it is -/
theorem CfFM {α : Type} {S : Store} {xs : List α} {g : α → D} (q : α → Option D) {f : D → Store → Out (Option D)} {QL : List D → Store → Prop} (hl : xs.length < 100000) (step : ∀ w ∈ xs, W (f (g w) S) (fun o S1 => o = q w ∧ S1 = S) noX) (stop : QL (xs.filterMap q) S) : CfP ⟨xs.map g, none, false⟩ f S QL := by
  refine Cf_inv (fun i acc S' => S' = S ∧ acc = (xs.take i).filterMap q) (by show (xs.map g).length < 100000; rw [List.length_map]; exact hl) ⟨rfl, rfl⟩ ?_ ?_
  · rintro i d acc S' hd ⟨rfl, rfl⟩ _
    have hd : (xs.map g)[i]? = some d := hd
    rw [List.getElem?_map, Option.map_eq_some_iff] at hd
    obtain ⟨a, ha, rfl⟩ := hd
    refine (step a (List.mem_of_getElem? ha)).post ?_
    rintro o S1 ⟨rfl, rfl⟩
    have ht : xs.take (i + 1) = xs.take i ++ [a] := by rw [List.take_succ, ha]; rfl
    rw [ht, List.filterMap_append]
    cases e : q a with
    | none => exact ⟨rfl, by simp [List.filterMap, e]⟩
    | some y => exact ⟨rfl, by simp [List.filterMap, e]⟩
  · rintro acc S' ⟨rfl, rfl⟩
    have : xs.take (Items.mk (xs.map g) none false).xs.length = xs := List.take_of_length_le (by show _ ≤ (xs.map g).length; rw [List.length_map]; exact Nat.le_refl _)
    rw [this]
    exact stop
theorem Ix_alphaS {S : Store} {n : Int} {Q : D → Prop} (h0 : 0 ≤ n) (h1 : n < 26) (h : Q (dS [letter n])) : IxP S (.str (SX.S ((List.range 26).map (97 + ·)))) (.int n) Q := by
  rw [← alpha]; exact Ix_alpha h0 h1 h
theorem kNil : Str.ofString "" = SX.S [] := by decide +kernel
theorem letter_low {n : Int} (h0 : 0 ≤ n) (h1 : n < 26) : low26 (letter n) = true := by
  unfold low26 letter
  rw [Bool.and_eq_true, decide_eq_true_eq, decide_eq_true_eq]
  omega
theorem okName_mk {a : List Nat} (h1 : 1 ≤ a.length) (h8 : a.length ≤ 8) (h : ∀ c ∈ a, low26 c = true) : okName a = true := by
  unfold okName
  rw [decide_eq_true h1, decide_eq_true h8, List.all_eq_true.mpr h]; rfl
theorem CfMap {α : Type} {S : Store} {xs : List α} {g h : α → D} {f : D → Store → Out (Option D)} {QL : List D → Store → Prop} (hl : xs.length < 100000) (step : ∀ w ∈ xs, W (f (g w) S) (fun o S1 => o = some (h w) ∧ S1 = S) noX) (stop : QL (xs.map h) S) : CfP ⟨xs.map g, none, false⟩ f S QL := by
  refine Cf_inv (fun i acc S' => S' = S ∧ acc = (xs.take i).map h) (by show (xs.map g).length < 100000; rw [List.length_map]; exact hl) ⟨rfl, rfl⟩ ?_ ?_
  · rintro i d acc S' hd ⟨rfl, rfl⟩ _
    have hd : (xs.map g)[i]? = some d := hd
    rw [List.getElem?_map, Option.map_eq_some_iff] at hd
    obtain ⟨a, ha, rfl⟩ := hd
    refine (step a (List.mem_of_getElem? ha)).post ?_
    rintro o S1 ⟨rfl, rfl⟩
    exact ⟨rfl, by rw [List.take_succ, ha, List.map_append]; rfl⟩
  · rintro acc S' ⟨rfl, rfl⟩
    have : xs.take (Items.mk (xs.map g) none false).xs.length = xs := List.take_of_length_le (by show _ ≤ (xs.map g).length; rw [List.length_map]; exact Nat.le_refl _)
    rw [this]
    exact stop
end Q
/-! Q16: texts joined, split; numbers as texts. -/
namespace Q
open PySem L2
theorem sum_le {B : Nat} : ∀ {ps : List (List Nat)}, (∀ p ∈ ps, p.length ≤ B) → (ps.map (·.length)).sum ≤ ps.length * B
  | [], _ => Nat.zero_le _
  | p :: ps, h => by
    have h1 := h p (List.mem_cons_self ..)
    have h2 := sum_le (ps := ps) fun q hq => h q (List.mem_cons_of_mem _ hq)
    rw [List.map_cons, List.sum_cons, List.length_cons, Nat.succ_mul]
    omega
theorem joinL_len {sep : List Nat} {B : Nat} : ∀ {ps : List (List Nat)}, (∀ p ∈ ps, p.length ≤ B) → (TL.joinL sep ps).length ≤ ps.length * (B + sep.length)
  | [], _ => Nat.zero_le _
  | [p], h => by
    have := h p (List.mem_cons_self ..)
    show p.length ≤ 1 * (B + sep.length)
    omega
  | p :: q :: r, h => by
    have h1 := h p (List.mem_cons_self ..)
    have h2 := joinL_len (sep := sep) (ps := q :: r) fun z hz => h z (List.mem_cons_of_mem _ hz)
    rw [TL.joinL, List.length_append, List.length_append, List.length_cons, Nat.succ_mul]
    omega
theorem joinL_all {sep : List Nat} {P : Nat → Prop} (hs : ∀ c ∈ sep, P c) : ∀ {ps : List (List Nat)}, (∀ p ∈ ps, ∀ c ∈ p, P c) → ∀ c ∈ TL.joinL sep ps, P c
  | [], _, c, hc => by cases hc
  | [p], h, c, hc => h p (List.mem_cons_self ..) c hc
  | p :: q :: r, h, c, hc => by
    rw [TL.joinL] at hc
    rcases List.mem_append.mp hc with z | z
    · exact h p (List.mem_cons_self ..) c z
    rcases List.mem_append.mp z with z | z
    · exact hs c z
    · exact joinL_all hs (ps := q :: r) (fun z hz => h z (List.mem_cons_of_mem _ hz)) c z
theorem joinL_snoc (sep : List Nat) : ∀ (p : List Nat) (ps : List (List Nat)) (q : List Nat), TL.joinL sep (p :: ps ++ [q]) = TL.joinL sep (p :: ps) ++ sep ++ q
  | p, [], q => by
    show p ++ (sep ++ q) = p ++ sep ++ q
    rw [List.append_assoc]
  | p, r :: ps, q => by
    have ih := joinL_snoc sep r ps q
    show p ++ (sep ++ TL.joinL sep (r :: ps ++ [q])) = (p ++ (sep ++ TL.joinL sep (r :: ps))) ++ sep ++ q
    rw [ih]
    simp
theorem Mt_joinq {S : Store} {d : D} {sep : List Nat} {ps : List (List Nat)} {QD : D → Store → Prop} (B : Nat) (e : seqO S d = some (ps.map dS)) (hb : ∀ p ∈ ps, p.length ≤ B) (hl : ps.length * B + ps.length * sep.length ≤ 16777216) (h : QD (dS (TL.joinL sep ps)) S) : MtP S .join (dS sep) [d] QD := by
  refine ⟨⟨dS (TL.joinL sep ps), S, ?_, h⟩⟩
  have e2 : ps.map dS = (ps.map SX.S).map D.str := by rw [List.map_map]; rfl
  rw [e2] at e
  have h1 := sum_le hb
  have z : ((ps.map SX.S).map (·.length)).sum + (ps.map SX.S).length * (SX.S sep).length ≤ 16777216 := by
    rw [SX.lens, List.length_map, SX.S_len]
    omega
  simp only [mthD, e, strs_map]
  rw [if_pos z, SX.join_S]
theorem Mt_splitq {S : Store} {a sep : List Nat} {ps : List (List Nat)} {QD : D → Store → Prop} (hs : sep ≠ []) (hk : sep.all (· < 256) = true) (hl : a.length + 2 ≤ 16777216) (e : TL.spl sep 0 [] a = ps) (h : QD (.lst (ps.map dS)) S) : MtP S .split (dS a) [dS sep] QD := by
  have z : ((SX.S sep).length == 0) = false := by
    rw [SX.S_len]
    cases sep with
    | nil => exact absurd rfl hs
    | cons c t => rfl
  refine Mt_split ⟨z, by rw [SX.S_len]; exact hl⟩ ?_
  rw [SX.split_S hs hk, e, List.map_map]
  exact h
theorem semi_free : ∀ (p t : List Nat) (i : Nat), 59 ∉ p → t.head? ≠ some 59 → i < p.length → TL.pre [32, 59, 32] ((p ++ t).drop i) = false
  | [], _, i, _, _, h => absurd h (by simp)
  | c :: p, t, 0, hp, ht, _ => by
    show ((c :: (p ++ t)).take 3 == [32, 59, 32]) = false
    rw [beq_eq_false_iff_ne]
    intro e
    cases p with
    | nil =>
      cases t with
      | nil => simp at e
      | cons d t =>
        simp at e
        exact ht (by rw [e.2.1]; rfl)
    | cons d p =>
      simp at e
      exact hp (by rw [e.2.1]; simp)
  | c :: p, t, i + 1, hp, ht, h => by
    show TL.pre [32, 59, 32] ((p ++ t).drop i) = false
    exact semi_free p t i (fun z => hp (List.mem_cons_of_mem _ z)) ht (by simpa using h)
theorem spl_semi : ∀ {ps : List (List Nat)}, ps ≠ [] → (∀ p ∈ ps, 59 ∉ p) → TL.spl [32, 59, 32] 0 [] (TL.joinL [32, 59, 32] ps) = ps
  | [], h, _ => absurd rfl h
  | [p], _, hp => by
    show TL.spl [32, 59, 32] 0 [] p = [p]
    refine TL.spl_last fun i hi => ?_
    have := semi_free p [] i (hp p (List.mem_cons_self ..)) (by simp) hi
    rwa [List.append_nil] at this
  | p :: q :: r, _, hp => by
    show TL.spl [32, 59, 32] 0 [] (p ++ ([32, 59, 32] ++ TL.joinL [32, 59, 32] (q :: r))) = p :: q :: r
    rw [TL.spl_part (by simp) (fun i hi => semi_free p _ i (hp p (List.mem_cons_self ..)) (by simp) hi), List.nil_append, spl_semi (by simp) fun z hz => hp z (List.mem_cons_of_mem _ hz)]
/-- a sign in a text -/
theorem Cp_inT {S : Store} {c : Nat} {b : List Nat} {PB : Bool → Prop} (h : PB (decide (c ∈ b))) : Cp S .In (.str ⟨#[c]⟩) (dS b) PB := by
  refine ⟨⟨decide (c ∈ b), ?_, h⟩⟩
  show some (!(Builtin.Str.occurrences (SX.S b) ⟨#[c]⟩ 0 (SX.S b).length 1).isEmpty) = _
  rw [StrLaws.found_one]
/-! ### numbers as texts -/
def num (i : Int) : List Nat := (Str.ofString (toString i)).cps.toList
theorem num_S (i : Int) : Str.ofString (toString i) = SX.S (num i) := (SX.S_tl _).symm
def isDig (c : Nat) : Bool := decide (48 ≤ c) && decide (c ≤ 57)
def sgn (a : List Nat) : Nat := if a.take 1 = [45] then 1 else 0
def okTxt (i : Int) (a : List Nat) : Bool :=
  decide (1 ≤ (a.drop (sgn a)).length) && (decide (a.length ≤ 9) && ((a.drop (sgn a)).all isDig && ((decide ((a.drop (sgn a)).take 1 ≠ [48]) || decide (a = [48])) && ((PySem.intText? (SX.S a) == some i) && a.all fun c => decide (c = 45) || isDig c))))
theorem nums_ok : ∀ n < 1001, (okTxt (n : Nat) (num (n : Nat)) && okTxt (-(n : Nat)) (num (-(n : Nat)))) = true := by decide +kernel
theorem num_ok {i : Int} (h1 : -1000 ≤ i) (h2 : i ≤ 1000) : okTxt i (num i) = true := by
  have := nums_ok i.natAbs (by omega)
  rw [Bool.and_eq_true] at this
  rcases Int.le_total 0 i with h | h
  · have e : ((i.natAbs : Nat) : Int) = i := by omega
    rw [e] at this
    exact this.1
  · have e : -((i.natAbs : Nat) : Int) = i := by omega
    rw [e] at this
    exact this.2
structure NumT (i : Int) (a : List Nat) : Prop where
  f1 : 1 ≤ (a.drop (sgn a)).length
  a9 : a.length ≤ 9
  dig : ∀ c ∈ a.drop (sgn a), isDig c = true
  zero : (a.drop (sgn a)).take 1 = [48] → a = [48]
  val : PySem.intText? (SX.S a) = some i
  all : ∀ c ∈ a, c = 45 ∨ isDig c = true
theorem numT {i : Int} (h1 : -1000 ≤ i) (h2 : i ≤ 1000) : NumT i (num i) := by
  have := num_ok h1 h2
  unfold okTxt at this
  simp only [Bool.and_eq_true, Bool.or_eq_true, decide_eq_true_eq, beq_iff_eq, List.all_eq_true] at this
  obtain ⟨a1, a2, a3, a4, a5, a6⟩ := this
  exact ⟨a1, a2, a3, fun z => a4.resolve_left fun q => q z, a5, a6⟩
theorem log_1000 {i : Int} (h1 : -1000 ≤ i) (h2 : i ≤ 1000) : i.natAbs.log2 < 1920 := Nat.lt_trans (log_lt (k := 10) (by decide) (by omega)) (by decide)
theorem Bs_strI {S : Store} {i : Int} {Q : D → Prop} (h1 : -1000 ≤ i) (h2 : i ≤ 1000) (h : Q (dS (num i))) : BsP S .str [.int i] Q :=
  ⟨⟨dS (num i), by show (if i.natAbs.log2 < 1920 then some (D.str (Str.ofString (toString i))) else none) = _; rw [if_pos (log_1000 h1 h2), num_S], h⟩⟩
theorem Bs_strS {S : Store} {x : Str} {Q : D → Prop} (h : Q (.str x)) : BsP S .str [.str x] Q := ⟨⟨_, rfl, h⟩⟩
theorem Fm_I {i : Int} {Q : D → Prop} (h1 : -1000 ≤ i) (h2 : i ≤ 1000) (h : Q (dS (num i))) : FmP (.int i) Q :=
  ⟨⟨dS (num i), by show (if i.natAbs.log2 < 1920 then some (D.str (Str.ofString (toString i))) else none) = _; rw [if_pos (log_1000 h1 h2), num_S], h⟩⟩
theorem Fm_S {a : List Nat} {Q : D → Prop} (hl : a.length ≤ 16777216) (h : Q (dS a)) : FmP (dS a) Q :=
  ⟨⟨dS a, by show (if (SX.S a).length ≤ 16777216 then some (D.str (SX.S a)) else none) = _; rw [SX.S_len, if_pos hl], h⟩⟩
theorem Jn_S {a b : List Nat} {Q : Str → Prop} (hl : a.length + b.length ≤ 16777216) (h : Q (SX.S (a ++ b))) : JnP (dS b) (SX.S a) Q :=
  ⟨⟨SX.S b, rfl, by rw [SX.S_cat, SX.S_len, List.length_append]; exact hl, by rw [SX.S_cat]; exact h⟩⟩
theorem G_fstS {S : Store} {σ : Env} {ts : List XE} {QD : D → Store → Prop} {E : EX} (h : G (joinF ts (SX.S [])) σ S QD E) : G (fst ts) σ S QD E := ⟨h.out⟩
theorem Bs_intS {S : Store} {a : List Nat} {i : Int} {Q : D → Prop} (hl : a.length ≤ 640) (e : PySem.intText? (SX.S a) = some i) (h : Q (.int i)) : BsP S .int [dS a] Q := by
  refine ⟨⟨.int i, ?_, h⟩⟩
  show (match PySem.intText? (SX.S a) with | some n => if (SX.S a).length ≤ 640 then some (D.int n) else none | none => none) = _
  rw [e]
  show (if (SX.S a).length ≤ 640 then some (D.int i) else none) = _
  rw [SX.S_len, if_pos hl]
end Q
/-! Q17: numbers of any size as texts; texts cut and joined, any texts. -/
namespace Q
open PySem L2
/-! ### numbers -/
theorem dig_all {a : List Nat} (h : a.all isDig = true) : NumText.AllDigits a := fun c hc => by
  have := List.all_eq_true.mp h c hc
  unfold isDig at this
  rw [Bool.and_eq_true, decide_eq_true_eq, decide_eq_true_eq] at this
  exact this
def figs (a : List Nat) : List Nat := a.drop (sgn a)
def valOf (a : List Nat) : Int := if sgn a = 1 then -((NumText.digitsVal (figs a) : Nat) : Int) else ((NumText.digitsVal (figs a) : Nat) : Int)
/-- the number of so many figures at most that a word writes -/
def numOf (m : Nat) (a : List Nat) : Option Int :=
  if 1 ≤ (figs a).length ∧ (figs a).length ≤ m ∧ (figs a).all isDig = true then (if (figs a).take 1 = [48] ∧ a ≠ [48] then none else some (valOf a)) else none
theorem sgn_cases (a : List Nat) : (sgn a = 0 ∧ figs a = a) ∨ (sgn a = 1 ∧ a = 45 :: figs a) := by
  unfold figs sgn
  cases a with
  | nil => exact .inl ⟨rfl, rfl⟩
  | cons c t =>
    by_cases h : c = 45
    · subst h
      exact .inr ⟨rfl, rfl⟩
    · left
      have : ¬ (c :: t).take 1 = [45] := fun z => h (by injection z)
      rw [if_neg this]
      exact ⟨rfl, rfl⟩
structure NumF (m : Nat) (a : List Nat) (i : Int) : Prop where
  f1 : 1 ≤ (figs a).length
  fm : (figs a).length ≤ m
  dig : (figs a).all isDig = true
  zero : (figs a).take 1 = [48] → a = [48]
  val : valOf a = i
theorem numOf_some {m : Nat} {a : List Nat} {i : Int} (h : numOf m a = some i) : NumF m a i := by
  unfold numOf at h
  split at h
  · next c =>
    split at h
    · cases h
    · next z =>
      cases h
      exact ⟨c.1, c.2.1, c.2.2, fun q => Classical.byContradiction fun r => z ⟨q, r⟩, rfl⟩
  · cases h
theorem NumF.int {m : Nat} {a : List Nat} {i : Int} (n : NumF m a i) (hm : m ≤ 600) : PySem.intText? (SX.S a) = some i := by
  have hl := n.fm
  have hne : figs a ≠ [] := fun z => by have := n.f1; rw [z] at this; simp at this
  have v := n.val
  unfold valOf at v
  rcases sgn_cases a with ⟨h, e⟩ | ⟨h, e⟩
  · rw [if_neg (by omega)] at v
    rw [← v, e]
    have := PySem.intText_digits (x := SX.S a) (show NumText.AllDigits a from by rw [← e]; exact dig_all n.dig) (show a ≠ [] from by rw [← e]; exact hne) (by rw [SX.S_len, ← e]; omega)
    exact this
  · rw [if_pos h] at v
    rw [← v]
    exact PySem.intText_neg (x := SX.S a) (cs := figs a) e (dig_all n.dig) hne (by rw [SX.S_len, e, List.length_cons]; omega)
theorem NumF.len {m : Nat} {a : List Nat} {i : Int} (n : NumF m a i) : a.length ≤ m + 1 := by
  have := n.fm
  rcases sgn_cases a with ⟨-, e⟩ | ⟨-, e⟩
  · rw [← e]; omega
  · rw [e, List.length_cons]; omega
theorem ofNat_back {c : Nat} (h : 48 ≤ c ∧ c ≤ 57) : (Char.ofNat c).toNat = c := by
  obtain ⟨k, rfl⟩ : ∃ k, c = 48 + k := ⟨c - 48, by omega⟩
  have : ∀ k < 10, (Char.ofNat (48 + k)).toNat = 48 + k := by decide
  exact this k (by omega)
theorem nat_txt {cs : List Nat} (h : NumText.AllDigits cs) (hne : cs ≠ []) (hz : cs.take 1 = [48] → cs = [48]) : (Nat.toDigits 10 (NumText.digitsVal cs)).map Char.toNat = cs := by
  cases cs with
  | nil => exact absurd rfl hne
  | cons c t =>
    have hc := h.head
    rw [NumText.toDigits_digitsVal t.length (c :: t) rfl h (by
      by_cases e : c = 48
      · subst e
        have := hz rfl
        injection this with _ e2
        subst e2
        exact .inl rfl
      · exact .inr ⟨c, t, rfl, by omega⟩), List.map_map]
    refine Eq.trans (List.map_congr_left fun x hx => ofNat_back (h x hx)) (List.map_id _)
theorem num_nat (n : Nat) : num (n : Int) = (Nat.toDigits 10 n).map Char.toNat := by
  unfold num
  rw [PyProof.Rows.signs_ofString]
  show (Nat.repr n).toList.map Char.toNat = _
  rw [Nat.toList_repr]
theorem num_neg (n : Nat) (h : 0 < n) : num (-(n : Int)) = 45 :: (Nat.toDigits 10 n).map Char.toNat := by
  obtain ⟨k, rfl⟩ : ∃ k, n = k + 1 := ⟨n - 1, by omega⟩
  unfold num
  rw [PyProof.Rows.signs_ofString]
  show ("-" ++ Nat.repr (k + 1)).toList.map Char.toNat = _
  rw [String.toList_append, List.map_append, Nat.toList_repr]
  rfl
theorem NumF.num {m : Nat} {a : List Nat} {i : Int} (n : NumF m a i) : num i = a := by
  have hne : figs a ≠ [] := fun z => by have := n.f1; rw [z] at this; simp at this
  have v := n.val
  unfold valOf at v
  rcases sgn_cases a with ⟨h, e⟩ | ⟨h, e⟩
  · rw [if_neg (by omega)] at v
    rw [← v, num_nat, nat_txt (dig_all n.dig) hne (fun z => by have := n.zero z; rw [e]; exact this), e]
  · rw [if_pos h] at v
    have nz : ¬ (figs a).take 1 = [48] := fun z => by
      have := n.zero z
      rw [this] at e
      cases e
    have pos : 0 < NumText.digitsVal (figs a) := by
      cases q : figs a with
      | nil => exact absurd q hne
      | cons c t =>
        have hc := (dig_all n.dig) c (by rw [q]; exact List.mem_cons_self ..)
        have : c ≠ 48 := fun z => nz (by rw [q, z]; rfl)
        exact NumText.digitsVal_pos (by omega)
    rw [← v, num_neg _ pos, nat_txt (dig_all n.dig) hne (fun z => absurd z nz)]
    exact e.symm
/-! ### cut and joined -/
theorem spl_par {S : List Nat} (hS : S ≠ []) : ∀ (l acc : List Nat), (TL.par S acc l = none ∧ TL.spl S 0 acc l = [acc ++ l]) ∨ ∃ p q, TL.par S acc l = some (p, q) ∧ TL.spl S 0 acc l = p :: TL.spl S 0 [] q ∧ acc ++ l = p ++ (S ++ q) ∧ q.length < l.length
  | [], acc => .inl ⟨rfl, by rw [TL.spl_nil, List.append_nil]⟩
  | c :: r, acc => by
    have hl : 1 ≤ S.length := by cases S with | nil => exact absurd rfl hS | cons _ _ => simp
    cases h : TL.pre S (c :: r) with
    | true =>
      refine .inr ⟨acc, (c :: r).drop S.length, ?_, ?_, ?_, ?_⟩
      · show (if TL.pre S (c :: r) = true then _ else _) = _
        rw [if_pos h]
      · rw [TL.spl_hit h, TL.spl_pass]
        congr 2
        obtain ⟨k, hk⟩ : ∃ k, S.length = k + 1 := ⟨S.length - 1, by omega⟩
        rw [hk]; rfl
      · unfold TL.pre at h
        have e : (c :: r).take S.length = S := eq_of_beq h
        have := List.take_append_drop S.length (c :: r)
        rw [e] at this
        rw [this]
      · rw [List.length_drop, List.length_cons]; omega
    | false =>
      have h1 : TL.par S acc (c :: r) = TL.par S (acc ++ [c]) r := by
        show (if TL.pre S (c :: r) = true then _ else _) = _
        rw [if_neg (by rw [h]; decide)]
      rw [h1, TL.spl_miss h]
      rcases spl_par hS r (acc ++ [c]) with ⟨a1, a2⟩ | ⟨p, q, a1, a2, a3, a4⟩
      · exact .inl ⟨a1, by rw [a2]; simp⟩
      · exact .inr ⟨p, q, a1, a2, by rw [← a3]; simp, by rw [List.length_cons]; omega⟩
theorem spl_ne {S : List Nat} (hS : S ≠ []) (l acc : List Nat) : TL.spl S 0 acc l ≠ [] := by
  rcases spl_par hS l acc with ⟨-, e⟩ | ⟨p, q, -, e, -⟩ <;> rw [e] <;> simp
theorem joinL_cons {S p : List Nat} {ps : List (List Nat)} (h : ps ≠ []) : TL.joinL S (p :: ps) = p ++ (S ++ TL.joinL S ps) := by
  cases ps with
  | nil => exact absurd rfl h
  | cons q r => rfl
theorem join_spl {S : List Nat} (hS : S ≠ []) : ∀ (n : Nat) (l acc : List Nat), l.length ≤ n → TL.joinL S (TL.spl S 0 acc l) = acc ++ l
  | 0, l, acc, h => by
    have : l = [] := List.eq_nil_of_length_eq_zero (by omega)
    subst this
    rw [TL.spl_nil, List.append_nil]; rfl
  | n + 1, l, acc, h => by
    rcases spl_par hS l acc with ⟨-, e⟩ | ⟨p, q, -, e, e2, lt⟩
    · rw [e]; rfl
    · rw [e, e2, joinL_cons (spl_ne hS q []), join_spl hS n q [] (by omega), List.nil_append]
theorem spl_mem {S : List Nat} (hS : S ≠ []) : ∀ (n : Nat) (l acc : List Nat), l.length ≤ n → ∀ p ∈ TL.spl S 0 acc l, ∀ c ∈ p, c ∈ acc ∨ c ∈ l
  | 0, l, acc, h => by
    have : l = [] := List.eq_nil_of_length_eq_zero (by omega)
    subst this
    rw [TL.spl_nil]
    intro p hp c hc
    rw [List.mem_singleton.mp hp] at hc
    exact .inl hc
  | n + 1, l, acc, h => by
    rcases spl_par hS l acc with ⟨-, e⟩ | ⟨p, q, -, e, e2, lt⟩
    · rw [e]
      intro p hp c hc
      rw [List.mem_singleton.mp hp] at hc
      exact List.mem_append.mp hc
    · rw [e]
      have mm : ∀ c, c ∈ p ++ (S ++ q) → c ∈ acc ∨ c ∈ l := fun c hc => by rw [← e2] at hc; exact List.mem_append.mp hc
      intro p' hp c hc
      rcases List.mem_cons.mp hp with rfl | hp
      · exact mm c (List.mem_append_left _ hc)
      · rcases spl_mem hS n q [] (by omega) p' hp c hc with z | z
        · simp at z
        · exact mm c (List.mem_append_right _ (List.mem_append_right _ z))
/-- signs of joined words, the spaces with them -/
def tot (ws : List (List Nat)) : Nat := (ws.map fun w => w.length + 1).sum
theorem tot_cons (w : List Nat) (ws : List (List Nat)) : tot (w :: ws) = w.length + 1 + tot ws := by unfold tot; rw [List.map_cons, List.sum_cons]
theorem tot_app (a b : List (List Nat)) : tot (a ++ b) = tot a + tot b := by unfold tot; rw [List.map_append, List.sum_append]
theorem tot_len (ws : List (List Nat)) : ws.length ≤ tot ws := by
  induction ws with
  | nil => exact Nat.zero_le _
  | cons w ws ih => rw [tot_cons, List.length_cons]; omega
theorem tot_mem {ws : List (List Nat)} {w : List Nat} (h : w ∈ ws) : w.length + 1 ≤ tot ws := by
  induction ws with
  | nil => cases h
  | cons v ws ih =>
    rw [tot_cons]
    rcases List.mem_cons.mp h with rfl | h
    · omega
    · have := ih h; omega
theorem tot_join {c : Nat} : ∀ {ws : List (List Nat)}, ws ≠ [] → (TL.joinL [c] ws).length + 1 = tot ws
  | [], h => absurd rfl h
  | [w], _ => by rw [tot_cons]; rfl
  | w :: v :: ws, _ => by
    rw [joinL_cons (by simp), tot_cons, List.length_append, List.length_append, List.length_singleton, ← tot_join (c := c) (ws := v :: ws) (by simp)]
    omega
theorem tot_take (ws : List (List Nat)) (i : Nat) : tot (ws.take i) + tot (ws.drop i) = tot ws := by rw [← tot_app, List.take_append_drop]
theorem spl_tot (a : List Nat) : tot (TL.spl [32] 0 [] a) = a.length + 1 := by
  rw [← tot_join (c := 32) (spl_ne (by simp) a []), join_spl (by simp) a.length a [] (Nat.le_refl _), List.nil_append]
theorem Mt_part {S : Store} {q sep : List Nat} {QD : D → Store → Prop} (hs : sep ≠ []) (hl : q.length ≤ 16777216) (h : QD (match TL.par sep [] q with | some (a, b) => .tup [dS a, dS sep, dS b] | none => .tup [dS q, dS [], dS []]) S) : MtP S .partition (dS q) [dS sep] QD := by
  refine ⟨⟨_, S, ?_, h⟩⟩
  have ne : ((SX.S sep).length == 0) = false := by
    rw [SX.S_len]
    cases sep with
    | nil => exact absurd rfl hs
    | cons _ _ => rfl
  show (if ((SX.S sep).length == 0) = false ∧ (SX.S q).length ≤ 16777216 then some (D.tup [.str (Txt.partition (SX.S q) (SX.S sep)).1, .str (Txt.partition (SX.S q) (SX.S sep)).2.1, .str (Txt.partition (SX.S q) (SX.S sep)).2.2], S) else none) = _
  rw [if_pos ⟨ne, by rw [SX.S_len]; exact hl⟩]
  cases e : TL.par sep [] q with
  | none => rw [SX.partition_none hs e]
  | some ab => obtain ⟨a, b⟩ := ab; rw [SX.partition_some hs e]
end Q

namespace QL
open PySem Q
abbrev PR : Program := PySem.Challenge.pw_allquiet_k32_which_rule_fits
abbrev top (i : Nat) : Stmt := PR.main.body.getD i (.Pass ⟨0, 0, 0, 0⟩)
def kt : KitT := []
def z_rules_of : XS :=
  (zSeq (zSet 4 (lsm a0))
  (zSeq (zFor (b1 5) (iv (ix (vv 0) (kk (.int 4))))
  (zIf (tAnd (tCm (cm .Eq (ix (vv 5) (kk (.int 0))) (vv 1))) (tAnd (tCm (cm .In (ix (vv 5) (kk (.int 1))) (tu (a1 (vv 2) (a1 (kk (.str "any")) a0))))) (tCm (cm .Eq (ix (vv 5) (kk (.int 2))) (vv 3)))))
    (zExp (me "append" (vv 4) (a1 (vv 5) a0))) zPass))
  (zRet (vv 4))))
def m_rules_of : Fn := dF false 4 6 z_rules_of
theorem w_rules_of {x0 x1 x2 x3 : D} {S : Store} {Qd : D → Store → Prop} {E : EX} (h : Z z_rules_of [some x0, some x1, some x2, some x3, none, none] S (kF false S.length Qd E)) : W (m_rules_of [x0, x1, x2, x3] S) Qd E := W_dF h rfl rfl
def z_holds_now : XS :=
  (zSeq (zIf (tCm (cm .Eq (vv 0) (tu (a1 (kk (.str "match")) a0))))
  (zRet (vv 2)) zPass)
  (zSeq (zIf (tCm (cm .Eq (vv 0) (tu (a1 (kk (.str "even")) a0))))
  (zRet (vv 3)) zPass)
  (zSeq (zIf (tCm (cm .Eq (bl .len (a1 (vv 0) a0)) (kk (.int 2))))
  (zRet (cm .Gt (ix (ix (vv 1) (ix (vv 0) (kk (.int 0)))) (kk (.int 0))) (kk (.int 0)))) zPass)
  (zRet (cm .Eq (ix (vv 1) (ix (vv 0) (kk (.int 0)))) (ix (vv 0) (kk (.int 2))))))))
def m_holds_now : Fn := dF false 4 4 z_holds_now
theorem w_holds_now {x0 x1 x2 x3 : D} {S : Store} {Qd : D → Store → Prop} {E : EX} (h : Z z_holds_now [some x0, some x1, some x2, some x3] S (kF false S.length Qd E)) : W (m_holds_now [x0, x1, x2, x3] S) Qd E := W_dF h rfl rfl
def z_first_rule : XS :=
  (zSeq (zFor (b1 7) (iv (ca m_rules_of (a1 (vv 0) (a1 (vv 1) (a1 (vv 2) (a1 (vv 3) a0))))))
  (zIf (tTr (bl .all (a1 (lcv [8] (iv (ix (vv 7) (kk (.int 3)))) (b1 8) (ca m_holds_now (a1 (vv 8) (a1 (vv 4) (a1 (vv 5) (a1 (vv 6) a0)))))) a0)))
    (zRet (vv 7)) zPass))
  (zRet (kk .non)))
def m_first_rule : Fn := dF false 7 9 z_first_rule
theorem w_first_rule {x0 x1 x2 x3 x4 x5 x6 : D} {S : Store} {Qd : D → Store → Prop} {E : EX} (h : Z z_first_rule [some x0, some x1, some x2, some x3, some x4, some x5, some x6, none, none] S (kF false S.length Qd E)) : W (m_first_rule [x0, x1, x2, x3, x4, x5, x6] S) Qd E := W_dF h rfl rfl
def z__law_cell_at : XS :=
  (zSeq (zIf (tCm (cm .Lt (vv 1) (bl .len (a1 (vv 0) a0))))
  (zRet (ix (vv 0) (vv 1))) zPass)
  (zRet (kk (.int 0))))
def m__law_cell_at : Fn := dF false 2 2 z__law_cell_at
theorem w__law_cell_at {x0 x1 : D} {S : Store} {Qd : D → Store → Prop} {E : EX} (h : Z z__law_cell_at [some x0, some x1] S (kF false S.length Qd E)) : W (m__law_cell_at [x0, x1] S) Qd E := W_dF h rfl rfl
def z__law_begin : XS :=
  (zRet (lsm (a1 (ix (lsv (a1 (kk (.int 0)) (a1 (vv 0) a0))) (bl .int (a1 (cm .GtE (vv 0) (bi .Pow (kk (.int 10)) (kk (.int 18)))) a0))) (a1 (bi .Mod (bl .int (a1 (vv 0) a0)) (kk (.int 2147483647))) (a1 (kk (.int 0)) a0)))))
def m__law_begin : Fn := dF false 1 1 z__law_begin
theorem w__law_begin {x0 : D} {S : Store} {Qd : D → Store → Prop} {E : EX} (h : Z z__law_begin [some x0] S (kF false S.length Qd E)) : W (m__law_begin [x0] S) Qd E := W_dF h rfl rfl
def z__law_draw : XS :=
  (zSeq (zIf (tCm (cm .Gt (ix (vv 0) (kk (.int 0))) (kk (.int 0))))
  (zSeq (zSet 2 (bi .Mod (bl .int (a1 (ix (vv 0) (kk (.int 0))) a0)) (vv 1)))
    (zSeq (zSub (vv 0) (kk (.int 0)) (bi .FloorDiv (ix (vv 0) (kk (.int 0))) (vv 1)))
    (zRet (vv 2)))) zPass)
  (zSeq (zSub (vv 0) (kk (.int 2)) (bi .Add (ix (vv 0) (kk (.int 2))) (kk (.int 1))))
  (zSeq (zSet 3 (bi .Mod (bl .int (a1 (bi .Mult (bi .Add (bi .Add (ix (vv 0) (kk (.int 1))) (bi .Mult (kk (.int 7919)) (ix (vv 0) (kk (.int 2))))) (kk (.int 1))) (kk (.int 48271))) a0)) (kk (.int 2147483647))))
  (zSeq (zSet 3 (bi .Mod (bl .int (a1 (bi .Mult (vv 3) (bi .Add (bi .FloorDiv (vv 3) (kk (.int 1009))) (kk (.int 69621)))) a0)) (kk (.int 2147483647))))
  (zRet (bi .Mod (bl .int (a1 (bi .Mod (bl .int (a1 (bi .Mult (vv 3) (bi .Add (bi .FloorDiv (vv 3) (kk (.int 2003))) (kk (.int 40692)))) a0)) (kk (.int 2147483399))) a0)) (vv 1)))))))
def m__law_draw : Fn := dF false 2 4 z__law_draw
theorem w__law_draw {x0 x1 : D} {S : Store} {Qd : D → Store → Prop} {E : EX} (h : Z z__law_draw [some x0, some x1, none, none] S (kF false S.length Qd E)) : W (m__law_draw [x0, x1] S) Qd E := W_dF h rfl rfl
def z__law_names : XS :=
  (zSeq (zSet 3 (lsm a0))
  (zSeq (zFor (b1 4) (r1 (vv 1))
  (zSeq (zSet 5 (kk (.str "")))
    (zSeq (zFor (b1 6) (r1 (ca m__law_draw (a1 (vv 0) (a1 (kk (.int 8)) a0))))
    (zSet 5 (bi .Add (vv 5) (ix (kk (.str "abcdefghijklmnopqrstuvwxyz")) (ca m__law_draw (a1 (vv 0) (a1 (kk (.int 26)) a0)))))))
    (zSeq (zIf (tOr (tCm (cm .Eq (vv 5) (kk (.str "")))) (tCm (cm .In (vv 5) (bi .Add (vv 3) (vv 2)))))
    (zSeq (zSet 7 (ca m__law_draw (a1 (vv 0) (a1 (kk (.int 26)) a0))))
      (zSeq (zSet 8 (lcv [6] (r1 (kk (.int 26))) (b1 6) (bi .Add (sl (vv 5) p0 (p1 (kk (.int 7)))) (ix (kk (.str "abcdefghijklmnopqrstuvwxyz")) (bi .Mod (bl .int (a1 (bi .Add (vv 7) (vv 6)) a0)) (kk (.int 26)))))))
      (zSet 5 (ix (lcv1 [9] (iv (vv 8)) (b1 9) (tCm (cm .NotIn (vv 9) (bi .Add (vv 3) (vv 2)))) (vv 9)) (kk (.int 0)))))) zPass)
    (zExp (me "append" (vv 3) (a1 (vv 5) a0)))))))
  (zRet (vv 3))))
def m__law_names : Fn := dF false 3 10 z__law_names
theorem w__law_names {x0 x1 x2 : D} {S : Store} {Qd : D → Store → Prop} {E : EX} (h : Z z__law_names [some x0, some x1, some x2, none, none, none, none, none, none, none] S (kF false S.length Qd E)) : W (m__law_names [x0, x1, x2] S) Qd E := W_dF h rfl rfl
def z__law_drawn_part : XS :=
  (zSeq (zIf (tCm (cm .Eq (ca m__law_draw (a1 (vv 0) (a1 (kk (.int 3)) a0))) (kk (.int 0))))
  (zRet (tu (a1 (bi .Sub (ca m__law_draw (a1 (vv 0) (a1 (kk (.int 9)) a0))) (kk (.int 4))) (a1 (kk (.int 0)) a0)))) zPass)
  (zRet (tu (a1 (bi .Sub (bi .Mult (kk (.int 2)) (ca m__law_draw (a1 (vv 0) (a1 (kk (.int 9)) a0)))) (kk (.int 7))) (a1 (bi .Add (kk (.int 1)) (ca m__law_draw (a1 (vv 0) (a1 (kk (.int 5)) a0)))) a0)))))
def m__law_drawn_part : Fn := dF false 1 1 z__law_drawn_part
theorem w__law_drawn_part {x0 : D} {S : Store} {Qd : D → Store → Prop} {E : EX} (h : Z z__law_drawn_part [some x0] S (kF false S.length Qd E)) : W (m__law_drawn_part [x0] S) Qd E := W_dF h rfl rfl
def z__law_drawn_test : XS :=
  (zSeq (zSet 2 (ca m__law_draw (a1 (vv 0) (a1 (kk (.int 4)) a0))))
  (zSeq (zIf (tOr (tCm (cm .Eq (vv 2) (kk (.int 0)))) (tCm (cm .Eq (vv 1) (lsv a0))))
  (zRet (ix (lsv (a1 (tu (a1 (kk (.str "match")) a0)) (a1 (tu (a1 (kk (.str "even")) a0)) a0))) (ca m__law_draw (a1 (vv 0) (a1 (kk (.int 2)) a0))))) zPass)
  (zSeq (zSet 3 (ix (vv 1) (ca m__law_draw (a1 (vv 0) (a1 (bl .len (a1 (vv 1) a0)) a0)))))
  (zSeq (zIf (tCm (cm .Eq (vv 2) (kk (.int 1))))
  (zRet (tu (a1 (vv 3) (a1 (kk (.str ">")) a0)))) zPass)
  (zRet (tu (a1 (vv 3) (a1 (kk (.str "=")) (a1 (ca m__law_drawn_part (a1 (vv 0) a0)) a0)))))))))
def m__law_drawn_test : Fn := dF false 2 4 z__law_drawn_test
theorem w__law_drawn_test {x0 x1 : D} {S : Store} {Qd : D → Store → Prop} {E : EX} (h : Z z__law_drawn_test [some x0, some x1, none, none] S (kF false S.length Qd E)) : W (m__law_drawn_test [x0, x1] S) Qd E := W_dF h rfl rfl
def z__law_drawn_action_6 : XS :=
  (zSeq (zIf (tAnd (tCm (cm .Lt (vv 4) (kk (.int 6)))) (tCm (cm .NotEq (vv 3) (lsv a0))))
  (zSeq (zSet 6 (lcv1 [9] (iv (vv 2)) (b1 9) (tCm (cm .Eq (ca m__law_draw (a1 (vv 0) (a1 (kk (.int 2)) a0))) (kk (.int 1)))) (vv 9)))
    (zSeq (zSet 7 (ix (vv 3) (ca m__law_draw (a1 (vv 0) (a1 (bl .len (a1 (vv 3) a0)) a0)))))
    (zSeq (zSet 8 (ix (vv 5) (ca m__law_draw (a1 (vv 0) (a1 (bl .len (a1 (vv 5) a0)) a0)))))
    (zRet (ix (lsv (a1 (tu (a1 (kk (.str "give")) (a1 (vv 7) (a1 (vv 8) (a1 (bl .tuple (a1 (rvs (vv 6)) a0)) a0))))) (a1 (tu (a1 (kk (.str "report")) (a1 (vv 7) a0))) a0))) (bi .Mod (bl .int (a1 (vv 4) a0)) (kk (.int 2)))))))) zPass)
  (zRet (tu (a1 (kk (.str "tell")) a0))))
def z__law_drawn_action : XS :=
  (zSeq (zSet 4 (ca m__law_draw (a1 (vv 0) (a1 (kk (.int 7)) a0))))
  (zSeq (zSet 5 (sl (lsv (a1 (kk (.str "root")) (a1 (kk (.str "waker")) (a1 (kk (.str "sender")) a0)))) p0 (p1 (bi .Sub (kk (.int 3)) (bl .int (a1 (cm .In (vv 1) (tu (a1 (kk (.str "send")) (a1 (kk (.str "rest")) a0)))) a0))))))
  (zSeq (zIf (tAnd (tCm (cm .Eq (vv 4) (kk (.int 0)))) (tAnd (tCm (cm .NotEq (vv 2) (lsv a0))) (tCm (cm .Eq (vv 1) (kk (.str "send"))))))
  (zRet (tu (a1 (kk (.str "half")) (a1 (ix (vv 2) (ca m__law_draw (a1 (vv 0) (a1 (bl .len (a1 (vv 2) a0)) a0)))) a0)))) zPass)
  (zSeq (zIf (tAnd (tCm (cm .Lt (vv 4) (kk (.int 3)))) (tCm (cm .NotEq (vv 2) (lsv a0))))
  (zRet (tu (a1 (kk (.str "add")) (a1 (ix (vv 2) (ca m__law_draw (a1 (vv 0) (a1 (bl .len (a1 (vv 2) a0)) a0)))) (a1 (bi .Sub (ca m__law_draw (a1 (vv 0) (a1 (kk (.int 7)) a0))) (kk (.int 3))) a0))))) zPass)
  (zSeq (zIf (tAnd (tCm (cm .Eq (vv 4) (kk (.int 3)))) (tCm (cm .NotIn (vv 1) (tu (a1 (kk (.str "send")) (a1 (kk (.str "rest")) a0))))))
  (zRet (tu (a1 (kk (.str "gain")) a0))) zPass)
  (zSeq (zIf (tAnd (tCm (cm .Eq (vv 4) (kk (.int 4)))) (tCm (cm .Eq (vv 1) (kk (.str "come")))))
  (zRet (tu (a1 (kk (.str "keep")) a0))) zPass)
  z__law_drawn_action_6))))))
def m__law_drawn_action : Fn := dF false 4 10 z__law_drawn_action
theorem w__law_drawn_action {x0 x1 x2 x3 : D} {S : Store} {Qd : D → Store → Prop} {E : EX} (h : Z z__law_drawn_action [some x0, some x1, some x2, some x3, none, none, none, none, none, none] S (kF false S.length Qd E)) : W (m__law_drawn_action [x0, x1, x2, x3] S) Qd E := W_dF h rfl rfl
def z__law_drawn_way : XS :=
  (zSeq (zSet 2 (ca m__law_names (a1 (vv 0) (a1 (ca m__law_draw (a1 (vv 0) (a1 (kk (.int 4)) a0))) (a1 (lsv a0) a0)))))
  (zSeq (zSet 3 (ca m__law_names (a1 (vv 0) (a1 (bi .Add (kk (.int 1)) (ca m__law_draw (a1 (vv 0) (a1 (kk (.int 4)) a0)))) (a1 (lsv a0) a0)))))
  (zSeq (zSet 4 (ca m__law_names (a1 (vv 0) (a1 (ca m__law_draw (a1 (vv 0) (a1 (kk (.int 4)) a0))) (a1 (lsv (a1 (kk (.str "send")) (a1 (kk (.str "come")) (a1 (kk (.str "rest")) a0)))) a0)))))
  (zSeq (zSet 5 (lsm a0))
  (zSeq (zFor (b1 6) (r1 (vv 1))
  (zSeq (zSet 7 (ix (bi .Add (lsv (a1 (kk (.str "send")) (a1 (kk (.str "come")) (a1 (kk (.str "rest")) a0)))) (vv 4)) (ca m__law_draw (a1 (vv 0) (a1 (bi .Add (kk (.int 3)) (bl .len (a1 (vv 4) a0))) a0)))))
    (zSeq (zSet 8 (ix (lsv (a1 (kk (.str "root")) (a1 (kk (.str "other")) (a1 (kk (.str "any")) a0)))) (ca m__law_draw (a1 (vv 0) (a1 (kk (.int 3)) a0)))))
    (zSeq (zSet 9 (bl .tuple (a1 (lcv [13] (r1 (ca m__law_draw (a1 (vv 0) (a1 (kk (.int 4)) a0)))) (b1 13) (ca m__law_drawn_test (a1 (vv 0) (a1 (vv 2) a0)))) a0)))
    (zSeq (zSet 10 (lcv [13] (r1 (ca m__law_draw (a1 (vv 0) (a1 (kk (.int 5)) a0)))) (b1 13) (ca m__law_drawn_action (a1 (vv 0) (a1 (vv 7) (a1 (vv 2) (a1 (vv 4) a0)))))))
    (zSeq (zSet 11 (ix (vv 3) (ca m__law_draw (a1 (vv 0) (a1 (bl .len (a1 (vv 3) a0)) a0)))))
    (zExp (me "append" (vv 5) (a1 (tu (a1 (vv 7) (a1 (vv 8) (a1 (vv 11) (a1 (vv 9) (a1 (bl .tuple (a1 (vv 10) a0)) (a1 (ix (vv 3) (ca m__law_draw (a1 (vv 0) (a1 (bl .len (a1 (vv 3) a0)) a0)))) a0))))))) a0)))))))))
  (zSeq (zSet 12 (tu (a1 (ix (vv 3) (ca m__law_draw (a1 (vv 0) (a1 (bl .len (a1 (vv 3) a0)) a0)))) (a1 (bl .tuple (a1 (lcv [14] (iv (vv 2)) (b1 14) (ca m__law_drawn_part (a1 (vv 0) a0))) a0)) a0))))
  (zRet (tu (a1 (bl .tuple (a1 (vv 2) a0)) (a1 (bl .tuple (a1 (vv 3) a0)) (a1 (bl .tuple (a1 (vv 4) a0)) (a1 (vv 12) (a1 (bl .tuple (a1 (vv 5) a0)) a0)))))))))))))
def m__law_drawn_way : Fn := dF false 2 15 z__law_drawn_way
theorem w__law_drawn_way {x0 x1 : D} {S : Store} {Qd : D → Store → Prop} {E : EX} (h : Z z__law_drawn_way [some x0, some x1, none, none, none, none, none, none, none, none, none, none, none, none, none] S (kF false S.length Qd E)) : W (m__law_drawn_way [x0, x1] S) Qd E := W_dF h rfl rfl
def z__law_due : XS :=
  (zSeq (zSet 4 (lsm a0))
  (zSeq (zFor (b1 5) (iv (ix (vv 0) (kk (.int 4))))
  (zIf (tAnd (tCm (cm .Eq (ix (vv 5) (kk (.int 0))) (vv 1))) (tAnd (tCm (cm .Eq (ix (vv 5) (kk (.int 2))) (vv 3))) (tCm (cm .In (ix (vv 5) (kk (.int 1))) (lsv (a1 (vv 2) (a1 (kk (.str "any")) a0)))))))
    (zExp (me "append" (vv 4) (a1 (vv 5) a0))) zPass))
  (zRet (vv 4))))
def m__law_due : Fn := dF false 4 6 z__law_due
theorem w__law_due {x0 x1 x2 x3 : D} {S : Store} {Qd : D → Store → Prop} {E : EX} (h : Z z__law_due [some x0, some x1, some x2, some x3, none, none] S (kF false S.length Qd E)) : W (m__law_due [x0, x1, x2, x3] S) Qd E := W_dF h rfl rfl
def z__law_fits : XS :=
  (zSeq (zFor (b1 4) (iv (ix (vv 0) (kk (.int 3))))
  (zSeq (zIf (tCm (cm .Eq (bl .len (a1 (vv 4) a0)) (kk (.int 1))))
    (zSet 5 (ix (lsv (a1 (vv 3) (a1 (vv 2) a0))) (bl .int (a1 (cm .Eq (ix (vv 4) (kk (.int 0))) (kk (.str "match"))) a0))))
    (zIf (tCm (cm .Eq (bl .len (a1 (vv 4) a0)) (kk (.int 2))))
      (zSet 5 (cm .Gt (ix (ix (vv 1) (ix (vv 4) (kk (.int 0)))) (kk (.int 0))) (kk (.int 0))))
      (zSet 5 (cm .Eq (ix (vv 1) (ix (vv 4) (kk (.int 0)))) (ix (vv 4) (kk (.int 2)))))))
    (zIf (tNot (tTr (vv 5)))
    (zRet (kk (.bl false))) zPass)))
  (zRet (kk (.bl true))))
def m__law_fits : Fn := dF false 4 6 z__law_fits
theorem w__law_fits {x0 x1 x2 x3 : D} {S : Store} {Qd : D → Store → Prop} {E : EX} (h : Z z__law_fits [some x0, some x1, some x2, some x3, none, none] S (kF false S.length Qd E)) : W (m__law_fits [x0, x1, x2, x3] S) Qd E := W_dF h rfl rfl
def z__law_held : XS :=
  (zSeq (zSet 2 di0)
  (zSeq (zFor (b1 3) (iv (ix (vv 1) (kk (.int 0))))
  (zSeq (zSet 4 (lsv (a1 (tu (a1 (kk (.int 0)) (a1 (kk (.int 0)) a0))) (a1 (ca m__law_drawn_part (a1 (vv 0) a0)) a0))))
    (zSeq (zFor (b1 5) (iv (ix (vv 1) (kk (.int 4))))
    (zSet 4 (bi .Add (vv 4) (lcv1 [6] (iv (ix (vv 5) (kk (.int 3)))) (b1 6) (tAnd (tCm (cm .Eq (bl .len (a1 (vv 6) a0)) (kk (.int 3)))) (tCm (cm .Eq (ix (vv 6) (kk (.int 0))) (vv 3)))) (ix (vv 6) (kk (.int 2)))))))
    (zSub (vv 2) (vv 3) (ix (vv 4) (ca m__law_draw (a1 (vv 0) (a1 (bl .len (a1 (vv 4) a0)) a0))))))))
  (zRet (vv 2))))
def m__law_held : Fn := dF false 2 7 z__law_held
theorem w__law_held {x0 x1 : D} {S : Store} {Qd : D → Store → Prop} {E : EX} (h : Z z__law_held [some x0, some x1, none, none, none, none, none] S (kF false S.length Qd E)) : W (m__law_held [x0, x1] S) Qd E := W_dF h rfl rfl
def z__law_gathered : XS :=
  (zSeq (zSet 2 (lsm a0))
  (zSeq (zFor (b1 3) (iv (ix (vv 1) (kk (.int 4))))
  (zSeq (zSet 4 (ix (lsv (a1 (ix (vv 3) (kk (.int 2))) (a1 (ix (ix (vv 1) (kk (.int 1))) (kk (.int 0))) a0))) (ca m__law_draw (a1 (vv 0) (a1 (kk (.int 2)) a0)))))
    (zExp (me "append" (vv 2) (a1 (bi .Add (bi .Add (sl (vv 3) p0 (p1 (kk (.int 2)))) (tu (a1 (vv 4) a0))) (sl (vv 3) (p1 (kk (.int 3))) p0)) a0)))))
  (zRet (bi .Add (sl (vv 1) p0 (p1 (kk (.int 4)))) (tu (a1 (bl .tuple (a1 (vv 2) a0)) a0))))))
def m__law_gathered : Fn := dF false 2 5 z__law_gathered
theorem w__law_gathered {x0 x1 : D} {S : Store} {Qd : D → Store → Prop} {E : EX} (h : Z z__law_gathered [some x0, some x1, none, none, none] S (kF false S.length Qd E)) : W (m__law_gathered [x0, x1] S) Qd E := W_dF h rfl rfl
def z__law_asked : XS :=
  (zSeq (zSet 5 (ca m__law_due (a1 (vv 0) (a1 (vv 1) (a1 (vv 2) (a1 (vv 3) a0))))))
  (zSeq (zFor (b1 6) (r1 (kk (.int 2)))
  (zSeq (zSet 7 (ca m_rules_of (a1 (vv 0) (a1 (vv 1) (a1 (vv 2) (a1 (vv 3) a0))))))
    (zSeq (zIf (tOr (tNot (tTr (isn (vv 7) "list"))) (tCm (cm .NotEq (vv 7) (vv 5))))
    (zRet (kk (.bl false))) zPass)
    (zExp (me "clear" (vv 7) a0)))))
  (zSeq (zFor (b1 8) (r1 (kk (.int 4)))
  (zSeq (zSet 9 (cm .Eq (bi .Mod (bl .int (a1 (vv 8) a0)) (kk (.int 2))) (kk (.int 1))))
    (zSeq (zSet 10 (cm .Gt (vv 8) (kk (.int 1))))
    (zSeq (zSet 11 (lcv1 [13] (iv (vv 5)) (b1 13) (tTr (ca m__law_fits (a1 (vv 13) (a1 (vv 4) (a1 (vv 9) (a1 (vv 10) a0)))))) (vv 13)))
    (zSeq (zSet 12 (dct (a1 (vv 4) a0)))
    (zSeq (zSet 7 (ca m_first_rule (a1 (vv 0) (a1 (vv 1) (a1 (vv 2) (a1 (vv 3) (a1 (vv 12) (a1 (vv 9) (a1 (vv 10) a0)))))))))
    (zIf (tOr (tCm (cm .NotEq (vv 7) (ix (bi .Add (vv 11) (lsv (a1 (kk .non) a0))) (kk (.int 0))))) (tCm (cm .NotEq (vv 12) (vv 4))))
    (zRet (kk (.bl false))) zPass)))))))
  (zRet (kk (.bl true))))))
def m__law_asked : Fn := dF false 5 14 z__law_asked
theorem w__law_asked {x0 x1 x2 x3 x4 : D} {S : Store} {Qd : D → Store → Prop} {E : EX} (h : Z z__law_asked [some x0, some x1, some x2, some x3, some x4, none, none, none, none, none, none, none, none, none] S (kF false S.length Qd E)) : W (m__law_asked [x0, x1, x2, x3, x4] S) Qd E := W_dF h rfl rfl
def z_law : XS :=
  (zSeq (zFor (bT [1, 2]) (zen (bi .Add (lsv (a1 (ca m__law_cell_at (a1 (vv 0) (a1 (kk (.int 0)) a0))) a0)) (sl (vv 0) (p1 (kk (.int 1))) (p1 (kk (.int 5))))))
  (zSeq (zSet 3 (ca m__law_begin (a1 (vv 2) a0)))
    (zSeq (zSet 4 (ca m__law_draw (a1 (vv 3) (a1 (kk (.int 10)) a0))))
    (zSeq (zIf (tAnd (tCm (cm .Eq (vv 1) (kk (.int 0)))) (tCm (cm .Eq (ca m__law_draw (a1 (vv 3) (a1 (kk (.int 8)) a0))) (kk (.int 7)))))
    (zSet 4 (kk (.int 40))) zPass)
    (zSeq (zSet 5 (ca m__law_gathered (a1 (vv 3) (a1 (ca m__law_drawn_way (a1 (vv 3) (a1 (vv 4) a0))) a0))))
    (zSeq (zSet 6 (bl .repr (a1 (vv 5) a0)))
    (zSeq (zFor (b1 7) (r1 (kk (.int 2)))
    (zSeq (zSet 8 (ca m__law_held (a1 (vv 3) (a1 (vv 5) a0))))
      (zFor (b1 9) (iv (bi .Add (lsv (a1 (kk (.str "send")) (a1 (kk (.str "come")) (a1 (kk (.str "rest")) a0)))) (bl .list (a1 (ix (vv 5) (kk (.int 2))) a0))))
      (zFor (b1 10) (iv (lsv (a1 (kk (.str "root")) (a1 (kk (.str "other")) a0))))
        (zFor (b1 11) (iv (ix (vv 5) (kk (.int 1))))
          (zIf (tNot (tTr (ca m__law_asked (a1 (vv 5) (a1 (vv 9) (a1 (vv 10) (a1 (vv 11) (a1 (vv 8) a0))))))))
            (zRet (kk (.bl false))) zPass))))))
    (zIf (tCm (cm .NotEq (bl .repr (a1 (vv 5) a0)) (vv 6)))
    (zRet (kk (.bl false))) zPass))))))))
  (zRet (kk (.bl true))))
def m_law : Fn := dF false 1 12 z_law
theorem w_law {x0 : D} {S : Store} {Qd : D → Store → Prop} {E : EX} (h : Z z_law [some x0, none, none, none, none, none, none, none, none, none, none, none] S (kF false S.length Qd E)) : W (m_law [x0] S) Qd E := W_dF h rfl rfl
def cs : List (Str × D) := []
def frees : List Str := ["len", "all", "int", "range", "tuple", "dict", "isinstance", "list", "enumerate", "repr"]
def excs : List Str := []
def muts : List (Nat × Nat) := [(3, 12), (27, 11), (38, 17), (82, 17), (93, 17), (118, 17)]
def ft : FldT := []
def mb : MutB := []
def ts : DkT := []
def c0 : Cfg := cfg0 cs frees excs muts kt ft mb ts
def R0 : DefR := ⟨"rules_of", top 1, ["way", "event", "role", "state"], ["way", "event", "role", "state", "found", "rule"], false, m_rules_of, [], none, "rules_of", "rules_of"⟩
def c1 : Cfg := c0.add "rules_of" m_rules_of
def R1 : DefR := ⟨"holds_now", top 2, ["test", "purses", "matches", "evens"], ["test", "purses", "matches", "evens"], false, m_holds_now, [], none, "holds_now", "holds_now"⟩
def c2 : Cfg := c1.add "holds_now" m_holds_now
def R2 : DefR := ⟨"first_rule", top 3, ["way", "event", "role", "state", "purses", "matches", "evens"], ["way", "event", "role", "state", "purses", "matches", "evens", "rule", "test"], false, m_first_rule, [], none, "first_rule", "first_rule"⟩
def c3 : Cfg := c2.add "first_rule" m_first_rule
def R3 : DefR := ⟨"_law_cell_at", top 5, ["_law_script", "_law_k"], ["_law_script", "_law_k"], false, m__law_cell_at, [], none, "_law_cell_at", "_law_cell_at"⟩
def c4 : Cfg := c3.add "_law_cell_at" m__law_cell_at
def R4 : DefR := ⟨"_law_begin", top 6, ["_law_cell"], ["_law_cell"], false, m__law_begin, [], none, "_law_begin", "_law_begin"⟩
def c5 : Cfg := c4.add "_law_begin" m__law_begin
def R5 : DefR := ⟨"_law_draw", top 7, ["_law_source", "_law_most"], ["_law_source", "_law_most", "_law_found", "_law_number"], false, m__law_draw, [], none, "_law_draw", "_law_draw"⟩
def c6 : Cfg := c5.add "_law_draw" m__law_draw
def R6 : DefR := ⟨"_law_names", top 8, ["_law_source", "_law_many", "_law_known"], ["_law_source", "_law_many", "_law_known", "_law_found", "_law_k", "_law_word", "_law_j", "_law_at", "_law_rest", "_law_one"], false, m__law_names, [], none, "_law_names", "_law_names"⟩
def c7 : Cfg := c6.add "_law_names" m__law_names
def R7 : DefR := ⟨"_law_drawn_part", top 9, ["_law_source"], ["_law_source"], false, m__law_drawn_part, [], none, "_law_drawn_part", "_law_drawn_part"⟩
def c8 : Cfg := c7.add "_law_drawn_part" m__law_drawn_part
def R8 : DefR := ⟨"_law_drawn_test", top 10, ["_law_source", "_law_purses"], ["_law_source", "_law_purses", "_law_kind", "_law_purse"], false, m__law_drawn_test, [], none, "_law_drawn_test", "_law_drawn_test"⟩
def c9 : Cfg := c8.add "_law_drawn_test" m__law_drawn_test
def R9 : DefR := ⟨"_law_drawn_action", top 11, ["_law_source", "_law_event", "_law_purses", "_law_kinds"], ["_law_source", "_law_event", "_law_purses", "_law_kinds", "_law_kind", "_law_goals", "_law_some", "_law_word", "_law_goal", "_law_purse"], false, m__law_drawn_action, [], none, "_law_drawn_action", "_law_drawn_action"⟩
def c10 : Cfg := c9.add "_law_drawn_action" m__law_drawn_action
def R10 : DefR := ⟨"_law_drawn_way", top 12, ["_law_source", "_law_many"], ["_law_source", "_law_many", "_law_purses", "_law_states", "_law_kinds", "_law_rules", "_law_k", "_law_event", "_law_role", "_law_tests", "_law_actions", "_law_state", "_law_begin_here", "_law_j", "_law_purse"], false, m__law_drawn_way, [], none, "_law_drawn_way", "_law_drawn_way"⟩
def c11 : Cfg := c10.add "_law_drawn_way" m__law_drawn_way
def R11 : DefR := ⟨"_law_due", top 13, ["_law_way", "_law_event", "_law_role", "_law_state"], ["_law_way", "_law_event", "_law_role", "_law_state", "_law_found", "_law_rule"], false, m__law_due, [], none, "_law_due", "_law_due"⟩
def c12 : Cfg := c11.add "_law_due" m__law_due
def R12 : DefR := ⟨"_law_fits", top 14, ["_law_rule", "_law_held_here", "_law_matches", "_law_evens"], ["_law_rule", "_law_held_here", "_law_matches", "_law_evens", "_law_test", "_law_fine"], false, m__law_fits, [], none, "_law_fits", "_law_fits"⟩
def c13 : Cfg := c12.add "_law_fits" m__law_fits
def R13 : DefR := ⟨"_law_held", top 15, ["_law_source", "_law_way"], ["_law_source", "_law_way", "_law_held_here", "_law_purse", "_law_some", "_law_rule", "_law_test"], false, m__law_held, [], none, "_law_held", "_law_held"⟩
def c14 : Cfg := c13.add "_law_held" m__law_held
def R14 : DefR := ⟨"_law_gathered", top 16, ["_law_source", "_law_way"], ["_law_source", "_law_way", "_law_rules", "_law_rule", "_law_state"], false, m__law_gathered, [], none, "_law_gathered", "_law_gathered"⟩
def c15 : Cfg := c14.add "_law_gathered" m__law_gathered
def R15 : DefR := ⟨"_law_asked", top 17, ["_law_way", "_law_event", "_law_role", "_law_state", "_law_held_here"], ["_law_way", "_law_event", "_law_role", "_law_state", "_law_held_here", "_law_due_here", "_law_turn", "_law_found", "_law_k", "_law_matches", "_law_evens", "_law_some", "_law_handed", "_law_rule"], false, m__law_asked, [], none, "_law_asked", "_law_asked"⟩
def c16 : Cfg := c15.add "_law_asked" m__law_asked
def R16 : DefR := ⟨"law", top 18, ["_law_script"], ["_law_script", "_law_k", "_law_cell", "_law_source", "_law_many", "_law_way", "_law_shown", "_law_turn", "_law_held_here", "_law_event", "_law_role", "_law_state"], false, m_law, [], none, "law", "law"⟩
def c17 : Cfg := c16.add "law" m_law
abbrev RL : DefR := R16
def rs : List DefR := [R0, R1, R2, R3, R4, R5, R6, R7, R8, R9, R10, R11, R12, R13, R14, R15]
theorem k0 : R0.Ok := ⟨by kernel_rfl, fun _ _ _ _ _ _ _ us hl => match us, hl with | [_, _, _, _], _ => rfl, fun z => absurd rfl z, fun z => absurd rfl z⟩
theorem e0 : runF c0 R0.frz R0.ps R0.N (scopeOf R0.st) 100 (bodyOf R0.st) = R0.φ := by kernel_rfl
theorem k1 : R1.Ok := ⟨by kernel_rfl, fun _ _ _ _ _ _ _ us hl => match us, hl with | [_, _, _, _], _ => rfl, fun z => absurd rfl z, fun z => absurd rfl z⟩
theorem e1 : runF c1 R1.frz R1.ps R1.N (scopeOf R1.st) 100 (bodyOf R1.st) = R1.φ := by kernel_rfl
theorem k2 : R2.Ok := ⟨by kernel_rfl, fun _ _ _ _ _ _ _ us hl => match us, hl with | [_, _, _, _, _, _, _], _ => rfl, fun z => absurd rfl z, fun z => absurd rfl z⟩
theorem e2 : runF c2 R2.frz R2.ps R2.N (scopeOf R2.st) 100 (bodyOf R2.st) = R2.φ := by kernel_rfl
theorem k3 : R3.Ok := ⟨by kernel_rfl, fun _ _ _ _ _ _ _ us hl => match us, hl with | [_, _], _ => rfl, fun z => absurd rfl z, fun z => absurd rfl z⟩
theorem e3 : runF c3 R3.frz R3.ps R3.N (scopeOf R3.st) 100 (bodyOf R3.st) = R3.φ := by kernel_rfl
theorem k4 : R4.Ok := ⟨by kernel_rfl, fun _ _ _ _ _ _ _ us hl => match us, hl with | [_], _ => rfl, fun z => absurd rfl z, fun z => absurd rfl z⟩
theorem e4 : runF c4 R4.frz R4.ps R4.N (scopeOf R4.st) 100 (bodyOf R4.st) = R4.φ := by kernel_rfl
theorem k5 : R5.Ok := ⟨by kernel_rfl, fun _ _ _ _ _ _ _ us hl => match us, hl with | [_, _], _ => rfl, fun z => absurd rfl z, fun z => absurd rfl z⟩
theorem e5 : runF c5 R5.frz R5.ps R5.N (scopeOf R5.st) 100 (bodyOf R5.st) = R5.φ := by kernel_rfl
theorem k6 : R6.Ok := ⟨by kernel_rfl, fun _ _ _ _ _ _ _ us hl => match us, hl with | [_, _, _], _ => rfl, fun z => absurd rfl z, fun z => absurd rfl z⟩
theorem e6 : runF c6 R6.frz R6.ps R6.N (scopeOf R6.st) 100 (bodyOf R6.st) = R6.φ := by kernel_rfl
theorem k7 : R7.Ok := ⟨by kernel_rfl, fun _ _ _ _ _ _ _ us hl => match us, hl with | [_], _ => rfl, fun z => absurd rfl z, fun z => absurd rfl z⟩
theorem e7 : runF c7 R7.frz R7.ps R7.N (scopeOf R7.st) 100 (bodyOf R7.st) = R7.φ := by kernel_rfl
theorem k8 : R8.Ok := ⟨by kernel_rfl, fun _ _ _ _ _ _ _ us hl => match us, hl with | [_, _], _ => rfl, fun z => absurd rfl z, fun z => absurd rfl z⟩
theorem e8 : runF c8 R8.frz R8.ps R8.N (scopeOf R8.st) 100 (bodyOf R8.st) = R8.φ := by kernel_rfl
theorem k9 : R9.Ok := ⟨by kernel_rfl, fun _ _ _ _ _ _ _ us hl => match us, hl with | [_, _, _, _], _ => rfl, fun z => absurd rfl z, fun z => absurd rfl z⟩
theorem e9 : runF c9 R9.frz R9.ps R9.N (scopeOf R9.st) 100 (bodyOf R9.st) = R9.φ := by kernel_rfl
theorem k10 : R10.Ok := ⟨by kernel_rfl, fun _ _ _ _ _ _ _ us hl => match us, hl with | [_, _], _ => rfl, fun z => absurd rfl z, fun z => absurd rfl z⟩
theorem e10 : runF c10 R10.frz R10.ps R10.N (scopeOf R10.st) 100 (bodyOf R10.st) = R10.φ := by kernel_rfl
theorem k11 : R11.Ok := ⟨by kernel_rfl, fun _ _ _ _ _ _ _ us hl => match us, hl with | [_, _, _, _], _ => rfl, fun z => absurd rfl z, fun z => absurd rfl z⟩
theorem e11 : runF c11 R11.frz R11.ps R11.N (scopeOf R11.st) 100 (bodyOf R11.st) = R11.φ := by kernel_rfl
theorem k12 : R12.Ok := ⟨by kernel_rfl, fun _ _ _ _ _ _ _ us hl => match us, hl with | [_, _, _, _], _ => rfl, fun z => absurd rfl z, fun z => absurd rfl z⟩
theorem e12 : runF c12 R12.frz R12.ps R12.N (scopeOf R12.st) 100 (bodyOf R12.st) = R12.φ := by kernel_rfl
theorem k13 : R13.Ok := ⟨by kernel_rfl, fun _ _ _ _ _ _ _ us hl => match us, hl with | [_, _], _ => rfl, fun z => absurd rfl z, fun z => absurd rfl z⟩
theorem e13 : runF c13 R13.frz R13.ps R13.N (scopeOf R13.st) 100 (bodyOf R13.st) = R13.φ := by kernel_rfl
theorem k14 : R14.Ok := ⟨by kernel_rfl, fun _ _ _ _ _ _ _ us hl => match us, hl with | [_, _], _ => rfl, fun z => absurd rfl z, fun z => absurd rfl z⟩
theorem e14 : runF c14 R14.frz R14.ps R14.N (scopeOf R14.st) 100 (bodyOf R14.st) = R14.φ := by kernel_rfl
theorem k15 : R15.Ok := ⟨by kernel_rfl, fun _ _ _ _ _ _ _ us hl => match us, hl with | [_, _, _, _, _], _ => rfl, fun z => absurd rfl z, fun z => absurd rfl z⟩
theorem e15 : runF c15 R15.frz R15.ps R15.N (scopeOf R15.st) 100 (bodyOf R15.st) = R15.φ := by kernel_rfl
theorem k16 : R16.Ok := ⟨by kernel_rfl, fun _ _ _ _ _ _ _ us hl => match us, hl with | [_], _ => rfl, fun z => absurd rfl z, fun z => absurd rfl z⟩
theorem e16 : runF c16 R16.frz R16.ps R16.N (scopeOf R16.st) 100 (bodyOf R16.st) = R16.φ := by kernel_rfl
theorem steps : Steps 100 c0 rs := ⟨⟨k0, e0⟩, ⟨k1, e1⟩, ⟨k2, e2⟩, ⟨k3, e3⟩, ⟨k4, e4⟩, ⟨k5, e5⟩, ⟨k6, e6⟩, ⟨k7, e7⟩, ⟨k8, e8⟩, ⟨k9, e9⟩, ⟨k10, e10⟩, ⟨k11, e11⟩, ⟨k12, e12⟩, ⟨k13, e13⟩, ⟨k14, e14⟩, ⟨k15, e15⟩, trivial⟩
end QL

namespace QL
open PySem Q
def lo0 : List Str := ["rules_of", "holds_now", "first_rule", "_law_cell_at", "_law_begin", "_law_draw", "_law_names", "_law_drawn_part", "_law_drawn_test", "_law_drawn_action", "_law_drawn_way", "_law_due", "_law_fits", "_law_held", "_law_gathered", "_law_asked"]
abbrev loose : List Str := lo0
abbrev RO : PySem.W.OpenRow := PySem.W.OpenLaw.row PySem.Challenge.rw_allquiet_k32_which_rule_fits
abbrev fa : List He.Fa := facts (rs ++ [R16]) frees excs ft
abbrev fn : List He.DefD := (rs ++ [R16]).map DefR.d
abbrev hk : PySem.W.Hook := hookE 4 fa fn cs kt frees ts
def ob (s : PySem.W.SharedT) : AlQ := obsE 4 fa fn cs kt frees ts (HandSHeadRun.getT s)
theorem ob_eq (s : PySem.W.SharedT) : ob s = hk.obs s.abs := obsE_eq (HandSHeadRun.getT_eq s)
theorem run (w : World) : HandSHeadRun.RunEq RO (PySem.W.view RO.prog [18]) hk ob 8000 loose w := by
  intro os
  kernel_rfl
end QL

section
open PySem PySem.W PySem.Calls PyProof.Rows
theorem QL.theEnd (QLplain : ∀ ns : List Int, ns.length ≤ 63 → ∃ S, QL.RL.φ [Q.D.lst (ns.map Q.D.int)] [] = Q.Out.ok (Q.D.bl true) S) : PySem.Challenge.rw_allquiet_k32_which_rule_fits.Holds := by
  w_on; o_law
  refine HandSHeadRun.head_any (r := OpenLaw.row PySem.Challenge.rw_allquiet_k32_which_rule_fits) (q := view (OpenLaw.row PySem.Challenge.rw_allquiet_k32_which_rule_fits).prog [18]) (H := QL.hk) (ob := QL.ob) (M := 8000) (loose := QL.loose) (d := HandSHeadRun.topDef (OpenLaw.row PySem.Challenge.rw_allquiet_k32_which_rule_fits).prog 18) (kwd := []) QL.ob_eq
    (by kernel_rfl) (fun s => by kernel_rfl) QL.run (by kernel_rfl) (by kernel_rfl) (by kernel_rfl) (by rfl) (by first | assumption | decide +kernel) (by decide +kernel) ⟨rfl, rfl, rfl, rfl, rfl, by decide +kernel⟩ ?hw ?hc
  case hw => w_witness2
  case hc => exact Q.law_walk (l := PySem.Challenge.rw_allquiet_k32_which_rule_fits) (n := 63) (k := 4) (x := "_law_script") (fuel := 100) (rs := QL.rs) (r := QL.R16) (cs := QL.cs) (frees := QL.frees) (excs := QL.excs) (muts := QL.muts) (kt := QL.kt) (ft := QL.ft) (mb := QL.mb) (ts := QL.ts) rfl (by decide) (by kernel_rfl) ⟨⟨rfl, by decide, by decide⟩, rfl⟩ (by kernel_rfl) rfl QL.steps QL.k16 rfl rfl (by decide) QL.e16 QLplain

end

namespace QL
open PySem Q
/-! ### the source of drawn numbers -/
structure Src (S : Store) (l : Nat) (k : Int) : Prop where
  out : ∃ a b c : Int, S[l]? = some (.lst [.int a, .int b, .int c]) ∧ 0 ≤ b ∧ b < 2147483647 ∧ 0 ≤ c ∧ c ≤ k
theorem Src.mono {S : Store} {l : Nat} {k k' : Int} (h : Src S l k) (hk : k ≤ k') : Src S l k' := by
  obtain ⟨a, b, c, h1, h2, h3, h4, h5⟩ := h.out
  exact ⟨⟨a, b, c, h1, h2, h3, h4, by omega⟩⟩
theorem draw_w {S : Store} {l : Nat} {k m : Int} {Qd : D → Store → Prop} {E : EX} (h : Src S l k) (hk : k ≤ 1000000000) (hm : 0 < m) (hm2 : m < 1000000000000)
    (hQ : ∀ n S', 0 ≤ n → n < m → Src S' l (k + 1) → S'.length = S.length → (∀ i, i ≠ l → S'[i]? = S[i]?) → Qd (.int n) S') : W (m__law_draw [.ref l, .int m] S) Qd E := by
  obtain ⟨a, b, c, hS, hb0, hb1, hc0, hc1⟩ := h.out
  apply w__law_draw
  unfold z__law_draw
  (repeat' (first | fail "q1" | fail "q2" | fail "q3" | fail))
  · exact FnP_same (by assumption) (hQ _ _ (Int.emod_nonneg _ (by omega)) (Int.emod_lt_of_pos _ hm) ⟨⟨_, _, _, by assumption, hb0, hb1, hc0, by omega⟩⟩ (by assumption) (by assumption))
  · exact FnP_same (by assumption) (hQ _ _ (Int.emod_nonneg _ (by omega)) (Int.emod_lt_of_pos _ hm) ⟨⟨_, _, _, by assumption, hb0, hb1, by omega, by omega⟩⟩ (by assumption) (by assumption))
theorem begin_w {S : Store} {c : Int} {Qd : D → Store → Prop} {E : EX} (hQ : ∀ S', Src S' S.length 0 → S'.length = S.length + 1 → (∀ i, i < S.length → S'[i]? = S[i]?) → Qd (.ref S.length) S') : W (m__law_begin [.int c] S) Qd E := by
  apply w__law_begin
  unfold z__law_begin
  have key : ∀ a : Int, Qd (.ref S.length) (S ++ [.lst [.int a, .int (c % 2147483647), .int 0]]) := fun a =>
    hQ _ ⟨⟨a, c % 2147483647, 0, by simp, by omega, by omega, by omega, by omega⟩⟩ (by simp) fun i hi => by rw [List.getElem?_append_left hi]
  (repeat' (first | fail "q1" | refine Bn_powC (n := 10) (m := 18) (v := 1000000000000000000) (by decide) (by decide) ?_ | (refine Ix_pick (fun d => ∃ a : Int, d = .int a) ?_ ?_ ?_ ?_) | fail "q2" | fail "q3" | fail))
  · split <;> omega
  · show (if _ then (1 : Int) else 0) < 2
    split <;> omega
  · intro d hd
    simp only [List.mem_cons, List.not_mem_nil, or_false] at hd
    rcases hd with rfl | rfl <;> exact ⟨_, rfl⟩
  · rintro d ⟨a, rfl⟩
    (repeat' (first | fail "q1" | fail "q2" | fail "q3" | fail))
    exact Fn_ref (Nat.le_refl _) (by simp) (key a)
theorem cell_w {S : Store} {ns : List Int} {Qd : D → Store → Prop} {E : EX} (hQ : ∀ c : Int, Qd (.int c) S) : W (m__law_cell_at [.lst (ns.map D.int), .int 0] S) Qd E := by
  apply w__law_cell_at
  unfold z__law_cell_at
  (repeat' (first | fail "q1" | (refine Ix_pick (fun d => ∃ a : Int, d = .int a) (by omega) (by assumption) ?_ ?_) | fail "q2" | fail "q3" | fail))
  · intro d hd
    obtain ⟨a, _, rfl⟩ := List.mem_map.mp hd
    exact ⟨a, rfl⟩
  · rintro d ⟨a, rfl⟩
    (repeat' (first | fail "q1" | fail "q2" | fail "q3" | fail))
    exact hQ a
  · exact hQ 0
end QL

namespace QL
open PySem Q
theorem Src.take {S : Store} {l n : Nat} {k : Int} (h : Src S l k) (hn : l < n) : Src (S.take n) l k := by
  obtain ⟨a, b, c, h1, h2⟩ := h.out
  exact ⟨⟨a, b, c, by rw [List.getElem?_take, if_pos hn]; exact h1, h2⟩⟩
theorem Src.lt {S : Store} {l : Nat} {k : Int} (h : Src S l k) : l < S.length := by
  obtain ⟨a, b, c, h1, h2⟩ := h.out
  exact (List.getElem?_eq_some_iff.mp h1).1
theorem Src.app {S T : Store} {l : Nat} {k : Int} (h : Src S l k) : Src (S ++ T) l k := by
  obtain ⟨a, b, c, h1, h2⟩ := h.out
  exact ⟨⟨a, b, c, by rw [List.getElem?_append_left (List.getElem?_eq_some_iff.mp h1).1]; exact h1, h2⟩⟩
/-- the source alone stands in the store -/
structure One (S : Store) (l : Nat) (k : Int) : Prop where
  src : Src S l k
  len : S.length = l + 1
  low : ∀ i, i < l → S[i]? = none ∨ ∃ o, S[i]? = some o ∧ ∀ n, obBelow n o = true
theorem Src.flat {S : Store} {l : Nat} {k : Int} (h : Src S l k) {o : Ob} (e : S[l]? = some o) (n : Nat) : obBelow n o = true := by
  obtain ⟨a, b, c, h1, _⟩ := h.out
  rw [h1] at e
  cases e
  rfl
theorem Flat.step {S S' : Store} {l : Nat} {k : Int} (h : Flat S) (hs : Src S' l k) (ho : ∀ i, i ≠ l → S'[i]? = S[i]?) : Flat S' := fun i o e n => by
  by_cases c : i = l
  · subst c
    exact hs.flat e n
  · rw [ho i c] at e
    exact h i o e n
theorem all_take {S S' : Store} {l : Nat} {k : Int} (hF : Flat S) (hs : Src S' l k) (ho : ∀ i, i ≠ l → i < S.length → S'[i]? = S[i]?) : (S'.take S.length).all (obBelow S.length) = true := by
  rw [List.all_eq_true]
  intro o hm
  obtain ⟨i, hi⟩ := List.mem_iff_getElem?.mp hm
  rw [List.getElem?_take] at hi
  split at hi
  · rename_i lt
    by_cases c : i = l
    · subst c; exact hs.flat hi _
    · rw [ho i c lt] at hi; exact hF i o hi _
  · cases hi
end QL

namespace QL
open PySem Q
/-! ### texts -/
end QL

namespace QL
open PySem Q
/-! ### numbers and names in words, by the program and by the law -/
def cDigs : List Nat := [48, 49, 50, 51, 52, 53, 54, 55, 56, 57]
theorem kSp : Str.ofString " " = SX.S [32] := by decide +kernel
theorem kMinus : Str.ofString "-" = SX.S [45] := by decide +kernel
theorem kZero : Str.ofString "0" = SX.S [48] := by decide +kernel
theorem kDigs : Str.ofString "0123456789" = SX.S cDigs := by decide +kernel
theorem kNil' : Str.ofString "" = SX.S [] := by decide +kernel
theorem dig_dec (c : Nat) : decide (c ∈ cDigs) = isDig c := by
  rw [Bool.eq_iff_iff, decide_eq_true_eq]
  unfold isDig
  rw [Bool.and_eq_true, decide_eq_true_eq, decide_eq_true_eq]
  simp only [cDigs, List.mem_cons, List.not_mem_nil, or_false]
  omega
theorem sOk_sub {a b : List Nat} (h : ∀ c ∈ b, c ∈ a) (ha : sOk a = true) : sOk b = true := by
  unfold sOk at *
  rw [List.all_eq_true] at *
  exact fun c hc => ha c (h c hc)
theorem atI_zero {α : Type} {x : α} {r : List α} : L2.atI (x :: r) 0 = some x := by
  unfold L2.atI L2.ixN
  rw [if_pos (by decide), if_pos (by simp)]
  rfl
theorem Sl_sgn {S : Store} {a : List Nat} {Q : D → Prop} (hl : a.length ≤ 1000000) (h : Q (dS (figs a))) : SlP S (dS a) (some (if decide (a.take (1 : Int).toNat = [45]) = true then 1 else 0)) none Q := by
  unfold figs sgn at h
  by_cases c : a.take 1 = [45]
  · rw [if_pos c] at h
    rw [if_pos (decide_eq_true (show a.take (1 : Int).toNat = [45] from c))]
    exact Sl_from hl (by decide) h
  · rw [if_neg c] at h
    rw [if_neg (by rw [decide_eq_true_eq]; exact c)]
    exact Sl_from hl (by decide) h
theorem Ix_str0 {S : Store} {a : List Nat} {c : Nat} {t : List Nat} {Q : D → Prop} (hl : a.length ≤ 1000000) (e : a = c :: t) (h : Q (dS [c])) : IxP S (dS a) (.int 0) Q := by
  subst e
  refine ⟨⟨dS [c], ?_, h⟩⟩
  show (if (SX.S (c :: t)).length ≤ 16777216 then (match L2.atI (c :: t) 0 with | some c => some (D.str ⟨#[c]⟩) | none => none) else none) = _
  rw [SX.S_len, if_pos (by omega), atI_zero]
theorem Cp_neS {S : Store} {a b : List Nat} {PB : Bool → Prop} (ha : sOk a = true) (hb : sOk b = true) (h : PB (!decide (a = b))) : Cp S .NotEq (dS a) (dS b) PB := by
  refine Cp_ne (EqOk.of (n := 0) (fine_S ha) (by decide)) (EqOk.of (n := 0) (fine_S hb) (by decide)) (fun e => ?_) (fun e => ?_)
  · rw [decide_eq_true (dS_inj e)] at h; exact h
  · rw [decide_eq_false (fun z => e (by rw [z]))] at h; exact h
theorem Cp_inF {S : Store} {op : CmpOp} {c : Nat} {PB : Bool → Prop} (ho : op = .In) (h : PB (isDig c)) : Cp S op (.str ⟨#[c]⟩) (dS cDigs) PB := by
  subst ho
  refine Cp_inT ?_
  rw [dig_dec]; exact h
theorem Cp_ninF {S : Store} {c : Nat} {PB : Bool → Prop} (h : PB (!isDig c)) : Cp S .NotIn (.str ⟨#[c]⟩) (dS cDigs) PB := by
  obtain ⟨k, e, rfl⟩ := (Cp_inF (S := S) (op := .In) (c := c) (PB := fun k => k = isDig c) rfl rfl).out
  exact Cp_by (k := !isDig c) (by show (inD S (.str ⟨#[c]⟩) (dS cDigs)).map (! ·) = _; rw [show inD S (.str ⟨#[c]⟩) (dS cDigs) = some (isDig c) from e]; rfl) h
def dOpt : Option Int → D
  | some i => .int i
  | none => .non
theorem figs_len (a : List Nat) : (figs a).length ≤ a.length := by
  unfold figs
  rw [List.length_drop]; omega
theorem figs_sub {a : List Nat} (h : sOk a = true) : sOk (figs a) = true := sOk_sub (fun c hc => List.mem_of_mem_drop hc) h
theorem map_all {α : Type} (p : α → Bool) (a : List α) : (a.map p).all id = a.all p := by rw [List.all_map]; rfl
theorem num_out {m : Nat} {a : List Nat} (h1 : 1 ≤ (figs a).length) (h2 : (figs a).length ≤ m) (h3 : (figs a).all isDig = true) : (∃ t, figs a = 48 :: t ∧ a ≠ [48] ∧ numOf m a = none) ∨ (∃ c t i, figs a = c :: t ∧ (c = 48 → a = [48]) ∧ numOf m a = some i) := by
  cases e : figs a with
  | nil => rw [e] at h1; simp at h1
  | cons c t =>
    by_cases hc : c = 48 ∧ a ≠ [48]
    · refine .inl ⟨t, by rw [hc.1], hc.2, ?_⟩
      unfold numOf
      rw [if_pos ⟨h1, h2, h3⟩, if_pos ⟨by rw [e, hc.1]; rfl, hc.2⟩]
    · refine .inr ⟨c, t, valOf a, rfl, fun z => Classical.byContradiction fun q => hc ⟨z, q⟩, ?_⟩
      unfold numOf
      rw [if_pos ⟨h1, h2, h3⟩, if_neg (fun z => hc ⟨by have := z.1; rw [e] at this; injection this, z.2⟩)]
theorem num_non {m : Nat} {a : List Nat} (h : ¬ (1 ≤ (figs a).length ∧ (figs a).length ≤ m ∧ (figs a).all isDig = true)) : numOf m a = none := by
  unfold numOf
  rw [if_neg h]
theorem strs_eq {S : Store} {a : List Nat} (h : sOk a = true) : EqOk S (.lst (a.map fun c => .str ⟨#[c]⟩)) := by
  refine EqOk.of (n := 1) ?_ (by decide)
  show fines 0 _ = true
  refine fines_all fun x hx => ?_
  obtain ⟨c, hc, rfl⟩ := List.mem_map.mp hx
  exact fine_S (a := [c]) (sOk_sub (fun x hx => by rw [List.mem_singleton.mp hx]; exact hc) h)
theorem fM_filter (p : Nat → Bool) (a : List Nat) : a.filterMap (fun c => if p c = true then some (D.str ⟨#[c]⟩) else none) = (a.filter p).map fun c => .str ⟨#[c]⟩ := by
  induction a with
  | nil => rfl
  | cons c a ih =>
    rw [List.filterMap_cons, List.filter_cons]
    cases h : p c with
    | true => simp only [if_true, ih, List.map_cons]
    | false =>
      show List.filterMap _ a = List.map _ (if false = true then _ else _)
      rw [ih]; rfl
theorem empty_iff {S : Store} {a : List Nat} {PB : Bool → Prop} (p : Nat → Bool) (ha : sOk a = true) (h : PB (a.all fun c => !p c)) : Cp S .Eq (.lst ((a.filter p).map fun c => .str ⟨#[c]⟩)) (.lst []) PB := by
  refine Cp_eq (strs_eq (sOk_sub (fun c hc => (List.mem_filter.mp hc).1) ha)) (EqOk.of (n := 1) rfl (by decide)) (fun e => ?_) (fun e => ?_)
  · injection e with e
    have e := List.map_eq_nil_iff.mp e
    have : (a.all fun c => !p c) = true := by
      rw [List.all_eq_true]
      intro c hc
      have := (List.filter_eq_nil_iff.mp e) c hc
      cases q : p c
      · rfl
      · exact absurd q this
    rw [this] at h; exact h
  · have : (a.all fun c => !p c) = false := by
      rw [List.all_eq_false]
      cases q : a.filter p with
      | nil => rw [q] at e; exact absurd rfl e
      | cons c t =>
        have m := List.mem_filter.mp (show c ∈ a.filter p by rw [q]; exact List.mem_cons_self ..)
        exact ⟨c, m.1, by rw [m.2]; decide⟩
    rw [this] at h; exact h
theorem nempty_iff {S : Store} {a : List Nat} {PB : Bool → Prop} (p : Nat → Bool) (ha : sOk a = true) (h : PB (!(a.all fun c => !p c))) : Cp S .NotEq (.lst ((a.filter p).map fun c => .str ⟨#[c]⟩)) (.lst []) PB := by
  obtain ⟨k, e, rfl⟩ := (empty_iff (S := S) (PB := fun k => k = a.all fun c => !p c) p ha rfl).out
  refine Cp_by (k := !(a.all fun c => !p c)) ?_ h
  show (eqD S _ _).map (! ·) = _
  rw [show eqD S (.lst ((a.filter p).map fun c => .str ⟨#[c]⟩)) (.lst []) = some _ from e]; rfl
end QL

namespace QL
open PySem Q
/-! ### parts in words -/
theorem kArr : Str.ofString ">>" = SX.S [62, 62] := by decide +kernel
theorem Md_part {S : Store} {z : Str} {q : MId → Prop} (h : q .partition) : MdP S (.str z) "partition" q := ⟨⟨_, rfl, h⟩⟩
/-- the part that a word writes -/
def partOf (q : List Nat) : Option (Int × Int) :=
  match TL.par [62, 62] [] q with
  | none => none
  | some (a, b) => match numOf 40 a, numOf 3 b with
    | some i, some e => if 0 ≤ e ∧ (e = 0 ∨ i % 2 = 1) then some (i, e) else none
    | _, _ => none
def dPart : Option (Int × Int) → D
  | some (i, e) => .tup [.int i, .int e]
  | none => .non
theorem par_ne {S : List Nat} : ∀ {l acc a b : List Nat}, TL.par S acc l = some (a, b) → ∃ c, a = acc ++ c ∧ (∀ x ∈ c, x ∈ l) ∧ (∀ x ∈ b, x ∈ l) ∧ c.length + b.length ≤ l.length
  | [], acc, a, b, h => by cases h
  | c :: r, acc, a, b, h => by
    cases q : TL.pre S (c :: r) with
    | true =>
      have h : (if TL.pre S (c :: r) = true then some (acc, (c :: r).drop S.length) else TL.par S (acc ++ [c]) r) = some (a, b) := h
      rw [if_pos q] at h
      cases h
      exact ⟨[], by simp, by simp, fun x hx => List.mem_of_mem_drop hx, by rw [List.length_drop]; simp⟩
    | false =>
      have h : (if TL.pre S (c :: r) = true then some (acc, (c :: r).drop S.length) else TL.par S (acc ++ [c]) r) = some (a, b) := h
      rw [if_neg (by rw [q]; decide)] at h
      obtain ⟨d, e1, e2, e3, e4⟩ := par_ne h
      exact ⟨c :: d, by rw [e1]; simp, fun x hx => by
        rcases List.mem_cons.mp hx with rfl | hx
        · exact List.mem_cons_self ..
        · exact List.mem_cons_of_mem _ (e2 x hx), fun x hx => List.mem_cons_of_mem _ (e3 x hx), by simp only [List.length_cons]; omega⟩
theorem numOf_sign {m : Nat} {a : List Nat} {i : Int} (h : numOf m a = some i) {c : Nat} (hc : c ∈ a) : c = 45 ∨ isDig c = true := by
  have n := numOf_some h
  rcases sgn_cases a with ⟨-, e⟩ | ⟨-, e⟩
  · rw [← e] at hc
    exact .inr (List.all_eq_true.mp n.dig c hc)
  · rw [e] at hc
    rcases List.mem_cons.mp hc with rfl | hc
    · exact .inl rfl
    · exact .inr (List.all_eq_true.mp n.dig c hc)
theorem par_in {q a b : List Nat} (h : TL.par [62, 62] [] q = some (a, b)) (hs : sOk q = true) : sOk a = true ∧ sOk b = true ∧ a.length + b.length ≤ q.length := by
  obtain ⟨c, e1, e2, e3, e4⟩ := par_ne h
  rw [List.nil_append] at e1
  subst e1
  exact ⟨sOk_sub e2 hs, sOk_sub e3 hs, e4⟩
theorem partOf_none {q : List Nat} (h : TL.par [62, 62] [] q = none) : partOf q = none := by unfold partOf; rw [h]
theorem partOf_a {q a b : List Nat} (h : TL.par [62, 62] [] q = some (a, b)) (x : numOf 40 a = none) : partOf q = none := by unfold partOf; rw [h]; simp only [x]
theorem partOf_b {q a b : List Nat} (h : TL.par [62, 62] [] q = some (a, b)) (y : numOf 3 b = none) : partOf q = none := by
  unfold partOf; rw [h]
  cases x : numOf 40 a <;> simp only [x, y]
theorem partOf_ab {q a b : List Nat} {i e : Int} (h : TL.par [62, 62] [] q = some (a, b)) (x : numOf 40 a = some i) (y : numOf 3 b = some e) : partOf q = if 0 ≤ e ∧ (e = 0 ∨ i % 2 = 1) then some (i, e) else none := by
  unfold partOf; rw [h]; simp only [x, y]
end QL

namespace QL
open PySem Q
/-! ### the words taken one behind the other -/
/-- the words stand at a place, so many are taken -/
def Wd (l : Nat) (ws : List (List Nat)) (k : Int) (S : Store) : Prop := S[l]? = some (.ins "Words" [("words", .lst (ws.map dS)), ("spot", .int k)])
theorem wd_set {S : Store} {l : Nat} {ws : List (List Nat)} {k j : Int} (h : Wd l ws k S) : Wd l ws j (S.set l (.ins "Words" (putFD "spot" (.int j) [("words", .lst (ws.map dS)), ("spot", .int k)]))) := by
  unfold Wd
  rw [List.getElem?_set_self (List.getElem?_eq_some_iff.mp h).1]
  rfl
section
variable {S : Store} {l : Nat} {ws : List (List Nat)} {k : Nat}
theorem fl_words {q : D → Prop} (h : Wd l ws k S) (hq : q (.lst (ws.map dS))) : FlP ["Words"] S (.ref l) "words" q := Fl_ref h (by decide +kernel) (by rfl) hq
theorem fl_spot {j : Int} {q : D → Prop} (h : Wd l ws j S) (hq : q (.int j)) : FlP ["Words"] S (.ref l) "spot" q := Fl_ref h (by decide +kernel) (by rfl) hq
def cCredit : List Nat := [99, 114, 101, 100, 105, 116]
def cTree : List Nat := [116, 114, 101, 101]
def cMatch : List Nat := [109, 97, 116, 99, 104]
theorem kCredit : Str.ofString "credit" = SX.S cCredit := by decide +kernel
theorem kTree : Str.ofString "tree" = SX.S cTree := by decide +kernel
theorem kMatch : Str.ofString "match" = SX.S cMatch := by decide +kernel
/-- a text in a tuple of texts -/
theorem Cp_in3 {S : Store} {a b c d : List Nat} {PB : Bool → Prop} (ha : sOk a = true) (hb : sOk b = true) (hc : sOk c = true) (hd : sOk d = true) (h : PB (decide (a = b) || (decide (a = c) || decide (a = d)))) : Cp S .In (dS a) (.tup [dS b, dS c, dS d]) PB := by
  obtain ⟨p1, x, a1, a2, a3⟩ := fine_ok 0 (dS a) (fine_S ha)
  have hs : fines 0 [dS b, dS c, dS d] = true := fines_S (ns := [b, c, d]) (by simp [hb, hc, hd])
  obtain ⟨q1, as, b1, b2, b3⟩ := fines_ok 0 [dS b, dS c, dS d] hs
  have e1 : toPyS S (dS a) = some x := by rw [toPyS_pln p1]; exact a1
  have e2 : toPyS S (.tup [dS b, dS c, dS d]) = some (.tuple as) := by
    rw [toPyS_pln (by simpa [pln] using q1), toPy, b1]
  have s1 : SeqAt.shaped x = true := by unfold SeqAt.shaped; rw [a2, decide_eq_true (by omega)]; rfl
  have s2 : SeqAt.shaped (.tuple as) = true := by
    unfold SeqAt.shaped
    rw [PyData.canLay0, b2, decide_eq_true (by simp only [PyData.depth]; omega)]; rfl
  have m := any_mem q1 p1 a1 b1
  refine ⟨⟨as.any fun z => PyData.eqv z x, ?_, ?_⟩⟩
  · show inSeq S (dS a) (.tup [dS b, dS c, dS d]) = _
    unfold inSeq
    rw [e1, e2]
    exact if_pos ⟨s1, s2⟩
  · have : (as.any fun z => PyData.eqv z x) = (decide (a = b) || (decide (a = c) || decide (a = d))) := by
      rw [Bool.eq_iff_iff, m, Bool.or_eq_true, Bool.or_eq_true, decide_eq_true_eq, decide_eq_true_eq, decide_eq_true_eq]
      have := mem_dS (ns := [b, c, d]) (a := a)
      simp only [List.map_cons, List.map_nil, List.mem_cons, List.not_mem_nil, or_false] at this
      simp only [List.mem_cons, List.not_mem_nil, or_false]
      exact this
    rw [this]
    exact h
end
end QL

namespace QL
open PySem Q
/-! ### ways, and their form -/
def cEven : List Nat := [101, 118, 101, 110]
theorem kEven : Str.ofString "even" = SX.S cEven := by decide +kernel
def cHalf : List Nat := [104, 97, 108, 102]
theorem kHalf : Str.ofString "half" = SX.S cHalf := by decide +kernel
def cGain : List Nat := [103, 97, 105, 110]
theorem kGain : Str.ofString "gain" = SX.S cGain := by decide +kernel
def cKeep : List Nat := [107, 101, 101, 112]
theorem kKeep : Str.ofString "keep" = SX.S cKeep := by decide +kernel
def cTell : List Nat := [116, 101, 108, 108]
theorem kTell : Str.ofString "tell" = SX.S cTell := by decide +kernel
def cGive : List Nat := [103, 105, 118, 101]
theorem kGive : Str.ofString "give" = SX.S cGive := by decide +kernel
def cReport : List Nat := [114, 101, 112, 111, 114, 116]
theorem kReport : Str.ofString "report" = SX.S cReport := by decide +kernel
def cSend : List Nat := [115, 101, 110, 100]
theorem kSend : Str.ofString "send" = SX.S cSend := by decide +kernel
def cCome : List Nat := [99, 111, 109, 101]
theorem kCome : Str.ofString "come" = SX.S cCome := by decide +kernel
def cRest : List Nat := [114, 101, 115, 116]
theorem kRest : Str.ofString "rest" = SX.S cRest := by decide +kernel
def cRoot : List Nat := [114, 111, 111, 116]
theorem kRoot : Str.ofString "root" = SX.S cRoot := by decide +kernel
def cOthr : List Nat := [111, 116, 104, 101, 114]
theorem kOthr : Str.ofString "other" = SX.S cOthr := by decide +kernel
def cAny : List Nat := [97, 110, 121]
theorem kAny : Str.ofString "any" = SX.S cAny := by decide +kernel
def cWaker : List Nat := [119, 97, 107, 101, 114]
theorem kWaker : Str.ofString "waker" = SX.S cWaker := by decide +kernel
def cSender : List Nat := [115, 101, 110, 100, 101, 114]
theorem kSender : Str.ofString "sender" = SX.S cSender := by decide +kernel
def cIf : List Nat := [105, 102]
theorem kIf : Str.ofString "if" = SX.S cIf := by decide +kernel
def cDo : List Nat := [100, 111]
theorem kDo : Str.ofString "do" = SX.S cDo := by decide +kernel
def cTo : List Nat := [116, 111]
theorem kTo : Str.ofString "to" = SX.S cTo := by decide +kernel
def cPurses : List Nat := [112, 117, 114, 115, 101, 115]
theorem kPurses : Str.ofString "purses" = SX.S cPurses := by decide +kernel
def cStates : List Nat := [115, 116, 97, 116, 101, 115]
theorem kStates : Str.ofString "states" = SX.S cStates := by decide +kernel
def cKinds : List Nat := [107, 105, 110, 100, 115]
theorem kKinds : Str.ofString "kinds" = SX.S cKinds := by decide +kernel
def cBegin : List Nat := [98, 101, 103, 105, 110]
theorem kBegin : Str.ofString "begin" = SX.S cBegin := by decide +kernel
def cGt : List Nat := [62]
theorem kGt : Str.ofString ">" = SX.S cGt := by decide +kernel
def cEqs : List Nat := [61]
theorem kEqs : Str.ofString "=" = SX.S cEqs := by decide +kernel
inductive Te where
  | mat | even | more (p : List Nat) | eq (p : List Nat) (n e : Int)
inductive Ac where
  | half (p : List Nat) | add (p : List Nat) (n : Int) | gain | keep | tell | give (k g : List Nat) (qs : List (List Nat)) | report (k : List Nat)
structure Ru where
  ev : List Nat
  ro : List Nat
  st : List Nat
  ts : List Te
  as : List Ac
  la : List Nat
structure Wy where
  ps : List (List Nat)
  ss : List (List Nat)
  ks : List (List Nat)
  b : List Nat
  bp : List (Int × Int)
  rs : List Ru
def dPt (p : Int × Int) : D := .tup [.int p.1, .int p.2]
def dTe : Te → D
  | .mat => .tup [dS cMatch]
  | .even => .tup [dS cEven]
  | .more p => .tup [dS p, dS cGt]
  | .eq p n e => .tup [dS p, dS cEqs, dPt (n, e)]
def dAc : Ac → D
  | .half p => .tup [dS cHalf, dS p]
  | .add p n => .tup [dS cAdd, dS p, .int n]
  | .gain => .tup [dS cGain]
  | .keep => .tup [dS cKeep]
  | .tell => .tup [dS cTell]
  | .give k g qs => .tup [dS cGive, dS k, dS g, .tup (qs.map dS)]
  | .report k => .tup [dS cReport, dS k]
def dRu (r : Ru) : D := .tup [dS r.ev, dS r.ro, dS r.st, .tup (r.ts.map dTe), .tup (r.as.map dAc), dS r.la]
def dWy (w : Wy) : D := .tup [.tup (w.ps.map dS), .tup (w.ss.map dS), .tup (w.ks.map dS), .tup [dS w.b, .tup (w.bp.map dPt)], .tup (w.rs.map dRu)]
/-- the names that stand in these -/
def teN : Te → List (List Nat)
  | .more p => [p]
  | .eq p _ _ => [p]
  | _ => []
def acN : Ac → List (List Nat)
  | .half p => [p]
  | .add p _ => [p]
  | .give k g qs => k :: g :: qs
  | .report k => [k]
  | _ => []
def ruN (r : Ru) : List (List Nat) := r.ev :: r.ro :: r.st :: r.la :: (r.ts.flatMap teN ++ r.as.flatMap acN)
def wyN (w : Wy) : List (List Nat) := w.ps ++ (w.ss ++ (w.ks ++ (w.b :: w.rs.flatMap ruN)))
/-- a text of no matter what signs -/
def Nm (a : List Nat) : Prop := sOk a = true ∧ a.length ≤ 99999
/-! what the form asks -/
def partB (n e : Int) : Bool := decide (0 ≤ e ∧ (e = 0 ∨ n % 2 = 1))
def namesB (lo hi : Nat) (ns : List (List Nat)) : Bool := decide (lo ≤ ns.length ∧ ns.length ≤ hi) && (ns.all okName && decide ns.Nodup)
def teB (ps : List (List Nat)) : Te → Bool
  | .more p => okName p && decide (p ∈ ps)
  | .eq p n e => okName p && (decide (p ∈ ps) && partB n e)
  | _ => true
def quietB (ev : List Nat) : Bool := decide (ev = cSend) || decide (ev = cRest)
def acB (ev : List Nat) (ps ks : List (List Nat)) : Ac → Bool
  | .half p => decide (ev = cSend) && decide (p ∈ ps)
  | .add p n => decide (p ∈ ps) && decide (-3 ≤ n ∧ n ≤ 3)
  | .gain => !quietB ev
  | .keep => decide (ev = cCome)
  | .tell => true
  | .give k g qs => (decide (k ∈ ks) && decide (g ∈ [cRoot, cWaker, cSender])) && (!(decide (g = cSender) && quietB ev) && (namesB 0 3 qs && qs.all fun q => decide (q ∈ ps)))
  | .report k => decide (k ∈ ks)
def evs (ks : List (List Nat)) : List (List Nat) := [cSend, cCome, cRest] ++ ks
def ruB (ps ss ks : List (List Nat)) (r : Ru) : Bool :=
  (decide (r.ev ∈ evs ks) && decide (r.ro ∈ [cRoot, cOthr, cAny])) && ((decide (r.st ∈ ss) && decide (r.la ∈ ss)) && ((decide (r.ts.length ≤ 3) && decide (r.as.length ≤ 4)) && (r.ts.all (teB ps) && r.as.all (acB r.ev ps ks))))
def beginB (w : Wy) : Bool := decide (w.b ∈ w.ss) && (decide (w.bp.length = w.ps.length) && w.bp.all fun p => partB p.1 p.2)
def wyB (w : Wy) : Bool :=
  (namesB 0 3 w.ps && namesB 1 4 w.ss) && ((namesB 0 3 w.ks && w.ks.all fun k => !decide (k ∈ [cSend, cCome, cRest])) && ((beginB w && decide (w.rs.length ≤ 40)) && w.rs.all (ruB w.ps w.ss w.ks)))
/-! rules -/
theorem inU {S : Store} {ns : List (List Nat)} {a : List Nat} (ha : sOk a = true) (hs : ∀ b ∈ ns, sOk b = true) : inD S (dS a) (.tup (ns.map dS)) = some (decide (a ∈ ns)) := by
  obtain ⟨p1, x, a1, a2, a3⟩ := fine_ok 0 (dS a) (fine_S ha)
  have hs : fines 0 (ns.map dS) = true := fines_S hs
  obtain ⟨q1, as, b1, b2, b3⟩ := fines_ok 0 (ns.map dS) hs
  have e1 : toPyS S (dS a) = some x := by rw [toPyS_pln p1]; exact a1
  have e2 : toPyS S (.tup (ns.map dS)) = some (.tuple as) := by
    rw [toPyS_pln (by simpa [pln] using q1), toPy, b1]
  have s1 : SeqAt.shaped x = true := by unfold SeqAt.shaped; rw [a2, decide_eq_true (by omega)]; rfl
  have s2 : SeqAt.shaped (.tuple as) = true := by
    unfold SeqAt.shaped
    rw [PyData.canLay0, b2, decide_eq_true (by simp only [PyData.depth]; omega)]; rfl
  have m := any_mem q1 p1 a1 b1
  have : (as.any fun z => PyData.eqv z x) = decide (a ∈ ns) := by
    rw [Bool.eq_iff_iff, m, decide_eq_true_eq]
    exact mem_dS
  show inSeq S (dS a) (.tup (ns.map dS)) = _
  unfold inSeq
  rw [e1, e2, ← this]
  exact if_pos ⟨s1, s2⟩
theorem Cp_inU {S : Store} {ns : List (List Nat)} {a : List Nat} {PB : Bool → Prop} (ha : sOk a = true) (hs : ∀ b ∈ ns, sOk b = true) (h : PB (decide (a ∈ ns))) : Cp S .In (dS a) (.tup (ns.map dS)) PB := ⟨⟨_, inU ha hs, h⟩⟩
theorem Cp_ninU {S : Store} {ns : List (List Nat)} {a : List Nat} {PB : Bool → Prop} (ha : sOk a = true) (hs : ∀ b ∈ ns, sOk b = true) (h : PB (!decide (a ∈ ns))) : Cp S .NotIn (dS a) (.tup (ns.map dS)) PB := ⟨⟨_, by show (inD S _ _).map (! ·) = _; rw [inU ha hs]; rfl, h⟩⟩
theorem quiet_in {S : Store} {ev : List Nat} {PB : Bool → Prop} (he : sOk ev = true) (h : PB (quietB ev)) : Cp S .In (dS ev) (.tup [dS cSend, dS cRest]) PB :=
  Cp_in2 he (by decide) (by decide) h
theorem quiet_nin {S : Store} {ev : List Nat} {PB : Bool → Prop} (he : sOk ev = true) (h : PB (!quietB ev)) : Cp S .NotIn (dS ev) (.tup [dS cSend, dS cRest]) PB := by
  obtain ⟨k, e, rfl⟩ := (quiet_in (S := S) (PB := fun k => k = quietB ev) he rfl).out
  exact ⟨⟨!quietB ev, by show (inD S _ _).map (! ·) = _; rw [show inD S (dS ev) (.tup [dS cSend, dS cRest]) = some (quietB ev) from e]; rfl, h⟩⟩
theorem LsU {S : Store} {ns : List (List Nat)} {Q : D → Prop} (hn : ns.Nodup) (hl : ns.length ≤ 1000) (h : Q (.int ns.length)) : LsP S (.tup (ns.map dS)) Q := by
  refine ⟨⟨.int ns.length, ?_, h⟩⟩
  unfold lenSetD
  show (match some (ns.map dS) with | some ys => (match strsOf ys with | some zs => if zs.length ≤ 1000 then some (D.int (onceS [] zs).length) else none | none => none) | none => none) = _
  rw [map_dS]
  simp only [strs_map]
  rw [if_pos (by rw [List.length_map]; exact hl), onceS_nodup _ [] (by rw [List.nil_append]; exact nodup_S hn), List.nil_append, List.length_map]
theorem once_leU : ∀ (xs acc : List Str), (onceS acc xs).length ≤ acc.length + xs.length
  | [], acc => by simp [onceS]
  | x :: xs, acc => by
    unfold onceS
    split
    · have := once_leU xs acc
      rw [List.length_cons]; omega
    · have := once_leU xs (acc ++ [x])
      rw [List.length_append, List.length_singleton] at this
      rw [List.length_cons]; omega
theorem once_ltU : ∀ (xs acc : List Str), acc.Nodup → ¬ (acc ++ xs).Nodup → (onceS acc xs).length < acc.length + xs.length
  | [], acc, h, n => by rw [List.append_nil] at n; exact absurd h n
  | x :: xs, acc, h, n => by
    unfold onceS
    split
    · have := once_leU xs acc
      rw [List.length_cons]; omega
    · next hx =>
      have h2 : (acc ++ [x]).Nodup := by
        rw [List.nodup_append]
        refine ⟨h, by simp, fun a ha b hb => ?_⟩
        rw [List.mem_singleton.mp hb]
        exact fun z => hx (z ▸ ha)
      have := once_ltU xs (acc ++ [x]) h2 (by rw [List.append_assoc]; exact n)
      rw [List.length_append, List.length_singleton] at this
      rw [List.length_cons]; omega
theorem nodup_SU {ns : List (List Nat)} (h : (ns.map SX.S).Nodup) : ns.Nodup := by
  unfold List.Nodup at *
  rw [List.pairwise_map] at h
  exact h.imp fun h e => h (by rw [e])
theorem LdU {S : Store} {ns : List (List Nat)} {Q : D → Prop} (hn : ¬ ns.Nodup) (hl : ns.length ≤ 1000) (h : ∀ k : Nat, k < ns.length → Q (.int k)) : LsP S (.tup (ns.map dS)) Q := by
  refine ⟨⟨.int (onceS [] (ns.map SX.S)).length, ?_, h _ ?_⟩⟩
  · unfold lenSetD
    show (match some (ns.map dS) with | some ys => (match strsOf ys with | some zs => if zs.length ≤ 1000 then some (D.int (onceS [] zs).length) else none | none => none) | none => none) = _
    rw [map_dS]
    simp only [strs_map]
    rw [if_pos (by rw [List.length_map]; exact hl)]
  · have := once_ltU (ns.map SX.S) [] List.nodup_nil (by rw [List.nil_append]; exact fun z => hn (nodup_SU z))
    rw [List.length_map] at this
    simpa using this
section
variable {S : Store} {ps ss ks : List (List Nat)}
/-- all of these, asked one by one -/
theorem all_of {α : Type} (xs : List α) (g : α → Bool) : ((xs.map g).all id) = xs.all g := by rw [List.all_map]; rfl
theorem bls_of {α : Type} (xs : List α) (g : α → Bool) : xs.map (fun x => D.bl (g x)) = (xs.map g).map D.bl := by rw [List.map_map]; rfl
theorem fine_pt (n e : Int) (k : Nat) : fine (k + 1) (dPt (n, e)) = true := by
  show (fine k (.int n) && (fine k (.int e) && true)) = true
  cases k <;> rfl
theorem te_fine {t : Te} (h : ∀ a ∈ teN t, sOk a = true) : fine 2 (dTe t) = true := by
  cases t with
  | mat => show (fine 1 (dS cMatch) && true) = true; rw [fine_S (by decide)]; rfl
  | even => show (fine 1 (dS cEven) && true) = true; rw [fine_S (by decide)]; rfl
  | more p => show (fine 1 (dS p) && (fine 1 (dS cGt) && true)) = true; rw [fine_S (h p (by simp [teN])), fine_S (by decide)]; rfl
  | eq p n e => show (fine 1 (dS p) && (fine 1 (dS cEqs) && (fine 1 (dPt (n, e)) && true))) = true; rw [fine_S (h p (by simp [teN])), fine_S (by decide), fine_pt]; rfl
end
end QL

namespace QL
open PySem Q
/-! ### drawn names (k31, k32, k33) -/
theorem Bn_catN {S : Store} {d e : D} {as bs : List (List Nat)} {R : D → Prop} (e1 : seqL S d = some (as.map dS)) (e2 : seqL S e = some (bs.map dS)) (hb : as.length + bs.length ≤ 1000) (h : R (.lst ((as ++ bs).map dS))) : Bn S .Add d e R :=
  Bn_catq e1 e2 (by rw [List.length_map, List.length_map]; omega) (by rw [← List.map_append]; exact h)
/-- of 26 words, unlike ones, and few others: one is none of these -/
theorem some_left {α : Type} [DecidableEq α] {xs ys : List α} (nd : xs.Nodup) (h : ys.length < xs.length) : ∃ x ∈ xs, x ∉ ys := by
  induction xs generalizing ys with
  | nil => simp at h
  | cons x xs ih =>
    rw [List.nodup_cons] at nd
    by_cases c : x ∈ ys
    · have l2 : (ys.erase x).length = ys.length - 1 := List.length_erase_of_mem c
      have p : 0 < ys.length := List.length_pos_of_mem c
      obtain ⟨y, hy, ny⟩ := ih (ys := ys.erase x) nd.2 (by rw [l2]; rw [List.length_cons] at h; omega)
      refine ⟨y, List.mem_cons_of_mem _ hy, fun z => ny ?_⟩
      exact (List.mem_erase_of_ne (fun e => nd.1 (by rw [← e]; exact hy))).mpr z
    · exact ⟨x, List.mem_cons_self .., c⟩
def rest26 (w : List Nat) (s : Nat) : List (List Nat) := (List.range 26).map fun j => w.take 7 ++ [97 + (s + j) % 26]
theorem rest26_nd (w : List Nat) (s : Nat) (hs : s < 26) : (rest26 w s).Nodup := by
  unfold rest26 List.Nodup
  rw [List.pairwise_map]
  refine List.Pairwise.imp_of_mem ?_ (List.nodup_range (n := 26))
  intro i j hi hj ne e
  rw [List.mem_range] at hi hj
  have e := List.append_cancel_left e
  injection e with e _
  omega
theorem rest26_ok {w : List Nat} {s : Nat} (hw : ∀ c ∈ w, low26 c = true) : ∀ a ∈ rest26 w s, okName a = true := fun a ha => by
  obtain ⟨j, -, rfl⟩ := List.mem_map.mp ha
  refine okName_mk (by simp) (by rw [List.length_append, List.length_take, List.length_singleton]; omega) (fun c hc => ?_)
  rcases List.mem_append.mp hc with z | z
  · exact hw c (List.mem_of_mem_take z)
  · rw [List.mem_singleton.mp z]
    have := Nat.mod_lt (s + j) (show 0 < 26 by decide)
    generalize (s + j) % 26 = n at *
    have : ∀ n < 26, low26 (97 + n) = true := by decide
    exact this n (by omega)
/-- a word of the row's 26, unlike all that stand there -/
abbrev zFresh : XS :=
  (zSeq (zSet 7 (ca m__law_draw (Q.a1 (vv 0) (Q.a1 (kk (.int 26)) Q.a0))))
  (zSeq (zSet 8 (lcv [6] (r1 (kk (.int 26))) (b1 6) (bi .Add (sl (vv 5) p0 (p1 (kk (.int 7)))) (ix (kk (.str (SX.S ((List.range 26).map (97 + ·))))) (bi .Mod (bl .int (Q.a1 (bi .Add (vv 7) (vv 6)) Q.a0)) (kk (.int 26)))))))
  (zSet 5 (ix (lcv1 [9] (iv (vv 8)) (b1 9) (tCm (cm .NotIn (vv 9) (bi .Add (vv 3) (vv 2)))) (vv 9)) (kk (.int 0))))))
theorem fresh_w {S : Store} {l f : Nat} {k n i : Int} {a : List Nat} {known ns : List (List Nat)} {x6 x7 x8 x9 : Option D} {nx : Q.Env → Store → Prop} {rt : D → Store → Prop} {bk ct : Q.Env → Store → Prop} {ex : Str → Q.Env → Store → Prop} (h : Src S l k) (hk : k ≤ 95000) (hf : f ≠ l) (g : S[f]? = some (.lst (ns.map dS)))
    (al : a.length ≤ 7) (ac : ∀ c ∈ a, low26 c = true) (nl : ns.length ≤ 4) (kl : known.length ≤ 3) (nk : ∀ b ∈ ns ++ known, sOk b = true)
    (hq : ∀ b y7 y8 S', okName b = true → Src S' l (k + 1) → S'.length = S.length → (∀ i, i ≠ l → S'[i]? = S[i]?) → nx [some (.ref l), some (.int n), some (.lst (known.map dS)), some (.ref f), some (.int i), some (dS b), x6, some y7, some y8, x9] S') :
    Z zFresh [some (.ref l), some (.int n), some (.lst (known.map dS)), some (.ref f), some (.int i), some (dS a), x6, x7, x8, x9] S ⟨nx, rt, bk, ct, ex⟩ := by
  have hlt := h.lt
  unfold zFresh
  (repeat' (first | fail "q1" | fail "q2" | fail "q4" | fail))
  refine draw_w h (by omega) (by decide) (by decide) (fun s S1 a0 a1 hs1 l1 o1 => ?_)
  obtain ⟨t, rfl⟩ : ∃ t : Nat, s = t := ⟨s.toNat, by omega⟩
  have g1 : S1[f]? = some (.lst (ns.map dS)) := by rw [o1 f hf]; exact g
  have e26 : rangeD 0 26 = ⟨(List.range 26).map (fun j : Nat => D.int (j : Int)), none, false⟩ := by rfl
  (repeat' (first | fail "q1" | fail "q2" | fail "q4" | fail))
  rw [e26]
  refine CfMap (g := fun j : Nat => D.int (j : Int)) (h := fun j : Nat => dS (a.take 7 ++ [97 + (t + j) % 26])) (by rw [List.length_range]; decide) (fun j hj => ?_) ?_
  · have m0 : 0 ≤ ((t : Int) + (j : Int)) % 26 := by omega
    have m1 : ((t : Int) + (j : Int)) % 26 < 26 := by omega
    have e : letter (((t : Int) + (j : Int)) % 26) = 97 + (t + j) % 26 := by unfold letter; omega
    (repeat' (first | refine Sl_to (by omega) (by decide) ?_ | refine Ix_alphaS m0 m1 ?_ | refine Bn_catS (by rw [List.length_singleton, List.length_take]; omega) ?_ | fail "q1" | fail "q2" | fail "q4" | fail))
    rw [e]
    exact ⟨rfl, rfl⟩
  have er : (List.range 26).map (fun j : Nat => dS (a.take 7 ++ [97 + (t + j) % 26])) = (rest26 a t).map dS := by
    unfold rest26
    rw [List.map_map]; rfl
  rw [er]
  (repeat' (first | fail "q1" | fail "q2" | fail "q4" | fail))
  have rl : (rest26 a t).length = 26 := by unfold rest26; rw [List.length_map, List.length_range]
  have ro := rest26_ok (s := t) ac
  refine CfFM (xs := rest26 a t) (g := dS) (fun b => if b ∈ ns ++ known then none else some (dS b)) (by rw [rl]; decide) (fun b hb => ?_) ?_
  · (repeat' (first | refine Bn_catN (seqL_ref g1) rfl (by omega) ?_ | fail "q1" | fail "q2" | fail "q4" | fail))
    refine Cp_ninS (d := .lst ((ns ++ known).map dS)) (ns := ns ++ known) rfl (okName_s (ro b hb)) nk ?_
    by_cases c : b ∈ ns ++ known
    · rw [decide_eq_true c, if_pos c]
      (repeat' (first | fail "q1" | fail "q2" | fail "q4" | fail))
      exact ⟨rfl, rfl⟩
    · rw [decide_eq_false c, if_neg c]
      (repeat' (first | fail "q1" | fail "q2" | fail "q4" | fail))
      exact ⟨rfl, rfl⟩
  have e2 : (rest26 a t).filterMap (fun b => if b ∈ ns ++ known then none else some (dS b)) = ((rest26 a t).filter fun b => decide (b ∉ ns ++ known)).map dS := by
    generalize rest26 a t = vs
    induction vs with
    | nil => rfl
    | cons v t ih =>
      rw [List.filterMap_cons, List.filter_cons]
      by_cases c : v ∈ ns ++ known
      · rw [if_pos c, ih, decide_eq_false (fun z => z c)]; rfl
      · rw [if_neg c, ih, decide_eq_true c]; rfl
  rw [e2]
  obtain ⟨b, hb, nb⟩ := some_left (rest26_nd a t (by omega)) (ys := ns ++ known) (by rw [rl, List.length_append]; omega)
  have pos : 0 < ((rest26 a t).filter fun b => decide (b ∉ ns ++ known)).length := List.length_pos_of_mem (List.mem_filter.mpr ⟨hb, decide_eq_true nb⟩)
  (repeat' (first | fail "q1" | fail "q2" | fail "q4" | fail))
  refine Ix_pick (fun d => ∃ b, d = dS b ∧ okName b = true) (show (0 : Int) ≤ 0 from by decide) (show (0 : Int) < ((((rest26 a t).filter fun b => decide (b ∉ ns ++ known)).map dS).length : Nat) from by rw [List.length_map]; omega) (fun d hd => ?_) ?_
  · obtain ⟨c, hc, rfl⟩ := List.mem_map.mp hd
    exact ⟨c, rfl, ro c (List.mem_filter.mp hc).1⟩
  rintro d ⟨c, rfl, oc⟩
  (repeat' (first | fail "q1" | fail "q2" | fail "q4" | fail))
  exact hq c _ _ S1 oc hs1 l1 o1
theorem names3_w {S : Store} {l : Nat} {k n : Int} {known : List (List Nat)} (h : Src S l k) (hk : k ≤ 92000) (n0 : 0 ≤ n) (n4 : n ≤ 4) (kl : known.length ≤ 3) (ks : ∀ b ∈ known, sOk b = true) {Qd : D → Store → Prop} {E : EX}
    (hQ : ∀ (ns : List (List Nat)) S', ns.length = n.toNat → (∀ a ∈ ns, okName a = true) → S'[S.length]? = some (.lst (ns.map dS)) → S'.length = S.length + 1 → Src S' l (k + 60) → Kp l S S' → Qd (.ref S.length) S') : W (m__law_names [.ref l, .int n, .lst (known.map dS)] S) Qd E := by
  have hlt := h.lt
  apply w__law_names
  unfold z__law_names
  rw [alpha, kNil']
  (repeat' (first | fail "q1" | fail "q2" | fail "q4" | fail))
  refine Lp_inv (fun i σ S' => ∃ (ns : List (List Nat)) (x4 x5 x6 x7 x8 x9 : Option D), σ = [some (.ref l), some (.int n), some (.lst (known.map dS)), some (.ref S.length), x4, x5, x6, x7, x8, x9] ∧ ns.length = i ∧ (∀ a ∈ ns, okName a = true) ∧ S'[S.length]? = some (.lst (ns.map dS)) ∧ S'.length = S.length + 1 ∧ Src S' l (k + 12 * i) ∧ Kp l S S')
    ⟨[], _, _, _, _, _, _, rfl, rfl, fun a ha => by simp at ha, by simp, by simp, h.app.mono (by omega), .app⟩ ?_ ?_ (by rw [range_len]; omega)
  · rintro i d σ S1 hd ⟨ns, x4, x5, x6, x7, x8, x9, rfl, nl, ok, g1, l1, hs1, K1⟩
    obtain ⟨rfl, hi⟩ := range_get hd
    have hne : S.length ≠ l := by omega
    (repeat' (first | fail "q1" | fail "q2" | fail "q4" | fail))
    refine draw_w hs1 (by omega) (by decide) (by decide) (fun m S2 a0 a1 hs2 l2 o2 => ?_)
    have g2 : S2[S.length]? = some (.lst (ns.map dS)) := by rw [o2 _ hne]; exact g1
    (repeat' (first | fail "q1" | fail "q2" | fail "q4" | fail))
    refine Lp_inv (fun j σ S' => ∃ (a : List Nat) (x6 : Option D), σ = [some (.ref l), some (.int n), some (.lst (known.map dS)), some (.ref S.length), some (.int i), some (dS a), x6, x7, x8, x9] ∧ a.length = j ∧ (∀ c ∈ a, low26 c = true) ∧ Src S' l (k + 12 * i + 1 + j) ∧ S'.length = S2.length ∧ (∀ i, i ≠ l → S'[i]? = S2[i]?)) ⟨[], _, rfl, rfl, fun a ha => by simp at ha, hs2.mono (by omega), rfl, fun _ _ => rfl⟩ ?_ ?_ (by rw [range_len]; omega)
    · rintro j d σ S3 hd ⟨a, x6, rfl, al, ac, hs3, l3, o3⟩
      obtain ⟨rfl, hj⟩ := range_get hd
      (repeat' (first | fail "q1" | fail "q2" | fail "q4" | fail))
      refine draw_w hs3 (by omega) (by decide) (by decide) (fun c S4 c0 c1 hs4 l4 o4 => ?_)
      (repeat' (first | refine Ix_alphaS c0 c1 ?_ | refine Bn_catS (by rw [List.length_singleton]; omega) ?_ | fail "q1" | fail "q2" | fail "q4" | fail))
      refine ⟨a ++ [letter c], _, rfl, by rw [List.length_append, al]; rfl, fun x hx => ?_, hs4.mono (by omega), by omega, fun i hi => by rw [o4 i hi, o3 i hi]⟩
      rcases List.mem_append.mp hx with z | z
      · exact ac x z
      · rw [List.mem_singleton.mp z]; exact letter_low c0 c1
    · rintro σ S3 ⟨a, x6, rfl, al, ac, hs3, l3, o3⟩
      rw [range_len] at al hs3
      have sa : sOk a = true := by
        unfold sOk
        rw [List.all_eq_true]
        intro c hc
        have := ac c hc
        unfold low26 at this
        rw [Bool.and_eq_true, decide_eq_true_eq, decide_eq_true_eq] at this
        exact decide_eq_true (by omega)
      have g3 : S3[S.length]? = some (.lst (ns.map dS)) := by rw [o3 _ hne]; exact g2
      have nk : ∀ b ∈ ns ++ known, sOk b = true := fun b hb => by
        rcases List.mem_append.mp hb with z | z
        · exact okName_s (ok b z)
        · exact ks b z
      have K3 : Kp l S S3 := (K1.trans (Kp.same l2 o2)).trans (Kp.same l3 o3)
      (repeat' (first | with_reducible refine Z_ifm (fun σ S' => ∃ (a : List Nat) (x6 x7 x8 x9 : Option D), σ = [some (.ref l), some (.int n), some (.lst (known.map dS)), some (.ref S.length), some (.int i), some (dS a), x6, x7, x8, x9] ∧ okName a = true ∧ S'[S.length]? = some (.lst (ns.map dS)) ∧ S'.length = S.length + 1 ∧ Src S' l (k + 12 * i + 10) ∧ Kp l S S') ?_ ?_ | fail "q1" | fail "q2" | fail "q4" | fail))
      · have go : ∀ {nx : Q.Env → Store → Prop} {rt : D → Store → Prop} {bk ct : Q.Env → Store → Prop} {ex : Str → Q.Env → Store → Prop}, (∀ b y7 y8 S', okName b = true → Src S' l (k + 12 * i + 1 + m.toNat + 1) → S'.length = S3.length → (∀ i, i ≠ l → S'[i]? = S3[i]?) → nx [some (.ref l), some (.int n), some (.lst (known.map dS)), some (.ref S.length), some (.int i), some (dS b), x6, some y7, some y8, x9] S') →
            Z zFresh [some (.ref l), some (.int n), some (.lst (known.map dS)), some (.ref S.length), some (.int i), some (dS a), x6, x7, x8, x9] S3 ⟨nx, rt, bk, ct, ex⟩ := fun {nx rt bk ct ex} hq => fresh_w (hs3.mono (by omega)) (by omega) hne g3 (by omega) ac (by omega) kl nk hq
        refine Cp_eqS sa (by decide) ?_
        by_cases c : a = []
        · rw [decide_eq_true c]
          (repeat' (first | (with_reducible refine go ?_) | fail "q1" | fail "q2" | fail "q4" | fail))
          exact (fun b y7 y8 S4 ob hs4 l4 o4 => ⟨b, _, _, _, _, rfl, ob, by rw [o4 _ hne]; exact g3, by omega, hs4.mono (by omega), K3.trans (Kp.same l4 o4)⟩)
        · rw [decide_eq_false c]
          (repeat' (first | refine Bn_catN (seqL_ref g3) rfl (by omega) ?_ | fail "q1" | fail "q2" | fail "q4" | fail))
          refine Cp_inS (d := .lst ((ns ++ known).map dS)) (ns := ns ++ known) rfl sa nk ?_
          by_cases c2 : a ∈ ns ++ known
          · rw [decide_eq_true c2]
            (repeat' (first | (with_reducible refine go ?_) | fail "q1" | fail "q2" | fail "q4" | fail))
            exact (fun b y7 y8 S4 ob hs4 l4 o4 => ⟨b, _, _, _, _, rfl, ob, by rw [o4 _ hne]; exact g3, by omega, hs4.mono (by omega), K3.trans (Kp.same l4 o4)⟩)
          · rw [decide_eq_false c2]
            (repeat' (first | fail "q1" | fail "q2" | fail "q4" | fail))
            exact ⟨a, _, _, _, _, rfl, okName_mk (List.length_pos_iff.mpr c) (by omega) ac, g3, by omega, hs3.mono (by omega), K3⟩
      · rintro σ S4 ⟨b, y6, y7, y8, y9, rfl, ob, g4, l4, hs4, K4⟩
        (repeat' (first | refine Md_app g4 ?_ | fail "q1" | fail "q2" | fail "q4" | fail))
        refine Mt_app g4 (by rw [List.length_map]; omega) (fun S5 g5 l5 o5 => ?_)
        (repeat' (first | fail "q1" | fail "q2" | fail "q4" | fail))
        have e5 : ns.map dS ++ [dS b] = (ns ++ [b]).map dS := by simp
        rw [e5] at g5
        have hs5 : Src S5 l (k + 12 * (i + 1 : Nat)) := by
          obtain ⟨u, v, w, h1, h2, h3⟩ := hs4.out
          exact ⟨⟨u, v, w, by rw [o5 l (by omega)]; exact h1, h2, by omega⟩⟩
        refine ⟨ns ++ [b], _, _, _, _, _, _, rfl, by rw [List.length_append, nl]; rfl, fun x hx => ?_, g5, by omega, hs5, ⟨by omega, fun x hx hl => by rw [o5 x (by omega), K4.get x hx hl]⟩⟩
        rcases List.mem_append.mp hx with z | z
        · exact ok x z
        · rw [List.mem_singleton.mp z]; exact ob
  · rintro σ S1 ⟨ns, x4, x5, x6, x7, x8, x9, rfl, nl, ok, g1, l1, hs1, K1⟩
    rw [range_len] at nl hs1
    (repeat' (first | fail "q1" | fail "q2" | fail "q4" | fail))
    exact Fn_ref (Nat.le_refl _) (by omega) (hQ ns S1 nl ok g1 l1 (hs1.mono (by omega)) K1)
end QL

namespace QL
open PySem Q
/-! ### lists compared, of the store or as values -/
theorem map_res {S : Store} {n : Nat} : ∀ {xs : List D}, plns xs = true → xs.map (res n S) = xs
  | [], _ => rfl
  | x :: xs, h => by
    rw [plns, Bool.and_eq_true] at h
    rw [List.map_cons, res_pln n x h.1, map_res h.2]
theorem toPyS_seq {S : Store} {d : D} {xs : List D} {n : Nat} (e : seqL S d = some xs) (h : fines n xs = true) (hn : n ≤ 60) : plns xs = true ∧ ∃ ps, toPys xs = some ps ∧ toPyS S d = some (.list ps) ∧ SeqAt.shaped (.list ps) = true := by
  obtain ⟨q1, ps, q2, q3, q4⟩ := fines_ok n xs h
  refine ⟨q1, ps, q2, ?_, ?_⟩
  · have r : res 8 S d = .lst xs := by
      rcases seqL_two e with rfl | ⟨l, rfl, z⟩
      · show D.lst (xs.map (res 7 S)) = _
        rw [map_res q1]
      · show (match S[l]? with | some (.lst xs) => D.lst (xs.map (res 7 S)) | _ => D.ref l) = _
        rw [z]
        show D.lst (xs.map (res 7 S)) = _
        rw [map_res q1]
    unfold toPyS
    rw [r]
    simp only [toPy, q2]
  · unfold SeqAt.shaped
    have : (PyData.list ps).canLay0 = true := by simpa [PyData.canLay0] using q3
    rw [this, decide_eq_true (by simp only [PyData.depth]; omega)]
    rfl
theorem eqD_seq {S : Store} {d e : D} {xs ys : List D} {n m : Nat} (e1 : seqL S d = some xs) (e2 : seqL S e = some ys) (h1 : fines n xs = true) (h2 : fines m ys = true) (hn : n ≤ 60) (hm : m ≤ 60) : ∃ b, eqD S d e = some b ∧ (b = true ↔ xs = ys) := by
  obtain ⟨p1, ps, a1, a2, a3⟩ := toPyS_seq e1 h1 hn
  obtain ⟨p2, qs, b1, b2, b3⟩ := toPyS_seq e2 h2 hm
  refine ⟨PyData.eqv (.list ps) (.list qs), ?_, ?_⟩
  · unfold eqD
    rw [a2, b2]
    simp only [a3, b3, and_self, ↓reduceIte]
  · have := eqv_pln (.lst xs) (.lst ys) (.list ps) (.list qs) (by simpa [pln] using p1) (by simpa [pln] using p2) (by simp only [toPy, a1]) (by simp only [toPy, b1])
    rw [this]
    exact ⟨fun z => by injection z, fun z => by rw [z]⟩
theorem Cp_eqq {S : Store} {d e : D} {xs ys : List D} {n m : Nat} {PB : Bool → Prop} (e1 : seqL S d = some xs) (e2 : seqL S e = some ys) (h1 : fines n xs = true) (h2 : fines m ys = true) (hn : n ≤ 60) (hm : m ≤ 60) (ht : xs = ys → PB true) (hf : xs ≠ ys → PB false) : Cp S .Eq d e PB := by
  obtain ⟨b, eb, h⟩ := eqD_seq e1 e2 h1 h2 hn hm
  refine ⟨⟨b, eb, ?_⟩⟩
  cases b with
  | true => exact ht (h.mp rfl)
  | false => exact hf fun z => by cases h.mpr z
theorem Cp_neq {S : Store} {d e : D} {xs ys : List D} {n m : Nat} {PB : Bool → Prop} (e1 : seqL S d = some xs) (e2 : seqL S e = some ys) (h1 : fines n xs = true) (h2 : fines m ys = true) (hn : n ≤ 60) (hm : m ≤ 60) (ht : xs = ys → PB false) (hf : xs ≠ ys → PB true) : Cp S .NotEq d e PB := by
  obtain ⟨b, eb, h⟩ := eqD_seq e1 e2 h1 h2 hn hm
  refine ⟨⟨!b, by show (eqD S d e).map _ = _; rw [eb]; rfl, ?_⟩⟩
  cases b with
  | true => exact ht (h.mp rfl)
  | false => exact hf fun z => by cases h.mpr z
theorem Cp_nil {S : Store} {d : D} {ns : List (List Nat)} {PB : Bool → Prop} (e : seqL S d = some (ns.map dS)) (h : ∀ a ∈ ns, sOk a = true) (hp : PB (decide (ns = []))) : Cp S .Eq d (.lst []) PB :=
  Cp_eqq (n := 0) (m := 0) e rfl (fines_S h) rfl (by decide) (by decide) (fun z => by
    have : ns = [] := List.map_eq_nil_iff.mp z
    rw [decide_eq_true this] at hp; exact hp) (fun z => by
    have : ¬ ns = [] := fun w => z (by rw [w]; rfl)
    rw [decide_eq_false this] at hp; exact hp)
theorem Cp_nnil {S : Store} {d : D} {ns : List (List Nat)} {PB : Bool → Prop} (e : seqL S d = some (ns.map dS)) (h : ∀ a ∈ ns, sOk a = true) (hp : PB (!decide (ns = []))) : Cp S .NotEq d (.lst []) PB :=
  Cp_neq (n := 0) (m := 0) e rfl (fines_S h) rfl (by decide) (by decide) (fun z => by
    have : ns = [] := List.map_eq_nil_iff.mp z
    rw [decide_eq_true this] at hp; exact hp) (fun z => by
    have : ¬ ns = [] := fun w => z (by rw [w]; rfl)
    rw [decide_eq_false this] at hp; exact hp)
/-! ### parts, tests, actions drawn -/
def SmP (p : Int × Int) : Prop := -20 ≤ p.1 ∧ p.1 ≤ 20 ∧ 0 ≤ p.2 ∧ p.2 ≤ 5
theorem dpart_w {S : Store} {l : Nat} {k : Int} (h : Src S l k) (hk : k ≤ 95000) {Qd : D → Store → Prop} {E : EX}
    (hQ : ∀ p S', SmP p → Src S' l (k + 3) → S'.length = S.length → (∀ i, i ≠ l → S'[i]? = S[i]?) → Qd (dPt p) S') : W (m__law_drawn_part [.ref l] S) Qd E := by
  apply w__law_drawn_part
  unfold z__law_drawn_part
  (repeat' (first | fail "q1" | fail "q2" | fail "q4" | fail))
  refine draw_w h (by omega) (by decide) (by decide) (fun a S1 a0 a1 hs1 l1 o1 => ?_)
  (repeat' (first | fail "q1" | fail "q2" | fail "q3" | fail))
  · refine draw_w hs1 (by omega) (by decide) (by decide) (fun b S2 b0 b1 hs2 l2 o2 => ?_)
    (repeat' (first | fail "q1" | fail "q2" | fail "q4" | fail))
    exact FnP_same (by omega) (hQ (b - 4, 0) S2 ⟨by show -20 ≤ b - 4; omega, by show b - 4 ≤ 20; omega, by show (0 : Int) ≤ 0; decide, by show (0 : Int) ≤ 5; decide⟩ (hs2.mono (by omega)) (by omega) (fun i hi => by rw [o2 i hi, o1 i hi]))
  · refine draw_w hs1 (by omega) (by decide) (by decide) (fun b S2 b0 b1 hs2 l2 o2 => ?_)
    (repeat' (first | fail "q1" | fail "q2" | fail "q4" | fail))
    refine draw_w hs2 (by omega) (by decide) (by decide) (fun c S3 c0 c1 hs3 l3 o3 => ?_)
    (repeat' (first | fail "q1" | fail "q2" | fail "q4" | fail))
    exact FnP_same (by omega) (hQ (2 * b - 7, 1 + c) S3 ⟨by show -20 ≤ 2 * b - 7; omega, by show 2 * b - 7 ≤ 20; omega, by show 0 ≤ 1 + c; omega, by show 1 + c ≤ 5; omega⟩ (hs3.mono (by omega)) (by omega) (fun i hi => by rw [o3 i hi, o2 i hi, o1 i hi]))
def TeG (ps : List (List Nat)) : Te → Prop
  | .more p => p ∈ ps
  | .eq p n e => p ∈ ps ∧ SmP (n, e)
  | _ => True
theorem dtest_w {S : Store} {l : Nat} {k : Int} {dp : D} {ps : List (List Nat)} (h : Src S l k) (hk : k ≤ 94000) (e : seqL S dp = some (ps.map dS)) (hd : dp ≠ .ref l) (ok : ∀ a ∈ ps, okName a = true) (pl : ps.length ≤ 1000) {Qd : D → Store → Prop} {E : EX}
    (hQ : ∀ t S', TeG ps t → Src S' l (k + 6) → S'.length = S.length → (∀ i, i ≠ l → S'[i]? = S[i]?) → Qd (dTe t) S') : W (m__law_drawn_test [.ref l, dp] S) Qd E := by
  have hlt := h.lt
  have so : ∀ a ∈ ps, sOk a = true := fun a ha => okName_s (ok a ha)
  apply w__law_drawn_test
  unfold z__law_drawn_test
  simp only [kMatch, kEven, kGt, kEqs]
  (repeat' (first | fail "q1" | fail "q2" | fail "q4" | fail))
  refine draw_w h (by omega) (by decide) (by decide) (fun w S1 a0 a1 hs1 l1 o1 => ?_)
  have K1 : Kp l S S1 := Kp.same l1 o1
  have e1 : seqL S1 dp = some (ps.map dS) := K1.seq e hd
  have two : ∀ {S2 : Store} {m : Int}, Src S2 l (k + 1 + 1) → S2.length = S1.length → (∀ i, i ≠ l → S2[i]? = S1[i]?) → 0 ≤ m → m < 2 → IxP S2 (.lst [.tup [dS cMatch], .tup [dS cEven]]) (.int m) (fun d => FnP false S.length d S2 Qd E) := fun {S2 m} hs2 l2 o2 m0 m1 =>
    Ix_pick (fun d => ∃ t, TeG ps t ∧ d = dTe t) m0 (by show m < 2; omega) (fun d hd => by
      simp only [List.mem_cons, List.not_mem_nil, or_false] at hd
      rcases hd with rfl | rfl
      · exact ⟨.mat, trivial, rfl⟩
      · exact ⟨.even, trivial, rfl⟩) (fun d ⟨t, ht, e⟩ => by
      subst e
      exact FnP_same (by omega) (hQ t S2 ht (hs2.mono (by omega)) (by omega) (fun i hi => by rw [o2 i hi, o1 i hi])))
  (repeat' (first | (with_reducible refine Cp_nil e1 so ?_) | fail "q1" | fail "q2" | fail "q3" | fail))
  · refine draw_w hs1 (by omega) (by decide) (by decide) (fun m S2 b0 b1 hs2 l2 o2 => two hs2 l2 o2 b0 b1)
  · refine draw_w hs1 (by omega) (by decide) (by decide) (fun m S2 b0 b1 hs2 l2 o2 => two hs2 l2 o2 b0 b1)
  rename_i c
  have pp : 0 < ps.length := List.length_pos_iff.mpr c
  (repeat' (first | refine Bs_lenq e1 ?_ | fail "q1" | fail "q2" | fail "q4" | fail))
  rw [List.length_map]
  refine draw_w hs1 (by omega) (by omega) (by omega) (fun m S2 b0 b1 hs2 l2 o2 => ?_)
  have e2 : seqL S2 dp = some (ps.map dS) := (Kp.same l2 o2).seq e1 hd
  refine Ix_q b0 (by rw [List.length_map]; omega) e2 (fun y hy => ?_)
  rw [List.getElem?_map, Option.map_eq_some_iff] at hy
  obtain ⟨p, hp, rfl⟩ := hy
  have hp := List.mem_of_getElem? hp
  (repeat' (first | fail "q1" | fail "q2" | fail "q3" | fail))
  · exact FnP_same (by omega) (hQ (.more p) S2 hp (hs2.mono (by omega)) (by omega) (fun i hi => by rw [o2 i hi, o1 i hi]))
  · refine dpart_w hs2 (by omega) (fun pt S3 hpt hs3 l3 o3 => ?_)
    (repeat' (first | fail "q1" | fail "q2" | fail "q4" | fail))
    exact FnP_same (by omega) (hQ (.eq p pt.1 pt.2) S3 ⟨hp, hpt⟩ (hs3.mono (by omega)) (by omega) (fun i hi => by rw [o3 i hi, o2 i hi, o1 i hi]))
end QL

namespace QL
open PySem Q
/-! ### actions drawn -/
def goals3 : List (List Nat) := [cRoot, cWaker, cSender]
def AcG (ps ks : List (List Nat)) : Ac → Prop
  | .half p => p ∈ ps
  | .add p n => p ∈ ps ∧ -3 ≤ n ∧ n ≤ 3
  | .give k g qs => k ∈ ks ∧ g ∈ goals3 ∧ (∀ q ∈ qs, q ∈ ps) ∧ qs.length ≤ ps.length
  | .report k => k ∈ ks
  | _ => True
theorem dtail_w {S : Store} {l p q : Nat} {k w : Int} {ev : List Nat} {ps ks : List (List Nat)} {gs : List D} {nx : Q.Env → Store → Prop} {rt : D → Store → Prop} {bk ct : Q.Env → Store → Prop} {ex : Str → Q.Env → Store → Prop} (h : Src S l k) (hk : k ≤ 94900) (w0 : 0 ≤ w) (gp : S[p]? = some (.lst (ps.map dS))) (hp : p ≠ l) (gk : S[q]? = some (.lst (ks.map dS))) (hq : q ≠ l)
    (okk : ∀ a ∈ ks, okName a = true) (pl : ps.length ≤ 4) (kl : ks.length ≤ 4) (hg : ∀ d ∈ gs, ∃ g, d = dS g ∧ g ∈ goals3) (g0 : 0 < gs.length) (g3 : gs.length ≤ 3)
    (hr : ∀ a S', AcG ps ks a → Src S' l (k + 8) → S'.length = S.length → (∀ i, i ≠ l → S'[i]? = S[i]?) → rt (dAc a) S') :
    Z z__law_drawn_action_6 [some (.ref l), some (dS ev), some (.ref p), some (.ref q), some (.int w), some (.lst gs), none, none, none, none] S ⟨nx, rt, bk, ct, ex⟩ := by
  have hlt := h.lt
  have sk : ∀ a ∈ ks, sOk a = true := fun a ha => okName_s (okk a ha)
  unfold z__law_drawn_action_6
  simp only [kGive, kReport, kTell]
  (repeat' (first | (with_reducible refine Cp_nnil (seqL_ref gk) sk ?_) | fail "q1" | fail "q2" | fail "q3" | fail))
  · exact hr .tell S trivial (h.mono (by omega)) rfl (fun _ _ => rfl)
  · refine It_ref gp ?_
    refine Cf_invR (xs := ps.map dS) (fun i acc S' => Src S' l (k + i) ∧ S'.length = S.length ∧ (∀ i, i ≠ l → S'[i]? = S[i]?) ∧ ∃ qs : List (List Nat), acc = qs.map dS ∧ (∀ q ∈ qs, q ∈ ps) ∧ qs.length ≤ i) (fun i acc S' h => by rw [h.2.2.1 p hp]; exact gp) (by rw [List.length_map]; omega) ⟨h.mono (by omega), rfl, fun _ _ => rfl, [], rfl, (fun _ z => by cases z), Nat.le_refl _⟩ ?_ ?_
    · rintro i d acc S2 hd ⟨hs2, l2, o2, qs, rfl, qp, ql⟩ hi
      rw [List.getElem?_map, Option.map_eq_some_iff] at hd
      obtain ⟨a, ha, rfl⟩ := hd
      have hi : i < ps.length := (List.getElem?_eq_some_iff.mp ha).1
      (repeat' (first | fail "q1" | fail "q2" | fail "q4" | fail))
      refine draw_w hs2 (by omega) (by decide) (by decide) (fun m S3 b0 b1 hs3 l3 o3 => ?_)
      (repeat' (first | fail "q1" | fail "q2" | fail "q3" | fail))
      · refine ⟨hs3.mono (by omega), by omega, fun i hi => by rw [o3 i hi, o2 i hi], qs ++ [a], by simp, fun x hx => ?_, by rw [List.length_append, List.length_singleton]; omega⟩
        rcases List.mem_append.mp hx with z | z
        · exact qp x z
        · rw [List.mem_singleton.mp z]; exact List.mem_of_getElem? ha
      · exact ⟨hs3.mono (by omega), by omega, fun i hi => by rw [o3 i hi, o2 i hi], qs, rfl, qp, by omega⟩
    · rintro acc S2 ⟨hs2, l2, o2, qs, rfl, qp, ql⟩
      rw [List.length_map] at hs2 ql
      have gk2 : S2[q]? = some (.lst (ks.map dS)) := by rw [o2 q hq]; exact gk
      rename_i cn
      have kp : 0 < ks.length := List.length_pos_iff.mpr cn
      (repeat' (first | refine Bs_lenq (seqL_ref gk2) ?_ | fail "q1" | fail "q2" | fail "q4" | fail))
      rw [List.length_map]
      refine draw_w hs2 (by omega) (by omega) (by omega) (fun m S3 b0 b1 hs3 l3 o3 => ?_)
      have gk3 : S3[q]? = some (.lst (ks.map dS)) := by rw [o3 q hq]; exact gk2
      refine Ix_q b0 (by rw [List.length_map]; omega) (seqL_ref gk3) (fun y hy => ?_)
      rw [List.getElem?_map, Option.map_eq_some_iff] at hy
      obtain ⟨kd, hkd, rfl⟩ := hy
      have hkd := List.mem_of_getElem? hkd
      (repeat' (first | fail "q1" | fail "q2" | fail "q4" | fail))
      refine draw_w hs3 (by omega) (by omega) (by omega) (fun m2 S4 c0 c1 hs4 l4 o4 => ?_)
      refine Ix_pick (fun d => ∃ g, d = dS g ∧ g ∈ goals3) c0 c1 hg ?_
      rintro d ⟨g, rfl, gg⟩
      (repeat' (first | fail "q1" | fail "q2" | fail "q4" | fail))
      rw [← List.map_reverse]
      refine Bs_by (x := .tup (qs.reverse.map dS)) rfl ?_
      (repeat' (first | fail "q1" | fail "q2" | fail "q4" | fail))
      refine Ix_pick (fun d => ∃ a, AcG ps ks a ∧ d = dAc a) (by omega) (by show _ < (2 : Int); omega) (fun d hd => ?_) ?_
      · simp only [List.mem_cons, List.not_mem_nil, or_false] at hd
        rcases hd with rfl | rfl
        · exact ⟨.give kd g qs.reverse, ⟨hkd, gg, fun x hx => qp x (List.mem_reverse.mp hx), by rw [List.length_reverse]; exact ql⟩, rfl⟩
        · exact ⟨.report kd, hkd, rfl⟩
      rintro d ⟨a, ha, rfl⟩
      exact hr a S4 ha (hs4.mono (by omega)) (by omega) (fun i hi => by rw [o4 i hi, o3 i hi, o2 i hi])
  · exact hr .tell S trivial (h.mono (by omega)) rfl (fun _ _ => rfl)
theorem dact_w {S : Store} {l p q : Nat} {k : Int} {ev : List Nat} {ps ks : List (List Nat)} (h : Src S l k) (hk : k ≤ 94000) (gp : S[p]? = some (.lst (ps.map dS))) (hp : p ≠ l) (gk : S[q]? = some (.lst (ks.map dS))) (hq : q ≠ l) (se : sOk ev = true)
    (okp : ∀ a ∈ ps, okName a = true) (okk : ∀ a ∈ ks, okName a = true) (pl : ps.length ≤ 4) (kl : ks.length ≤ 4) {Qd : D → Store → Prop} {E : EX}
    (hQ : ∀ a S', AcG ps ks a → Src S' l (k + 10) → S'.length = S.length → (∀ i, i ≠ l → S'[i]? = S[i]?) → Qd (dAc a) S') : W (m__law_drawn_action [.ref l, dS ev, .ref p, .ref q] S) Qd E := by
  have hlt := h.lt
  have sp : ∀ a ∈ ps, sOk a = true := fun a ha => okName_s (okp a ha)
  have sk : ∀ a ∈ ks, sOk a = true := fun a ha => okName_s (okk a ha)
  apply w__law_drawn_action
  unfold z__law_drawn_action
  simp only [kRoot, kWaker, kSender, kSend, kRest, kHalf, kAdd, kGain, kKeep, kGive, kReport, kTell, kCome]
  (repeat' (first | fail "q1" | fail "q2" | fail "q4" | fail))
  refine draw_w h (by omega) (by decide) (by decide) (fun w S1 a0 a1 hs1 l1 o1 => ?_)
  have gp1 : S1[p]? = some (.lst (ps.map dS)) := by rw [o1 p hp]; exact gp
  have gk1 : S1[q]? = some (.lst (ks.map dS)) := by rw [o1 q hq]; exact gk
  have tl : ∀ {gs : List D} {nx : Q.Env → Store → Prop} {rt : D → Store → Prop} {bk ct : Q.Env → Store → Prop} {ex : Str → Q.Env → Store → Prop}, (∀ d ∈ gs, ∃ g, d = dS g ∧ g ∈ goals3) → 0 < gs.length → gs.length ≤ 3 → (∀ a S', AcG ps ks a → Src S' l (k + 1 + 8) → S'.length = S1.length → (∀ i, i ≠ l → S'[i]? = S1[i]?) → rt (dAc a) S') →
      Z z__law_drawn_action_6 [some (.ref l), some (dS ev), some (.ref p), some (.ref q), some (.int w), some (.lst gs), none, none, none, none] S1 ⟨nx, rt, bk, ct, ex⟩ := fun {gs nx rt bk ct ex} g1 g2 g3 hr => dtail_w hs1 (by omega) a0 gp1 hp gk1 hq okk pl kl g1 g2 g3 hr
  have fin : ∀ a S', AcG ps ks a → Src S' l (k + 1 + 8) → S'.length = S1.length → (∀ i, i ≠ l → S'[i]? = S1[i]?) → FnP false S.length (dAc a) S' Qd E := fun a S' h1 h2 h3 h4 => FnP_same (by omega) (hQ a S' h1 (h2.mono (by omega)) (by omega) (fun i hi => by rw [h4 i hi, o1 i hi]))
  (repeat' (first | (with_reducible refine quiet_in se ?_) | refine Bs_intb ?_ | fail "q1" | fail "q2" | fail "q4" | fail))
  have gs1 : ∀ d ∈ cut [D.str (SX.S cRoot), D.str (SX.S cWaker), D.str (SX.S cSender)] none (some (3 - if quietB ev = true then 1 else 0)), ∃ g, d = dS g ∧ g ∈ goals3 := fun d hd => by
    have hd := cut_mem hd
    simp only [List.mem_cons, List.not_mem_nil, or_false] at hd
    rcases hd with rfl | rfl | rfl
    · exact ⟨cRoot, rfl, by decide⟩
    · exact ⟨cWaker, rfl, by decide⟩
    · exact ⟨cSender, rfl, by decide⟩
  have gl : 0 < (cut [D.str (SX.S cRoot), D.str (SX.S cWaker), D.str (SX.S cSender)] none (some (3 - if quietB ev = true then 1 else 0))).length ∧ (cut [D.str (SX.S cRoot), D.str (SX.S cWaker), D.str (SX.S cSender)] none (some (3 - if quietB ev = true then 1 else 0))).length ≤ 3 := by
    cases quietB ev <;> decide
  generalize cut [D.str (SX.S cRoot), D.str (SX.S cWaker), D.str (SX.S cSender)] none (some (3 - if quietB ev = true then 1 else 0)) = gs at *
  have pick : ∀ {R : D → Store → Prop} {E' : EX}, ps ≠ [] → (∀ a S', a ∈ ps → Src S' l (k + 2) → S'.length = S1.length → (∀ i, i ≠ l → S'[i]? = S1[i]?) → R (dS a) S') → W (m__law_draw [.ref l, .int ((ps.map dS).length : Nat)] S1) (fun y S2 => IxP S2 (.ref p) y fun d => R d S2) E' := fun {R E'} hn hr => by
    have pp : 0 < ps.length := List.length_pos_iff.mpr hn
    rw [List.length_map]
    refine draw_w hs1 (by omega) (by omega) (by omega) (fun m S2 b0 b1 hs2 l2 o2 => ?_)
    have g2 : S2[p]? = some (.lst (ps.map dS)) := by rw [o2 p hp]; exact gp1
    refine Ix_q b0 (by rw [List.length_map]; omega) (seqL_ref g2) (fun y hy => ?_)
    rw [List.getElem?_map, Option.map_eq_some_iff] at hy
    obtain ⟨a, ha, rfl⟩ := hy
    exact hr a S2 (List.mem_of_getElem? ha) (hs2.mono (by omega)) l2 o2
  (repeat' (first | (with_reducible refine Cp_nnil (seqL_ref gp1) sp ?_) | (with_reducible refine Cp_eqS se (by decide) ?_) | (with_reducible refine quiet_nin se ?_) | refine Bs_lenq (seqL_ref gp1) ?_ | (with_reducible refine tl gs1 gl.1 gl.2 ?_) | fail "q1" | fail "q2" | fail "q3" | fail))
  · exact fin
  · rename_i pn _
    refine pick pn (fun a S2 ha hs2 l2 o2 => ?_)
    (repeat' (first | fail "q1" | fail "q2" | fail "q4" | fail))
    exact fin (.half a) S2 ha (hs2.mono (by omega)) l2 o2
  · rename_i pn _
    refine pick pn (fun a S2 ha hs2 l2 o2 => ?_)
    (repeat' (first | fail "q1" | fail "q2" | fail "q4" | fail))
    refine draw_w hs2 (by omega) (by decide) (by decide) (fun m S3 b0 b1 hs3 l3 o3 => ?_)
    (repeat' (first | fail "q1" | fail "q2" | fail "q4" | fail))
    exact fin (.add a (m - 3)) S3 ⟨ha, by omega, by omega⟩ (hs3.mono (by omega)) (by omega) (fun i hi => by rw [o3 i hi, o2 i hi])
  · exact fin
  · rename_i pn
    refine pick pn (fun a S2 ha hs2 l2 o2 => ?_)
    (repeat' (first | fail "q1" | fail "q2" | fail "q4" | fail))
    refine draw_w hs2 (by omega) (by decide) (by decide) (fun m S3 b0 b1 hs3 l3 o3 => ?_)
    (repeat' (first | fail "q1" | fail "q2" | fail "q4" | fail))
    exact fin (.add a (m - 3)) S3 ⟨ha, by omega, by omega⟩ (hs3.mono (by omega)) (by omega) (fun i hi => by rw [o3 i hi, o2 i hi])
  · cases q : quietB ev with
    | true =>
      (repeat' (first | (with_reducible refine Cp_eqS se (by decide) ?_) | (with_reducible refine tl gs1 gl.1 gl.2 ?_) | fail "q1" | fail "q2" | fail "q3" | fail))
      all_goals first
        | exact fin
        | omega
        | trace_state
    | false =>
      (repeat' (first | fail "q1" | fail "q2" | fail "q4" | fail))
      exact fin .gain S1 trivial (hs1.mono (by omega)) rfl (fun _ _ => rfl)
  · exact fin .keep S1 trivial (hs1.mono (by omega)) rfl (fun _ _ => rfl)
  · exact fin
  · exact fin
end QL

namespace QL
open PySem Q
/-! ### ways drawn -/
theorem fin_k {S S' : Store} {l : Nat} {k : Int} {d : D} {Qd : D → Store → Prop} {E : EX} (hl : l < S.length) (hs : Src S' l k) (K : Kp l S S')
    (hQ : ∀ S', Src S' l k → Kp l S S' → Qd d S') : FnP false S.length d S' Qd E :=
  Fn_any (hQ _ hs K) (fun _ => hQ _ (hs.take hl) (K.take (Nat.le_refl _)))
theorem CfDraw {α : Type} {g : α → D} {P : α → Prop} {S : Store} {l : Nat} {k c : Int} {xs : List D} {f : D → Store → Out (Option D)} {QL : List D → Store → Prop} (h : Src S l k) (hn : xs.length < 100000)
    (step : ∀ d ∈ xs, ∀ (i : Nat) S', i < xs.length → Src S' l (k + c * i) → Kp l S S' → W (f d S') (fun o S1 => ∃ a, o = some (g a) ∧ P a ∧ Src S1 l (k + c * i + c) ∧ Kp l S' S1) noX)
    (stop : ∀ (ys : List α) S', ys.length = xs.length → (∀ a ∈ ys, P a) → Src S' l (k + c * xs.length) → Kp l S S' → QL (ys.map g) S') : CfP ⟨xs, none, false⟩ f S QL := by
  refine Cf_inv (it := ⟨xs, none, false⟩) (fun i acc S' => Src S' l (k + c * i) ∧ Kp l S S' ∧ ∃ as : List α, acc = as.map g ∧ as.length = i ∧ ∀ a ∈ as, P a) hn ⟨h.mono (by simp), .refl, [], rfl, rfl, fun a ha => by cases ha⟩ ?_ ?_
  · rintro i d acc S' hd ⟨hs, K, as, rfl, al, hP⟩ _
    have hd : xs[i]? = some d := hd
    refine (step d (List.mem_of_getElem? hd) i S' (List.getElem?_eq_some_iff.mp hd).1 hs K).post ?_
    rintro o S1 ⟨a, rfl, ha, hs1, K1⟩
    refine ⟨hs1.mono ?_, K.trans K1, as ++ [a], by rw [List.map_append]; rfl, by rw [List.length_append, al]; rfl, fun x hx => ?_⟩
    · rw [show ((i + 1 : Nat) : Int) = (i : Int) + 1 from by omega, Int.mul_add, Int.mul_one]
      omega
    · rcases List.mem_append.mp hx with z | z
      · exact hP x z
      · rw [List.mem_singleton.mp z]; exact ha
  · rintro acc S' ⟨hs, K, as, rfl, al, hP⟩
    exact stop as S' al hP hs K
theorem range_xs {j : Int} : ∃ xs : List D, rangeD 0 j = ⟨xs, none, false⟩ ∧ xs.length = j.toNat := ⟨(rangeD 0 j).xs, rfl, range_len⟩
/-- a name picked of a list of the store -/
theorem Dr_pick {S : Store} {l q : Nat} {k : Int} {ns : List (List Nat)} {R : D → Store → Prop} {E : EX} (h : Src S l k) (hk : k ≤ 99000) (g : S[q]? = some (.lst (ns.map dS))) (hq : q ≠ l) (hn : 0 < ns.length) (hl : ns.length ≤ 1000)
    (hr : ∀ a S', a ∈ ns → Src S' l (k + 1) → S'.length = S.length → (∀ i, i ≠ l → S'[i]? = S[i]?) → R (dS a) S') : W (m__law_draw [.ref l, .int ((ns.map dS).length : Nat)] S) (fun y S2 => IxP S2 (.ref q) y fun d => R d S2) E := by
  rw [List.length_map]
  refine draw_w h (by omega) (by omega) (by omega) (fun m S2 b0 b1 hs2 l2 o2 => ?_)
  have g2 : S2[q]? = some (.lst (ns.map dS)) := by rw [o2 q hq]; exact g
  refine Ix_q b0 (by rw [List.length_map]; omega) (seqL_ref g2) (fun y hy => ?_)
  rw [List.getElem?_map, Option.map_eq_some_iff] at hy
  obtain ⟨a, ha, rfl⟩ := hy
  exact hr a S2 (List.mem_of_getElem? ha) hs2 l2 o2
def roles3 : List (List Nat) := [cRoot, cOthr, cAny]
structure RuG (ps ss ks : List (List Nat)) (r : Ru) : Prop where
  ev : r.ev ∈ [cSend, cCome, cRest] ++ ks
  ro : r.ro ∈ roles3
  st : r.st ∈ ss
  la : r.la ∈ ss
  tl : r.ts.length ≤ 3
  ts : ∀ t ∈ r.ts, TeG ps t
  al : r.as.length ≤ 4
  as : ∀ a ∈ r.as, AcG ps ks a
structure WyG (w : Wy) : Prop where
  ps : ∀ a ∈ w.ps, okName a = true
  ss : ∀ a ∈ w.ss, okName a = true
  ks : ∀ a ∈ w.ks, okName a = true
  pl : w.ps.length ≤ 3
  s1 : 1 ≤ w.ss.length
  sl : w.ss.length ≤ 4
  kl : w.ks.length ≤ 3
  b : w.b ∈ w.ss
  bl : w.bp.length = w.ps.length
  bp : ∀ p ∈ w.bp, SmP p
  rs : ∀ r ∈ w.rs, RuG w.ps w.ss w.ks r
theorem dway_w {S : Store} {l : Nat} {k m : Int} (h : Src S l k) (hk : k ≤ 90000) (m0 : 0 ≤ m) (m40 : m ≤ 40) {Qd : D → Store → Prop} {E : EX}
    (hQ : ∀ w S', WyG w → w.rs.length = m.toNat → Src S' l (k + 3500) → Kp l S S' → Qd (dWy w) S') : W (m__law_drawn_way [.ref l, .int m] S) Qd E := by
  have hlt := h.lt
  apply w__law_drawn_way
  unfold z__law_drawn_way
  simp only [kSend, kCome, kRest, kRoot, kOthr, kAny]
  (repeat' (first | fail "q1" | fail "q2" | fail "q4" | fail))
  refine draw_w h (by omega) (by decide) (by decide) (fun n1 S1 a0 a1 hs1 l1 o1 => ?_)
  (repeat' (first | fail "q1" | fail "q2" | fail "q4" | fail))
  show W (m__law_names [.ref l, .int n1, .lst (([] : List (List Nat)).map dS)] S1) _ _
  refine names3_w hs1 (by omega) (by omega) (by omega) (by decide) (fun _ z => by cases z) (fun ps S2 pl okp g2 l2 hs2 K2 => ?_)
  have K02 : Kp l S S2 := (Kp.same l1 o1).trans K2
  (repeat' (first | fail "q1" | fail "q2" | fail "q4" | fail))
  refine draw_w hs2 (by omega) (by decide) (by decide) (fun n2 S3 b0 b1 hs3 l3 o3 => ?_)
  (repeat' (first | fail "q1" | fail "q2" | fail "q4" | fail))
  show W (m__law_names [.ref l, .int (1 + n2), .lst (([] : List (List Nat)).map dS)] S3) _ _
  refine names3_w hs3 (by omega) (by omega) (by omega) (by decide) (fun _ z => by cases z) (fun ss S4 sl oks g4 l4 hs4 K4 => ?_)
  have K24 : Kp l S2 S4 := (Kp.same l3 o3).trans K4
  (repeat' (first | fail "q1" | fail "q2" | fail "q4" | fail))
  refine draw_w hs4 (by omega) (by decide) (by decide) (fun n3 S5 c0 c1 hs5 l5 o5 => ?_)
  (repeat' (first | fail "q1" | fail "q2" | fail "q4" | fail))
  show W (m__law_names [.ref l, .int n3, .lst (([cSend, cCome, cRest] : List (List Nat)).map dS)] S5) _ _
  refine names3_w hs5 (by omega) (by omega) (by omega) (by decide) (by decide) (fun ks S6 kl okk g6 l6 hs6 K6 => ?_)
  have K46 : Kp l S4 S6 := (Kp.same l5 o5).trans K6
  have gp : S6[S1.length]? = some (.lst (ps.map dS)) := by rw [K46.get _ (by omega) (by omega), K24.get _ (by omega) (by omega)]; exact g2
  have gs : S6[S3.length]? = some (.lst (ss.map dS)) := by rw [K46.get _ (by omega) (by omega)]; exact g4
  have K06 : Kp l S S6 := (K02.trans K24).trans K46
  have hlp : S1.length ≠ l := by omega
  have hls : S3.length ≠ l := by omega
  have hlk : S5.length ≠ l := by omega
  have lp : S1.length < S6.length := by omega
  have ls : S3.length < S6.length := by omega
  have lk : S5.length < S6.length := by omega
  generalize S1.length = P at *
  generalize S3.length = T at *
  generalize S5.length = N at *
  have pl3 : ps.length ≤ 3 := by omega
  have sl1 : 1 ≤ ss.length := by omega
  have sl4 : ss.length ≤ 4 := by omega
  have kl3 : ks.length ≤ 3 := by omega
  have l6 : l < S6.length := hs6.lt
  (repeat' (first | fail "q1" | fail "q2" | fail "q4" | fail))
  refine Lp_inv (fun i σ S' => ∃ (rs : List Ru) (x6 x7 x8 x9 x10 x11 : Option D), σ = [some (.ref l), some (.int m), some (.ref P), some (.ref T), some (.ref N), some (.ref S6.length), x6, x7, x8, x9, x10, x11, none, none, none] ∧ rs.length = i ∧ (∀ r ∈ rs, RuG ps ss ks r) ∧ S'[S6.length]? = some (.lst (rs.map dRu)) ∧ Src S' l (k + 200 + 70 * i) ∧ Kp l S6 S')
    ⟨[], _, _, _, _, _, _, rfl, rfl, (fun _ z => by cases z), by simp, hs6.app.mono (by omega), .app⟩ ?_ ?_ (by rw [range_len]; omega)
  · rintro i d σ S7 hd ⟨rs, x6, x7, x8, x9, x10, x11, rfl, rl, okr, g7, hs7, K7⟩
    obtain ⟨rfl, hi⟩ := range_get hd
    have gp7 : S7[P]? = some (.lst (ps.map dS)) := by rw [K7.get _ hlp lp]; exact gp
    have gs7 : S7[T]? = some (.lst (ss.map dS)) := by rw [K7.get _ hls ls]; exact gs
    have gk7 : S7[N]? = some (.lst (ks.map dS)) := by rw [K7.get _ hlk lk]; exact g6
    have lt7 : S6.length < S7.length := (List.getElem?_eq_some_iff.mp g7).1
    have hl7 : S6.length ≠ l := by omega
    (repeat' (first | refine Bn_catN (as := [cSend, cCome, cRest]) rfl (seqL_ref gk7) (by show 3 + _ ≤ _; omega) ?_ | refine Bs_lenq (seqL_ref gk7) ?_ | fail "q1" | fail "q2" | fail "q4" | fail))
    rw [List.length_map]
    refine draw_w hs7 (by omega) (by omega) (by omega) (fun e S8 a0 a1 hs8 l8 o8 => ?_)
    have K8 : Kp l S7 S8 := Kp.same l8 o8
    refine Ix_pick (fun d => ∃ ev, d = dS ev ∧ ev ∈ [cSend, cCome, cRest] ++ ks) a0 (by rw [List.length_map, List.length_append]; show e < (((3 : Nat) + ks.length : Nat) : Int); omega) (fun d hd => ?_) ?_
    · obtain ⟨ev, hev, rfl⟩ := List.mem_map.mp hd
      exact ⟨ev, rfl, hev⟩
    rintro d ⟨ev, rfl, hev⟩
    have sev : sOk ev = true := by
      rcases List.mem_append.mp hev with z | z
      · simp only [List.mem_cons, List.not_mem_nil, or_false] at z
        rcases z with rfl | rfl | rfl <;> decide
      · exact okName_s (okk ev z)
    (repeat' (first | fail "q1" | fail "q2" | fail "q4" | fail))
    refine draw_w hs8 (by omega) (by decide) (by decide) (fun e2 S9 b0 b1 hs9 l9 o9 => ?_)
    have K9 : Kp l S7 S9 := K8.trans (Kp.same l9 o9)
    refine Ix_pick (fun d => ∃ ro, d = dS ro ∧ ro ∈ roles3) b0 (by show e2 < 3; omega) (fun d hd => ?_) ?_
    · simp only [List.mem_cons, List.not_mem_nil, or_false] at hd
      rcases hd with rfl | rfl | rfl
      · exact ⟨cRoot, rfl, by decide⟩
      · exact ⟨cOthr, rfl, by decide⟩
      · exact ⟨cAny, rfl, by decide⟩
    rintro d ⟨ro, rfl, hro⟩
    (repeat' (first | fail "q1" | fail "q2" | fail "q4" | fail))
    refine draw_w hs9 (by omega) (by decide) (by decide) (fun n4 Sa d0 d1 hsa la oa => ?_)
    have Ka : Kp l S7 Sa := K9.trans (Kp.same la oa)
    obtain ⟨xs, ex, xl⟩ := range_xs (j := n4)
    (repeat' (first | fail "q1" | fail "q2" | fail "q4" | fail))
    rw [ex]
    refine CfDraw (g := dTe) (c := 6) (P := TeG ps) hsa (by omega) (fun d _ i S' hi hs K => ?_) (fun ts Sb tl hts hsb Kb => ?_)
    · have gp' : S'[P]? = some (.lst (ps.map dS)) := by rw [K.get _ hlp (by have := Ka.len; omega), Ka.get _ hlp (by omega)]; exact gp7
      (repeat' (first | fail "q1" | fail "q2" | fail "q4" | fail))
      refine dtest_w hs (by omega) (seqL_ref gp') (fun z => by injection z with z; omega) okp (by omega) (fun t S'' ht hs'' l'' o'' => ?_)
      exact ⟨t, rfl, ht, hs'', Kp.same l'' o''⟩
    have Kb7 : Kp l S7 Sb := Ka.trans Kb
    (repeat' (first | refine Bs_by (x := .tup (ts.map dTe)) rfl ?_ | fail "q1" | fail "q2" | fail "q4" | fail))
    refine draw_w hsb (by omega) (by decide) (by decide) (fun n5 Sc e0 e1 hsc lc oc => ?_)
    have Kc : Kp l S7 Sc := Kb7.trans (Kp.same lc oc)
    obtain ⟨ys, ey, yl⟩ := range_xs (j := n5)
    (repeat' (first | fail "q1" | fail "q2" | fail "q4" | fail))
    rw [ey]
    refine CfDraw (g := dAc) (c := 10) (P := AcG ps ks) hsc (by omega) (fun d _ i S' hi hs K => ?_) (fun as Sd al has hsd Kd => ?_)
    · have gp' : S'[P]? = some (.lst (ps.map dS)) := by rw [K.get _ hlp (by have := Kc.len; omega), Kc.get _ hlp (by omega)]; exact gp7
      have gk' : S'[N]? = some (.lst (ks.map dS)) := by rw [K.get _ hlk (by have := Kc.len; omega), Kc.get _ hlk (by omega)]; exact gk7
      (repeat' (first | fail "q1" | fail "q2" | fail "q4" | fail))
      refine dact_w hs (by omega) gp' hlp gk' hlk sev okp okk (by omega) (by omega) (fun a S'' ha hs'' l'' o'' => ?_)
      exact ⟨a, rfl, ha, hs'', Kp.same l'' o''⟩
    have Kd7 : Kp l S7 Sd := Kc.trans Kd
    have gsd : Sd[T]? = some (.lst (ss.map dS)) := by rw [Kd7.get _ hls (by omega)]; exact gs7
    have gd7 : Sd[S6.length]? = some (.lst (rs.map dRu)) := by rw [Kd7.get _ hl7 lt7]; exact g7
    (repeat' (first | refine Bs_lenq (seqL_ref gsd) ?_ | fail "q1" | fail "q2" | fail "q4" | fail))
    refine Dr_pick hsd (by omega) gsd hls (by omega) (by omega) (fun st Se hst hse le oe => ?_)
    have gse : Se[T]? = some (.lst (ss.map dS)) := by rw [oe _ hls]; exact gsd
    have ge : Se[S6.length]? = some (.lst (rs.map dRu)) := by rw [oe _ hl7]; exact gd7
    (repeat' (first | refine Bs_by (x := .tup (as.map dAc)) rfl ?_ | refine Bs_lenq (seqL_ref gse) ?_ | refine Md_app ge ?_ | fail "q1" | fail "q2" | fail "q4" | fail))
    refine Dr_pick hse (by omega) gse hls (by omega) (by omega) (fun la Sf hla hsf lf of => ?_)
    have gf : Sf[S6.length]? = some (.lst (rs.map dRu)) := by rw [of _ hl7]; exact ge
    have lfd := Kd7.len
    (repeat' (first | fail "q1" | fail "q2" | fail "q4" | fail))
    refine Mt_app gf (by rw [List.length_map]; omega) (fun Sg gg lg og => ?_)
    have hsg : Src Sg l (k + 200 + 70 * (i + 1 : Nat)) := by
      obtain ⟨u, v, w, h1, h2, h3⟩ := hsf.out
      exact ⟨⟨u, v, w, by rw [og l (by omega)]; exact h1, h2, by omega⟩⟩
    have Kg : Kp l S6 Sg := by
      have K := (((K7.trans Kd7).trans (Kp.same le oe)).trans (Kp.same lf of))
      exact ⟨by have := K.len; omega, fun x hx hl => by rw [og x (by omega), K.get x hx hl]⟩
    have eg : rs.map dRu ++ [dRu ⟨ev, ro, st, ts, as, la⟩] = (rs ++ [(⟨ev, ro, st, ts, as, la⟩ : Ru)]).map dRu := by simp
    have gg : Sg[S6.length]? = some (.lst ((rs ++ [(⟨ev, ro, st, ts, as, la⟩ : Ru)]).map dRu)) := by rw [← eg]; exact gg
    refine ⟨rs ++ [⟨ev, ro, st, ts, as, la⟩], _, _, _, _, _, _, rfl, by rw [List.length_append, rl]; rfl, fun r hr => ?_, gg, hsg, Kg⟩
    rcases List.mem_append.mp hr with z | z
    · exact okr r z
    · rw [List.mem_singleton.mp z]
      exact ⟨hev, hro, hst, hla, by show ts.length ≤ 3; omega, hts, by show as.length ≤ 4; omega, has⟩
  · rintro σ S7 ⟨rs, x6, x7, x8, x9, x10, x11, rfl, rl, okr, g7, hs7, K7⟩
    rw [range_len] at rl hs7
    have gp7 : S7[P]? = some (.lst (ps.map dS)) := by rw [K7.get _ hlp lp]; exact gp
    have gs7 : S7[T]? = some (.lst (ss.map dS)) := by rw [K7.get _ hls ls]; exact gs
    have gk7 : S7[N]? = some (.lst (ks.map dS)) := by rw [K7.get _ hlk lk]; exact g6
    have lt7 : S6.length < S7.length := (List.getElem?_eq_some_iff.mp g7).1
    have hl7 : S6.length ≠ l := by omega
    (repeat' (first | refine Bs_lenq (seqL_ref gs7) ?_ | fail "q1" | fail "q2" | fail "q4" | fail))
    refine Dr_pick hs7 (by omega) gs7 hls (by omega) (by omega) (fun b S8 hb hs8 l8 o8 => ?_)
    have gp8 : S8[P]? = some (.lst (ps.map dS)) := by rw [o8 _ hlp]; exact gp7
    (repeat' (first | fail "q1" | fail "q2" | fail "q4" | fail))
    refine It_ref gp8 ?_
    refine Cf_invR (xs := ps.map dS) (fun i acc S' => Src S' l (k + 3400 + 3 * i) ∧ S'.length = S8.length ∧ (∀ i, i ≠ l → S'[i]? = S8[i]?) ∧ ∃ bp : List (Int × Int), acc = bp.map dPt ∧ (∀ p ∈ bp, SmP p) ∧ bp.length = i) (fun i acc S' h => by rw [h.2.2.1 P hlp]; exact gp8) (by rw [List.length_map]; omega) ⟨hs8.mono (by omega), rfl, fun _ _ => rfl, [], rfl, (fun _ z => by cases z), rfl⟩ ?_ ?_
    · rintro i d acc S9 hd ⟨hs9, l9, o9, bp, rfl, hbp, bl⟩ hi
      have hi : i < (ps.map dS).length := (List.getElem?_eq_some_iff.mp hd).1
      rw [List.length_map] at hi
      (repeat' (first | fail "q1" | fail "q2" | fail "q4" | fail))
      refine dpart_w hs9 (by omega) (fun p Sa hp hsa la oa => ?_)
      refine ⟨hsa.mono (by omega), by omega, fun i hi => by rw [oa i hi, o9 i hi], bp ++ [p], by simp, fun x hx => ?_, by rw [List.length_append, bl]; rfl⟩
      rcases List.mem_append.mp hx with z | z
      · exact hbp x z
      · rw [List.mem_singleton.mp z]; exact hp
    rintro acc S9 ⟨hs9, l9, o9, bp, rfl, hbp, bl⟩
    rw [List.length_map] at hs9 bl
    have K69 : Kp l S6 S9 := (K7.trans (Kp.same l8 o8)).trans (Kp.same l9 o9)
    have gp9 : S9[P]? = some (.lst (ps.map dS)) := by rw [o9 _ hlp]; exact gp8
    have gs9 : S9[T]? = some (.lst (ss.map dS)) := by rw [K69.get _ hls ls]; exact gs
    have gk9 : S9[N]? = some (.lst (ks.map dS)) := by rw [K69.get _ hlk lk]; exact g6
    have g9 : S9[S6.length]? = some (.lst (rs.map dRu)) := by rw [o9 _ hl7, o8 _ hl7]; exact g7
    (repeat' (first | refine Bs_by (x := .tup (bp.map dPt)) rfl ?_ | refine Bs_tupr gp9 ?_ | refine Bs_tupr gs9 ?_ | refine Bs_tupr gk9 ?_ | refine Bs_tupr g9 ?_ | fail "q1" | fail "q2" | fail "q4" | fail))
    refine fin_k hlt (hs9.mono (show k + 3400 + 3 * (ps.length : Int) ≤ k + 3500 by omega)) (K06.trans K69) (fun S' x y => hQ ⟨ps, ss, ks, b, bp, rs⟩ S' ⟨okp, oks, okk, pl3, sl1, sl4, kl3, hb, bl, hbp, okr⟩ rl x y)
end QL

namespace QL
open PySem Q
/-! ### half of the rules of the first state -/
theorem wy_i {S : Store} {w : Wy} {R : D → Prop} : (R (.tup (w.ps.map dS)) → IxP S (dWy w) (.int 0) R) ∧ (R (.tup (w.ss.map dS)) → IxP S (dWy w) (.int 1) R) ∧ (R (.tup (w.ks.map dS)) → IxP S (dWy w) (.int 2) R) ∧ (R (.tup (w.rs.map dRu)) → IxP S (dWy w) (.int 4) R) :=
  ⟨fun h => Ix_by (x' := .tup (w.ps.map dS)) rfl h, fun h => Ix_by (x' := .tup (w.ss.map dS)) rfl h, fun h => Ix_by (x' := .tup (w.ks.map dS)) rfl h, fun h => Ix_by (x' := .tup (w.rs.map dRu)) rfl h⟩
theorem ru_i {S : Store} {r : Ru} {R : D → Prop} : (R (dS r.ev) → IxP S (dRu r) (.int 0) R) ∧ (R (dS r.ro) → IxP S (dRu r) (.int 1) R) ∧ (R (dS r.st) → IxP S (dRu r) (.int 2) R) ∧ (R (.tup (r.ts.map dTe)) → IxP S (dRu r) (.int 3) R) :=
  ⟨fun h => Ix_by (x' := dS r.ev) rfl h, fun h => Ix_by (x' := dS r.ro) rfl h, fun h => Ix_by (x' := dS r.st) rfl h, fun h => Ix_by (x' := .tup (r.ts.map dTe)) rfl h⟩
theorem Sl_by {S : Store} {x x' : D} {lo hi : Option Int} {R : D → Prop} (e : slD S x lo hi = some x') (h : R x') : SlP S x lo hi R := ⟨⟨x', e, h⟩⟩
theorem gathered_w {S : Store} {l : Nat} {k : Int} {w : Wy} (h : Src S l k) (hk : k ≤ 94000) (g : WyG w) (n40 : w.rs.length ≤ 40) {Qd : D → Store → Prop} {E : EX}
    (hQ : ∀ w' S', WyG w' → w'.rs.length = w.rs.length → Src S' l (k + 50) → Kp l S S' → Qd (dWy w') S') : W (m__law_gathered [.ref l, dWy w] S) Qd E := by
  have hlt := h.lt
  apply w__law_gathered
  unfold z__law_gathered
  have s0 : ∃ s ss, w.ss = s :: ss := by
    cases e : w.ss with
    | nil => have := g.s1; rw [e] at this; simp at this
    | cons s ss => exact ⟨s, ss, rfl⟩
  obtain ⟨s, ss, es⟩ := s0
  have hs0 : s ∈ w.ss := by rw [es]; exact List.mem_cons_self ..
  have ix0 : ∀ {S : Store} {R : D → Prop}, R (dS s) → IxP S (.tup (w.ss.map dS)) (.int 0) R := fun {S R} h => by
    rw [es]
    exact Ix_tup (by decide) (by rw [List.length_map, List.length_cons]; omega) (fun d hd => by
      have hd : some (dS s) = some d := hd
      cases hd; exact h)
  have wi4 : ∀ {S : Store} {R : D → Prop}, R (.tup (w.rs.map dRu)) → IxP S (dWy w) (.int 4) R := fun h => wy_i.2.2.2 h
  have wi1 : ∀ {S : Store} {R : D → Prop}, R (.tup (w.ss.map dS)) → IxP S (dWy w) (.int 1) R := fun h => wy_i.2.1 h
  (repeat' (first | (with_reducible refine wi4 ?_) | fail "q1" | fail "q2" | fail "q4" | fail))
  refine Lp_inv (fun i σ S' => ∃ (rs : List Ru) (x3 x4 : Option D), σ = [some (.ref l), some (dWy w), some (.ref S.length), x3, x4] ∧ rs.length = i ∧ (∀ r ∈ rs, RuG w.ps w.ss w.ks r) ∧ S'[S.length]? = some (.lst (rs.map dRu)) ∧ Src S' l (k + i) ∧ Kp l S S') ⟨[], _, _, rfl, rfl, (fun _ z => by cases z), by simp, h.app.mono (by omega), .app⟩ ?_ ?_ (by show (w.rs.map dRu).length < 100000; rw [List.length_map]; omega)
  · rintro i d σ S1 hd ⟨rs, x3, x4, rfl, rl, okr, g1, hs1, K1⟩
    have hd : (w.rs.map dRu)[i]? = some d := hd
    rw [List.getElem?_map, Option.map_eq_some_iff] at hd
    obtain ⟨r, hr, rfl⟩ := hd
    have hi := (List.getElem?_eq_some_iff.mp hr).1
    have hr := g.rs r (List.mem_of_getElem? hr)
    have lt1 := (List.getElem?_eq_some_iff.mp g1).1
    have ri2 : ∀ {S : Store} {R : D → Prop}, R (dS r.st) → IxP S (dRu r) (.int 2) R := fun h => ru_i.2.2.1 h
    (repeat' (first | (with_reducible refine ri2 ?_) | (with_reducible refine wi1 ?_) | (with_reducible refine ix0 ?_) | fail "q1" | fail "q2" | fail "q4" | fail))
    refine draw_w hs1 (by omega) (by decide) (by decide) (fun m S2 a0 a1 hs2 l2 o2 => ?_)
    have g2 : S2[S.length]? = some (.lst (rs.map dRu)) := by rw [o2 _ (by omega)]; exact g1
    refine Ix_pick (fun d => ∃ st, d = dS st ∧ st ∈ w.ss) a0 (by show m < 2; omega) (fun d hd => ?_) ?_
    · simp only [List.mem_cons, List.not_mem_nil, or_false] at hd
      rcases hd with rfl | rfl
      · exact ⟨_, rfl, hr.st⟩
      · exact ⟨_, rfl, hs0⟩
    rintro d ⟨st, rfl, hst⟩
    have sl2 : ∀ {S : Store} {R : D → Prop}, R (.tup [dS r.ev, dS r.ro]) → SlP S (dRu r) none (some 2) R := fun h => Sl_by rfl h
    have sl3 : ∀ {S : Store} {R : D → Prop}, R (.tup [.tup (r.ts.map dTe), .tup (r.as.map dAc), dS r.la]) → SlP S (dRu r) (some 3) none R := fun h => Sl_by rfl h
    (repeat' (first | refine Md_app g2 ?_ | (with_reducible refine sl2 ?_) | (with_reducible refine sl3 ?_) | refine Bn_tup (Nat.le_of_ble_eq_true rfl) ?_ | fail "q1" | fail "q2" | fail "q4" | fail))
    refine Mt_app g2 (by rw [List.length_map]; omega) (fun S3 g3 l3 o3 => ?_)
    (repeat' (first | fail "q1" | fail "q2" | fail "q4" | fail))
    have e3 : rs.map dRu ++ [dRu { r with st := st }] = (rs ++ [{ r with st := st }]).map dRu := by simp
    have g3 : S3[S.length]? = some (.lst ((rs ++ [{ r with st := st }]).map dRu)) := by rw [← e3]; exact g3
    have hs3 : Src S3 l (k + (i + 1 : Nat)) := by
      obtain ⟨u, v, x, h1, h2, h3⟩ := hs2.out
      exact ⟨⟨u, v, x, by rw [o3 l (by omega)]; exact h1, h2, by omega⟩⟩
    refine ⟨rs ++ [{ r with st := st }], _, _, rfl, by rw [List.length_append, rl]; rfl, fun x hx => ?_, g3, hs3, ⟨by have := K1.len; omega, fun x hx hl => by rw [o3 x (by omega), o2 x hx, K1.get x hx hl]⟩⟩
    rcases List.mem_append.mp hx with z | z
    · exact okr x z
    · rw [List.mem_singleton.mp z]
      exact ⟨hr.ev, hr.ro, hst, hr.la, hr.tl, hr.ts, hr.al, hr.as⟩
  · rintro σ S1 ⟨rs, x3, x4, rfl, rl, okr, g1, hs1, K1⟩
    have rl : rs.length = (w.rs.map dRu).length := rl
    have hs1 : Src S1 l (k + ((w.rs.map dRu).length : Nat)) := hs1
    rw [List.length_map] at rl hs1
    have sl4 : ∀ {S : Store} {R : D → Prop}, R (.tup [.tup (w.ps.map dS), .tup (w.ss.map dS), .tup (w.ks.map dS), .tup [dS w.b, .tup (w.bp.map dPt)]]) → SlP S (dWy w) none (some 4) R := fun h => Sl_by rfl h
    (repeat' (first | (with_reducible refine sl4 ?_) | refine Bs_tupr g1 ?_ | refine Bn_tup (Nat.le_of_ble_eq_true rfl) ?_ | fail "q1" | fail "q2" | fail "q4" | fail))
    exact fin_k hlt (hs1.mono (by omega)) K1 (fun S' x y => hQ { w with rs := rs } S' ⟨g.ps, g.ss, g.ks, g.pl, g.s1, g.sl, g.kl, g.b, g.bl, g.bp, okr⟩ rl x y)
end QL

namespace QL
open PySem Q
/-! ### what the purses hold -/
abbrev Kvs : Type := List (L2.Key × D)
def nmK (p : List Nat) : L2.Key := .inr (SX.S p)
theorem putG_keys {kvs : Kvs} {k : L2.Key} {v : D} : (k ∈ kvs.map (·.1) ∧ (putG kvs k v).map (·.1) = kvs.map (·.1)) ∨ (k ∉ kvs.map (·.1) ∧ (putG kvs k v).map (·.1) = kvs.map (·.1) ++ [k]) := by
  unfold putG
  by_cases c : (kvs.any fun kv => decide (kv.1 = k)) = true
  · rw [if_pos c]
    obtain ⟨x, hx, e⟩ := List.any_eq_true.mp c
    refine .inl ⟨List.mem_map.mpr ⟨x, hx, of_decide_eq_true e⟩, ?_⟩
    rw [List.map_map]
    refine List.map_congr_left (fun x _ => ?_)
    show (if x.1 = k then (x.1, v) else x).1 = x.1
    split <;> rfl
  · rw [if_neg c]
    refine .inr ⟨fun z => ?_, by rw [List.map_append]; rfl⟩
    obtain ⟨x, hx, e⟩ := List.mem_map.mp z
    exact c (List.any_eq_true.mpr ⟨x, hx, decide_eq_true e⟩)
theorem putG_in {kvs : Kvs} {k : L2.Key} {v : D} {x : L2.Key × D} (h : x ∈ putG kvs k v) : x ∈ kvs ∨ x.2 = v := by
  unfold putG at h
  split at h
  · obtain ⟨y, hy, e⟩ := List.mem_map.mp h
    split at e
    · right; rw [← e]
    · left; rw [← e]; exact hy
  · rcases List.mem_append.mp h with z | z
    · exact .inl z
    · right; rw [List.mem_singleton.mp z]
structure HdOk (kvs : Kvs) (qs : List (List Nat)) : Prop where
  nd : (kvs.map (·.1)).Nodup
  vals : ∀ x ∈ kvs, ∃ pt, x.2 = dPt pt ∧ SmP pt
  has : ∀ p ∈ qs, nmK p ∈ kvs.map (·.1)
  len : kvs.length ≤ qs.length
theorem HdOk.put {kvs : Kvs} {qs : List (List Nat)} {p : List Nat} {pt : Int × Int} (h : HdOk kvs qs) (hp : SmP pt) : HdOk (putG kvs (nmK p) (dPt pt)) (qs ++ [p]) := by
  have vals : ∀ x ∈ putG kvs (nmK p) (dPt pt), ∃ pt, x.2 = dPt pt ∧ SmP pt := fun x hx => by
    rcases putG_in hx with z | z
    · exact h.vals x z
    · exact ⟨pt, z, hp⟩
  have hl := h.len
  rcases putG_keys (kvs := kvs) (k := nmK p) (v := dPt pt) with ⟨c, k⟩ | ⟨c, k⟩
  · refine ⟨by rw [k]; exact h.nd, vals, fun q hq => ?_, ?_⟩
    · rw [k]
      rcases List.mem_append.mp hq with z | z
      · exact h.has q z
      · rw [List.mem_singleton.mp z]; exact c
    · have ll := congrArg List.length k
      rw [List.length_map, List.length_map] at ll
      rw [ll, List.length_append]
      omega
  · refine ⟨?_, vals, fun q hq => ?_, ?_⟩
    · rw [k, List.nodup_append]
      refine ⟨h.nd, by simp, fun x hx y hy e => ?_⟩
      rw [List.mem_singleton.mp hy] at e
      exact c (e ▸ hx)
    · rw [k]
      rcases List.mem_append.mp hq with z | z
      · exact List.mem_append_left _ (h.has q z)
      · rw [List.mem_singleton.mp z]; exact List.mem_append_right _ (by simp)
    · have ll := congrArg List.length k
      rw [List.length_map, List.length_append, List.length_map, List.length_singleton] at ll
      rw [ll, List.length_append, List.length_singleton]
      omega
theorem HdOk.at {kvs : Kvs} {qs : List (List Nat)} {p : List Nat} (h : HdOk kvs qs) (hp : p ∈ qs) : ∃ pt, valG kvs (nmK p) = some (dPt pt) ∧ SmP pt := by
  obtain ⟨x, hx, e⟩ := List.mem_map.mp (h.has p hp)
  obtain ⟨pt, e2, s⟩ := h.vals x hx
  refine ⟨pt, ?_, s⟩
  have e : x.1 = nmK p := e
  rw [← e2, ← e]
  exact valG_mem h.nd hx
def eqOf (purse : List Nat) : Te → Option D
  | .eq p n e => if p = purse then some (dPt (n, e)) else none
  | _ => none
theorem eqs_of {ps : List (List Nat)} {purse : List Nat} : ∀ {ts : List Te}, (∀ t ∈ ts, TeG ps t) → ∃ qs : List (Int × Int), ts.filterMap (eqOf purse) = qs.map dPt ∧ (∀ p ∈ qs, SmP p) ∧ qs.length ≤ ts.length
  | [], _ => ⟨[], rfl, (fun _ z => by cases z), Nat.le_refl _⟩
  | t :: ts, h => by
    obtain ⟨qs, e, a, b⟩ := eqs_of (ts := ts) (fun x hx => h x (List.mem_cons_of_mem _ hx))
    have ht := h t (List.mem_cons_self ..)
    have non : eqOf purse t = none → ∃ qs : List (Int × Int), (t :: ts).filterMap (eqOf purse) = qs.map dPt ∧ (∀ p ∈ qs, SmP p) ∧ qs.length ≤ (t :: ts).length := fun q => ⟨qs, by rw [List.filterMap_cons, q]; exact e, a, by rw [List.length_cons]; omega⟩
    cases t with
    | eq p n m =>
      by_cases c : p = purse
      · have q : eqOf purse (.eq p n m) = some (dPt (n, m)) := if_pos c
        refine ⟨(n, m) :: qs, ?_, fun x hx => ?_, by rw [List.length_cons, List.length_cons]; omega⟩
        · rw [List.filterMap_cons, q]
          exact congrArg (dPt (n, m) :: ·) e
        · rcases List.mem_cons.mp hx with rfl | hx
          · exact ht.2
          · exact a x hx
      · exact non (if_neg c)
    | _ => exact non rfl
theorem held_w {S : Store} {l : Nat} {k : Int} {w : Wy} (h : Src S l k) (hk : k ≤ 94000) (g : WyG w) (n40 : w.rs.length ≤ 40) {Qd : D → Store → Prop} {E : EX}
    (hQ : ∀ kvs S', HdOk kvs w.ps → S'[S.length]? = some (.dic kvs) → Src S' l (k + 20) → S.length < S'.length → Kp l S S' → Qd (.ref S.length) S') : W (m__law_held [.ref l, dWy w] S) Qd E := by
  have hlt := h.lt
  apply w__law_held
  unfold z__law_held
  have wi4 : ∀ {S : Store} {R : D → Prop}, R (.tup (w.rs.map dRu)) → IxP S (dWy w) (.int 4) R := fun h => wy_i.2.2.2 h
  have wi0 : ∀ {S : Store} {R : D → Prop}, R (.tup (w.ps.map dS)) → IxP S (dWy w) (.int 0) R := fun h => wy_i.1 h
  have pl := g.pl
  (repeat' (first | (with_reducible refine wi0 ?_) | fail "q1" | fail "q2" | fail "q4" | fail))
  refine Lp_inv (fun i σ S' => ∃ (kvs : Kvs) (x3 x4 x5 x6 : Option D), σ = [some (.ref l), some (dWy w), some (.ref S.length), x3, x4, x5, x6] ∧ HdOk kvs (w.ps.take i) ∧ S'[S.length]? = some (.dic kvs) ∧ Src S' l (k + 5 * i) ∧ Kp l S S') ⟨[], _, _, _, _, rfl, ⟨by simp, (fun _ z => by cases z), (fun _ z => by simp at z), by simp⟩, by simp, h.app.mono (by omega), .app⟩ ?_ ?_ (by show (w.ps.map dS).length < 100000; rw [List.length_map]; omega)
  · rintro i d σ S1 hd ⟨kvs, x3, x4, x5, x6, rfl, hk1, g1, hs1, K1⟩
    have hd : (w.ps.map dS)[i]? = some d := hd
    rw [List.getElem?_map, Option.map_eq_some_iff] at hd
    obtain ⟨purse, hp, rfl⟩ := hd
    have hi := (List.getElem?_eq_some_iff.mp hp).1
    have hpm := List.mem_of_getElem? hp
    have sp := okName_s (g.ps purse hpm)
    have lt1 := (List.getElem?_eq_some_iff.mp g1).1
    (repeat' (first | fail "q1" | fail "q2" | fail "q4" | fail))
    refine dpart_w hs1 (by omega) (fun p0 S2 hp0 hs2 l2 o2 => ?_)
    have g2 : S2[S.length]? = some (.dic kvs) := by rw [o2 _ (by omega)]; exact g1
    (repeat' (first | (with_reducible refine wi4 ?_) | fail "q1" | fail "q2" | fail "q4" | fail))
    refine Lp_inv (fun j σ S' => S' = S2 ∧ ∃ (pts : List (Int × Int)) (x5 : Option D), σ = [some (.ref l), some (dWy w), some (.ref S.length), some (dS purse), some (.lst (pts.map dPt)), x5, x6] ∧ (∀ p ∈ pts, SmP p) ∧ 0 < pts.length ∧ pts.length ≤ 2 + 3 * j) ⟨rfl, [(0, 0), p0], _, rfl, fun p hp => ?_, by simp, by simp⟩ ?_ ?_ (by show (w.rs.map dRu).length < 100000; rw [List.length_map]; omega)
    · rcases List.mem_cons.mp hp with rfl | hp
      · exact ⟨by decide, by decide, by decide, by decide⟩
      · rw [List.mem_singleton.mp hp]; exact hp0
    · rintro j d σ S' hd ⟨rfl, pts, x5, rfl, hpts, p0, pl2⟩
      have hd : (w.rs.map dRu)[j]? = some d := hd
      rw [List.getElem?_map, Option.map_eq_some_iff] at hd
      obtain ⟨r, hr, rfl⟩ := hd
      have hj := (List.getElem?_eq_some_iff.mp hr).1
      have hr := g.rs r (List.mem_of_getElem? hr)
      have tl := hr.tl
      have ri3 : ∀ {S : Store} {R : D → Prop}, R (.tup (r.ts.map dTe)) → IxP S (dRu r) (.int 3) R := fun h => ru_i.2.2.2 h
      (repeat' (first | (with_reducible refine ri3 ?_) | fail "q1" | fail "q2" | fail "q4" | fail))
      refine CfFM (xs := r.ts) (g := dTe) (eqOf purse) (by omega) (fun t ht => ?_) ?_
      · have tg := hr.ts t ht
        cases t with
        | mat =>
          (repeat' (first | refine Bs_by (x := .int 1) rfl ?_ | fail "q1" | fail "q2" | fail "q4" | fail))
          exact ⟨rfl, rfl⟩
        | even =>
          (repeat' (first | refine Bs_by (x := .int 1) rfl ?_ | fail "q1" | fail "q2" | fail "q4" | fail))
          exact ⟨rfl, rfl⟩
        | more p =>
          (repeat' (first | refine Bs_by (x := .int 2) rfl ?_ | fail "q1" | fail "q2" | fail "q4" | fail))
          exact ⟨rfl, rfl⟩
        | eq p n m =>
          have sq := okName_s (g.ps p tg.1)
          (repeat' (first | refine Bs_by (x := .int 3) rfl ?_ | refine Ix_by (x' := dS p) rfl ?_ | fail "q1" | fail "q2" | fail "q4" | fail))
          refine Cp_eqS sq sp ?_
          have e0 : eqOf purse (.eq p n m) = if p = purse then some (dPt (n, m)) else none := rfl
          rw [e0]
          by_cases c : p = purse
          · rw [decide_eq_true c, if_pos c]
            (repeat' (first | refine Ix_by (x' := dPt (n, m)) rfl ?_ | fail "q1" | fail "q2" | fail "q4" | fail))
            exact ⟨rfl, rfl⟩
          · rw [decide_eq_false c, if_neg c]
            (repeat' (first | fail "q1" | fail "q2" | fail "q4" | fail))
            exact ⟨rfl, rfl⟩
      obtain ⟨qs, e, a, b⟩ := eqs_of (purse := purse) hr.ts
      rw [e]
      refine Bn_lst (by rw [List.length_map, List.length_map]; omega) ?_
      rw [← List.map_append]
      (repeat' (first | fail "q1" | fail "q2" | fail "q4" | fail))
      refine ⟨rfl, pts ++ qs, _, rfl, fun x hx => ?_, by rw [List.length_append]; omega, by rw [List.length_append]; omega⟩
      rcases List.mem_append.mp hx with z | z
      · exact hpts x z
      · exact a x z
    · rintro σ S' ⟨rfl, pts, x5, rfl, hpts, p0, pl2⟩
      have pl2 : pts.length ≤ 2 + 3 * (w.rs.map dRu).length := pl2
      rw [List.length_map] at pl2
      (repeat' (first | refine Bs_lenq (xs := pts.map dPt) rfl ?_ | fail "q1" | fail "q2" | fail "q4" | fail))
      rw [List.length_map]
      refine draw_w hs2 (by omega) (by omega) (by omega) (fun m S3 b0 b1 hs3 l3 o3 => ?_)
      have g3 : S3[S.length]? = some (.dic kvs) := by rw [o3 _ (by omega)]; exact g2
      refine Ix_pick (fun d => ∃ pt, d = dPt pt ∧ SmP pt) b0 (by rw [List.length_map]; exact b1) (fun d hd => ?_) ?_
      · obtain ⟨pt, h1, rfl⟩ := List.mem_map.mp hd
        exact ⟨pt, rfl, hpts pt h1⟩
      rintro d ⟨pt, rfl, hpt⟩
      (repeat' (first | fail "q1" | fail "q2" | fail "q4" | fail))
      have kl := hk1.len
      rw [List.length_take] at kl
      refine Sd_key g3 (kk := nmK purse) rfl (by omega) ?_
      (repeat' (first | fail "q1" | fail "q2" | fail "q4" | fail))
      have lt3 := (List.getElem?_eq_some_iff.mp g3).1
      have e4 : ∀ x, x ≠ S.length → (S3.set S.length (.dic (putG kvs (nmK purse) (dPt pt))))[x]? = S3[x]? := fun x hx => List.getElem?_set_ne (Ne.symm hx)
      have tk : w.ps.take (i + 1) = w.ps.take i ++ [purse] := by rw [List.take_succ, hp]; rfl
      refine ⟨_, _, _, _, _, rfl, by rw [tk]; exact hk1.put hpt, by rw [List.getElem?_set_self lt3], ?_, ⟨by rw [List.length_set]; omega, fun x hx hl => by rw [e4 x (by omega), o3 x hx, o2 x hx, K1.get x hx hl]⟩⟩
      obtain ⟨u, v, x, h1, h2, h3⟩ := hs3.out
      exact ⟨⟨u, v, x, by rw [e4 l (by omega)]; exact h1, h2, by omega⟩⟩
  · rintro σ S1 ⟨kvs, x3, x4, x5, x6, rfl, hk1, g1, hs1, K1⟩
    have hk1 : HdOk kvs (w.ps.take (w.ps.map dS).length) := hk1
    have hs1 : Src S1 l (k + 5 * ((w.ps.map dS).length : Nat)) := hs1
    rw [List.length_map] at hk1 hs1
    rw [List.take_length] at hk1
    have lt1 := (List.getElem?_eq_some_iff.mp g1).1
    (repeat' (first | fail "q1" | fail "q2" | fail "q4" | fail))
    exact Fn_ref (Nat.le_refl _) lt1 (hQ kvs S1 hk1 g1 (hs1.mono (by omega)) lt1 K1)
end QL

namespace QL
open PySem Q
/-! ### rules that fit -/
def fitR (ev ro st : List Nat) (r : Ru) : Bool := decide (r.ev = ev) && ((decide (r.ro = ro) || decide (r.ro = cAny)) && decide (r.st = st))
structure RuS (r : Ru) : Prop where
  ev : sOk r.ev = true
  ro : sOk r.ro = true
  st : sOk r.st = true
  la : sOk r.la = true
theorem ruS_of {w : Wy} (g : WyG w) {r : Ru} (hr : r ∈ w.rs) : RuS r := by
  have h := g.rs r hr
  refine ⟨?_, ?_, okName_s (g.ss _ h.st), okName_s (g.ss _ h.la)⟩
  · rcases List.mem_append.mp h.ev with z | z
    · simp only [List.mem_cons, List.not_mem_nil, or_false] at z
      rcases z with z | z | z <;> (rw [z]; decide)
    · exact okName_s (g.ks _ z)
  · have z := h.ro
    simp only [roles3, List.mem_cons, List.not_mem_nil, or_false] at z
    rcases z with z | z | z <;> (rw [z]; decide)
theorem Mt_snoc {S : Store} {xs : List D} {y : D} {QD : D → Store → Prop} (hl : xs.length < 16777216) (h : QD .non (S ++ [.lst (xs ++ [y])])) : MtP (S ++ [.lst xs]) .append (.ref S.length) [y] QD :=
  Mt_app (List.getElem?_concat_length ..) hl (fun S' g l o => by
    have e : S' = S ++ [.lst (xs ++ [y])] := by
      refine List.ext_getElem? (fun i => ?_)
      by_cases c : i = S.length
      · subst c
        rw [g, List.getElem?_concat_length]
      · rw [o i c]
        rcases Nat.lt_or_ge i S.length with z | z
        · rw [List.getElem?_append_left z, List.getElem?_append_left z]
        · rw [List.getElem?_eq_none (by simp; omega), List.getElem?_eq_none (by simp; omega)]
    rw [e]
    exact h)
section
variable {S : Store} {w : Wy} {ev ro st : List Nat}
theorem rulesof_w (g : WyG w) (n40 : w.rs.length ≤ 40) (se : sOk ev = true) (sr : sOk ro = true) (ss : sOk st = true) {Qd : D → Store → Prop} {E : EX} (hQ : Qd (.ref S.length) (S ++ [.lst ((w.rs.filter (fitR ev ro st)).map dRu)])) : W (m_rules_of [dWy w, dS ev, dS ro, dS st] S) Qd E := by
  apply w_rules_of
  unfold z_rules_of
  rw [kAny]
  have wi4 : ∀ {S : Store} {R : D → Prop}, R (.tup (w.rs.map dRu)) → IxP S (dWy w) (.int 4) R := fun h => wy_i.2.2.2 h
  (repeat' (first | (with_reducible refine wi4 ?_) | fail "q1" | fail "q2" | fail "q4" | fail))
  refine Lp_inv (fun i σ S' => S' = S ++ [.lst (((w.rs.take i).filter (fitR ev ro st)).map dRu)] ∧ ∃ x5 : Option D, σ = [some (dWy w), some (dS ev), some (dS ro), some (dS st), some (.ref S.length), x5]) ⟨rfl, _, rfl⟩ ?_ ?_ (by show (w.rs.map dRu).length < 100000; rw [List.length_map]; omega)
  · rintro i d σ S' hd ⟨rfl, x5, rfl⟩
    have hd : (w.rs.map dRu)[i]? = some d := hd
    rw [List.getElem?_map, Option.map_eq_some_iff] at hd
    obtain ⟨r, hr, rfl⟩ := hd
    have q := ruS_of g (List.mem_of_getElem? hr)
    have hi := (List.getElem?_eq_some_iff.mp hr).1
    have tk : w.rs.take (i + 1) = w.rs.take i ++ [r] := by rw [List.take_succ, hr]; rfl
    have fl : ((w.rs.take i).filter (fitR ev ro st)).length ≤ 40 := Nat.le_trans (List.length_filter_le ..) (by rw [List.length_take]; omega)
    have ri0 : ∀ {S : Store} {R : D → Prop}, R (dS r.ev) → IxP S (dRu r) (.int 0) R := fun h => ru_i.1 h
    have ri1 : ∀ {S : Store} {R : D → Prop}, R (dS r.ro) → IxP S (dRu r) (.int 1) R := fun h => ru_i.2.1 h
    have ri2 : ∀ {S : Store} {R : D → Prop}, R (dS r.st) → IxP S (dRu r) (.int 2) R := fun h => ru_i.2.2.1 h
    have no : fitR ev ro st r = false → (∃ x5 : Option D, S ++ [.lst (((w.rs.take i).filter (fitR ev ro st)).map dRu)] = S ++ [Ob.lst (((w.rs.take (i + 1)).filter (fitR ev ro st)).map dRu)] ∧ [some (dWy w), some (dS ev), some (dS ro), some (dS st), some (.ref S.length), some (dRu r)] = [some (dWy w), some (dS ev), some (dS ro), some (dS st), some (.ref S.length), x5]) := fun h => ⟨_, by rw [tk, List.filter_append, List.filter_cons_of_neg (by rw [h]; decide)]; simp, rfl⟩
    have f0 : fitR ev ro st r = (decide (r.ev = ev) && ((decide (r.ro = ro) || decide (r.ro = cAny)) && decide (r.st = st))) := rfl
    (repeat' (first | (with_reducible refine ri0 ?_) | (with_reducible refine Cp_eqS q.ev se ?_) | fail "q1" | fail "q2" | fail "q4" | fail))
    cases c1 : decide (r.ev = ev) with
    | false =>
      (repeat' (first | fail "q1" | fail "q2" | fail "q4" | fail))
      obtain ⟨y, a, b⟩ := no (by rw [f0, c1]; rfl)
      exact ⟨a, y, b⟩
    | true =>
      (repeat' (first | (with_reducible refine ri1 ?_) | (with_reducible refine Cp_in2 q.ro sr (by decide) ?_) | fail "q1" | fail "q2" | fail "q4" | fail))
      cases c2 : (decide (r.ro = ro) || decide (r.ro = cAny)) with
      | false =>
        (repeat' (first | fail "q1" | fail "q2" | fail "q4" | fail))
        obtain ⟨y, a, b⟩ := no (by rw [f0, c1, c2]; rfl)
        exact ⟨a, y, b⟩
      | true =>
        (repeat' (first | (with_reducible refine ri2 ?_) | (with_reducible refine Cp_eqS q.st ss ?_) | fail "q1" | fail "q2" | fail "q4" | fail))
        cases c3 : decide (r.st = st) with
        | false =>
          (repeat' (first | fail "q1" | fail "q2" | fail "q4" | fail))
          obtain ⟨y, a, b⟩ := no (by rw [f0, c1, c2, c3]; rfl)
          exact ⟨a, y, b⟩
        | true =>
          (repeat' (first | refine Md_app (List.getElem?_concat_length ..) ?_ | refine Mt_snoc (by rw [List.length_map]; omega) ?_ | fail "q1" | fail "q2" | fail "q4" | fail))
          refine ⟨?_, _, rfl⟩
          rw [tk, List.filter_append, List.filter_cons_of_pos (by rw [f0, c1, c2, c3]; rfl)]
          simp
  · rintro σ S' ⟨rfl, x5, rfl⟩
    have e : (w.rs.take (w.rs.map dRu).length) = w.rs := by rw [List.length_map, List.take_length]
    (repeat' (first | fail "q1" | fail "q2" | fail "q4" | fail))
    refine Fn_ref (Nat.le_refl _) (by simp) ?_
    show Qd _ (S ++ [.lst (((w.rs.take (w.rs.map dRu).length).filter (fitR ev ro st)).map dRu)])
    rw [e]
    exact hQ
theorem due_w (g : WyG w) (n40 : w.rs.length ≤ 40) (se : sOk ev = true) (sr : sOk ro = true) (ss : sOk st = true) {Qd : D → Store → Prop} {E : EX} (hQ : Qd (.ref S.length) (S ++ [.lst ((w.rs.filter (fitR ev ro st)).map dRu)])) : W (m__law_due [dWy w, dS ev, dS ro, dS st] S) Qd E := by
  apply w__law_due
  unfold z__law_due
  rw [kAny]
  have wi4 : ∀ {S : Store} {R : D → Prop}, R (.tup (w.rs.map dRu)) → IxP S (dWy w) (.int 4) R := fun h => wy_i.2.2.2 h
  (repeat' (first | (with_reducible refine wi4 ?_) | fail "q1" | fail "q2" | fail "q4" | fail))
  refine Lp_inv (fun i σ S' => S' = S ++ [.lst (((w.rs.take i).filter (fitR ev ro st)).map dRu)] ∧ ∃ x5 : Option D, σ = [some (dWy w), some (dS ev), some (dS ro), some (dS st), some (.ref S.length), x5]) ⟨rfl, _, rfl⟩ ?_ ?_ (by show (w.rs.map dRu).length < 100000; rw [List.length_map]; omega)
  · rintro i d σ S' hd ⟨rfl, x5, rfl⟩
    have hd : (w.rs.map dRu)[i]? = some d := hd
    rw [List.getElem?_map, Option.map_eq_some_iff] at hd
    obtain ⟨r, hr, rfl⟩ := hd
    have q := ruS_of g (List.mem_of_getElem? hr)
    have hi := (List.getElem?_eq_some_iff.mp hr).1
    have tk : w.rs.take (i + 1) = w.rs.take i ++ [r] := by rw [List.take_succ, hr]; rfl
    have fl : ((w.rs.take i).filter (fitR ev ro st)).length ≤ 40 := Nat.le_trans (List.length_filter_le ..) (by rw [List.length_take]; omega)
    have ri0 : ∀ {S : Store} {R : D → Prop}, R (dS r.ev) → IxP S (dRu r) (.int 0) R := fun h => ru_i.1 h
    have ri1 : ∀ {S : Store} {R : D → Prop}, R (dS r.ro) → IxP S (dRu r) (.int 1) R := fun h => ru_i.2.1 h
    have ri2 : ∀ {S : Store} {R : D → Prop}, R (dS r.st) → IxP S (dRu r) (.int 2) R := fun h => ru_i.2.2.1 h
    have no : fitR ev ro st r = false → (∃ x5 : Option D, S ++ [.lst (((w.rs.take i).filter (fitR ev ro st)).map dRu)] = S ++ [Ob.lst (((w.rs.take (i + 1)).filter (fitR ev ro st)).map dRu)] ∧ [some (dWy w), some (dS ev), some (dS ro), some (dS st), some (.ref S.length), some (dRu r)] = [some (dWy w), some (dS ev), some (dS ro), some (dS st), some (.ref S.length), x5]) := fun h => ⟨_, by rw [tk, List.filter_append, List.filter_cons_of_neg (by rw [h]; decide)]; simp, rfl⟩
    have f0 : fitR ev ro st r = (decide (r.ev = ev) && ((decide (r.ro = ro) || decide (r.ro = cAny)) && decide (r.st = st))) := rfl
    have in2 : ∀ {S : Store} {PB : Bool → Prop}, PB (decide (r.ro = ro) || decide (r.ro = cAny)) → Cp S .In (dS r.ro) (.lst [dS ro, dS cAny]) PB := fun {S PB} hp => Cp_inS (d := .lst [dS ro, dS cAny]) (ns := [ro, cAny]) rfl q.ro (fun b hb => by
      simp only [List.mem_cons, List.not_mem_nil, or_false] at hb
      rcases hb with rfl | rfl
      · exact sr
      · decide) (by
      have e : decide (r.ro ∈ [ro, cAny]) = (decide (r.ro = ro) || decide (r.ro = cAny)) := by simp
      rw [e]; exact hp)
    (repeat' (first | (with_reducible refine ri0 ?_) | (with_reducible refine Cp_eqS q.ev se ?_) | fail "q1" | fail "q2" | fail "q4" | fail))
    cases c1 : decide (r.ev = ev) with
    | false =>
      (repeat' (first | fail "q1" | fail "q2" | fail "q4" | fail))
      obtain ⟨y, a, b⟩ := no (by rw [f0, c1]; rfl)
      exact ⟨a, y, b⟩
    | true =>
      (repeat' (first | (with_reducible refine ri2 ?_) | (with_reducible refine Cp_eqS q.st ss ?_) | fail "q1" | fail "q2" | fail "q4" | fail))
      cases c3 : decide (r.st = st) with
      | false =>
        (repeat' (first | fail "q1" | fail "q2" | fail "q4" | fail))
        obtain ⟨y, a, b⟩ := no (by rw [f0, c1, c3, Bool.and_false, Bool.and_false])
        exact ⟨a, y, b⟩
      | true =>
        (repeat' (first | (with_reducible refine ri1 ?_) | (with_reducible refine in2 ?_) | fail "q1" | fail "q2" | fail "q4" | fail))
        cases c2 : (decide (r.ro = ro) || decide (r.ro = cAny)) with
        | false =>
          (repeat' (first | fail "q1" | fail "q2" | fail "q4" | fail))
          obtain ⟨y, a, b⟩ := no (by rw [f0, c1, c2]; rfl)
          exact ⟨a, y, b⟩
        | true =>
          (repeat' (first | refine Md_app (List.getElem?_concat_length ..) ?_ | refine Mt_snoc (by rw [List.length_map]; omega) ?_ | fail "q1" | fail "q2" | fail "q4" | fail))
          refine ⟨?_, _, rfl⟩
          rw [tk, List.filter_append, List.filter_cons_of_pos (by rw [f0, c1, c2, c3]; rfl)]
          simp
  · rintro σ S' ⟨rfl, x5, rfl⟩
    have e : (w.rs.take (w.rs.map dRu).length) = w.rs := by rw [List.length_map, List.take_length]
    (repeat' (first | fail "q1" | fail "q2" | fail "q4" | fail))
    refine Fn_ref (Nat.le_refl _) (by simp) ?_
    show Qd _ (S ++ [.lst (((w.rs.take (w.rs.map dRu).length).filter (fitR ev ro st)).map dRu)])
    rw [e]
    exact hQ
end
end QL

namespace QL
open PySem Q
/-! ### tests that hold -/
def hvOf (kvs : Kvs) (p : List Nat) : Int × Int := match valG kvs (nmK p) with
  | some (.tup [.int a, .int b]) => (a, b)
  | _ => (0, 0)
theorem HdOk.hv {kvs : Kvs} {qs : List (List Nat)} {p : List Nat} (h : HdOk kvs qs) (hp : p ∈ qs) : valG kvs (nmK p) = some (dPt (hvOf kvs p)) := by
  obtain ⟨pt, e, -⟩ := h.at hp
  have : hvOf kvs p = pt := by
    unfold hvOf
    rw [e]
    rfl
  rw [this, e]
def holdT (kvs : Kvs) (m e : Bool) : Te → Bool
  | .mat => m
  | .even => e
  | .more p => decide ((hvOf kvs p).1 > 0)
  | .eq p n f => decide (hvOf kvs p = (n, f))
theorem pt_cp {S : Store} {a b : Int × Int} {PB : Bool → Prop} (h : PB (decide (a = b))) : Cp S .Eq (dPt a) (dPt b) PB :=
  Cp_eq (EqOk.of (n := 1) (fine_pt a.1 a.2 0) (by decide)) (EqOk.of (n := 1) (fine_pt b.1 b.2 0) (by decide)) (fun z => by
    have : a = b := by
      unfold dPt at z
      injection z with z
      injection z with z1 z
      injection z with z2 z
      injection z1 with z1
      injection z2 with z2
      exact Prod.ext z1 z2
    rw [decide_eq_true this] at h; exact h) (fun z => by
    have : ¬ a = b := fun w => z (by rw [w])
    rw [decide_eq_false this] at h; exact h)
section
variable {S : Store} {ps : List (List Nat)} {kvs : Kvs} {hd : Nat} {m e : Bool} {t : Te}
theorem holds_w (ok : HdOk kvs ps) (g : S[hd]? = some (.dic kvs)) (np : ∀ a ∈ ps, okName a = true) (ht : TeG ps t) {Qd : D → Store → Prop} {E : EX} (hQ : Qd (.bl (holdT kvs m e t)) S) : W (m_holds_now [dTe t, .ref hd, .bl m, .bl e] S) Qd E := by
  have tf : fine 2 (dTe t) = true := te_fine (fun a ha => by
    cases t with
    | more p => rw [teN, List.mem_singleton] at ha; rw [ha]; exact okName_s (np p ht)
    | eq p n f => rw [teN, List.mem_singleton] at ha; rw [ha]; exact okName_s (np p ht.1)
    | _ => cases ha)
  have fm : fine 2 (.tup [dS cMatch]) = true := te_fine (t := .mat) (fun a ha => by cases ha)
  have fe : fine 2 (.tup [dS cEven]) = true := te_fine (t := .even) (fun a ha => by cases ha)
  apply w_holds_now
  unfold z_holds_now
  simp only [kMatch, kEven]
  cases t with
  | mat =>
    (repeat' (first | fail "q1" | fail "q2" | fail "q4" | fail))
    refine Cp_eq (EqOk.of tf (by decide)) (EqOk.of fm (by decide)) (fun _ => ?_) (fun z => absurd rfl z)
    (repeat' (first | fail "q1" | fail "q2" | fail "q4" | fail))
    exact hQ
  | even =>
    (repeat' (first | fail "q1" | fail "q2" | fail "q4" | fail))
    refine Cp_eq (EqOk.of tf (by decide)) (EqOk.of fm (by decide)) (fun z => ?_) (fun _ => ?_)
    · exact absurd (dS_inj (by injection z with z; injection z)) (by decide)
    (repeat' (first | fail "q1" | fail "q2" | fail "q4" | fail))
    refine Cp_eq (EqOk.of tf (by decide)) (EqOk.of fe (by decide)) (fun _ => ?_) (fun z => absurd rfl z)
    (repeat' (first | fail "q1" | fail "q2" | fail "q4" | fail))
    exact hQ
  | more p =>
    have v := ok.hv ht
    have ixp : ∀ {R : D → Prop}, R (dS p) → IxP S (dTe (.more p)) (.int 0) R := fun hr => Ix_by (x' := dS p) rfl hr
    have ln : ∀ {R : D → Prop}, R (.int 2) → BsP S .len [dTe (.more p)] R := fun hr => Bs_by (x := .int 2) rfl hr
    have ixh : ∀ {R : D → Prop}, R (dPt (hvOf kvs p)) → IxP S (.ref hd) (dS p) R := fun hr => Ix_key g (kk := nmK p) rfl v hr
    have ix0 : ∀ {R : D → Prop}, R (.int (hvOf kvs p).1) → IxP S (dPt (hvOf kvs p)) (.int 0) R := fun hr => Ix_by (x' := .int (hvOf kvs p).1) rfl hr
    (repeat' (first | fail "q1" | fail "q2" | fail "q4" | fail))
    refine Cp_eq (EqOk.of tf (by decide)) (EqOk.of fm (by decide)) (fun z => by injection z with z; injection z with _ z; cases z) (fun _ => ?_)
    (repeat' (first | fail "q1" | fail "q2" | fail "q4" | fail))
    refine Cp_eq (EqOk.of tf (by decide)) (EqOk.of fe (by decide)) (fun z => by injection z with z; injection z with _ z; cases z) (fun _ => ?_)
    (repeat' (first | (with_reducible refine ixp ?_) | (with_reducible refine ln ?_) | (with_reducible refine ixh ?_) | (with_reducible refine ix0 ?_) | fail "q1" | fail "q2" | fail "q4" | fail))
    exact hQ
  | eq p n f =>
    have v := ok.hv ht.1
    have ixp : ∀ {R : D → Prop}, R (dS p) → IxP S (dTe (.eq p n f)) (.int 0) R := fun hr => Ix_by (x' := dS p) rfl hr
    have ix2 : ∀ {R : D → Prop}, R (dPt (n, f)) → IxP S (dTe (.eq p n f)) (.int 2) R := fun hr => Ix_by (x' := dPt (n, f)) rfl hr
    have ln : ∀ {R : D → Prop}, R (.int 3) → BsP S .len [dTe (.eq p n f)] R := fun hr => Bs_by (x := .int 3) rfl hr
    have ixh : ∀ {R : D → Prop}, R (dPt (hvOf kvs p)) → IxP S (.ref hd) (dS p) R := fun hr => Ix_key g (kk := nmK p) rfl v hr
    (repeat' (first | fail "q1" | fail "q2" | fail "q4" | fail))
    refine Cp_eq (EqOk.of tf (by decide)) (EqOk.of fm (by decide)) (fun z => by injection z with z; injection z with _ z; cases z) (fun _ => ?_)
    (repeat' (first | fail "q1" | fail "q2" | fail "q4" | fail))
    refine Cp_eq (EqOk.of tf (by decide)) (EqOk.of fe (by decide)) (fun z => by injection z with z; injection z with _ z; cases z) (fun _ => ?_)
    (repeat' (first | (with_reducible refine ixp ?_) | (with_reducible refine ln ?_) | (with_reducible refine ixh ?_) | (with_reducible refine ix2 ?_) | fail "q1" | fail "q2" | fail "q4" | fail))
    refine pt_cp ?_
    (repeat' (first | fail "q1" | fail "q2" | fail "q4" | fail))
    exact hQ
/-- all tests of a rule, by the law -/
theorem fits_w {r : Ru} (ok : HdOk kvs ps) (g : S[hd]? = some (.dic kvs)) (np : ∀ a ∈ ps, okName a = true) (ht : ∀ t ∈ r.ts, TeG ps t) (tl : r.ts.length ≤ 3) {Qd : D → Store → Prop} {E : EX} (hQ : Qd (.bl (r.ts.all (holdT kvs m e))) S) : W (m__law_fits [dRu r, .ref hd, .bl m, .bl e] S) Qd E := by
  apply w__law_fits
  unfold z__law_fits
  rw [kMatch]
  have ri3 : ∀ {S : Store} {R : D → Prop}, R (.tup (r.ts.map dTe)) → IxP S (dRu r) (.int 3) R := fun h => ru_i.2.2.2 h
  (repeat' (first | (with_reducible refine ri3 ?_) | fail "q1" | fail "q2" | fail "q4" | fail))
  refine Lp_inv (fun i σ S' => S' = S ∧ (r.ts.take i).all (holdT kvs m e) = true ∧ ∃ x4 x5 : Option D, σ = [some (dRu r), some (.ref hd), some (.bl m), some (.bl e), x4, x5]) ⟨rfl, rfl, _, _, rfl⟩ ?_ ?_ (by show (r.ts.map dTe).length < 100000; rw [List.length_map]; omega)
  · rintro i d σ S' hd' ⟨rfl, al, x4, x5, rfl⟩
    have hd' : (r.ts.map dTe)[i]? = some d := hd'
    rw [List.getElem?_map, Option.map_eq_some_iff] at hd'
    obtain ⟨t, h1, rfl⟩ := hd'
    have tk : r.ts.take (i + 1) = r.ts.take i ++ [t] := by rw [List.take_succ, h1]; rfl
    have tm := List.mem_of_getElem? h1
    have tg := ht t tm
    have mid : ∀ {z : XS} {nx : Q.Env → Store → Prop} {rt : D → Store → Prop} {bk ct : Q.Env → Store → Prop} {ex : Str → Q.Env → Store → Prop}, True := trivial
    have yes : holdT kvs m e t = true → (r.ts.take (i + 1)).all (holdT kvs m e) = true := fun h => by rw [tk, List.all_append, al]; simp [h]
    have no : holdT kvs m e t = false → r.ts.all (holdT kvs m e) = false := fun h => by
      cases q : r.ts.all (holdT kvs m e) with
      | false => rfl
      | true => rw [List.all_eq_true.mp q t tm] at h; cases h
    cases t with
    | mat =>
      have h0 : holdT kvs m e .mat = m := rfl
      (repeat' (first | refine Bs_by (x := .int 1) rfl ?_ | refine Ix_by (x' := dS cMatch) rfl ?_ | refine Cp_eqS (by decide) (by decide) ?_ | refine Bs_intb ?_ | fail "q1" | fail "q2" | fail "q4" | fail))
      cases q : m with
      | true =>
        subst q
        (repeat' (first | fail "q1" | fail "q2" | fail "q4" | fail))
        exact ⟨rfl, yes h0, _, _, rfl⟩
      | false =>
        subst q
        (repeat' (first | fail "q1" | fail "q2" | fail "q4" | fail))
        rw [no h0] at hQ
        exact hQ
    | even =>
      have h0 : holdT kvs m e .even = e := rfl
      (repeat' (first | refine Bs_by (x := .int 1) rfl ?_ | refine Ix_by (x' := dS cEven) rfl ?_ | refine Cp_eqS (by decide) (by decide) ?_ | refine Bs_intb ?_ | fail "q1" | fail "q2" | fail "q4" | fail))
      cases q : e with
      | true =>
        subst q
        (repeat' (first | fail "q1" | fail "q2" | fail "q4" | fail))
        exact ⟨rfl, yes h0, _, _, rfl⟩
      | false =>
        subst q
        (repeat' (first | fail "q1" | fail "q2" | fail "q4" | fail))
        rw [no h0] at hQ
        exact hQ
    | more p =>
      have v := ok.hv tg
      have h0 : holdT kvs m e (.more p) = decide ((hvOf kvs p).1 > 0) := rfl
      have ixh : ∀ {R : D → Prop}, R (dPt (hvOf kvs p)) → IxP S' (.ref hd) (dS p) R := fun hr => Ix_key g (kk := nmK p) rfl v hr
      have ix0 : ∀ {R : D → Prop}, R (.int (hvOf kvs p).1) → IxP S' (dPt (hvOf kvs p)) (.int 0) R := fun hr => Ix_by (x' := .int (hvOf kvs p).1) rfl hr
      (repeat' (first | refine Bs_by (x := .int 2) rfl ?_ | refine Ix_by (x' := dS p) rfl ?_ | (with_reducible refine ixh ?_) | (with_reducible refine ix0 ?_) | fail "q1" | fail "q2" | fail "q4" | fail))
      cases q : decide ((hvOf kvs p).1 > 0) with
      | true =>
        (repeat' (first | fail "q1" | fail "q2" | fail "q4" | fail))
        exact ⟨rfl, yes (h0.trans q), _, _, rfl⟩
      | false =>
        (repeat' (first | fail "q1" | fail "q2" | fail "q4" | fail))
        rw [no (h0.trans q)] at hQ
        exact hQ
    | eq p n f =>
      have v := ok.hv tg.1
      have h0 : holdT kvs m e (.eq p n f) = decide (hvOf kvs p = (n, f)) := rfl
      have ixh : ∀ {R : D → Prop}, R (dPt (hvOf kvs p)) → IxP S' (.ref hd) (dS p) R := fun hr => Ix_key g (kk := nmK p) rfl v hr
      have ixp : ∀ {R : D → Prop}, R (dS p) → IxP S' (dTe (.eq p n f)) (.int 0) R := fun hr => Ix_by (x' := dS p) rfl hr
      have ix2 : ∀ {R : D → Prop}, R (dPt (n, f)) → IxP S' (dTe (.eq p n f)) (.int 2) R := fun hr => Ix_by (x' := dPt (n, f)) rfl hr
      (repeat' (first | refine Bs_by (x := .int 3) rfl ?_ | (with_reducible refine ixp ?_) | (with_reducible refine ix2 ?_) | (with_reducible refine ixh ?_) | fail "q1" | fail "q2" | fail "q4" | fail))
      refine pt_cp ?_
      (repeat' (first | fail "q1" | fail "q2" | fail "q4" | fail))
      cases q : decide (hvOf kvs p = (n, f)) with
      | true =>
        (repeat' (first | fail "q1" | fail "q2" | fail "q4" | fail))
        exact ⟨rfl, yes (h0.trans q), _, _, rfl⟩
      | false =>
        (repeat' (first | fail "q1" | fail "q2" | fail "q4" | fail))
        rw [no (h0.trans q)] at hQ
        exact hQ
  · rintro σ S' ⟨rfl, al, x4, x5, rfl⟩
    have al : (r.ts.take (r.ts.map dTe).length).all (holdT kvs m e) = true := al
    rw [List.length_map, List.take_length] at al
    rw [al] at hQ
    (repeat' (first | fail "q1" | fail "q2" | fail "q4" | fail))
    exact hQ
end
theorem kept_app {S S' : Store} (ho : ∀ i, i < S.length → S'[i]? = S[i]?) : ∃ T, S' = S ++ T := by
  refine ⟨S'.drop S.length, ?_⟩
  have : S'.take S.length = S := by
    refine List.ext_getElem? (fun i => ?_)
    rw [List.getElem?_take]
    by_cases c : i < S.length
    · rw [if_pos c, ho i c]
    · rw [if_neg c, List.getElem?_eq_none (by omega)]
  have e := List.take_append_drop S.length S'
  rw [this] at e
  exact e.symm
theorem fin_low {S S' : Store} {d : D} {Qd : D → Store → Prop} {E : EX} (ho : ∀ i, i < S.length → S'[i]? = S[i]?) (h : ∀ T, Qd d (S ++ T)) : FnP false S.length d S' Qd E := by
  obtain ⟨T, rfl⟩ := kept_app ho
  refine Fn_any (h T) (fun _ => ?_)
  rw [List.take_left]
  have := h []
  rw [List.append_nil] at this
  exact this
def dRuO : Option Ru → D
  | some r => dRu r
  | none => .non
theorem first_w {S : Store} {w : Wy} {ev ro st : List Nat} {kvs : Kvs} {hd : Nat} {m e : Bool} (g : WyG w) (n40 : w.rs.length ≤ 40) (se : sOk ev = true) (sr : sOk ro = true) (ss : sOk st = true) (ok : HdOk kvs w.ps) (gd : S[hd]? = some (.dic kvs)) {Qd : D → Store → Prop} {E : EX}
    (hQ : ∀ T, Qd (dRuO ((w.rs.filter (fitR ev ro st)).find? fun r => r.ts.all (holdT kvs m e))) (S ++ T)) : W (m_first_rule [dWy w, dS ev, dS ro, dS st, .ref hd, .bl m, .bl e] S) Qd E := by
  have low : ∀ (T : Store) (i : Nat), i < S.length → (S ++ T)[i]? = S[i]? := fun T i hi => List.getElem?_append_left hi
  apply w_first_rule
  unfold z_first_rule
  (repeat' (first | fail "q1" | fail "q2" | fail "q4" | fail))
  refine rulesof_w g n40 se sr ss ?_
  have fl : (w.rs.filter (fitR ev ro st)).length ≤ 40 := Nat.le_trans (List.length_filter_le ..) n40
  have fm : ∀ r ∈ w.rs.filter (fitR ev ro st), r ∈ w.rs := fun r hr => (List.mem_filter.mp hr).1
  have gd' : (S ++ [Ob.lst ((w.rs.filter (fitR ev ro st)).map dRu)])[hd]? = some (.dic kvs) := by rw [low _ _ (List.getElem?_eq_some_iff.mp gd).1]; exact gd
  generalize w.rs.filter (fitR ev ro st) = fs at *
  refine It_ref (xs := fs.map dRu) (List.getElem?_concat_length ..) ?_
  refine Lp_invR (xs := fs.map dRu) (fun i σ S' => S' = S ++ [.lst (fs.map dRu)] ∧ (fs.take i).find? (fun r => r.ts.all (holdT kvs m e)) = none ∧ ∃ x7 : Option D, σ = [some (dWy w), some (dS ev), some (dS ro), some (dS st), some (.ref hd), some (.bl m), some (.bl e), x7, none]) (fun i σ S' h => by rw [h.1]; exact List.getElem?_concat_length ..) ⟨rfl, rfl, _, rfl⟩ ?_ ?_ (by rw [List.length_map]; omega)
  · rintro i d σ S' hd' ⟨rfl, al, x7, rfl⟩
    rw [List.getElem?_map, Option.map_eq_some_iff] at hd'
    obtain ⟨r, h1, rfl⟩ := hd'
    have rm := g.rs r (fm r (List.mem_of_getElem? h1))
    have tk : fs.take (i + 1) = fs.take i ++ [r] := by rw [List.take_succ, h1]; rfl
    have ri3 : ∀ {S : Store} {R : D → Prop}, R (.tup (r.ts.map dTe)) → IxP S (dRu r) (.int 3) R := fun h => ru_i.2.2.2 h
    (repeat' (first | (with_reducible refine ri3 ?_) | fail "q1" | fail "q2" | fail "q4" | fail))
    refine CfMap (xs := r.ts) (g := dTe) (h := fun t => D.bl (holdT kvs m e t)) (by have := rm.tl; omega) (fun t ht => ?_) ?_
    · (repeat' (first | fail "q1" | fail "q2" | fail "q4" | fail))
      refine holds_w ok gd' g.ps (rm.ts t ht) ?_
      exact ⟨rfl, rfl⟩
    rw [bls_of]
    (repeat' (first | refine Bs_all ?_ | fail "q1" | fail "q2" | fail "q4" | fail))
    rw [all_of]
    cases q : r.ts.all (holdT kvs m e) with
    | true =>
      (repeat' (first | fail "q1" | fail "q2" | fail "q4" | fail))
      refine fin_low (low _) ?_
      have : fs.find? (fun r => r.ts.all (holdT kvs m e)) = some r := by
        have e1 : fs = fs.take i ++ (r :: fs.drop (i + 1)) := by
          have := List.take_append_drop (i + 1) fs
          rw [tk, List.append_assoc] at this
          exact this.symm
        rw [e1, List.find?_append, al]
        simp [q]
      rw [this] at hQ
      exact hQ
    | false =>
      (repeat' (first | fail "q1" | fail "q2" | fail "q4" | fail))
      refine ⟨rfl, ?_, _, rfl⟩
      rw [tk, List.find?_append, al]
      simp [q]
  · rintro σ S' ⟨rfl, al, x7, rfl⟩
    rw [List.length_map, List.take_length] at al
    rw [al] at hQ
    (repeat' (first | fail "q1" | fail "q2" | fail "q4" | fail))
    exact fin_low (low _) hQ
end QL

namespace QL
open PySem Q
/-! ### asked -/
theorem Md_clr {S : Store} {l : Nat} {xs : List D} {q : MId → Prop} (e : S[l]? = some (.lst xs)) (h : q .clear) : MdP S (.ref l) "clear" q := ⟨⟨.clear, by simp only [mIdD, seqL_ref e]; rfl, h⟩⟩
theorem Mt_clr {S : Store} {l : Nat} {xs : List D} {QD : D → Store → Prop} (e : S[l]? = some (.lst xs)) (h : QD .non (S.set l (.lst []))) : MtP S .clear (.ref l) [] QD := by
  refine ⟨⟨.non, S.set l (.lst []), ?_, h⟩⟩
  show (match S[l]? with | some (.lst _) => some (D.non, S.set l (.lst [])) | _ => none) = _
  rw [e]
theorem ac_fine {ps ks : List (List Nat)} {a : Ac} (np : ∀ a ∈ ps, okName a = true) (nk : ∀ a ∈ ks, okName a = true) (h : AcG ps ks a) : fine 3 (dAc a) = true := by
  have sp : ∀ {n : Nat} {p : List Nat}, p ∈ ps → fine n (dS p) = true := fun hp => fine_S (okName_s (np _ hp))
  have sk : ∀ {n : Nat} {p : List Nat}, p ∈ ks → fine n (dS p) = true := fun hp => fine_S (okName_s (nk _ hp))
  cases a with
  | half p => show (fine 2 (dS cHalf) && (fine 2 (dS p) && true)) = true; rw [fine_S (by decide), sp h]; rfl
  | add p n => show (fine 2 (dS cAdd) && (fine 2 (dS p) && (true && true))) = true; rw [fine_S (by decide), sp h.1]; rfl
  | gain => show (fine 2 (dS cGain) && true) = true; rw [fine_S (by decide)]; rfl
  | keep => show (fine 2 (dS cKeep) && true) = true; rw [fine_S (by decide)]; rfl
  | tell => show (fine 2 (dS cTell) && true) = true; rw [fine_S (by decide)]; rfl
  | report k => show (fine 2 (dS cReport) && (fine 2 (dS k) && true)) = true; rw [fine_S (by decide), sk h]; rfl
  | give k g qs =>
    have hg : sOk g = true := by
      have z := h.2.1
      simp only [goals3, List.mem_cons, List.not_mem_nil, or_false] at z
      rcases z with rfl | rfl | rfl <;> decide
    have hq : fines 1 (qs.map dS) = true := fines_S (fun a ha => okName_s (np a (h.2.2.1 a ha)))
    show (fine 2 (dS cGive) && (fine 2 (dS k) && (fine 2 (dS g) && (fines 1 (qs.map dS) && true)))) = true
    rw [fine_S (by decide), sk h.1, fine_S hg, hq]; rfl
theorem te_fineG {ps : List (List Nat)} {t : Te} (np : ∀ a ∈ ps, okName a = true) (h : TeG ps t) : fine 3 (dTe t) = true := by
  cases t with
  | mat => show (fine 2 (dS cMatch) && true) = true; rw [fine_S (by decide)]; rfl
  | even => show (fine 2 (dS cEven) && true) = true; rw [fine_S (by decide)]; rfl
  | more p => show (fine 2 (dS p) && (fine 2 (dS cGt) && true)) = true; rw [fine_S (okName_s (np p h)), fine_S (by decide)]; rfl
  | eq p n e => show (fine 2 (dS p) && (fine 2 (dS cEqs) && (fine 2 (dPt (n, e)) && true))) = true; rw [fine_S (okName_s (np p h.1)), fine_S (by decide), fine_pt]; rfl
theorem ru_fine {w : Wy} (g : WyG w) {r : Ru} (hr : r ∈ w.rs) : fine 5 (dRu r) = true := by
  have q := ruS_of g hr
  have h := g.rs r hr
  have f1 : fines 3 (r.ts.map dTe) = true := fines_all fun x hx => by
    obtain ⟨t, ht, rfl⟩ := List.mem_map.mp hx
    exact te_fineG g.ps (h.ts t ht)
  have f2 : fines 3 (r.as.map dAc) = true := fines_all fun x hx => by
    obtain ⟨a, ha, rfl⟩ := List.mem_map.mp hx
    exact ac_fine g.ps g.ks (h.as a ha)
  show (fine 4 (dS r.ev) && (fine 4 (dS r.ro) && (fine 4 (dS r.st) && (fines 3 (r.ts.map dTe) && (fines 3 (r.as.map dAc) && (fine 4 (dS r.la) && true)))))) = true
  rw [fine_S q.ev, fine_S q.ro, fine_S q.st, fine_S q.la, f1, f2]; rfl
theorem fs_fine {w : Wy} (g : WyG w) {fs : List Ru} (h : ∀ r ∈ fs, r ∈ w.rs) : fines 5 (fs.map dRu) = true := fines_all fun x hx => by
  obtain ⟨r, hr, rfl⟩ := List.mem_map.mp hx
  exact ru_fine g (h r hr)
/-- a dict and its copy -/
theorem hits_same {S : Store} {kvs : Kvs} {qs : List (List Nat)} (h : HdOk kvs qs) : ∀ {r : Kvs}, (∀ x ∈ r, x ∈ kvs) → hitsD S kvs r = some true
  | [], _ => rfl
  | x :: r, hm => by
    have hx := hm x (List.mem_cons_self ..)
    obtain ⟨pt, e, -⟩ := h.vals x hx
    have v : valG kvs x.1 = some x.2 := valG_mem h.nd hx
    have ih := hits_same h (S := S) (r := r) (fun y hy => hm y (List.mem_cons_of_mem _ hy))
    have ok : EqOk S x.2 := by rw [e]; exact EqOk.of (n := 1) (fine_pt pt.1 pt.2 0) (by decide)
    obtain ⟨p1, a, e1, s1⟩ := ok
    have e2 : toPyS S x.2 = some a := by rw [toPyS_pln p1]; exact e1
    have ev : PyData.eqv a a = true := (eqv_pln x.2 x.2 a a p1 p1 e1 e1).mpr rfl
    unfold hitsD
    simp only [v, e2, s1, and_self, ↓reduceIte, ih, ev]
    rfl
theorem dict_same {S : Store} {a b : Nat} {kvs : Kvs} {qs : List (List Nat)} (h : HdOk kvs qs) (ga : S[a]? = some (.dic kvs)) (gb : S[b]? = some (.dic kvs)) {PB : Bool → Prop} (hp : PB false) : Cp S .NotEq (.ref a) (.ref b) PB := by
  refine Cp_by (k := false) ?_ hp
  show (eqD S (.ref a) (.ref b)).map (! ·) = _
  have r : ∀ {x : Nat}, S[x]? = some (.dic kvs) → toPyS S (.ref x) = none ∧ seqL S (.ref x) = none ∧ dicOf S (.ref x) = some kvs := fun {x} g => by
    refine ⟨?_, ?_, ?_⟩
    · show toPy (match S[x]? with | some (.lst xs) => D.lst (xs.map (res 7 S)) | _ => D.ref x) = none
      rw [g]; rfl
    · show (match S[x]? with | some (.lst xs) => some xs | _ => none) = none
      rw [g]
    · show (match S[x]? with | some (.dic kvs) => some kvs | _ => none) = _
      rw [g]
  obtain ⟨a1, a2, a3⟩ := r ga
  obtain ⟨b1, b2, b3⟩ := r gb
  have e : eqD S (.ref a) (.ref b) = some true := by
    unfold eqD
    simp only [a1, b1, a2, b2]
    unfold dicEqD
    simp only [a3, b3]
    rw [if_pos trivial, hits_same h (fun _ z => z)]
  rw [e]; rfl
theorem ruO_same {S : Store} {w : Wy} (g : WyG w) {o : Option Ru} (h : ∀ r, o = some r → r ∈ w.rs) {PB : Bool → Prop} (hp : PB false) : Cp S .NotEq (dRuO o) (dRuO o) PB := by
  have ok : EqOk S (dRuO o) := by
    cases o with
    | none => exact EqOk.of (n := 0) rfl (by decide)
    | some r => exact EqOk.of (ru_fine g (h r rfl)) (by decide)
  exact Cp_ne ok ok (fun _ => hp) (fun z => absurd rfl z)
theorem head_find {α : Type} (p : α → Bool) : ∀ xs : List α, (xs.filter p).head? = xs.find? p
  | [] => rfl
  | x :: xs => by
    rw [List.filter_cons, List.find?_cons]
    cases p x with
    | true => rfl
    | false => exact head_find p xs
theorem asked_w {S : Store} {w : Wy} {ev ro st : List Nat} {kvs : Kvs} {hd : Nat} (g : WyG w) (n40 : w.rs.length ≤ 40) (se : sOk ev = true) (sr : sOk ro = true) (ss : sOk st = true) (ok : HdOk kvs w.ps) (gd : S[hd]? = some (.dic kvs)) {Qd : D → Store → Prop} {E : EX}
    (hQ : ∀ T, Qd (.bl true) (S ++ T)) : W (m__law_asked [dWy w, dS ev, dS ro, dS st, .ref hd] S) Qd E := by
  have low : ∀ {S' : Store} (T : Store) (i : Nat), i < S'.length → (S' ++ T)[i]? = S'[i]? := fun T i hi => List.getElem?_append_left hi
  have hdl := (List.getElem?_eq_some_iff.mp gd).1
  apply w__law_asked
  unfold z__law_asked
  (repeat' (first | fail "q1" | fail "q2" | fail "q4" | fail))
  refine due_w g n40 se sr ss ?_
  have fm : ∀ r ∈ w.rs.filter (fitR ev ro st), r ∈ w.rs := fun r hr => (List.mem_filter.mp hr).1
  have fl : (w.rs.filter (fitR ev ro st)).length ≤ 40 := Nat.le_trans (List.length_filter_le ..) n40
  generalize ef : w.rs.filter (fitR ev ro st) = fs at *
  have ff := fs_fine g fm
  have g1 : (S ++ [Ob.lst (fs.map dRu)])[S.length]? = some (.lst (fs.map dRu)) := List.getElem?_concat_length ..
  have gd1 : (S ++ [Ob.lst (fs.map dRu)])[hd]? = some (.dic kvs) := by rw [low _ _ hdl]; exact gd
  have l1 : (S ++ [Ob.lst (fs.map dRu)]).length = S.length + 1 := by simp
  have kp1 : ∀ i, i < S.length → (S ++ [Ob.lst (fs.map dRu)])[i]? = S[i]? := fun i hi => low _ i hi
  generalize S ++ [Ob.lst (fs.map dRu)] = S1 at *
  (repeat' (first | fail "q1" | fail "q2" | fail "q4" | fail))
  refine Lp_inv (fun i σ S' => (∃ T, S' = S1 ++ T) ∧ ∃ x6 x7 : Option D, σ = [some (dWy w), some (dS ev), some (dS ro), some (dS st), some (.ref hd), some (.ref S.length), x6, x7, none, none, none, none, none, none]) ⟨⟨[], by simp⟩, _, _, rfl⟩ ?_ ?_ (by rw [range_len]; decide)
  · rintro i d σ S2 hd' ⟨⟨T, rfl⟩, x6, x7, rfl⟩
    have g1' : ∀ {T : Store}, (S1 ++ T)[S.length]? = some (.lst (fs.map dRu)) := by
      intro T
      rw [low _ _ (by omega)]; exact g1
    (repeat' (first | fail "q1" | fail "q2" | fail "q4" | fail))
    refine rulesof_w g n40 se sr ss ?_
    rw [ef]
    have g2 : ((S1 ++ T) ++ [Ob.lst (fs.map dRu)])[(S1 ++ T).length]? = some (.lst (fs.map dRu)) := List.getElem?_concat_length ..
    have g3 : ((S1 ++ T) ++ [Ob.lst (fs.map dRu)])[S.length]? = some (.lst (fs.map dRu)) := by rw [List.append_assoc]; exact g1'
    have ne : ∀ {PB : Bool → Prop}, PB false → Cp ((S1 ++ T) ++ [Ob.lst (fs.map dRu)]) .NotEq (.ref (S1 ++ T).length) (.ref S.length) PB := fun hp => Cp_neq (n := 5) (m := 5) (seqL_ref g2) (seqL_ref g3) ff ff (by decide) (by decide) (fun _ => hp) (fun z => absurd rfl z)
    (repeat' (first | refine Is_ref g2 ?_ | (with_reducible refine ne ?_) | refine Md_clr g2 ?_ | refine Mt_clr g2 ?_ | fail "q1" | fail "q2" | fail "q4" | fail))
    refine ⟨⟨T ++ [.lst []], ?_⟩, _, _, rfl⟩
    rw [List.set_append_right _ _ (Nat.le_refl _), Nat.sub_self, List.set_cons_zero, List.append_assoc]
  · rintro σ S2 ⟨⟨T, rfl⟩, x6, x7, rfl⟩
    (repeat' (first | fail "q1" | fail "q2" | fail "q4" | fail))
    refine Lp_inv (fun i σ S' => (∃ T, S' = S1 ++ T) ∧ ∃ x7 x8 x9 x10 x11 x12 : Option D, σ = [some (dWy w), some (dS ev), some (dS ro), some (dS st), some (.ref hd), some (.ref S.length), x6, x7, x8, x9, x10, x11, x12, none]) ⟨⟨T, rfl⟩, _, _, _, _, _, _, rfl⟩ ?_ ?_ (by rw [range_len]; decide)
    · rintro i d σ S2 hd' ⟨⟨T, rfl⟩, x7, x8, x9, x10, x11, x12, rfl⟩
      obtain ⟨rfl, hi⟩ := range_get hd'
      have g3 : (S1 ++ T)[S.length]? = some (.lst (fs.map dRu)) := by rw [low _ _ (by omega)]; exact g1
      have gd3 : (S1 ++ T)[hd]? = some (.dic kvs) := by rw [low _ _ (by omega)]; exact gd1
      have hl3 : hd < (S1 ++ T).length := (List.getElem?_eq_some_iff.mp gd3).1
      (repeat' (first | fail "q1" | fail "q2" | fail "q4" | fail))
      generalize decide ((i : Int) % 2 = 1) = m
      generalize decide ((i : Int) > 1) = e
      generalize h2 : S1 ++ T = S2 at *
      refine It_ref (xs := fs.map dRu) g3 ?_
      refine Cf_invR (xs := fs.map dRu) (fun i acc S' => S' = S2 ∧ acc = ((fs.take i).filter fun r => r.ts.all (holdT kvs m e)).map dRu) (fun i acc S' h => by rw [h.1]; exact g3) (by rw [List.length_map]; omega) ⟨rfl, rfl⟩ ?_ ?_
      · rintro j d acc S' hd ⟨rfl, rfl⟩ _
        rw [List.getElem?_map, Option.map_eq_some_iff] at hd
        obtain ⟨r, hr, rfl⟩ := hd
        have rm := g.rs r (fm r (List.mem_of_getElem? hr))
        have tk : fs.take (j + 1) = fs.take j ++ [r] := by rw [List.take_succ, hr]; rfl
        (repeat' (first | fail "q1" | fail "q2" | fail "q4" | fail))
        refine fits_w ok gd3 g.ps rm.ts rm.tl ?_
        (repeat' (first | fail "q1" | fail "q2" | fail "q4" | fail))
        cases q : r.ts.all (holdT kvs m e) with
        | true =>
          (repeat' (first | fail "q1" | fail "q2" | fail "q4" | fail))
          refine ⟨rfl, ?_⟩
          rw [tk, List.filter_append, List.filter_cons_of_pos (by simpa using q)]
          simp
        | false =>
          (repeat' (first | fail "q1" | fail "q2" | fail "q4" | fail))
          refine ⟨rfl, ?_⟩
          rw [tk, List.filter_append, List.filter_cons_of_neg (by simp [q])]
          simp
      rintro acc S' ⟨rfl, rfl⟩
      rw [List.length_map, List.take_length]
      have cpy : dictD S' (.ref hd) = some (.ref S'.length, S' ++ [.dic kvs]) := by
        have e : dicOf S' (.ref hd) = some kvs := by
          show (match S'[hd]? with | some (.dic kvs) => some kvs | _ => none) = _
          rw [gd3]
        unfold dictD
        rw [e]
      have gc : (S' ++ [Ob.dic kvs])[S'.length]? = some (.dic kvs) := List.getElem?_concat_length ..
      have gd4 : (S' ++ [Ob.dic kvs])[hd]? = some (.dic kvs) := by rw [low _ _ hl3]; exact gd3
      (repeat' (first | refine Dc_mk cpy ?_ | fail "q1" | fail "q2" | fail "q4" | fail))
      refine first_w g n40 se sr ss ok gc (fun T2 => ?_)
      rw [ef]
      have hh : ∀ {S : Store} {R : D → Prop} (ys : List Ru), R (dRuO ys.head?) → IxP S (.lst (ys.map dRu ++ [.non])) (.int 0) R := fun {S R} ys hr => by
        refine Ix_q (xs := ys.map dRu ++ [.non]) (by decide) (by rw [List.length_append, List.length_singleton]; omega) rfl (fun y hy => ?_)
        cases ys with
        | nil => have hy : some D.non = some y := hy; cases hy; exact hr
        | cons a t => have hy : some (dRu a) = some y := hy; cases hy; exact hr
      have fo : ∀ r, (fs.find? fun r => r.ts.all (holdT kvs m e)) = some r → r ∈ w.rs := fun r hr => fm r (List.mem_of_find?_eq_some hr)
      have gc' : ((S' ++ [Ob.dic kvs]) ++ T2)[S'.length]? = some (.dic kvs) := by rw [low _ _ (by simp)]; exact gc
      have gd5 : ((S' ++ [Ob.dic kvs]) ++ T2)[hd]? = some (.dic kvs) := by rw [low _ _ (by simp; omega)]; exact gd4
      have fl2 : (fs.filter fun r => r.ts.all (holdT kvs m e)).length ≤ 40 := Nat.le_trans (List.length_filter_le ..) fl
      (repeat' (first | refine Bn_lst (by rw [List.length_map]; show _ + 1 ≤ _; omega) ?_ | (with_reducible refine hh _ ?_) | fail "q1" | fail "q2" | fail "q4" | fail))
      rw [head_find]
      (repeat' (first | (with_reducible refine ruO_same g fo ?_) | (with_reducible refine dict_same ok gc' gd5 ?_) | fail "q1" | fail "q2" | fail "q4" | fail))
      exact ⟨⟨T ++ ([.dic kvs] ++ T2), by rw [← h2]; simp⟩, _, _, _, _, _, _, rfl⟩
    · rintro σ S2 ⟨⟨T, rfl⟩, x7, x8, x9, x10, x11, x12, rfl⟩
      (repeat' (first | fail "q1" | fail "q2" | fail "q4" | fail))
      exact fin_low (fun i hi => by rw [low _ _ (by omega)]; exact kp1 i hi) hQ
end QL

namespace QL
open PySem Q
/-! ### what repr tells: how long it is -/
mutual
def shB : D → Nat
  | .non => 5
  | .bl _ => 5
  | .int _ => 102
  | .str z => 10 * z.length + 2
  | .tup ds => shBs ds + 4
  | .lst ds => shBs ds + 4
  | .ref _ => 0
def shBs : List D → Nat
  | [] => 0
  | x :: xs => shB x + 2 + shBs xs
end
mutual
/-- a thing without refs, its numbers of at most a hundred figures -/
def okP : D → Bool
  | .non => true
  | .bl _ => true
  | .int i => decide (i.natAbs < 10 ^ 100)
  | .str z => PyData.strOk z
  | .tup ds => okPs ds
  | .lst ds => okPs ds
  | .ref _ => false
def okPs : List D → Bool
  | [] => true
  | x :: xs => okP x && okPs xs
end
mutual
def dep : D → Nat
  | .tup ds => deps ds + 1
  | .lst ds => deps ds + 1
  | _ => 0
def deps : List D → Nat
  | [] => 0
  | x :: xs => max (dep x) (deps xs)
end
theorem join_lenB (sep : Str) : ∀ ts : List Str, (Str.join sep ts).length ≤ (ts.map fun t => t.length + sep.length).sum
  | [] => by simp [Str.join, Str.empty, Str.length]
  | [t] => by
    show t.length ≤ _
    simp
  | t :: u :: ts => by
    have ih := join_lenB sep (u :: ts)
    show (t ++ sep ++ Str.join sep (u :: ts)).length ≤ _
    rw [strLen_append, strLen_append, List.map_cons, List.sum_cons]
    omega
theorem tup_lenB (ts : List Str) : (tupleText ts).length ≤ (ts.map fun t => t.length + 2).sum + 4 := by
  have h := join_lenB (Str.ofString ", ") ts
  have e : (Str.ofString ", ").length = 2 := by decide +kernel
  have e1 : (Str.ofString "(").length = 1 := by decide +kernel
  have e2 : (Str.ofString (if (ts.length == 1) = true then ",)" else ")")).length ≤ 2 := by
    split <;> decide +kernel
  rw [e] at h
  unfold tupleText
  rw [strLen_append, strLen_append]
  omega
theorem from_lenB : ∀ (ts : List Str) (k : Nat) (acc : Str), (textFrom k acc ts).length ≤ acc.length + (ts.map fun t => t.length + 2).sum
  | [], _, _ => by simp [textFrom]
  | t :: ts, k, acc => by
    have ih := from_lenB ts (k + 1) (acc ++ Str.ofString (if k > 0 then ", " else "") ++ t)
    have e2 : (Str.ofString (if k > 0 then ", " else "")).length ≤ 2 := by
      split <;> decide +kernel
    show (textFrom (k + 1) (acc ++ Str.ofString (if k > 0 then ", " else "") ++ t) ts).length ≤ _
    rw [strLen_append, strLen_append] at ih
    rw [List.map_cons, List.sum_cons]
    omega
theorem lst_lenB (ts : List Str) : (listText ts).length ≤ (ts.map fun t => t.length + 2).sum + 4 := by
  have h := from_lenB ts 0 (Str.ofString "[")
  have e : (Str.ofString "[").length = 1 := by decide +kernel
  have e2 : (Str.ofString "]").length = 1 := by decide +kernel
  unfold listText
  rw [strLen_append]
  omega
mutual
theorem okP_sh : ∀ (d : D), okP d = true → ∃ p, toPy d = some p ∧ p.showable = true ∧ p.shown.length ≤ shB d
  | .non, _ => ⟨.none, rfl, by simp [PyData.showable], by simp only [PyData.shown, shB]; decide +kernel⟩
  | .bl b, _ => ⟨.bool b, rfl, by simp [PyData.showable], by simp only [PyData.shown, shB]; cases b <;> decide +kernel⟩
  | .int i, h => by
    have h : i.natAbs < 10 ^ 100 := by simpa [okP] using h
    have hl : i.natAbs.log2 < 1920 := by
      by_cases z : i.natAbs = 0
      · rw [z]; decide
      · refine (Nat.log2_lt z).mpr (Nat.lt_of_lt_of_le h ?_)
        decide +kernel
    refine ⟨.int i, rfl, by simp [PyData.showable, hl], ?_⟩
    simp only [PyData.shown, shB]
    have := int_text_length_le10 (k := 100) (by decide) h
    rw [ofString_length]
    omega
  | .str z, h => by
    have h : PyData.strOk z = true := by simpa [okP] using h
    refine ⟨.str z, rfl, by simp [PyData.showable], ?_⟩
    simp only [PyData.shown, shB]
    refine StrLaws.reprText_len z (fun c hc => ?_)
    have h : z.cps.all (fun c => decide (c < 0x110000)) = true := h
    rw [Array.all_eq_true'] at h
    have := h c (by simpa using hc)
    have := of_decide_eq_true this
    omega
  | .tup ds, h => by
    obtain ⟨ps, e, s, l⟩ := okPs_sh ds (by simpa [okP] using h)
    refine ⟨.tuple ps, by simp only [toPy, e], by simpa [PyData.showable] using s, ?_⟩
    simp only [PyData.shown, shB]
    exact Nat.le_trans (tup_lenB _) (by omega)
  | .lst ds, h => by
    obtain ⟨ps, e, s, l⟩ := okPs_sh ds (by simpa [okP] using h)
    refine ⟨.list ps, by simp only [toPy, e], by simpa [PyData.showable] using s, ?_⟩
    simp only [PyData.shown, shB]
    exact Nat.le_trans (lst_lenB _) (by omega)
  | .ref _, h => by simp [okP] at h
theorem okPs_sh : ∀ (ds : List D), okPs ds = true → ∃ ps, toPys ds = some ps ∧ PyData.showableAll ps = true ∧ ((PyData.shownAll ps).map fun t => t.length + 2).sum ≤ shBs ds
  | [], _ => ⟨[], rfl, by simp [PyData.showableAll], by simp [PyData.shownAll, shBs]⟩
  | x :: xs, h => by
    have h : okP x = true ∧ okPs xs = true := by simpa [okPs] using h
    obtain ⟨p, e, s, l⟩ := okP_sh x h.1
    obtain ⟨ps, e', s', l'⟩ := okPs_sh xs h.2
    refine ⟨p :: ps, by simp only [toPys, e, e'], by simp [PyData.showableAll, s, s'], ?_⟩
    simp only [PyData.shownAll, List.map_cons, List.sum_cons, shBs]
    omega
end
mutual
theorem okP_pd {S : Store} : ∀ (d : D) (n : Nat), okP d = true → dep d < n → pdD S n d = toPy d
  | d, 0, _, hn => by omega
  | .non, n + 1, _, _ => rfl
  | .bl b, n + 1, _, _ => rfl
  | .int i, n + 1, _, _ => rfl
  | .str z, n + 1, _, _ => rfl
  | .tup ds, n + 1, h, hn => by
    have e := okPs_pd (S := S) ds n (by simpa [okP] using h) (by simp only [dep] at hn; omega)
    obtain ⟨ps, e2, -, -⟩ := okPs_sh ds (by simpa [okP] using h)
    show pdMap .tuple (optAll (ds.map (pdD S n))) = _
    rw [e]
    simp only [toPy, e2, pdMap]
  | .lst ds, n + 1, h, hn => by
    have e := okPs_pd (S := S) ds n (by simpa [okP] using h) (by simp only [dep] at hn; omega)
    obtain ⟨ps, e2, -, -⟩ := okPs_sh ds (by simpa [okP] using h)
    show pdMap .list (optAll (ds.map (pdD S n))) = _
    rw [e]
    simp only [toPy, e2, pdMap]
  | .ref _, n + 1, h, _ => by simp [okP] at h
theorem okPs_pd {S : Store} : ∀ (ds : List D) (n : Nat), okPs ds = true → deps ds < n → optAll (ds.map (pdD S n)) = toPys ds
  | [], _, _, _ => rfl
  | x :: xs, n, h, hn => by
    have h : okP x = true ∧ okPs xs = true := by simpa [okPs] using h
    simp only [deps] at hn
    have e1 := okP_pd (S := S) x n h.1 (by omega)
    have e2 := okPs_pd (S := S) xs n h.2 (by omega)
    obtain ⟨p, q1, -, -⟩ := okP_sh x h.1
    obtain ⟨ps, q2, -, -⟩ := okPs_sh xs h.2
    rw [List.map_cons, e1, q1]
    simp only [optAll, e2, q2, toPys, q1]
end
/-- repr of such a thing tells some text, the same whatever the store is -/
theorem repr_some {d : D} (h : okP d = true) (hd : dep d < 60) (hl : shB d ≤ 1000000) : ∃ t : Str, ∀ S : Store, reprD S d = some (.str t) := by
  obtain ⟨p, e, s, l⟩ := okP_sh d h
  refine ⟨p.shown, fun S => ?_⟩
  unfold reprD
  rw [okP_pd d 60 h hd, e]
  simp only
  rw [if_pos ⟨s, by omega⟩]
theorem Bs_repr {S : Store} {d : D} {t : Str} {Q' : D → Prop} (e : reprD S d = some (.str t)) (h : Q' (.str t)) : BsP S .repr [d] Q' := Bs_by e h
theorem strs_same {S : Store} {t : Str} {PB : Bool → Prop} (h : PB false) : Cp S .NotEq (.str t) (.str t) PB := by
  refine Cp_by (k := false) ?_ h
  show (eqD S (.str t) (.str t)).map (! ·) = _
  have e : toPyS S (.str t) = some (.str t) := rfl
  have q : eqD S (.str t) (.str t) = some true := by
    unfold eqD
    rw [e]
    simp only [strEqD]
    split
    · simp [PyData.eqv]
    · simp
  rw [q]; rfl
end QL

namespace QL
open PySem Q
/-! ### the law -/
structure Rp (d : D) (s k : Nat) : Prop where
  ok : okP d = true
  sh : shB d ≤ s
  dp : dep d ≤ k
structure Rps (xs : List D) (s k : Nat) : Prop where
  ok : okPs xs = true
  sh : shBs xs ≤ s
  dp : deps xs ≤ k
theorem Rp.mono {d : D} {s k s' k' : Nat} (h : Rp d s k) (hs : s ≤ s') (hk : k ≤ k') : Rp d s' k' := ⟨h.ok, Nat.le_trans h.sh hs, Nat.le_trans h.dp hk⟩
theorem Rp.name {a : List Nat} (h : sOk a = true) (hl : a.length ≤ 8) : Rp (dS a) 82 0 := by
  refine ⟨?_, ?_, Nat.le_refl _⟩
  · show PyData.strOk (SX.S a) = true
    exact strOk_S h
  · show 10 * (SX.S a).length + 2 ≤ 82
    rw [SX.S_len]; omega
theorem Rp.int {i : Int} (h : i.natAbs < 1000) : Rp (.int i) 102 0 := by
  refine ⟨?_, Nat.le_refl _, Nat.le_refl _⟩
  show decide (i.natAbs < 10 ^ 100) = true
  refine decide_eq_true (Nat.lt_trans h (by decide +kernel))
theorem Rps.nil : Rps [] 0 0 := ⟨rfl, Nat.le_refl _, Nat.le_refl _⟩
theorem Rps.cons {x : D} {xs : List D} {a b k j : Nat} (h : Rp x a k) (t : Rps xs b j) : Rps (x :: xs) (a + 2 + b) (max k j) := by
  refine ⟨by simp only [okPs, h.ok, t.ok, Bool.and_self], ?_, ?_⟩
  · have := h.sh
    have := t.sh
    simp only [shBs]; omega
  · have := h.dp
    have := t.dp
    simp only [deps]; omega
theorem Rps.map {α : Type} {f : α → D} {c k n : Nat} : ∀ {xs : List α}, (∀ x ∈ xs, Rp (f x) c k) → xs.length ≤ n → Rps (xs.map f) ((c + 2) * n) k := by
  have key : ∀ {xs : List α}, (∀ x ∈ xs, Rp (f x) c k) → Rps (xs.map f) ((c + 2) * xs.length) k := by
    intro xs
    induction xs with
    | nil => exact fun _ => ⟨rfl, Nat.zero_le _, Nat.zero_le _⟩
    | cons x xs ih =>
      intro h
      have t := ih (fun y hy => h y (List.mem_cons_of_mem _ hy))
      have q := Rps.cons (h x (List.mem_cons_self ..)) t
      rw [Nat.max_self] at q
      refine ⟨q.ok, Nat.le_trans q.sh ?_, q.dp⟩
      rw [List.length_cons, Nat.mul_succ]; omega
  intro xs h hl
  have q := key h
  exact ⟨q.ok, Nat.le_trans q.sh (Nat.mul_le_mul_left _ hl), q.dp⟩
theorem Rp.tup {xs : List D} {s k : Nat} (h : Rps xs s k) : Rp (.tup xs) (s + 4) (k + 1) := by
  refine ⟨by simpa [okP] using h.ok, ?_, ?_⟩
  · have := h.sh
    simp only [shB]; omega
  · have := h.dp
    simp only [dep]; omega
theorem Rp.ok1 {a : List Nat} (h : okName a = true) : Rp (dS a) 82 0 := Rp.name (okName_s h) (okName_len h).2
theorem Rp.pt {p : Int × Int} (h : SmP p) : Rp (dPt p) 220 1 := by
  obtain ⟨a, b, c, d⟩ := h
  exact (Rp.tup (.cons (.int (by omega)) (.cons (.int (by omega)) .nil))).mono (by decide) (by decide)
theorem Rp.te {ps : List (List Nat)} {t : Te} (np : ∀ a ∈ ps, okName a = true) (h : TeG ps t) : Rp (dTe t) 400 2 := by
  cases t with
  | mat => exact (Rp.tup (.cons (.name (a := cMatch) (by decide) (by decide)) .nil)).mono (by decide) (by decide)
  | even => exact (Rp.tup (.cons (.name (a := cEven) (by decide) (by decide)) .nil)).mono (by decide) (by decide)
  | more p => exact (Rp.tup (.cons (.ok1 (np p h)) (.cons (.name (a := cGt) (by decide) (by decide)) .nil))).mono (by decide) (by decide)
  | eq p n e => exact (Rp.tup (.cons (.ok1 (np p h.1)) (.cons (.name (a := cEqs) (by decide) (by decide)) (.cons (.pt h.2) .nil)))).mono (by decide) (by decide)
theorem Rp.ac {ps ks : List (List Nat)} {a : Ac} (np : ∀ a ∈ ps, okName a = true) (nk : ∀ a ∈ ks, okName a = true) (pl : ps.length ≤ 3) (h : AcG ps ks a) : Rp (dAc a) 700 2 := by
  cases a with
  | half p => exact (Rp.tup (.cons (.name (a := cHalf) (by decide) (by decide)) (.cons (.ok1 (np p h)) .nil))).mono (by decide) (by decide)
  | add p n => exact (Rp.tup (.cons (.name (a := cAdd) (by decide) (by decide)) (.cons (.ok1 (np p h.1)) (.cons (.int (by have := h.2; omega)) .nil)))).mono (by decide) (by decide)
  | gain => exact (Rp.tup (.cons (.name (a := cGain) (by decide) (by decide)) .nil)).mono (by decide) (by decide)
  | keep => exact (Rp.tup (.cons (.name (a := cKeep) (by decide) (by decide)) .nil)).mono (by decide) (by decide)
  | tell => exact (Rp.tup (.cons (.name (a := cTell) (by decide) (by decide)) .nil)).mono (by decide) (by decide)
  | report k => exact (Rp.tup (.cons (.name (a := cReport) (by decide) (by decide)) (.cons (.ok1 (nk k h)) .nil))).mono (by decide) (by decide)
  | give k g qs =>
    have hg : Rp (dS g) 82 0 := by
      have z := h.2.1
      simp only [goals3, List.mem_cons, List.not_mem_nil, or_false] at z
      rcases z with rfl | rfl | rfl <;> exact .name (by decide) (by decide)
    have hq : Rps (qs.map dS) ((82 + 2) * 3) 0 := Rps.map (fun q hq => .ok1 (np q (h.2.2.1 q hq))) (Nat.le_trans h.2.2.2 pl)
    exact (Rp.tup (.cons (.name (a := cGive) (by decide) (by decide)) (.cons (.ok1 (nk k h.1)) (.cons hg (.cons (.tup hq) .nil))))).mono (by decide) (by decide)
theorem ev_len {w : Wy} (g : WyG w) {r : Ru} (hr : r ∈ w.rs) : r.ev.length ≤ 8 ∧ r.ro.length ≤ 8 := by
  have h := g.rs r hr
  refine ⟨?_, ?_⟩
  · rcases List.mem_append.mp h.ev with z | z
    · simp only [List.mem_cons, List.not_mem_nil, or_false] at z
      rcases z with z | z | z <;> (rw [z]; decide)
    · exact (okName_len (g.ks _ z)).2
  · have z := h.ro
    simp only [roles3, List.mem_cons, List.not_mem_nil, or_false] at z
    rcases z with z | z | z <;> (rw [z]; decide)
theorem Rp.ru {w : Wy} (g : WyG w) {r : Ru} (hr : r ∈ w.rs) : Rp (dRu r) 5000 4 := by
  have q := ruS_of g hr
  have h := g.rs r hr
  have l := ev_len g hr
  have t1 : Rps (r.ts.map dTe) ((400 + 2) * 3) 2 := Rps.map (fun t ht => .te g.ps (h.ts t ht)) h.tl
  have t2 : Rps (r.as.map dAc) ((700 + 2) * 4) 2 := Rps.map (fun a ha => .ac g.ps g.ks g.pl (h.as a ha)) h.al
  exact (Rp.tup (.cons (.name q.ev l.1) (.cons (.name q.ro l.2) (.cons (.ok1 (g.ss _ h.st)) (.cons (.tup t1) (.cons (.tup t2) (.cons (.ok1 (g.ss _ h.la)) .nil))))))).mono (by decide) (by decide)
theorem Rp.wy {w : Wy} (g : WyG w) (n40 : w.rs.length ≤ 40) : Rp (dWy w) 300000 6 := by
  have t1 : Rps (w.ps.map dS) ((82 + 2) * 3) 0 := Rps.map (fun a ha => .ok1 (g.ps a ha)) g.pl
  have t2 : Rps (w.ss.map dS) ((82 + 2) * 4) 0 := Rps.map (fun a ha => .ok1 (g.ss a ha)) g.sl
  have t3 : Rps (w.ks.map dS) ((82 + 2) * 3) 0 := Rps.map (fun a ha => .ok1 (g.ks a ha)) g.kl
  have t4 : Rps (w.bp.map dPt) ((220 + 2) * 3) 1 := Rps.map (fun p hp => .pt (g.bp p hp)) (by rw [g.bl]; exact g.pl)
  have t5 : Rps (w.rs.map dRu) ((5000 + 2) * 40) 4 := Rps.map (fun r hr => .ru g hr) n40
  exact (Rp.tup (.cons (.tup t1) (.cons (.tup t2) (.cons (.tup t3) (.cons (.tup (.cons (.ok1 (g.ss _ g.b)) (.cons (.tup t4) .nil))) (.cons (.tup t5) .nil)))))).mono (by decide) (by decide)
theorem lawx {ns : List Int} (hl : ns.length ≤ 63) : W (m_law [.lst (ns.map D.int)] []) (fun d _ => d = .bl true) noX := by
  apply w_law
  unfold z_law
  simp only [kSend, kCome, kRest, kRoot, kOthr]
  (repeat' (first | fail "q1" | apply cell_w; intro _ | refine Bn_lst ?_ ?_ | fail "q2" | fail "q3" | fail))
  · rw [List.length_singleton]
    have := cut_len (xs := ns.map D.int) (lo := some 1) (hi := some 5)
    rw [List.length_map] at this
    omega
  rename_i c0
  refine Lp_invE (xs := [D.int c0] ++ cut (ns.map D.int) (some 1) (some 5)) (fun i σ S' => ∃ x1 x2 x3 x4 x5 x6 x7 x8 x9 x10 x11 : Option D, σ = [some (.lst (ns.map D.int)), x1, x2, x3, x4, x5, x6, x7, x8, x9, x10, x11]) ⟨_, _, _, _, _, _, _, _, _, _, _, rfl⟩ ?_ ?_ ?_
  · rintro i d σ S hd ⟨x1, x2, x3, x4, x5, x6, x7, x8, x9, x10, x11, rfl⟩
    have : ∃ c, d = .int c := by
      have := List.mem_of_getElem? hd
      rcases List.mem_append.mp this with h | h
      · exact ⟨c0, List.mem_singleton.mp h⟩
      · obtain ⟨a, _, rfl⟩ := List.mem_map.mp (cut_mem h)
        exact ⟨a, rfl⟩
    obtain ⟨c, rfl⟩ := this
    (repeat' (first | fail "q1" | fail "q2" | fail "q4" | fail))
    refine begin_w (fun S1 hs1 l1 o1 => ?_)
    (repeat' (first | fail "q1" | fail "q2" | fail "q4" | fail))
    refine draw_w hs1 (by omega) (by decide) (by decide) (fun n S2 a0 a1 hs2 l2 o2 => ?_)
    (repeat' (first | with_reducible refine Z_ifm (fun σ S' => ∃ m : Int, σ = [some (.lst (ns.map D.int)), some (.int (i : Nat)), some (.int c), some (.ref S.length), some (.int m), x5, x6, x7, x8, x9, x10, x11] ∧ 0 ≤ m ∧ m ≤ 40 ∧ Src S' S.length 3) ?_ ?_ | fail "q1" | fail "q2" | fail "q4" | fail))
    · (repeat' (first | fail "q1" | fail "q2" | fail "q3" | fail))
      · refine draw_w hs2 (by omega) (by decide) (by decide) (fun e S3 b0 b1 hs3 l3 o3 => ?_)
        (repeat' (first | fail "q1" | fail "q2" | fail "q3" | fail))
        · exact ⟨40, rfl, by decide, by decide, hs3.mono (by omega)⟩
        · exact ⟨n, rfl, a0, by omega, hs3.mono (by omega)⟩
      · exact ⟨n, rfl, a0, by omega, hs2.mono (by omega)⟩
    · rintro σ S3 ⟨m, rfl, m0, m40, hs3⟩
      have hS := hs3.lt
      (repeat' (first | fail "q1" | fail "q2" | fail "q4" | fail))
      refine dway_w hs3 (by omega) m0 m40 (fun w0 S4 g0 r0 hs4 K4 => ?_)
      (repeat' (first | fail "q1" | fail "q2" | fail "q4" | fail))
      refine gathered_w hs4 (by omega) g0 (by omega) (fun w S5 g r1 hs5 K5 => ?_)
      have n40 : w.rs.length ≤ 40 := by omega
      have rp := Rp.wy g n40
      obtain ⟨t, ht⟩ := repr_some rp.ok (Nat.lt_of_le_of_lt rp.dp (by decide)) (Nat.le_trans rp.sh (by decide))
      have sn : ∀ a ∈ [cSend, cCome, cRest] ++ w.ks, sOk a = true := fun a ha => by
        rcases List.mem_append.mp ha with z | z
        · simp only [List.mem_cons, List.not_mem_nil, or_false] at z
          rcases z with rfl | rfl | rfl <;> decide
        · exact okName_s (g.ks a z)
      have wi2 : ∀ {S : Store} {R : D → Prop}, R (.tup (w.ks.map dS)) → IxP S (dWy w) (.int 2) R := fun h => wy_i.2.2.1 h
      have wi1 : ∀ {S : Store} {R : D → Prop}, R (.tup (w.ss.map dS)) → IxP S (dWy w) (.int 1) R := fun h => wy_i.2.1 h
      have rpr : ∀ {S : Store} {R : D → Prop}, R (.str t) → BsP S .repr [dWy w] R := fun h => Bs_repr (ht _) h
      have kl := g.kl
      have sl := g.sl
      (repeat' (first | (with_reducible refine rpr ?_) | fail "q1" | fail "q2" | fail "q4" | fail))
      refine Lp_inv (fun j σ S' => Src S' S.length (3600 + 20 * j) ∧ ∃ x7 x8 x9 x10 x11 : Option D, σ = [some (.lst (ns.map D.int)), some (.int (i : Nat)), some (.int c), some (.ref S.length), some (.int m), some (dWy w), some (.str t), x7, x8, x9, x10, x11]) ⟨hs5.mono (by omega), _, _, _, _, _, rfl⟩ ?_ ?_ (by rw [range_len]; decide)
      · rintro j d σ S6 hd' ⟨hs6, x7, x8, x9, x10, x11, rfl⟩
        obtain ⟨rfl, hj⟩ := range_get hd'
        (repeat' (first | fail "q1" | fail "q2" | fail "q4" | fail))
        refine held_w hs6 (by omega) g n40 (fun kvs S7 ok g7 hs7 l7 K7 => ?_)
        (repeat' (first | (with_reducible refine wi2 ?_) | refine Bs_by (x := .lst (w.ks.map dS)) rfl ?_ | refine Bn_catN (as := [cSend, cCome, cRest]) (bs := w.ks) rfl rfl (by show 3 + _ ≤ _; omega) ?_ | fail "q1" | fail "q2" | fail "q4" | fail))
        refine Lp_inv (fun a σ S' => (∃ T, S' = S7 ++ T) ∧ ∃ x9 x10 x11 : Option D, σ = [some (.lst (ns.map D.int)), some (.int (i : Nat)), some (.int c), some (.ref S.length), some (.int m), some (dWy w), some (.str t), some (.int (j : Nat)), some (.ref S6.length), x9, x10, x11]) ⟨⟨[], by simp⟩, _, _, _, rfl⟩ ?_ ?_ (by rw [List.length_map, List.length_append]; show 3 + _ < _; omega)
        · rintro a d σ S8 hd8 ⟨⟨T, rfl⟩, x9, x10, x11, rfl⟩
          have hd8 : (([cSend, cCome, cRest] ++ w.ks).map dS)[a]? = some d := hd8
          rw [List.getElem?_map, Option.map_eq_some_iff] at hd8
          obtain ⟨ev, hev, rfl⟩ := hd8
          have sev := sn ev (List.mem_of_getElem? hev)
          (repeat' (first | fail "q1" | fail "q2" | fail "q4" | fail))
          refine Lp_inv (fun a σ S' => (∃ T, S' = S7 ++ T) ∧ ∃ x10 x11 : Option D, σ = [some (.lst (ns.map D.int)), some (.int (i : Nat)), some (.int c), some (.ref S.length), some (.int m), some (dWy w), some (.str t), some (.int (j : Nat)), some (.ref S6.length), some (dS ev), x10, x11]) ⟨⟨T, rfl⟩, _, _, rfl⟩ ?_ ?_ (by show (2 : Nat) < _; decide)
          · rintro b d σ S9 hd9 ⟨⟨T, rfl⟩, x10, x11, rfl⟩
            have hd9 := List.mem_of_getElem? hd9
            have : ∃ ro, d = dS ro ∧ sOk ro = true := by
              simp only [List.mem_cons, List.not_mem_nil, or_false] at hd9
              rcases hd9 with rfl | rfl
              · exact ⟨cRoot, rfl, by decide⟩
              · exact ⟨cOthr, rfl, by decide⟩
            obtain ⟨ro, rfl, sro⟩ := this
            (repeat' (first | (with_reducible refine wi1 ?_) | fail "q1" | fail "q2" | fail "q4" | fail))
            refine Lp_inv (fun a σ S' => (∃ T, S' = S7 ++ T) ∧ ∃ x11 : Option D, σ = [some (.lst (ns.map D.int)), some (.int (i : Nat)), some (.int c), some (.ref S.length), some (.int m), some (dWy w), some (.str t), some (.int (j : Nat)), some (.ref S6.length), some (dS ev), some (dS ro), x11]) ⟨⟨T, rfl⟩, _, rfl⟩ ?_ ?_ (by show (w.ss.map dS).length < _; rw [List.length_map]; omega)
            · rintro b2 d σ Sa hda ⟨⟨T, rfl⟩, x11, rfl⟩
              have hda : (w.ss.map dS)[b2]? = some d := hda
              rw [List.getElem?_map, Option.map_eq_some_iff] at hda
              obtain ⟨st, hst, rfl⟩ := hda
              have sst := okName_s (g.ss st (List.mem_of_getElem? hst))
              have ga : (S7 ++ T)[S6.length]? = some (.dic kvs) := by rw [List.getElem?_append_left l7]; exact g7
              (repeat' (first | fail "q1" | fail "q2" | fail "q4" | fail))
              refine asked_w g n40 sev sro sst ok ga (fun T2 => ?_)
              (repeat' (first | fail "q1" | fail "q2" | fail "q4" | fail))
              exact ⟨⟨T ++ T2, by simp⟩, _, rfl⟩
            · rintro σ Sa ⟨⟨T, rfl⟩, x11, rfl⟩
              exact ⟨⟨T, rfl⟩, _, _, rfl⟩
          · rintro σ Sa ⟨⟨T, rfl⟩, x10, x11, rfl⟩
            exact ⟨⟨T, rfl⟩, _, _, _, rfl⟩
        · rintro σ Sa ⟨⟨T, rfl⟩, x9, x10, x11, rfl⟩
          exact ⟨hs7.app.mono (by omega), _, _, _, _, _, rfl⟩
      · rintro σ S6 ⟨hs6, x7, x8, x9, x10, x11, rfl⟩
        (repeat' (first | (with_reducible refine rpr ?_) | (with_reducible refine strs_same ?_) | fail "q1" | fail "q2" | fail "q4" | fail))
        exact ⟨_, _, _, _, _, _, _, _, _, _, _, rfl⟩
  · rintro σ S ⟨x1, x2, x3, x4, x5, x6, x7, x8, x9, x10, x11, rfl⟩
    (repeat' (first | fail "q1" | fail "q2" | fail "q4" | fail))
    exact Fn_law (fun _ => rfl)
  · rw [List.length_append, List.length_singleton]
    have := cut_len (xs := ns.map D.int) (lo := some 1) (hi := some 5)
    rw [List.length_map] at this
    omega
theorem plain (ns : List Int) (h : ns.length ≤ 63) : ∃ S, RL.φ [.lst (ns.map D.int)] [] = .ok (.bl true) S := law_true (lawx h)
end QL

theorem PySem.Challenge.cw_allquiet_k32_which_rule_fits_holds : PySem.Challenge.rw_allquiet_k32_which_rule_fits.Holds :=
  QL.theEnd QL.plain
