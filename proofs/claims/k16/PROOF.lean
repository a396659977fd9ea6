import PyProof.Rows.All
import Wide.All
import OpenK.AllK
import Wide.FinOn
import HandS.Base
import HandS.Call
import HandS.List
import HandS.Comp
import HandS.Ends
import HandS.Dict
import HandS.Iter
import HandS.Text
import HandS.Words
import HandS.WordsList
import HandS.WordsDict
import HandS.Exc
import HandS.ExcOwn
import HandS.TryOnly
import HandS.WordsExc
import HandS.Wide
import HandS.WideBits
import HandS.IsInst
import HandS.Flow
import HandS.Strs
import HandS.Style
import HandS.TupAny
import HandS.Deep
import HandS.Codes
import HandS.Defaults
import HandS.CallSlots
import HandS.HeadHook2
import HandS.HeadHook4
import HandS.HeadEnd
import HandS.Head2
import HandS.TupMul
import HandS.Zip
import HandS.More
import HandS.RaiseMore
import HandS.SortInts
import HandS.NoneIn
import KE.KRevSl
import HandS.StrMore
import HandS.CallSlots
import HandS.ExcOwn
import HandS.Comp
import HandS.Exc
import HandS.ExcOwn
import HandS.ExcIs
import HandS.FStr
import HandS.Style
import KE.IntTextText
import PySem.Challenge.RW_allquiet_k16_texts_of_works_spoilt
set_option Elab.async false
set_option linter.all false
set_option maxRecDepth 100000
set_option maxHeartbeats 0
/-! QS: set(texts), its length. -/
namespace Q
open PySem PySem.Spec PyProof.Rows L2
/-- each text once, as first met -/
def onceS : List Str → List Str → List Str
  | acc, [] => acc
  | acc, x :: xs => onceS (if x ∈ acc then acc else acc ++ [x]) xs
theorem onceS_le : ∀ (xs acc : List Str), (onceS acc xs).length ≤ acc.length + xs.length
  | [], acc => by simp [onceS]
  | x :: xs, acc => by
    have := onceS_le xs (if x ∈ acc then acc else acc ++ [x])
    unfold onceS
    rw [List.length_cons]
    split at this
    · rename_i h; rw [if_pos h]; omega
    · rename_i h; rw [if_neg h]; rw [List.length_append, List.length_singleton] at this; omega
theorem onceS_snoc (x : Str) : ∀ (xs acc : List Str), onceS acc (xs ++ [x]) = (if x ∈ onceS acc xs then onceS acc xs else onceS acc xs ++ [x])
  | [], acc => rfl
  | y :: ys, acc => by
    show onceS _ (ys ++ [x]) = _
    rw [onceS_snoc x ys]
    rfl
section
variable {prog : Program} {w : World} {A : Around} {I : Addr} {fp wr : List Addr} {G : Array GenState → Array GenState → Prop} {n : Nat} {P : Nat → Value → Prop} {St : Nat → Shared → Prop}
abbrev HasS (prog : Program) (w : World) (h : Heap) (a : Addr) (zs : List Str) : Prop := h.SetOf (PySem.strKind prog w) a (fun k => decide (k ∈ zs)) zs.length
theorem fill_texts {R : Result → Shared → Prop} (W : WalksS prog w A.in1 I fp wr G n P St) (a : Addr) (na : a ∉ fp) (xs : List Str) (hn : xs.length = n) (hb : n + 1 < scanBound) (hv : ∀ i v, P i v → ∃ x t, xs[i]? = some x ∧ v = .str x t) :
    ∀ (m i : Nat) (s : Shared), i + m = n → St i s → HasS prog w s.heap a (onceS [] (xs.take i)) →
      (∀ s', Moved (a :: wr) G s s' → HasS prog w s'.heap a (onceS [] xs) → R (.ok (.ret .none)) s') →
      codeAny (model prog w) A (.builtin "set.update.loop" ⟨[.ref a, .ref I], []⟩) R s := by
  have naw : a ∉ wr := fun q => na (W.sub _ q)
  have up : ∀ b ∈ wr, b ∈ a :: wr := fun b q => List.mem_cons_of_mem _ q
  have stay : ∀ {s s' : Shared} {zs : List Str}, Moved wr G s s' → HasS prog w s.heap a zs → HasS prog w s'.heap a zs := by
    rintro s s' zs mv ⟨o, es, ep, tb, q, more⟩
    exact ⟨o, es, ep, tb, mv.heap a _ naw q, more⟩
  intro m
  induction m with
  | zero =>
    intro i s him st hs k
    obtain rfl : i = n := by omega
    refine codeAny_builtin PyProof.Rows.F.entry_set_update_loop ?_
    rw [Around.under_plainId PyProof.Rows.F.plain_set_update_loop _]
    show wpAny _ A.in1 (pyNext (.ref I) >>= _) _ _ s
    refine wpAny_bind (W.done s _ _ st fun s1 mv => ?_)
    show wpAny _ A.in1 (ret Value.none) _ _ s1
    refine wpAny_pure (k s1 (mv.mono up) ?_)
    have := stay mv hs
    rwa [List.take_of_length_le (by omega)] at this
  | succ m ih =>
    intro i s him st hs k
    refine codeAny_builtin PyProof.Rows.F.entry_set_update_loop ?_
    rw [Around.under_plainId PyProof.Rows.F.plain_set_update_loop _]
    show wpAny _ A.in1 (pyNext (.ref I) >>= _) _ _ s
    refine wpAny_bind (W.item i s _ _ (by omega) st fun v s1 hp st1 mv => ?_)
    obtain ⟨x, t, hx, rfl⟩ := hv i v hp
    have hs1 := stay mv hs
    show wpAny _ A.in1 (holding [Value.str x t] (setAdd a (.str x t)) >>= _) _ _ s1
    refine wpAny_bind (wpAny_holding ?_)
    unfold setAdd
    refine wpAny_holding ?_
    refine wpAny_bind ((PySem.strKind prog w).pyHash (k := x) (strKind_is _ _ _ _) ?_)
    have room : (onceS [] (xs.take i)).length + 1 < scanBound := by
      have h1 := onceS_le (xs.take i) []
      rw [List.length_nil, List.length_take] at h1
      omega
    refine wpAny_setAddHashed_of (knd := PySem.strKind prog w) (s := { s1 with toks := s1.toks + 1 }) (strKind_is _ _ _ _) rfl hs1 room fun h2 sb new => ?_
    have ht : xs.take (i + 1) = xs.take i ++ [x] := by rw [List.take_succ, hx]; rfl
    have new2 : HasS prog w h2 a (onceS [] (xs.take (i + 1))) := by
      rw [ht, onceS_snoc]
      refine PyProof.Rows.SetOf_congr new (fun k' => ?_) ?_
      · show (decide (k' ∈ onceS [] (xs.take i)) || decide (k' = x)) = _
        split
        · rename_i c
          by_cases e : k' = x
          · subst e; simp [c]
          · simp [e]
        · simp only [List.mem_append, List.mem_singleton, Bool.decide_or]
      · show (if decide (x ∈ onceS [] (xs.take i)) = true then _ else _) = _
        split
        · rename_i c; rw [if_pos (of_decide_eq_true c)]
        · rename_i c; rw [if_neg (fun z => c (decide_eq_true z))]; simp
    refine wpAny_pure ⟨plainId_quiet PyProof.Rows.F.plain_set_update_loop _, ih (i + 1) _ (by omega) (W.frame _ s1 _ _ st1 (Nat.le_succ _) fun b q o e => ?_) new2 fun s3 mv3 hs3 => ?_⟩
    · rw [sb.2 b (fun z : b = a => na (by rw [← z]; exact q))]; exact e
    · refine k s3 (Moved.trans W.gtrans ((mv.mono up).then_heap (Nat.le_succ _) fun b o q e => ?_) mv3) hs3
      rw [sb.2 b (fun z : b = a => q (by rw [z]; exact List.mem_cons_self))]; exact e
end
theorem strs_get : ∀ {xs : List Str} {us : List Value}, Vals (xs.map V.str) us → ∀ (i : Nat) (v : Value), us[i]? = some v → ∃ x t, xs[i]? = some x ∧ v = .str x t
  | [], _, .nil, i, v, h => by simp at h
  | x :: xs, _, .cons r rs, 0, v, h => by
    obtain ⟨t, rfl⟩ := r
    simp at h; exact ⟨x, t, rfl, h.symm⟩
  | x :: xs, _, .cons r rs, i + 1, v, h => by
    obtain ⟨y, t, h1, h2⟩ := strs_get rs i v (by simpa using h)
    exact ⟨y, t, by simpa using h1, h2⟩
section
variable {prog : Program} {w : World} {A : Around} {E : Value → Shared → Prop} {s : Shared}
theorem set_of_list {l : Addr} {its : List Value} {xs : List Str} {Q : Value → Shared → Prop} (hh : A.handled = none) (hl : s.heap.IsList l its.toArray) (rel : Vals (xs.map V.str) its) (hb : its.length + 1 < scanBound)
    (k : ∀ (h' : Heap) (tk : Nat), HasS prog w h' s.heap.objs.size (onceS [] xs) → (∀ b o, b < s.heap.objs.size → s.heap.get? b = some o → h'.get? b = some o) → Q (.ref s.heap.objs.size) { s with heap := h', toks := tk }) :
    wpAny (model prog w) A (call (.type "set") [.ref l]) Q E s := by
  obtain ⟨first, others, mro⟩ := PySem.F.called_set.mro
  have f1 := PySem.F.called_set.made
  have f2 := PySem.F.called_set.sub
  refine wpAny_call (codeAny_of_tree ?_)
  show wpAny _ _ (callAny (.type "set") _) _ _ _
  refine wpAny_pure ⟨Code.quiet_builtin _ (by decide +kernel), codeAny_builtin PySem.F.entry_type_call ?_⟩
  rw [Around.under_plain (weight_type_call_type "set" [.ref l] []) rfl]
  have f3 := PySem.F.called_set.notType
  have f4 := PySem.F.called_set.canCreate
  have f5 := PySem.F.typeCall_set_1 (.ref l)
  repeat (any_goals (first | assumption | wp_step))
  refine codeAny_mono (code_set_new_1 (.ref l) (E := E) (Q₁ := fun u s1 => ∃ b : Bool, u = .ref s.heap.objs.size ∧ s1 = { s with heap := s.heap.push ⟨.type "set", none, .set #[] 0 (.fresh 0 0 b), #[]⟩ }) fun b => ⟨b, rfl, rfl⟩) fun r s1 got => ?_
  cases r with
  | error e => exact got
  | ok fl =>
    cases fl with
    | ret u =>
      obtain ⟨bt, rfl, rfl⟩ := got
      have stands : (s.heap.push ⟨.type "set", none, .set #[] 0 (.fresh 0 0 bt), #[]⟩).get? s.heap.objs.size = some ⟨.type "set", none, .set #[] 0 (.fresh 0 0 bt), #[]⟩ := Heap.get?_push_size _ rfl
      have ty : Shared.TypeIs { s with heap := s.heap.push ⟨.type "set", none, .set #[] 0 (.fresh 0 0 bt), #[]⟩ } (.ref s.heap.objs.size) "set" := ⟨_, stands, rfl⟩
      have f6 := PySem.F.called_set.init.lookup
      have f7 := PySem.F.called_set.init.bind (.ref s.heap.objs.size)
      repeat (any_goals (first | assumption | wp_step))
      refine codeAny_mono (codeAny_call_builtin (R := wants (fun r s2 => r = .none ∧ ∃ h2 t2, s2 = { s with heap := h2, toks := t2 } ∧ HasS prog w h2 s.heap.objs.size (onceS [] xs) ∧
          (∀ b o, b < s.heap.objs.size → s.heap.get? b = some o → h2.get? b = some o)) E) PySem.F.called_set.init.plain PySem.F.entry_set_init (check_set_init_1 ty ?_)) fun r2 s2 got2 => ?_
      · obtain ⟨⟨c0, d0, t0, z0⟩, ho, hc, m0, hd⟩ := hl
        simp only at hc hd
        subst hc; subst hd
        have lt : l < s.heap.objs.size := Heap.lt_size ho
        have ho2 : (s.heap.push ⟨.type "set", none, .set #[] 0 (.fresh 0 0 bt), #[]⟩).get? l = some { cls := .type "list", dict := d0, data := .seq its.toArray m0, slots := z0 } := Heap.get?_push_of_some _ ho
        have f8 := PySem.F.sub_list_set
        have f9 := PySem.F.sub_list_frozenset
        have f10 : (Value.type "list" == Value.type "dict") = false := by decide
        have src : (s.heap.push ⟨.type "set", none, .set #[] 0 (.fresh 0 0 bt), #[]⟩).IsList l its.toArray := ⟨_, ho2, rfl, m0, rfl⟩
        unfold Builtin.«set.__init__» noKeywords Builtin.Frozenset.updateFrom
        generalize hIter : pyIter = iter
        wp_walk
        subst hIter
        refine wpAny_pyIter_list src ?_
        refine wpAny_bind (wpAny_runValue ?_)
        have calm : A.in1.in1.in1.handled = none := by simp [hh]
        have far : l ≠ (s.heap.push ⟨.type "set", none, .set #[] 0 (.fresh 0 0 bt), #[]⟩).objs.size := by
          rw [Heap.size_push]; exact Nat.ne_of_lt (Nat.lt_succ_of_lt lt)
        have out : s.heap.objs.size ∉ [(s.heap.push ⟨.type "set", none, .set #[] 0 (.fresh 0 0 bt), #[]⟩).objs.size, l] := by
          rw [Heap.size_push]
          intro z
          rcases List.mem_cons.mp z with z | z
          · exact absurd z (Nat.ne_of_lt (Nat.lt_succ_self _))
          · exact absurd (List.mem_singleton.mp z) (Nat.ne_of_gt lt)
        have le := rel.length
        rw [List.length_map] at le
        refine fill_texts ((Walks.list calm _ l far its.toArray).toS) s.heap.objs.size out xs (by rw [List.size_toArray]; exact le) (by rw [List.size_toArray]; exact hb)
          (fun i v hv => strs_get rel i v (by simpa using hv)) its.toArray.size 0 _ (by omega) ⟨⟨_, Heap.get?_push_size _ rfl, rfl, rfl⟩, (src.push _)⟩ ?start ?goal
        case start =>
          have at2 : ((s.heap.push ⟨.type "set", none, .set #[] 0 (.fresh 0 0 bt), #[]⟩).push { cls := .type "list_iterator", data := .fields #[.ref l, .int 0 0] }).get? s.heap.objs.size
              = some ⟨.type "set", none, .set #[] 0 (.fresh 0 0 bt), #[]⟩ := Heap.get?_push_of_some _ stands
          exact PyProof.Rows.SetOf_congr ((PyProof.Rows.setObjOf_fresh (knd := PySem.strKind prog w) bt).setOf at2 (by unfold scanBound; omega)) (fun _ => by simp [onceS]) rfl
        case goal =>
          intro s3 mv hs3
          obtain ⟨h3, g3, d3, t3, o3⟩ := s3
          obtain rfl : g3 = s.gens := mv.gens
          obtain rfl : d3 = s.drawn := mv.drawn
          obtain rfl : o3 = s.os := mv.os
          show wpAny _ _ _ _ _ _
          refine wpAny_pure ?_
          show wpAny _ _ (ret Value.none) _ _ _
          refine wpAny_pure ⟨rfl, h3, t3, rfl, hs3, fun b o lb e => ?_⟩
          refine mv.heap b o (fun z => ?_) (Heap.get?_push_of_some _ (Heap.get?_push_of_some _ e))
          rw [Heap.size_push] at z
          rcases List.mem_cons.mp z with z | z
          · exact absurd z (Nat.ne_of_lt lb)
          · exact absurd (List.mem_singleton.mp z) (Nat.ne_of_lt (Nat.lt_succ_of_lt lb))
      · cases r2 with
        | error e => exact got2
        | ok fl2 =>
          cases fl2 with
          | ret r =>
            obtain ⟨rfl, h2, t2, rfl, hs2, keep⟩ := got2
            repeat (any_goals (first | assumption | wp_step))
            exact k _ _ hs2 keep
          | _ => exact got2.elim
    | _ => exact got.elim
theorem set_of_tuple {l : Addr} {its : List Value} {xs : List Str} {Q : Value → Shared → Prop} (hh : A.handled = none) (hl : s.heap.IsTuple l its.toArray) (rel : Vals (xs.map V.str) its) (hb : its.length + 1 < scanBound)
    (k : ∀ (h' : Heap) (tk : Nat), HasS prog w h' s.heap.objs.size (onceS [] xs) → (∀ b o, b < s.heap.objs.size → s.heap.get? b = some o → h'.get? b = some o) → Q (.ref s.heap.objs.size) { s with heap := h', toks := tk }) :
    wpAny (model prog w) A (call (.type "set") [.ref l]) Q E s := by
  obtain ⟨first, others, mro⟩ := PySem.F.called_set.mro
  have f1 := PySem.F.called_set.made
  have f2 := PySem.F.called_set.sub
  refine wpAny_call (codeAny_of_tree ?_)
  show wpAny _ _ (callAny (.type "set") _) _ _ _
  refine wpAny_pure ⟨Code.quiet_builtin _ (by decide +kernel), codeAny_builtin PySem.F.entry_type_call ?_⟩
  rw [Around.under_plain (weight_type_call_type "set" [.ref l] []) rfl]
  have f3 := PySem.F.called_set.notType
  have f4 := PySem.F.called_set.canCreate
  have f5 := PySem.F.typeCall_set_1 (.ref l)
  repeat (any_goals (first | assumption | wp_step))
  refine codeAny_mono (code_set_new_1 (.ref l) (E := E) (Q₁ := fun u s1 => ∃ b : Bool, u = .ref s.heap.objs.size ∧ s1 = { s with heap := s.heap.push ⟨.type "set", none, .set #[] 0 (.fresh 0 0 b), #[]⟩ }) fun b => ⟨b, rfl, rfl⟩) fun r s1 got => ?_
  cases r with
  | error e => exact got
  | ok fl =>
    cases fl with
    | ret u =>
      obtain ⟨bt, rfl, rfl⟩ := got
      have stands : (s.heap.push ⟨.type "set", none, .set #[] 0 (.fresh 0 0 bt), #[]⟩).get? s.heap.objs.size = some ⟨.type "set", none, .set #[] 0 (.fresh 0 0 bt), #[]⟩ := Heap.get?_push_size _ rfl
      have ty : Shared.TypeIs { s with heap := s.heap.push ⟨.type "set", none, .set #[] 0 (.fresh 0 0 bt), #[]⟩ } (.ref s.heap.objs.size) "set" := ⟨_, stands, rfl⟩
      have f6 := PySem.F.called_set.init.lookup
      have f7 := PySem.F.called_set.init.bind (.ref s.heap.objs.size)
      repeat (any_goals (first | assumption | wp_step))
      refine codeAny_mono (codeAny_call_builtin (R := wants (fun r s2 => r = .none ∧ ∃ h2 t2, s2 = { s with heap := h2, toks := t2 } ∧ HasS prog w h2 s.heap.objs.size (onceS [] xs) ∧
          (∀ b o, b < s.heap.objs.size → s.heap.get? b = some o → h2.get? b = some o)) E) PySem.F.called_set.init.plain PySem.F.entry_set_init (check_set_init_1 ty ?_)) fun r2 s2 got2 => ?_
      · obtain ⟨⟨c0, d0, t0, z0⟩, ho, hc, m0, hd⟩ := hl
        simp only at hc hd
        subst hc; subst hd
        have lt : l < s.heap.objs.size := Heap.lt_size ho
        have ho2 : (s.heap.push ⟨.type "set", none, .set #[] 0 (.fresh 0 0 bt), #[]⟩).get? l = some { cls := .type "tuple", dict := d0, data := .seq its.toArray m0, slots := z0 } := Heap.get?_push_of_some _ ho
        have f8 := PySem.F.sub_tuple_set
        have f9 := PySem.F.sub_tuple_frozenset
        have f10 : (Value.type "tuple" == Value.type "dict") = false := by decide
        have src : (s.heap.push ⟨.type "set", none, .set #[] 0 (.fresh 0 0 bt), #[]⟩).IsTuple l its.toArray := ⟨_, ho2, rfl, m0, rfl⟩
        unfold Builtin.«set.__init__» noKeywords Builtin.Frozenset.updateFrom
        generalize hIter : pyIter = iter
        wp_walk
        subst hIter
        refine wpAny_pyIter_tuple src ?_
        refine wpAny_bind (wpAny_runValue ?_)
        have calm : A.in1.in1.in1.handled = none := by simp [hh]
        have far : l ≠ (s.heap.push ⟨.type "set", none, .set #[] 0 (.fresh 0 0 bt), #[]⟩).objs.size := by
          rw [Heap.size_push]; exact Nat.ne_of_lt (Nat.lt_succ_of_lt lt)
        have out : s.heap.objs.size ∉ [(s.heap.push ⟨.type "set", none, .set #[] 0 (.fresh 0 0 bt), #[]⟩).objs.size, l] := by
          rw [Heap.size_push]
          intro z
          rcases List.mem_cons.mp z with z | z
          · exact absurd z (Nat.ne_of_lt (Nat.lt_succ_self _))
          · exact absurd (List.mem_singleton.mp z) (Nat.ne_of_gt lt)
        have le := rel.length
        rw [List.length_map] at le
        refine fill_texts ((Walks.tuple calm _ l far its.toArray).toS) s.heap.objs.size out xs (by rw [List.size_toArray]; exact le) (by rw [List.size_toArray]; exact hb)
          (fun i v hv => strs_get rel i v (by simpa using hv)) its.toArray.size 0 _ (by omega) ⟨⟨_, Heap.get?_push_size _ rfl, rfl, rfl⟩, (src.push _)⟩ ?start ?goal
        case start =>
          have at2 : ((s.heap.push ⟨.type "set", none, .set #[] 0 (.fresh 0 0 bt), #[]⟩).push { cls := .type "tuple_iterator", data := .fields #[.ref l, .int 0 0] }).get? s.heap.objs.size
              = some ⟨.type "set", none, .set #[] 0 (.fresh 0 0 bt), #[]⟩ := Heap.get?_push_of_some _ stands
          exact PyProof.Rows.SetOf_congr ((PyProof.Rows.setObjOf_fresh (knd := PySem.strKind prog w) bt).setOf at2 (by unfold scanBound; omega)) (fun _ => by simp [onceS]) rfl
        case goal =>
          intro s3 mv hs3
          obtain ⟨h3, g3, d3, t3, o3⟩ := s3
          obtain rfl : g3 = s.gens := mv.gens
          obtain rfl : d3 = s.drawn := mv.drawn
          obtain rfl : o3 = s.os := mv.os
          show wpAny _ _ _ _ _ _
          refine wpAny_pure ?_
          show wpAny _ _ (ret Value.none) _ _ _
          refine wpAny_pure ⟨rfl, h3, t3, rfl, hs3, fun b o lb e => ?_⟩
          refine mv.heap b o (fun z => ?_) (Heap.get?_push_of_some _ (Heap.get?_push_of_some _ e))
          rw [Heap.size_push] at z
          rcases List.mem_cons.mp z with z | z
          · exact absurd z (Nat.ne_of_lt lb)
          · exact absurd (List.mem_singleton.mp z) (Nat.ne_of_lt (Nat.lt_succ_of_lt lb))
      · cases r2 with
        | error e => exact got2
        | ok fl2 =>
          cases fl2 with
          | ret r =>
            obtain ⟨rfl, h2, t2, rfl, hs2, keep⟩ := got2
            repeat (any_goals (first | assumption | wp_step))
            exact k _ _ hs2 keep
          | _ => exact got2.elim
    | _ => exact got.elim
end
section
variable {X : Cx}
/-- len(set(x)), x texts -/
def tLenSetS (K : PySem.W.Frag) (ta : TE) : TE := fun σ H Q => ta σ H fun x H1 => ∃ l, ∃ xs : List Str, x = .ref l ∧ (SqL K H1 l (xs.map V.str) ∨ SqT K H1 l (xs.map V.str)) ∧ xs.length ≤ 1000 ∧ Q (.int (onceS [] xs).length) H1
theorem pe_lenSetS {a : Expr} {ta : TE} {p p2 q pos : Pos} (hc : X.calm = true) (hg : Gl X "len") (hm : X.mg "len" = none) (hg2 : Gl X "set") (hm2 : X.mg "set" = none) (ha : PE X a ta)
    (na : starEach [a] X.env = (false, eval a X.env) :: starEach [] X.env) : PE X (.Call (.Name "len" p) [.Call (.Name "set" p2) [a] [] q] [] pos) (tLenSetS X.K ta) := by
  refine ⟨fun pins s σ H Q I h => ?_⟩
  refine Call_ (ld_blt I hg hm boot_len ?_)
  refine PyProof.Rows.callWith_builtin1 (PyProof.Rows.args_cons ?_ rfl) rfl rfl
  refine Call_ (ld_blt I hg2 hm2 boot_set ?_)
  refine PyProof.Rows.callWith_type1 (PyProof.Rows.args_cons (thn (ha.run pins s σ H _ I h) fun v s1 ⟨x, H1, I1, r1, q1⟩ => PyProof.Rows.args_nil ?_) na) na rfl
  obtain ⟨l, xs, rfl, hq, z, q1⟩ := q1
  cases r1
  have fin : ∀ (h' : Heap) (tk : Nat), HasS X.prog X.w h' s1.heap.objs.size (onceS [] xs) → (∀ b o, b < s1.heap.objs.size → s1.heap.get? b = some o → h'.get? b = some o) →
      wpAny (model X.prog X.w) X.A (spliced (backTo pos (starEach [] X.env))) (fun vs s2 => wpAny (model X.prog X.w) X.A (call (.builtin "len") (Value.ref s1.heap.objs.size :: vs)) (EP X pins σ Q) X.xe s2) X.xe { s1 with heap := h', toks := tk } := fun h' tk hS keep => by
    refine PyProof.Rows.args_nil ?_
    obtain ⟨o, es, ep, t, ho, hex, hd, _, _, _, hf, hn⟩ := hS
    have I2 : Inv X pins σ H1 { s1 with heap := h', toks := tk } := I1.kept fun b o e => keep b o (Heap.lt_size e) e
    have := onceS_le xs []
    rw [List.length_nil] at this
    refine call_len_set ho hex hd hf (by rw [hn]; omega) ⟨.int (onceS [] xs).length, H1, I2.tok _, ⟨_, by rw [hn]⟩, q1⟩
  rcases hq with hq | hq
  · obtain ⟨its, r, pl, hz⟩ := I1.list hq
    have := r.length
    rw [List.length_map] at this
    exact set_of_list (I1.ok.hd hc) pl.isList r (by unfold scanBound; omega) fun h' tk hS keep => fin h' tk hS keep
  · obtain ⟨its, r, pl, hz⟩ := I1.tuple hq
    have := r.length
    rw [List.length_map] at this
    exact set_of_tuple (I1.ok.hd hc) pl r (by unfold scanBound; omega) fun h' tk hS keep => fin h' tk hS keep
end
end Q
/-! QR (read between Q2 and Q3): rules that HandS has not. -/
namespace Q
open PySem PySem.Spec PyProof.Rows L2
section
variable {X : Cx}
/-! ### a text, a tuple, a list times a number -/
theorem fold_reps {α : Type} (l : List α) : ∀ (m : Nat) (acc : List α), List.foldl (fun u v => u ++ v) acc.toArray (List.replicate m l.toArray) = (acc ++ (List.replicate m l).flatten).toArray
  | 0, acc => by simp
  | m + 1, acc => by
    rw [List.replicate_succ, List.foldl_cons, List.append_toArray, fold_reps l m (acc ++ l), List.replicate_succ, List.flatten_cons, List.append_assoc]
theorem reps_len {α : Type} (l : List α) : ∀ m : Nat, (List.replicate m l).flatten.length = l.length * m
  | 0 => by simp
  | m + 1 => by rw [List.replicate_succ, List.flatten_cons, List.length_append, reps_len l m, Nat.mul_succ, Nat.add_comm]
theorem vals_reps {xs : List V} {us : List Value} (r : Vals xs us) : ∀ m : Nat, Vals (List.replicate m xs).flatten (List.replicate m us).flatten
  | 0 => .nil
  | m + 1 => by rw [List.replicate_succ, List.replicate_succ, List.flatten_cons, List.flatten_cons]; exact r.append (vals_reps r m)
/-- x * k -/
def timesS (x : Str) (k : Int) : Str := if k = 1 then x else if x.length = 0 then (if k < 1 then Str.empty else x) else ⟨(List.replicate k.toNat x.cps.toList).flatten.toArray⟩
def rMulS : R2 := fun x y H Q => ∃ z k, x = .str z ∧ y = .int k ∧ -1000000 ≤ k ∧ k ≤ 1000000 ∧ z.length * k.toNat ≤ 1000000 ∧ Q (.str (timesS z k)) H
theorem op_mulS : OpR X (binaryOp .Mult) rMulS := by
  intro pins s σ H x y v u Q I rx ry h
  obtain ⟨z, k, rfl, rfl, k0, k1, kz, q⟩ := h
  obtain ⟨t1, rfl⟩ := rx
  obtain ⟨t2, rfl⟩ := ry
  have e9 : List.foldl (fun u v => u ++ v) #[] (List.replicate k.toNat z.cps) = (List.replicate k.toNat z.cps.toList).flatten.toArray := by
    have := fold_reps z.cps.toList k.toNat []
    rw [List.nil_append] at this
    exact this
  have sz : (Str.mk (List.foldl (fun u v => u ++ v) #[] (List.replicate k.toNat z.cps))).length = z.length * k.toNat := by
    rw [e9]
    show (List.replicate k.toNat z.cps.toList).flatten.toArray.size = _
    rw [List.size_toArray, reps_len]
    simp [Str.length]
  refine PySem.P.mul_str (by rw [decide_eq_false (by omega), decide_eq_false (by omega)]; rfl) (fun p1 _ => ?_) (fun _ _ => ?_) ?_
  · have e1 : ((z.length : Nat) : Int) * 1 ≤ z.length * k := Int.mul_le_mul_of_nonneg_left (by omega) (by omega)
    have e2 : ((z.length * k.toNat : Nat) : Int) = (z.length : Int) * k := by rw [Int.natCast_mul]; congr 1; omega
    have e3 : (9223372036854 : Int) ≤ (2 ^ 63 - 1) / k := by
      rw [Int.le_ediv_iff_mul_le (by omega)]
      omega
    omega
  · unfold Builtin.Str.tooLong
    exact decide_eq_false (by rw [sizeLine_eq]; omega)
  · by_cases c1 : k < 1
    · rw [if_pos c1]
      have e : timesS z k = Str.empty := by
        unfold timesS
        rw [if_neg (by omega), if_pos c1]
        split
        · rfl
        · have : k.toNat = 0 := by omega
          rw [this]; rfl
      rw [e] at q
      exact ⟨by decide, .str _, H, I.tok _, ⟨_, rfl⟩, q⟩
    · rw [if_neg c1]
      unfold timesS at q
      by_cases c2 : k = 1
      · rw [if_pos c2] at q
        rw [if_pos (by rw [c2]; rfl)]
        exact ⟨.str _, H, I, ⟨_, rfl⟩, q⟩
      · rw [if_neg c2] at q
        by_cases c3 : z.length = 0
        · rw [if_pos c3, if_neg c1] at q
          rw [if_pos (by rw [Bool.or_eq_true, beq_iff_eq, beq_iff_eq]; exact .inr c3)]
          exact ⟨.str _, H, I, ⟨_, rfl⟩, q⟩
        · rw [if_neg c3, ← e9] at q
          rw [if_neg (by rw [Bool.or_eq_true, beq_iff_eq, beq_iff_eq]; omega)]
          exact ⟨by rw [sz, sizeLine_eq]; omega, .str _, H, I.tok _, ⟨_, rfl⟩, q⟩
theorem tup_times (l : Addr) (items : Array Value) (n : Nat) (dd : Option Addr) (sl : Array (Option Value)) (x : Int) (u : Tok) (b0 : -1000000 ≤ x) (b1 : x ≤ 1000000) (bz : items.size * x.toNat ≤ 1000000) :
    Meets (Builtin.«tuple.__mul__» ⟨[.ref l, .int x u], []⟩) (fun _ R s => s.heap.get? l = some { cls := .type "tuple", dict := dd, data := .seq items n, slots := sl } ∧
      ((x = 1 ∨ items.isEmpty = true) → R (.ok (.ret (Value.ref l))) s) ∧
      (¬ (x = 1 ∨ items.isEmpty = true) → R (.ok (.ret (Value.ref s.heap.objs.size))) { s with heap := s.heap.push { cls := Value.type "tuple", data := Data.seq (List.foldl (fun a b => a ++ b) #[] (List.replicate x.toNat items)) }, toks := s.toks })) :=
  .of_wp fun prog w A R s h => by
    obtain ⟨hp, g, d, tk, os⟩ := s
    obtain ⟨hl, h1, h2⟩ := h
    have f1 := AutoSeq1.idx_int
    have c0 : (decide (x < -(2 ^ 63)) || decide (x ≥ 2 ^ 63)) = false := by rw [decide_eq_false (by omega), decide_eq_false (by omega)] <;> rfl
    have sz9 : (List.foldl (fun a b => a ++ b) #[] (List.replicate x.toNat items)).size = items.size * x.toNat := by
      have := fold_reps items.toList x.toNat []
      rw [List.nil_append] at this
      rw [show List.foldl (fun a b => a ++ b) #[] (List.replicate x.toNat items) = _ from this, List.size_toArray, reps_len]
      simp
    wp_walk using wpAny_loadPart' hl
    by_cases c1 : (items.isEmpty || x == 1) = true
    · have c1' : x = 1 ∨ items.isEmpty = true := by
        rw [Bool.or_eq_true, beq_iff_eq] at c1
        exact c1.symm
      repeat (first
        | exact ⟨_, rfl, h1 c1'⟩
        | (refine wpAny_ite_false (decide_eq_false (by rw [c0]; exact Bool.false_ne_true)) ?_; wp_walk using wpAny_loadPart' hl)
        | (refine wpAny_ite_true (decide_eq_true c1) ?_; wp_walk using wpAny_loadPart' hl))
    · have c1' : ¬ (x = 1 ∨ items.isEmpty = true) := fun z => c1 (by rw [Bool.or_eq_true, beq_iff_eq]; exact z.symm)
      by_cases c2 : (decide (x ≤ 0) || items.isEmpty) = true
      · have e0 : List.foldl (fun a b => a ++ b) #[] (List.replicate x.toNat items) = #[] := by
          rw [Bool.or_eq_true, decide_eq_true_eq] at c2
          have : x.toNat = 0 := by
            rcases c2 with c2 | c2
            · omega
            · exact absurd (.inr c2) c1'
          rw [this]; rfl
        have h3 := h2 c1'
        rw [e0] at h3
        repeat (first
          | exact ⟨_, rfl, h3⟩
          | (refine wpAny_ite_false (decide_eq_false (by rw [c0]; exact Bool.false_ne_true)) ?_; wp_walk using wpAny_loadPart' hl)
          | (refine wpAny_ite_false (decide_eq_false c1) ?_; wp_walk using wpAny_loadPart' hl)
          | (refine wpAny_ite_true (decide_eq_true c2) ?_; wp_walk using wpAny_loadPart' hl))
      · have hx0 : 0 ≤ x := by
          rw [Bool.or_eq_true, decide_eq_true_eq] at c2
          omega
        have hm : ((items.size : Nat) : Int) * x ≤ 1000000 := by
          have e2 : ((items.size * x.toNat : Nat) : Int) = (items.size : Int) * x := by rw [Int.natCast_mul]; congr 1; omega
          omega
        have c4 : Builtin.Tuple.tupleTooMany (((items.size : Nat) : Int) * x) = false := by
          unfold Builtin.Tuple.tupleTooMany
          rw [sizeLine_eq]
          exact decide_eq_false (by omega)
        repeat (first
          | exact ⟨_, rfl, h2 c1'⟩
          | (refine wpAny_ite_false (decide_eq_false (by rw [c0]; exact Bool.false_ne_true)) ?_; wp_walk using wpAny_loadPart' hl)
          | (refine wpAny_ite_false (decide_eq_false c1) ?_; wp_walk using wpAny_loadPart' hl)
          | (refine wpAny_ite_false (decide_eq_false c2) ?_; wp_walk using wpAny_loadPart' hl)
          | (refine wpAny_ite_false (decide_eq_false (by omega)) ?_; wp_walk using wpAny_loadPart' hl)
          | (refine wpAny_ite_false (decide_eq_false (by rw [c4]; exact Bool.false_ne_true)) ?_; wp_walk using wpAny_loadPart' hl)
          | (refine wpAny_ite_false (decide_eq_false (by rw [sz9, sizeLine_eq]; omega)) ?_; wp_walk using wpAny_loadPart' hl))
def rMulT (K : PySem.W.Frag) : R2 := fun x y H Q => ∃ l k xs, x = .ref l ∧ y = .int k ∧ SqT K H l xs ∧ -1000000 ≤ k ∧ k ≤ 1000000 ∧ xs.length * k.toNat ≤ 1000000 ∧
  ((k = 1 ∨ xs = []) → Q (.ref l) H) ∧ (¬ (k = 1 ∨ xs = []) → ∀ p, H p = none → Q (.ref p) (upd H p (.tup (List.replicate k.toNat xs).flatten)))
theorem op_mulT : OpR X (binaryOp .Mult) (rMulT X.K) := by
  intro pins s σ H x y v u Q I rx ry h
  obtain ⟨l, k, xs, rfl, rfl, hT, b0, b1, bz, q1, q2⟩ := h
  cases rx
  obtain ⟨t, rfl⟩ := ry
  obtain ⟨its, r, ⟨⟨cls, dd, data, sl⟩, ho, hc, n, hd⟩, hs⟩ := I.tuple hT
  simp only at hc hd
  subst hc hd
  have hle : its.length = xs.length := r.length.symm
  have hem : its.toArray.isEmpty = true ↔ xs = [] := by
    rw [Array.isEmpty_iff_size_eq_zero, List.size_toArray, hle, List.length_eq_zero_iff]
  refine wpAny_binaryOp_repeat_ref (T := "tuple") (U := "int") (by decide) ⟨_, ho, rfl⟩ (fun s' => typeIs_int s' k t) noFill_tuple_mul F.fills_int_mul F.slot_int_rmul repeat_tuple F.slot_int_index.lookup
    (call_meets F.slot_int_rmul (typeIs_int s k t) F.entry_int_rmul (F.args_int_rmul_2 _ _) (int_rmul_tuple k t l its.toArray n dd sl)
      ⟨ho, rfl, ⟨_, ho, rfl⟩, call_meets F.slot_tuple_mul ⟨_, ho, rfl⟩ F.entry_tuple_mul (F.args_tuple_mul_2 _ _) (tup_times l its.toArray n dd sl k t b0 b1 (by rw [List.size_toArray, hle]; exact bz)) ⟨ho, fun c => ?_, fun c => ?_⟩⟩)
  · exact ⟨.ref l, H, I, rfl, q1 (c.imp id hem.mp)⟩
  · have e9 : List.foldl (fun u v => u ++ v) #[] (List.replicate k.toNat its.toArray) = (List.replicate k.toNat its).flatten.toArray := by
      have := fold_reps its k.toNat []
      rw [List.nil_append] at this
      exact this
    rw [e9]
    refine ⟨.ref s.heap.objs.size, _, I.laid (t' := s.toks) (o := .tup (List.replicate k.toNat xs).flatten) (fun b ob q => Heap.get?_push_of_some _ q) (Nat.le_refl _) ?_, rfl, q2 (fun z => c (z.imp id hem.mpr)) _ (I.hok.fresh (Nat.le_refl _))⟩
    exact ⟨by rw [reps_len, sizeLine_eq]; omega, _, vals_reps r k.toNat, IsTup.new _ _⟩
theorem rmul_lst (a : Int) (t : Tok) (l : Addr) (items : Array Value) (n : Nat) (dd : Option Addr) (sl : Array (Option Value)) :
    Meets (Builtin.«int.__rmul__» ⟨[.int a t, .ref l], []⟩) (fun _ R s => s.heap.get? l = some { cls := .type "list", dict := dd, data := .seq items n, slots := sl } ∧ R (.ok (.ret Value.notImplemented)) s) :=
  .of_wp fun prog w A R s h => by obtain ⟨hp, g, d, tk, os⟩ := s; obtain ⟨at_, h⟩ := h; wp_walk using wpAny_loadPart' at_; exact ⟨_, rfl, h⟩
theorem lst_times (l : Addr) (items : Array Value) (n : Nat) (dd : Option Addr) (sl : Array (Option Value)) (x : Int) (u : Tok) (b0 : -1000000 ≤ x) (b1 : x ≤ 1000000) (bz : items.size * x.toNat ≤ 1000000) :
    Meets (Builtin.«list.__mul__» ⟨[.ref l, .int x u], []⟩) (fun _ R s => s.heap.get? l = some { cls := .type "list", dict := dd, data := .seq items n, slots := sl } ∧
      R (.ok (.ret (Value.ref s.heap.objs.size))) { s with heap := s.heap.push { cls := Value.type "list", data := Data.seq (List.foldl (fun a b => a ++ b) #[] (List.replicate (if items.isEmpty = true then 0 else x.toNat) items)) }, toks := s.toks }) :=
  .of_wp fun prog w A R s h => by
    obtain ⟨hp, g, d, tk, os⟩ := s
    obtain ⟨hl, h1⟩ := h
    have f1 := AutoSeq1.idx_int
    have hfit : ¬ (!Builtin.List.listFitsIndex x) = true := by
      rw [fitsIndex_both (by omega) (by omega)]
      exact Bool.false_ne_true
    have sz9 : (List.foldl (fun a b => a ++ b) #[] (List.replicate (if items.isEmpty = true then 0 else x.toNat) items)).size ≤ items.size * x.toNat := by
      have := fold_reps items.toList (if items.isEmpty = true then 0 else x.toNat) []
      rw [List.nil_append] at this
      rw [show List.foldl (fun a b => a ++ b) #[] (List.replicate (if items.isEmpty = true then 0 else x.toNat) items) = _ from this, List.size_toArray, reps_len]
      split
      · omega
      · simp
    have hlong : ¬ Builtin.List.listTooLong (items.size * x.toNat) = true := by
      rw [notLongL (by rw [sizeLine_eq]; omega)]
      exact Bool.false_ne_true
    wp_walk using wpAny_loadPart' hl
    repeat (first
      | exact ⟨_, rfl, h1⟩
      | (refine wpAny_ite_false (decide_eq_false (by omega)) ?_; wp_walk using wpAny_loadPart' hl)
      | (refine wpAny_ite_false (decide_eq_false hlong) ?_; wp_walk using wpAny_loadPart' hl)
      | (refine wpAny_ite_false (decide_eq_false (by have := sizeLine_eq; omega)) ?_; wp_walk using wpAny_loadPart' hl))
def rMulL (K : PySem.W.Frag) : R2 := fun x y H Q => ∃ l k xs, x = .ref l ∧ y = .int k ∧ SqL K H l xs ∧ -1000000 ≤ k ∧ k ≤ 1000000 ∧ xs.length * k.toNat ≤ 1000000 ∧
  ∀ p, H p = none → Q (.ref p) (upd H p (.lst (List.replicate k.toNat xs).flatten))
theorem op_mulL : OpR X (binaryOp .Mult) (rMulL X.K) := by
  intro pins s σ H x y v u Q I rx ry h
  obtain ⟨l, k, xs, rfl, rfl, hL, b0, b1, bz, q⟩ := h
  cases rx
  obtain ⟨t, rfl⟩ := ry
  obtain ⟨its, r, ⟨⟨cls, dd, data, sl⟩, n, ho, hc, _, hd⟩, hs⟩ := I.list hL
  simp only at hc hd
  subst hc hd
  have hle : its.length = xs.length := r.length.symm
  refine wpAny_binaryOp_repeat_ref (T := "list") (U := "int") (by decide) ⟨_, ho, rfl⟩ (fun s' => typeIs_int s' k t) noFill_list_mul F.fills_int_mul F.slot_int_rmul repeat_list F.slot_int_index.lookup
    (call_meets F.slot_int_rmul (typeIs_int s k t) F.entry_int_rmul (F.args_int_rmul_2 _ _) (rmul_lst k t l its.toArray n dd sl)
      ⟨ho, rfl, ⟨_, ho, rfl⟩, call_meets F.slot_list_mul ⟨_, ho, rfl⟩ F.entry_list_mul (F.args_list_mul_2 _ _) (lst_times l its.toArray n dd sl k t b0 b1 (by rw [List.size_toArray, hle]; exact bz)) ⟨ho, ?_⟩⟩)
  have e9 : ∀ m : Nat, List.foldl (fun u v => u ++ v) #[] (List.replicate m its.toArray) = (List.replicate m its).flatten.toArray := fun m => by
    have := fold_reps its m []
    rw [List.nil_append] at this
    exact this
  have e8 : List.foldl (fun u v => u ++ v) #[] (List.replicate (if its.toArray.isEmpty = true then 0 else k.toNat) its.toArray) = (List.replicate k.toNat its).flatten.toArray := by
    rw [e9]
    cases its with
    | nil => simp
    | cons a r' => rw [if_neg (by simp)]
  rw [e8]
  exact ⟨.ref _, _, I.lnew (t' := s.toks) (vals_reps r k.toNat) (by rw [reps_len, sizeLine_eq]; omega), rfl, q _ I.fresh⟩
/-! ### x in t -/
def rInT (K : PySem.W.Frag) (neg : Bool) : R2 := fun x y H Q => ∃ d ds, Dp K H x d ∧ Dp K H y (.tuple ds) ∧ SeqAt.shaped d = true ∧ SeqAt.shaped (.tuple ds) = true ∧ Q (.bl (if neg then !ds.any fun z => PyData.eqv z d else ds.any fun z => PyData.eqv z d)) H
theorem op_inT (hu : X.A.units + 65 < cLine) : OpR X (compareOp .In) (rInT X.K false) := by
  intro pins s σ H x y v u Q I rx ry h
  obtain ⟨d, ds, hd, he, sd, se, q⟩ := h
  obtain ⟨as, r1⟩ := Dp.reads I d x v hd rx
  obtain ⟨bs, r2⟩ := Dp.reads I (.tuple ds) y u he ry
  exact SeqAt.in_tuple_reads r2 r1 (SeqAt.canLay_of_shaped se) (SeqAt.canLay_of_shaped sd) (room_in_shaped sd hu) ⟨.bl _, H, I, rfl, q⟩
theorem op_ninT (hu : X.A.units + 65 < cLine) : OpR X (compareOp .NotIn) (rInT X.K true) := by
  intro pins s σ H x y v u Q I rx ry h
  obtain ⟨d, ds, hd, he, sd, se, q⟩ := h
  obtain ⟨as, r1⟩ := Dp.reads I d x v hd rx
  obtain ⟨bs, r2⟩ := Dp.reads I (.tuple ds) y u he ry
  exact SeqAt.notIn_tuple_reads r2 r1 (SeqAt.canLay_of_shaped se) (SeqAt.canLay_of_shaped sd) (room_in_shaped sd hu) ⟨.bl _, H, I, rfl, q⟩
/-! ### lists of unlike lengths -/
def rLnD (K : PySem.W.Frag) (neg : Bool) : R2 := fun x y H Q => ∃ a b xs ys, x = .ref a ∧ y = .ref b ∧ SqL K H a xs ∧ SqL K H b ys ∧ xs.length ≠ ys.length ∧ Q (.bl neg) H
theorem op_eqLn (hu : X.A.units < cLine) : OpR X (compareOp .Eq) (rLnD X.K false) := by
  intro pins s σ H x y v u Q I rx ry h
  obtain ⟨a, b, xs, ys, rfl, rfl, h1, h2, hl, q⟩ := h
  cases rx
  cases ry
  obtain ⟨its, r1, p1, _⟩ := I.list h1
  obtain ⟨jts, r2, p2, _⟩ := I.list h2
  have l1 := r1.length
  have l2 := r2.length
  exact SeqAt.eq_list_lengthsAt p1.isList p2.isList (by rw [bne_iff_ne, List.size_toArray, List.size_toArray]; omega) hu ⟨.bl false, H, I, rfl, q⟩
theorem op_neLn (hu : X.A.units < cLine) : OpR X (compareOp .NotEq) (rLnD X.K true) := by
  intro pins s σ H x y v u Q I rx ry h
  obtain ⟨a, b, xs, ys, rfl, rfl, h1, h2, hl, q⟩ := h
  cases rx
  cases ry
  obtain ⟨its, r1, p1, _⟩ := I.list h1
  obtain ⟨jts, r2, p2, _⟩ := I.list h2
  have l1 := r1.length
  have l2 := r2.length
  exact SeqAt.RcNeAt.lists_lengths p1.isList p2.isList (by rw [bne_iff_ne, List.size_toArray, List.size_toArray]; omega) hu _ _ _ _ ⟨.bl true, H, I, rfl, q⟩
/-! ### dicts as operands -/
def rInK (neg : Bool) : R2 := fun x y H Q => ∃ a o, y = .ref a ∧ DGet H a x o ∧ Q (.bl (if neg then !o.isSome else o.isSome)) H
theorem op_inK (hu : X.A.units + 65 < cLine) : OpR X (compareOp .In) (rInK false) := by
  intro pins s σ H x y v u Q I rx ry h
  obtain ⟨a, o, rfl, g, q⟩ := h
  cases ry
  exact d_in (by omega) I g rx fun s2 I2 => ⟨.bl o.isSome, H, I2, rfl, q⟩
theorem op_ninK (hu : X.A.units + 65 < cLine) : OpR X (compareOp .NotIn) (rInK true) := by
  intro pins s σ H x y v u Q I rx ry h
  obtain ⟨a, o, rfl, g, q⟩ := h
  cases ry
  exact d_notIn (by omega) I g rx fun s2 I2 => ⟨.bl (!o.isSome), H, I2, rfl, q⟩
def rIxK : R2 := fun x y H Q => ∃ a v, x = .ref a ∧ DGet H a y (some v) ∧ Q v H
theorem ix_key (hu : X.A.units + 65 < cLine) : IxR X rIxK := by
  intro value slice pins s σ H x y v u Q I rx ry h hs
  obtain ⟨a, z, rfl, g, q⟩ := h
  cases rx
  have hT := dict_typeIs I g
  have body : wpAny (model X.prog X.w) X.A (getItem (.ref a) u) (EP X pins σ Q) X.xe s := d_getItem (by omega) I g ry fun w' s2 I2 r2 => ⟨z, H, I2, r2, q⟩
  unfold subscriptTail
  refine wpAny_bind ?_
  rw [getitemInPython_of_ne hT.not_modules]
  refine wpAny_bind (wpAny_specialOf hT PySem.F.slot_dict_getitem.lookup ?_)
  have last : wpAny (model X.prog X.w) X.A (subscripted slice false (.ref a) u) (fun r s3 => wpAny (model X.prog X.w) X.A (letTemporaryGo value (.ref a) r >>= fun _ => pure r) (EP X pins σ Q) X.xe s3) X.xe s := by
    rw [hs]
    exact wpAny_operating (wpAny_mono body (fun r s3 h3 => wpAny_bind (wpAny_letTemporaryGo (wpAny_pure h3))) fun _ _ e => e)
  first
    | exact wpAny_pure (wpAny_bind last)
    | exact wpAny_bind (wpAny_pure (wpAny_bind last))
    | exact wpAny_bind last
def rSetK : V → V → V → Hp → (Hp → Prop) → Prop := fun o i v H Q => ∃ a H', o = .ref a ∧ DPut H a i v H' ∧ Q H'
theorem set_key (hu : X.A.units + 65 < cLine) : PSet X rSetK := by
  intro pins s σ H o i v ov iv u Q I ro ri rv h
  obtain ⟨a, H', rfl, g, q⟩ := h
  cases ro
  exact d_setItem (by omega) I g ri rv fun s2 I2 => ⟨H', I2, q⟩
/-! ### list(text); d.get -/
theorem cr_listS (hc : X.calm = true) : CallR X (.type "list") (fun xs H Q => ∃ z : Str, xs = [.str z] ∧ z.length ≤ sizeLine ∧ ∀ l, H l = none → Q (.ref l) (upd H l (.lst (z.cps.toList.map fun c => .str ⟨#[c]⟩)))) := by
  intro pins s σ H xs us Q I r h
  obtain ⟨z, rfl, hz, q⟩ := h
  cases r with
  | cons r0 rr =>
    cases rr
    obtain ⟨t, rfl⟩ := r0
    refine PySem.call_list_str (I.ok.hd hc) z t (fun h' tk acc c keep at_ items => ?_) hz
    have rel : ∀ (ys : List Nat) (us : List Value), us.length = ys.length → (∀ (i : Nat) (c : Nat), ys[i]? = some c → ∃ u, us[i]? = some (.str ⟨#[c]⟩ u)) → Vals (ys.map fun c => V.str ⟨#[c]⟩) us := by
      intro ys
      induction ys with
      | nil =>
        intro us hl _
        rw [List.length_nil, List.length_eq_zero_iff] at hl
        subst hl
        exact .nil
      | cons y ys ih =>
        intro us hl hg
        cases us with
        | nil => cases hl
        | cons v us =>
          obtain ⟨u, hu⟩ := hg 0 y rfl
          simp at hu
          refine .cons ⟨u, hu⟩ (ih us (by simpa using hl) fun i c hi => ?_)
          obtain ⟨u2, hu2⟩ := hg (i + 1) c (by simpa using hi)
          exact ⟨u2, by simpa using hu2⟩
    have hv : Vals (z.cps.toList.map fun c => V.str ⟨#[c]⟩) acc.toList := by
      refine rel _ _ (by simp [items.1]) fun i c hi => ?_
      have lt := (List.getElem?_eq_some_iff.mp hi).1
      have lt2 : i < acc.size := by rw [items.1]; simpa using lt
      obtain ⟨c2, u, h1, h2⟩ := items.2 i acc[i] (by simp [lt2])
      rw [← Array.getElem?_toList, hi] at h1
      cases h1
      exact ⟨u, by rw [Array.getElem?_toList, ← h2]; simp [lt2]⟩
    have new : ObjOk X.prog X.w (upd H s.heap.objs.size (.lst (z.cps.toList.map fun c => V.str ⟨#[c]⟩))) h' s.heap.objs.size (.lst (z.cps.toList.map fun c => V.str ⟨#[c]⟩)) :=
      ⟨by rw [List.length_map]; simpa [Str.length] using hz, acc.toList, c, hv, by simpa using at_⟩
    exact ⟨.ref s.heap.objs.size, _, I.laid (t' := tk) (o := .lst (z.cps.toList.map fun c => V.str ⟨#[c]⟩)) keep (Nat.le_refl _) new, rfl, q _ (I.hok.fresh (Nat.le_refl _))⟩
def rGetD : V → List V → Hp → VK → Prop := fun x xs H Q => ∃ a y o, x = .ref a ∧ DGet H a y o ∧ ((xs = [y] ∧ Q (o.getD .non) H) ∨ ∃ z, xs = [y, z] ∧ Q (o.getD z) H)
theorem mt_getD (hu : X.A.units + 65 < cLine) : MtR X "dict.get" rGetD := by
  intro pins s σ H x xs v us Q I rx rxs h
  obtain ⟨a, y, o, rfl, g, h⟩ := h
  cases rx
  rcases h with ⟨rfl, q⟩ | ⟨z, rfl, q⟩
  · cases rxs with
    | cons r1 rr =>
      cases rr
      exact d_get1 (by omega) I g r1 fun w' s3 I3 rw' => ⟨_, H, I3, rw', q⟩
  · cases rxs with
    | cons r1 rr =>
      cases rr with
      | cons r2 rr =>
        cases rr
        exact d_get2 (by omega) I g r1 r2 fun w' s3 I3 rw' => ⟨_, H, I3, rw', q⟩
/-! ### x[::-1] of a list -/
theorem pe_revL {e : Expr} {te : TE} {p2 p3 p4 pos : Pos} {j : Nat} (he : PE X e te) (hp : PE X (.UnaryOp .USub (.Constant (.int 1) j p3) p4) (tC (.int (-1)))) :
    PE X (.Subscript e (.Slice none none (some (.UnaryOp .USub (.Constant (.int 1) j p3) p4)) p2) pos) (fun σ H Q => te σ H fun x H1 => ∃ a xs, x = .ref a ∧ SqL X.K H1 a xs ∧ ∀ p, H1 p = none → Q (.ref p) (upd H1 p (.lst xs.reverse))) := by
  refine ⟨fun pins s σ H Q I h => ?_⟩
  refine Subscript_ (thn (he.run pins s σ H _ I h) fun v s1 ⟨x, H1, I1, r1, q1⟩ => ?_)
  refine wpAny_Slice ?_
  rw [evalPart_none]
  refine wpAny_pure ?_
  refine wpAny_pure ?_
  show wpAny (model X.prog X.w) X.A (eval (.UnaryOp .USub (.Constant (.int 1) j p3) p4) X.env) _ _ _
  refine thn (hp.run pins s1 σ H1 (fun y H' => y = .int (-1) ∧ H' = H1) I1 ⟨rfl, rfl⟩) fun vs s2 ⟨y, H2, I2, ry, ey, eH⟩ => ?_
  subst ey eH
  obtain ⟨t, rfl⟩ := ry
  obtain ⟨a, xs, rfl, hx, q⟩ := q1
  cases r1
  have I4 : Inv X pins σ H2 { s2 with heap := s2.heap.push { cls := .type "slice", data := .fields #[.none, .none, .int (-1) t] } } := I2.kept (t' := s2.toks) fun b ob q => Heap.get?_push_of_some _ q
  obtain ⟨its, r, ht, hz⟩ := I4.list hx
  have hlen := r.length
  show wpAny (model X.prog X.w) X.A (subscriptTail e (.Slice none none (some (.UnaryOp .USub (.Constant (.int 1) j p3) p4)) p2) (.ref a) (.ref s2.heap.objs.size)) (EP X pins σ Q) X.xe { s2 with heap := s2.heap.push { cls := .type "slice", data := .fields #[.none, .none, .int (-1) t] } }
  refine tail_any ht.isList.typeIs slot_list_getitem.lookup ?_ (by with_unfolding_all rfl)
  refine wpAny_getItem_list_slice ht.isList (Heap.IsSliceOf.new ..) .none .none (.int _ _) (by decide) ?_ (by rw [List.size_toArray] <;> omega)
  rw [W.krv_pick]
  refine ⟨.ref (s2.heap.push { cls := .type "slice", data := .fields #[.none, .none, .int (-1) t] }).objs.size, _, I4.laid (t' := s2.toks) (o := .lst xs.reverse) (fun b ob q => Heap.get?_push_of_some _ q) (Nat.le_refl _) ?_, rfl, q _ (I4.hok.fresh (Nat.le_refl _))⟩
  refine ⟨by rw [List.length_reverse]; exact hz, its.reverse, 0, r.reverse, ?_⟩
  have := Heap.get?_push_size (s2.heap.push { cls := .type "slice", data := .fields #[.none, .none, .int (-1) t] }) (o := { cls := .type "list", data := .seq its.reverse.toArray 0 }) rfl
  exact this
end
/-! ### l.count(x) -/
section
variable {X : Cx}
def rCountD (K : PySem.W.Frag) : V → List V → Hp → VK → Prop := fun x xs H Q => ∃ (a : Addr) (y : V) (d : PyData) (ds : List PyData), x = V.ref a ∧ xs = [y] ∧ Dp K H (V.ref a) (.list ds) ∧ Dp K H y d ∧
  SeqAt.shaped (.list ds) = true ∧ SeqAt.shaped d = true ∧ Q (.int (ds.countP fun z => PyData.eqv z d)) H
theorem mt_countD (hu : X.A.units + 65 < cLine) : MtR X "list.count" (rCountD X.K) := by
  intro pins s σ H x xs v us Q I rx rxs h
  obtain ⟨a, y, d, ds, rfl, rfl, hl, hy, sl, sd, q⟩ := h
  cases rx
  cases rxs with
  | cons ry rt =>
    rename_i uy ut
    cases rt
    obtain ⟨bs, r1⟩ := Dp.reads I d y uy hy ry
    have hxs : PyData.canLayAll0 ds = true := SeqAt.canLay_of_shaped sl
    have hroom : X.A.units + 1 + min (PyData.depthAll ds) d.depth < cLine := room_in_shaped sd hu
    cases hl with
    | lst hs ha =>
      obtain ⟨its, rv, ⟨⟨cls, dd, data, sls⟩, n, ho, hc, hdn, hdt⟩, hlen⟩ := I.list hs
      simp only at hc hdt
      subst hc hdt
      obtain ⟨as, h4⟩ := Dp.readsAll I ds _ its ha rv
      have hmap : its.map (SeqAt.readOf s.heap) = ds := SeqAt.readsAll_map ds its as hxs h4
      have e : (its.toArray.toList.countP fun u => PyData.eqv (SeqAt.readOf s.heap u) d) = ds.countP fun z => PyData.eqv z d := by
        rw [show its.toArray.toList = its from rfl, ← hmap, List.countP_map]
        rfl
      refine call_meets PySem.F.slot_list_count ⟨_, ho, rfl⟩ PySem.F.entry_list_count (PySem.F.args_list_count_2 _ _)
        (SeqAt.list_countAt a its.toArray n dd sls uy (fun u => PyData.eqv (SeqAt.readOf s.heap u) d)) ⟨ho, SeqAt.items_eqAt (vs := its.toArray) (show ReadsAll s.heap its.toArray.toList ds as from h4) r1 hxs (SeqAt.canLay_of_shaped sd) hroom, ?_⟩
      rw [e]
      exact ⟨.int _, H, I.tok _, ⟨_, rfl⟩, q⟩
end
end Q
/-! QM (read between QR and Q1): instances are made, methods are called, whatever class the thing is of. -/
namespace Q
open PySem PySem.Spec PyProof.Rows L2
section
variable {X : Cx} {CX : CXT} {k : Nat} {f C : Addr} {fd : FuncData} {ps : List Str} {sp : Sp} {E : L2.St → XK} {x m : Str} {p pos apos : Pos} {e o : Expr} {es : List Expr} {ta : TE} {t : TA}
theorem PE.or {e : Expr} {t1 t2 : TE} (h1 : PE X e t1) (h2 : PE X e t2) : PE X e (fun σ H Q => t1 σ H Q ∨ t2 σ H Q) := ⟨fun pins s σ H Q I h => h.elim (h1.run pins s σ H Q I) (h2.run pins s σ H Q I)⟩
/-- C(..): a new instance and its dict, then __init__ -/
def tMakeS (C : Addr) (sp : Sp) (E : L2.St → XK) (t : TA) : TE := fun σ H Q => t σ H fun vs H1 => ∀ x dx, H1 x = none → H1 dx = none → dx ≠ x →
  sp (.ref x :: vs) (upd (upd H1 dx (.own x)) x (.ins C dx [])) (fun v H2 => v = .non ∧ Q (.ref x) H2) (E σ)
theorem run_makeS {pins : List (Addr × Obj)} {σ : L2.St} {H : Hp} {s : Shared} {Q : VK} {us ds : List Value} {vs dvs : List V} (M : Mk X.K C f) (F : FnOk X.prog X.w X.K X.mg X.base CX k f fd ps sp) (hr : Room (k + 1) X.A) (hb : Binds X.K fd ps ds) (hd : Vals dvs ds)
    (hx : PassesAt CX X σ (E σ)) (I : Inv X pins σ H s) (r : Vals vs us)
    (h : ∀ x dx, H x = none → H dx = none → dx ≠ x → sp (.ref x :: (vs ++ dvs)) (upd (upd H dx (.own x)) x (.ins C dx [])) (fun v H2 => v = .non ∧ Q (.ref x) H2) (E σ)) :
    wpAny (model X.prog X.w) X.A (call (.ref C) us) (EP X pins σ Q) X.xe s := by
  have hq := h (s.heap.objs.size + 1) s.heap.objs.size (I.hok.fresh (Nat.le_succ _)) (I.hok.fresh (Nat.le_refl _)) (Nat.ne_of_lt (Nat.lt_succ_self _))
  have I2 := Inv.made (C := C) I
  have r2 : Vals (V.ref (s.heap.objs.size + 1) :: (vs ++ dvs)) (Value.ref (s.heap.objs.size + 1) :: (us ++ ds)) := .cons rfl (r.append hd)
  have hl : (Value.ref (s.heap.objs.size + 1) :: us ++ ds).length = ps.length := by
    have e := r2.length
    rw [F.len _ _ _ _ hq] at e
    exact e.symm
  refine wpAny_call (make_map (f := f) I.kIn M.makes M.init (beq_iff_eq.mp M.fn) (codeAny_mono (F.run _ X.stack _ _ ⟨Value.ref (s.heap.objs.size + 1) :: us, []⟩ (Value.ref (s.heap.objs.size + 1) :: (us ++ ds)) _ _ (E σ) (hr.make C us [])
    (I2.env0.make C us []) (hb _ (Value.ref (s.heap.objs.size + 1) :: us) I2.kIn hl) r2 hq) fun r s' hq' => ?_))
  cases r with
  | error e => exact hx pins _ _ e s' I2 hq'
  | ok fl =>
    cases fl with
    | ret u =>
      obtain ⟨v, H', I3, rv, ev, q3⟩ := I2.after hq'
      subst ev
      exact ⟨rv, ⟨V.ref (s.heap.objs.size + 1), H', I3, rfl, q3⟩⟩
    | next => exact False.elim hq'
    | brk => exact False.elim hq'
    | cont => exact False.elim hq'
theorem pe_makeS (M : Mk X.K C f) (F : FnOk X.prog X.w X.K X.mg X.base CX k f fd ps sp) (hr : Room (k + 1) X.A) (hg : Gl X x) (hm : X.mg x = some (.ref C)) (hb : Binds X.K fd ps []) (hx : ∀ σ, PassesAt CX X σ (E σ))
    (ha : PA X (e :: es) t) (hdb : (x == ("__debug__" : Str)) = false := by decide) (he : starEach (e :: es) X.env = (false, eval e X.env) :: starEach es X.env := by rfl) (hpl : (backTo pos (starEach es X.env)).any (·.1) = false := by rfl) :
    PE X (.Call (.Name x p) (e :: es) [] pos) (tMakeS C sp E t) := by
  refine ⟨fun pins s σ H Q I h => ?_⟩
  refine wpAny_Call_Name_kw (ld_glob I hg hm ?_ hdb)
  refine PySem.W.callWith_K (h₀ := X.base) I.ok.mod.kin M.kp (thn (ha.run pos pins s σ H _ I h) fun us s1 ⟨vs, H1, I1, r, q⟩ => ⟨I1.kIn, ?_⟩) he hpl
  exact run_makeS (dvs := []) M F hr hb .nil (hx σ) I1 r (fun x dx a b c => by rw [List.append_nil]; exact q x dx a b c)
theorem pe_makeS0 (M : Mk X.K C f) (F : FnOk X.prog X.w X.K X.mg X.base CX k f fd ps sp) (hr : Room (k + 1) X.A) (hg : Gl X x) (hm : X.mg x = some (.ref C)) (hb : Binds X.K fd ps []) (hx : ∀ σ, PassesAt CX X σ (E σ))
    (hdb : (x == ("__debug__" : Str)) = false := by decide) : PE X (.Call (.Name x p) [] [] pos) (tMakeS C sp E tNil) := by
  refine ⟨fun pins s σ H Q I h => ?_⟩
  refine wpAny_Call_Name_kw (ld_glob I hg hm ?_ hdb)
  exact PySem.W.callWith_K0 I.kIn M.kp (run_makeS (us := []) (vs := []) (dvs := []) M F hr hb .nil (hx σ) I .nil h)
/-- a method as it may be called here -/
def MethOk (X : Cx) (CX : CXT) (C : Addr) (m : Str) (sp : Sp) : Prop := ∃ f fd ps k, Cls X.K C ∧ Meth X.K C m f ∧ FnOk X.prog X.w X.K X.mg X.base CX k f fd ps sp ∧ Room k X.A ∧ Binds X.K fd ps []
/-- o.m(..), o of any class whose method is known -/
def tMethA (X : Cx) (CX : CXT) (m : Str) (E : L2.St → XK) (ta : TE) (t : TA) : TE := fun σ H Q => ta σ H fun x H1 => ∃ a C dx fs sp, x = .ref a ∧ H1 a = some (.ins C dx fs) ∧ fs.lookup m = none ∧ MethOk X CX C m sp ∧
  t σ H1 fun vs H2 => sp (x :: vs) H2 Q (E σ)
theorem pe_methG {args : List Expr} (he : PE X o ta) (hbase : attributeBase o m X.env (eval o X.env) = eval o X.env)
    (hfew : ((backTo pos (starEach args X.env)).all (fun x => !x.1) && (backToKw pos (keywordEach [] X.env)).all (fun x => x.1.isSome)
      && decide (args.length + ([] : List Keyword).length + (if ([] : List Keyword).isEmpty then 0 else 1) < 30)) = true)
    (hline : (apos.endLine == pos.line) = true)
    (hc : ∀ (pins : List (Addr × Obj)) (s : Shared) (σ : L2.St) (H : Hp) (a f : Addr) (fd : FuncData) (ps : List Str) (k : Nat) (sp : Sp) (Q : VK), Inv X pins σ H s → PySem.W.keepIn X.K (.ref f) = true → FnOk X.prog X.w X.K X.mg X.base CX k f fd ps sp → Room k X.A → Binds X.K fd ps [] → (t σ H fun vs H2 => sp (.ref a :: vs) H2 Q (E σ)) →
      wpAny (model X.prog X.w) X.A (callWith pos (.ref f) [.ref a] (backTo pos (starEach args X.env)) (backToKw pos (keywordEach [] X.env))) (EP X pins σ Q) X.xe s) :
    PE X (.Call (.Attribute o m apos) args [] pos) (tMethA X CX m E ta t) := by
  refine ⟨fun pins s σ H Q I h => ?_⟩
  rw [arm_eval_Call, hbase]
  refine wpAny_bind (thn (he.run pins s σ H _ I h) fun u s1 ⟨x, H1, I1, rx, a, C, dx, fs, sp, ex, ea, l, ⟨f, fd, ps, k, c, hm, F, hr, hb⟩, q⟩ => ?_)
  subst ex
  obtain rfl : u = Value.ref a := rx
  refine wpAny_bind (wpAny_standAt ?_)
  have hform : methodCallForm (args.length + ([] : List Keyword).length) (backTo pos (starEach args X.env)) (backToKw pos (keywordEach [] X.env)) = true := hfew
  have hpos : methodCallPos true o X.env apos pos = pure pos := by unfold methodCallPos; simp [hline]
  unfold methodCall
  rw [hform]
  refine wpAny_bind (wpAny_holding (getmeth_ok I1 ea c hm l ?_))
  exact wpAny_bind (wpAny_of_eq hpos (hc pins s1 σ H1 a f fd ps k sp Q I1 hm.kp F hr hb q))
theorem pe_methA (he : PE X o ta) (hbase : attributeBase o m X.env (eval o X.env) = eval o X.env) (hfew : ((backTo pos (starEach (e :: es) X.env)).all (fun x => !x.1) && (backToKw pos (keywordEach [] X.env)).all (fun x => x.1.isSome)
      && decide ((e :: es).length + ([] : List Keyword).length + (if ([] : List Keyword).isEmpty then 0 else 1) < 30)) = true) (hline : (apos.endLine == pos.line) = true) (hx : ∀ σ, PassesAt CX X σ (E σ)) (ha : PA X (e :: es) t)
    (hst : starEach (e :: es) X.env = (false, eval e X.env) :: starEach es X.env) (hpl : (backTo pos (starEach es X.env)).any (·.1) = false) :
    PE X (.Call (.Attribute o m apos) (e :: es) [] pos) (tMethA X CX m E ta t) :=
  pe_methG he hbase hfew hline fun pins s σ H a f fd ps k sp Q I hk F hr hb q =>
    PySem.W.callWith_K (first := [.ref a]) (h₀ := X.base) I.ok.mod.kin hk (thn (ha.run pos pins s σ H _ I q) fun us s2 ⟨vs, H2, I2, r, q2⟩ => ⟨I2.kIn,
      run_fnSD (us := .ref a :: us) (vs := .ref a :: vs) (dvs := []) F hr hb .nil (hx σ) I2 (.cons rfl r) (by rw [List.append_nil]; exact q2)⟩) hst hpl
theorem pe_methA0 (he : PE X o ta) (hbase : attributeBase o m X.env (eval o X.env) = eval o X.env) (hline : (apos.endLine == pos.line) = true) (hx : ∀ σ, PassesAt CX X σ (E σ)) :
    PE X (.Call (.Attribute o m apos) [] [] pos) (tMethA X CX m E ta tNil) :=
  pe_methG he hbase rfl hline fun pins s σ H a f fd ps k sp Q I hk F hr hb q =>
    PySem.W.callWith_K0 (first := [.ref a]) I.kIn hk (run_fnSD (us := [.ref a]) (vs := [.ref a]) (dvs := []) F hr hb .nil (hx σ) I (.cons rfl .nil) q)
end
end Q
/-! QX: errors that leave a comprehension. -/
namespace Q
open PySem PySem.Spec PyProof.Rows L2
section ground
variable {h h' B B' : Heap} {l : List PySem.Env} {a C : Addr} {Z : Obj → Prop} {L : Addr}
theorem funs_less (k : ∀ b, B.get? b = none → B'.get? b = none) : ∀ {l : List PySem.Env}, h.FunFrames B l → h.FunFrames B' l
  | [], _ => trivial
  | _ :: _, ⟨q, ⟨L, o, e1, e2, e3⟩, r⟩ => ⟨q, ⟨L, o, e1, k L e2, e3⟩, funs_less k r⟩
theorem stays_less (k : ∀ b o, B'.get? b = some o → B.get? b = some o) (st : B.StaysIn h) : B'.StaysIn h := fun b o e => st b o (k b o e)
/-- flown in, or noted at L -/
def AirZ (B : Heap) (l : List PySem.Env) (a : Addr) (Z : Obj → Prop) (L : Addr) (h : Heap) : Prop := HandSPX.FlyingZ B l a Z h ∨ HandSPX.HeldZ B l a Z L h
theorem less_none (k : ∀ b o, B'.get? b = some o → B.get? b = some o) {b : Addr} (e : B.get? b = none) : B'.get? b = none := by
  cases q : B'.get? b with
  | none => rfl
  | some o => rw [k b o q] at e; cases e
theorem traced_less {fl : Value} (k : ∀ b o, B'.get? b = some o → B.get? b = some o) (t : HandSPX.TracedZ h B a Z fl) : HandSPX.TracedZ h B' a Z fl := by
  obtain ⟨oe, vs, T, oT, ts, q1, q2, q3, q4, q5, q6⟩ := t
  exact ⟨oe, vs, T, oT, ts, q1, q2, q3, q4, less_none k q5, q6⟩
theorem AirZ.less (k : ∀ b o, B'.get? b = some o → B.get? b = some o) (x : AirZ B l a Z L h) : AirZ B' l a Z L h := by
  rcases x with ⟨q1, q2, q3, q4⟩ | ⟨q1, q2, q3, q4⟩
  · exact .inl ⟨stays_less k q1, less_none k q2, funs_less (fun _ e => less_none k e) q3, traced_less k q4⟩
  · exact .inr ⟨stays_less k q1, less_none k q2, funs_less (fun _ e => less_none k e) q3, traced_less k q4⟩
/-- a change at C, which is no record and not of the ground -/
theorem held_but {m : Str → Option Value} (x : HandSPX.HeldZ B l a Z L h) (hC : B.get? C = none) (hn : h.Ns C m) (hl : ∀ b ∈ frs l, b ≠ C) (sb : Heap.SameBut C h h') : HandSPX.HeldZ B l a Z L h' := by
  obtain ⟨oC, es, ep, g1, g2, -⟩ := hn
  obtain ⟨q1, q2, q3, oe, vs, T, oT, ts, he, hz, hd, h1, hnT, hTe, hT, hdT, h3⟩ := x
  have na : a ≠ C := fun z => by
    rw [z, g1] at he; cases he
    rw [g2] at hd; cases hd
  have nT : T ≠ C := fun z => by
    rw [z, g1] at hT; cases hT
    rw [g2] at hdT; cases hdT
  refine ⟨fun b o e => ?_, q2, ?_, oe, vs, T, oT, ts, (sb.2 a na).trans he, hz, hd, h1, hnT, hTe, (sb.2 T nT).trans hT, hdT, h3⟩
  · have nb : b ≠ C := fun z => by rw [z, hC] at e; cases e
    exact (sb.2 b nb).trans (q1 b o e)
  · clear he hT
    induction l with
    | nil => trivial
    | cons e r ih =>
      obtain ⟨k, ⟨F, o, f1, f2, f3, f4⟩, rr⟩ := q3
      have mF : F ∈ frs (e :: r) := by
        show F ∈ (e :: r).filterMap (·.frame)
        rw [List.filterMap_cons, f1]
        exact List.mem_cons_self ..
      refine ⟨k, ⟨F, o, f1, f2, (sb.2 F (hl F mF)).trans f3, f4⟩, ih (fun b hb => hl b ?_) rr⟩
      show b ∈ (e :: r).filterMap (·.frame)
      rw [List.filterMap_cons, f1]
      exact List.mem_cons_of_mem _ hb
end ground
/-- an error over X, the slots at σ -/
def Air (X : Cx) (L : Addr) (pins : List (Addr × Obj)) (σ : L2.St) (w : XK) (u : Value) (s' : Shared) : Prop :=
  ∃ (a : Addr) (B : Heap) (sI : Shared) (H : Hp) (cls : Value) (d : Option Addr), u = .ref a ∧ Inv X pins σ H sI ∧ (∀ b o, sI.heap.get? b = some o → b ∉ frs X.stack → B.get? b = some o) ∧ sI.heap.UpToSlots s'.heap ∧
    AirZ B X.stack a (Zc cls d) L s'.heap ∧ H a = none ∧ s'.os = sI.os ∧ AllBare s'.gens ∧ w cls d H
/-- what a context takes of errors, in a def's body or in a block of it -/
structure TakesA (X : Cx) (W : WX) : Prop where
  out : ∃ (e0 : PySem.Env) (outer : List PySem.Env) (L : Addr), X.stack = e0 :: outer ∧ X.env.frame = some L ∧ e0.frame = some L ∧ ∀ pins σ u s', Air X L pins σ (fun cls d H => W cls d σ H) u s' → X.xe u s'
theorem takesA_of {X : Cx} {W : WX} (tk : Takes X W) (hs : X.stack = X.env :: X.outer) (hf : X.env.frame = some X.env.locals) : TakesA X W := by
  refine ⟨⟨X.env, X.outer, X.env.locals, hs, hf, hf, ?_⟩⟩
  rintro pins σ u s' ⟨a, B, sI, H, cls, d, e, I, nb, up, sky, na, os, ag, w⟩
  exact tk u s' ⟨a, B, sI, pins, σ, H, cls, d, e, I, nb, up, sky.elim (fun z => .inr (.inl z)) (fun z => .inr (.inr z)), na, os, ag, w⟩
theorem air_call {X : Cx} {pins : List (Addr × Obj)} {σ : L2.St} {H : Hp} {s s' : Shared} {E : XK} {u : Value} (L : Addr) (I : Inv X pins σ H s) (c : L2.CX X.prog X.w X.stack H s E u s') : ∃ pins', Air X L pins' σ E u s' := by
  have x := XE.of_call (W := fun cls d σ1 H1 => σ1 = σ ∧ E cls d H1) I (fun _ _ _ h => ⟨rfl, h⟩) c
  obtain ⟨a0, B0, H0, cls0, d0, rfl, ⟨-, -, -, oe, vs, T, oT, ts, he, -, hd, h1, -, -, hT, hdT, h3⟩, -⟩ := c
  obtain ⟨a, B, sI, pins', σ', H', cls, d, e, I', nb, up, sky, na, os, ag, rfl, w⟩ := x
  cases e
  refine ⟨pins', a0, B, sI, H', cls, d, rfl, I', nb, up, .inl ?_, na, os, ag, w⟩
  rcases sky with ⟨-, -, -, oe', vs', he', -, hd', h1'⟩ | fl | ⟨-, -, -, oe', vs', T', oT', ts', he', -, hd', h1', -, -, hT', hdT', h3'⟩
  · rw [he] at he'; cases he'
    rw [hd] at hd'; cases hd'
    rw [h1] at h1'; cases h1'
  · exact fl
  · rw [he] at he'; cases he'
    rw [hd] at hd'; cases hd'
    rw [h1] at h1'; cases h1'
    rw [hT] at hT'; cases hT'
    rw [hdT] at hdT'; cases hdT'
    rw [h3] at h3'
    cases h3'
theorem passA {X : Cx} {W : WX} (tk : TakesA X W) (σ : L2.St) : PassesAt (L2.CX X.prog X.w) X σ (WE W σ) := fun pins H s e s' I c => by
  obtain ⟨e0, outer, L, -, -, -, t⟩ := tk.out
  obtain ⟨pins', q⟩ := air_call L I c
  exact t pins' σ e s' q
/-- a comprehension's block that lets errors out -/
abbrev _root_.L2.Cx.blkA (X : Cx) (s : Shared) (H : Hp) (scope : Scope) (ce : PySem.Env) (fp : List Addr) (xb : Value → Shared → Prop) : Cx := (X.blk s H scope ce fp).tr [] xb
section block
variable {X : Cx} {pins : List (Addr × Obj)} {σ : L2.St} {H : Hp} {s : Shared} {L C : Addr} {w : XK} {u : Value}
/-- .. C, the block's own dict, not among what is kept -/
def AirC (X : Cx) (L : Addr) (pins : List (Addr × Obj)) (σ : L2.St) (C : Addr) (w : XK) (u : Value) (s' : Shared) : Prop :=
  ∃ (a : Addr) (B : Heap) (sI : Shared) (H : Hp) (cls : Value) (d : Option Addr), u = .ref a ∧ Inv X pins σ H sI ∧ (∀ b o, sI.heap.get? b = some o → b ∉ frs X.stack → B.get? b = some o) ∧ sI.heap.UpToSlots s'.heap ∧
    AirZ B X.stack a (Zc cls d) L s'.heap ∧ H a = none ∧ s'.os = sI.os ∧ AllBare s'.gens ∧ w cls d H ∧ B.get? C = none ∧ sI.heap.get? C = none ∧ (∃ m, s'.heap.Ns C m) ∧ ∀ b ∈ frs X.stack, b ≠ C
theorem air_down {scope : Scope} {ce : PySem.Env} {fp : List Addr} {xb : Value → Shared → Prop} {pins' : List (Addr × Obj)} {σ' : L2.St} {s' : Shared} (I3 : Inv X pins σ H s) (f3 : ∀ b ∈ fp, FpOk X pins H b ∧ b < s.heap.objs.size) (cL : ce.locals = s.heap.objs.size)
    (x : Air (X.blkA s H scope ce fp xb) L pins' σ' w u s') : AirC X L pins σ s.heap.objs.size w u s' := by
  obtain ⟨a, B, sI, H', cls, d, rfl, I6, nb, up, sky, na, os, ag, hw⟩ := x
  have I7 : Inv X pins σ H' sI := I3.call' (ch := fp) I6.os I6.base I6.hok I6.bare fun b hb => by
    obtain ⟨⟨-, q2, -, q4, q5, q6⟩, -⟩ := f3 b hb
    exact ⟨q4, q2, q5, q6⟩
  have nC : H' s.heap.objs.size = none := by
    have z : H' ce.locals = none := I6.free
    rw [cL] at z
    exact z
  obtain ⟨p0, p1, p2, p3, p4, p5⟩ := I3.fpOk (Nat.le_refl _) nC
  obtain ⟨G, g1, g2⟩ := restrict sI.heap fun b => decide (b ≠ s.heap.objs.size)
  obtain ⟨B', b1, b2⟩ := restrict B fun b => decide (b ≠ s.heap.objs.size)
  have gC : G.get? s.heap.objs.size = none := g2 _ (decide_eq_false (by simp))
  have gn : ∀ b o, b ≠ s.heap.objs.size → sI.heap.get? b = some o → G.get? b = some o := fun b o hb e => (g1 b (decide_eq_true hb)).trans e
  have go : ∀ b o, G.get? b = some o → b ≠ s.heap.objs.size ∧ sI.heap.get? b = some o := fun b o e => by
    have hb : b ≠ s.heap.objs.size := fun z => by rw [z, gC] at e; cases e
    exact ⟨hb, by rw [← g1 b (decide_eq_true hb)]; exact e⟩
  have I8 : Inv X pins σ H' { sI with heap := G } := I7.turned (t' := sI.toks) gn p0 p1 p3 p4 p5
  obtain ⟨m, hn, -⟩ := I6.loc
  have hn : sI.heap.Ns ce.locals m := hn
  rw [cL] at hn
  refine ⟨a, B', { sI with heap := G }, H', cls, d, rfl, I8, fun b o e hb => ?_, fun b o e hf => ?_, sky.less fun b o e => ?_, na, os, ag, hw, b2 _ (decide_eq_false (by simp)), gC, ⟨m, Heap.UpToSlots.ns up hn⟩, fun b hb z => ?_⟩
  · obtain ⟨h1, h2⟩ := go b o e
    exact (b1 b (decide_eq_true h1)).trans (nb b o h2 hb)
  · exact up b o (go b o e).2 hf
  · cases q : decide (b ≠ s.heap.objs.size) with
    | true => rw [b1 b q] at e; exact e
    | false => rw [b2 b q] at e; cases e
  · rcases List.mem_cons.mp (I3.stkSub b hb) with q | q
    · exact p1 (z.symm.trans q)
    · exact p2 (z ▸ q)
/-- what is left to be shown behind a comprehension's block -/
def postX (M : Model) (A : Around) (E : Value → Shared → Prop) (use : Option (Value → Sem Unit)) (Q : Value → Shared → Prop) (acc : Value) (C : Addr) (fr : Option Addr) (r : Result) (s' : Shared) : Prop := match r with
  | .ok f => compPost M A E use Q acc C (.ok f) s'
  | .error x => ∃ m, s'.heap.Ns C m ∧ ∀ h', Heap.SameBut C s'.heap h' → ∀ ce : PySem.Env, ce.locals = C → ce.frame = fr →
      wpAny M A (PySem.passOn "comprehension.variables-let-go" x ce : Sem Value) (fun _ _ => False) E { s' with heap := h' }
theorem air_out {e0 ce : PySem.Env} {outer : List PySem.Env} {use : Option (Value → Sem Unit)} {Qf : Value → Shared → Prop} {acc : Value} {s' : Shared} (hst : X.stack = e0 :: outer) (hfr : X.A.frames = some X.stack) (hf0 : e0.frame = some L) (hce : ce.frame = some L)
    (tA : ∀ u s', Air X L pins σ w u s' → X.xe u s') (x : AirC X L pins σ C w u s') : notedBy (model X.prog X.w) X.A ce (fun e s'' => postX (model X.prog X.w) X.A X.xe use Qf acc C (some L) (.error e) s'') u s' := by
  obtain ⟨a, B, sI, H', cls, d, rfl, I, nb, up, sky, na, os, ag, hw, bC, sC, ⟨m, hn⟩, fC⟩ := x
  rw [hst] at sky hfr
  have en : noteFrame (.ref a) ce = noteFrame (.ref a) e0 := by
    unfold noteFrame PySem.frameOf
    rw [hce, hf0]
  have fin : ∀ h1, HandSPX.HeldZ B (e0 :: outer) a (Zc cls d) L h1 → s'.heap.UpToSlots h1 → postX (model X.prog X.w) X.A X.xe use Qf acc C (some L) (.error (.ref a)) { s' with heap := h1 } := by
    intro h1 hh up1
    have hn1 : h1.Ns C m := Heap.UpToSlots.ns up1 hn
    refine ⟨m, hn1, fun h2 sb cv _ cf => ?_⟩
    have hh2 := held_but hh bC hn1 (by rw [← hst]; exact fC) sb
    obtain ⟨-, -, -, oe, vs, T, oT, ts, he, -, hd, v1, -⟩ := id hh2
    unfold PySem.passOn
    refine wpAny_bind (wpAny_field he hd v1 ?_)
    rw [if_neg (by simp)]
    rw [cf]
    refine wpAny_bind (HandSPX.setFlight_onZ hh2 fun h3 hh3 up3 => wpAny_throw (tA _ _ ⟨a, B, sI, H', cls, d, rfl, I, nb, ?_, .inr (by rw [hst]; exact hh3), na, os, ag, hw⟩))
    have u2 : sI.heap.UpToSlots h2 := fun b o e hf => by
      have nbC : b ≠ C := fun z => by rw [z, sC] at e; cases e
      obtain ⟨sl, q⟩ := (up.trans up1) b o e hf
      exact ⟨sl, (sb.2 b nbC).trans q⟩
    exact u2.trans up3
  show wpAny _ _ (noteFrame (.ref a) ce) _ _ _
  rw [en]
  rcases sky with fl | hh
  · exact HandSPX.looks_onZ Zc.steady hfr hf0 fl fin
  · exact HandSPX.againZ hf0 hh.2.2.2 (fin s'.heap hh (Heap.UpToSlots.refl _))
end block
section comp
variable {M : Model} {A : Around} {E : Value → Shared → Prop} {s : Shared} {env : PySem.Env}
theorem comp_freeX {e : Expr} {scope : Scope} {pos : Pos} {mk fst : Sem Value} {g : Comprehension} {gs : List Comprehension} {cl : List (Str × Addr)} {use : Option (Value → Sem Unit)} {Q : Value → Shared → Prop} (hcl : clausesOf e = g :: gs)
    (hs : ∀ x, foldedSetIterable g.iter env x = pure x) (hclos : closureFor scope env = pure cl) (hkind : scope.kind = .function) (hnames : ∀ y ∈ scope.names, y.2 = .local → scope.names.lookup y.1 = some .local)
    (h : wpAny M A fst (fun x z1 => wpAny M A (pyIter x) (fun it z2 => wpAny M A mk (fun acc z3 => wpAny M A (newFunctionEnv scope env.globals cl [] env.qual none .none (some env)) (fun ce z4 => ce.frame = env.frame ∧
      codeAny M A (.compStart e 0 it acc { ce with scope := relabel scope env }) (postX M A E use Q acc ce.locals env.frame) z4) E z3) E z2) E z1) E s) : wpAny M A (comprehension e scope env pos mk false fst use) Q E s := by
  unfold comprehension
  rw [hclos, hcl]
  have keep : ∀ {e : Value} {z : Shared}, E e z → E e z := fun q => q
  refine wpAny_bind (wpAny_mono h (fun x z1 q1 => ?_) fun _ _ q => q)
  refine wpAny_bind (wpAny_standAt (wpAny_bind (wpAny_of_eq (hs x) (wpAny_bind (wpAny_holding (wpAny_mono q1 (fun it z2 q2 => ?_) fun _ _ q => q))))))
  refine wpAny_standIf (wpAny_bind (wpAny_mono q2 (fun acc z3 q3 => ?_) fun _ _ q => q))
  refine wpAny_bind (wpAny_pure (wpAny_bind (wpAny_mono q3 (fun ce z4 q4 => ?_) fun _ _ q => q)))
  obtain ⟨cf, q4⟩ := q4
  dsimp only
  have loc : ∀ y ∈ (scope.names.filter fun y => (y.2 == .local || y.2 == .cell) && y.1 != (".0" : Str)).reverse, y.2 = .local → PySem.Env.kindOf { ce with scope := relabel scope env } y.1 = some .local := fun y hy hl =>
    lookup_relabel_local (hnames y (List.mem_filter.mp (List.mem_reverse.mp hy)).1 hl)
  refine wpAny_holding (wpAny_bind (wpAny_attempt (wpAny_holding (wpAny_run (codeAny_mono q4 fun r z5 hr => ?_)))))
  cases r with
  | ok f =>
    cases use with
    | none =>
      obtain ⟨m, n5, r5⟩ := hr
      refine wpAny_bind (wpAny_holding (wpAny_comp_letGo (cenv := { ce with scope := relabel scope env }) hkind _ z5 m loc n5 fun h6 m6 _ sb => ?_))
      exact wpAny_pure (r5 h6 sb)
    | some u =>
      refine wpAny_bind (wpAny_rule (wpAny_bind (wpAny_holding (wpAny_mono hr (fun _ z6 r6 => ?_) fun _ _ q => q))))
      obtain ⟨m, n6, r7⟩ := r6
      refine wpAny_bind (wpAny_comp_letGo (cenv := { ce with scope := relabel scope env }) hkind _ z6 m (fun y hy hl => ?_) n6 fun h7 m7 _ sb => wpAny_pure (r7 h7 sb))
      rcases List.mem_append.mp hy with q | q
      · exact loc y (List.mem_of_mem_drop q) hl
      · exact loc y (List.mem_of_mem_take q) hl
  | error x =>
    obtain ⟨m, n5, r5⟩ : ∃ m, z5.heap.Ns ce.locals m ∧ ∀ h', Heap.SameBut ce.locals z5.heap h' → ∀ cv : PySem.Env, cv.locals = ce.locals → cv.frame = env.frame → wpAny M A (PySem.passOn "comprehension.variables-let-go" x cv : Sem Value) (fun _ _ => False) E { z5 with heap := h' } := by
      cases use <;> exact hr
    refine wpAny_bind (wpAny_holding (wpAny_comp_letGo (cenv := { ce with scope := relabel scope env }) hkind _ z5 m loc n5 fun h6 m6 _ sb => ?_))
    exact wpAny_mono (r5 h6 sb _ rfl cf) (fun _ _ z => z.elim) fun _ _ z => z
end comp
section core
variable {X : Cx}
theorem thnM {α : Type} {t : Sem α} {P P' : α → Shared → Prop} {M : Model} {A : Around} {E : Value → Shared → Prop} {s : Shared} (h : wpAny M A t P E s) {E' : Value → Shared → Prop} (hQ : ∀ a s, P a s → P' a s) (hE : ∀ u s, E u s → E' u s) : wpAny M A t P' E' s := wpAny_mono h hQ hE
/-- what a block's parts may suppose of what it takes -/
def BlkT (X : Cx) (w : XK) (scope : Scope) (P : Cx → Prop) : Prop := ∀ (s : Shared) (H : Hp) (C : Addr) (cl : List (Str × Addr)) (fp : List Addr) (xb : Value → Shared → Prop),
  TakesA (X.blkA s H scope (compEnvC scope cl C X.env) fp xb) (fun cls d _ H => w cls d H) → P (X.blkA s H scope (compEnvC scope cl C X.env) fp xb)
theorem lcX {pins : List (Addr × Obj)} {s : Shared} {σ : L2.St} {H : Hp} {Q : VK} {elt tg iter : Expr} {ifs : List Expr} {scope : Scope} {own : List (Str × Nat)} {pos pos' : Pos} {wi : TI} {g : TG} {tt : TT} {te : TE} {use : Option (Value → Sem Unit)} {Qf : Value → Shared → Prop}
    {w : XK} {L : Addr} {e0 : PySem.Env} {outer : List PySem.Env} (hst : X.stack = e0 :: outer) (hxf : X.env.frame = some L) (hf0 : e0.frame = some L) (tA : ∀ pins u s', Air X L pins σ w u s' → X.xe u s')
    (hc : X.calm = true) (hN : X.N.Nodup) (I : Inv X pins σ H s) (hi : PI X tg iter wi) (ok : BlkOk X.N X.env.scope scope own)
    (hg : BlkT X w scope fun Y => PG Y tg g) (ht : BlkT X w scope fun Y => PTs Y ifs tt) (he : BlkT X w scope fun Y => PE Y elt te)
    (hs : ∀ x, foldedSetIterable iter X.env x = pure x) (h : tLc wi g tt te (own.map (·.2)) σ H Q)
    (hRR : ∀ D C s' m H', Inv X pins σ H' s' → Q (.ref D) H' → s'.heap.Ns C m → FpOk X pins H' C → compPost (model X.prog X.w) X.A X.xe use Qf (.ref D) C (.ok .next) s') :
    wpAny (model X.prog X.w) X.A (comprehension (.ListComp elt [⟨tg, iter, ifs, 0⟩] scope pos) scope X.env pos' (newList []) false (eval iter X.env) use) Qf X.xe s := by
  have cells : ∀ y ∈ scope.names, y.2 = .free → ∃ c, X.env.cells.lookup y.1 = some c := fun y hy e => (ok.free y hy e).elim (fun k => I.ok.has _ (.inl k)) fun k => I.ok.has _ (.inr k)
  refine comp_freeX (use := use) rfl hs (closure_ok cells) ok.kind (fun y hy e => (ok.uniq y hy).trans (congrArg some e)) (thn (hi.run pins s σ H _ I h) fun xv s1 hx => thn hx fun itv s2 h2 => ?_)
  obtain ⟨it, fp, tn, J, H2, rfl, I2, T, st2, f2, q⟩ := h2
  refine wpAny_newObj_type (newEnv_comp ⟨rfl, ?_⟩) (by show 0 ≤ sizeLine; decide)
  -- the new list at D
  have hDn : H2 s2.heap.objs.size = none := I2.hok.fresh (Nat.le_refl _)
  obtain ⟨W, ⟨m0, w0⟩, turn⟩ := q _ hDn
  obtain ⟨D, eD⟩ : ∃ D, D = s2.heap.objs.size := ⟨_, rfl⟩
  rw [← eD] at hDn w0 turn
  obtain ⟨s3, e3⟩ : ∃ s3 : Shared, s3 = { s2 with heap := s2.heap.push { cls := .type "list", data := .seq ([] : List Value).toArray } } := ⟨_, rfl⟩
  have hp3 : s3.heap = s2.heap.push { cls := .type "list", data := .seq ([] : List Value).toArray } := by rw [e3]
  have I3 : Inv X pins σ (upd H2 D (.lst [])) s3 := by
    rw [e3]
    exact I2.laid (t' := s2.toks) (fun b o e => Heap.get?_push_of_some _ e) (Nat.le_of_eq eD.symm) ⟨Nat.zero_le _, [], 0, .nil, by rw [eD]; exact Heap.get?_push_size _ rfl⟩
  have lt2 : ∀ b ∈ fp, b < s2.heap.objs.size := fun b hb => by
    obtain ⟨o, e, -⟩ := T.obj _ _ st2 b hb
    exact Heap.lt_size e
  have f3 : ∀ b ∈ fp, FpOk X pins (upd H2 D (.lst [])) b ∧ b < s3.heap.objs.size := fun b hb => by
    have l2 := lt2 b hb
    obtain ⟨z1, z2⟩ := f2 b hb
    refine ⟨⟨(upd_ne (by rw [eD]; exact Nat.ne_of_lt l2)).trans z1, z2⟩, ?_⟩
    rw [hp3, Heap.size_push]
    exact Nat.lt_succ_of_lt l2
  have st3 : tn 0 s3.heap := T.keep _ _ _ st2 fun b _ o e => by rw [hp3]; exact Heap.get?_push_of_some _ e
  have I4 := block_start I3 ok hN f3
  -- the block's own wish of errors
  obtain ⟨ce, ec⟩ : ∃ ce, ce = compEnvC scope (cellsFrom (s3.heap.objs.size + 1) scope.names (cloFrom X.env.cells scope.names [])) s3.heap.objs.size X.env := ⟨_, rfl⟩
  have cL : ce.locals = s3.heap.objs.size := by rw [ec]; rfl
  have cF : ce.frame = some L := by rw [ec]; exact hxf
  obtain ⟨xb, exb⟩ : ∃ xb, xb = AirC X L pins σ s3.heap.objs.size w := ⟨_, rfl⟩
  have tk : TakesA (X.blkA s3 (upd H2 D (.lst [])) scope ce fp xb) (fun cls d _ H => w cls d H) := ⟨⟨e0, outer, L, hst, cF, hf0, fun p' σ' u s' x => by
    show xb u s'
    rw [exb]
    exact air_down I3 f3 cL x⟩⟩
  have pg := hg s3 (upd H2 D (.lst [])) s3.heap.objs.size (cellsFrom (s3.heap.objs.size + 1) scope.names (cloFrom X.env.cells scope.names [])) fp xb (by rw [← ec]; exact tk)
  have pt := ht s3 (upd H2 D (.lst [])) s3.heap.objs.size (cellsFrom (s3.heap.objs.size + 1) scope.names (cloFrom X.env.cells scope.names [])) fp xb (by rw [← ec]; exact tk)
  have pe := he s3 (upd H2 D (.lst [])) s3.heap.objs.size (cellsFrom (s3.heap.objs.size + 1) scope.names (cloFrom X.env.cells scope.names [])) fp xb (by rw [← ec]; exact tk)
  rw [← ec] at pg pt pe I4
  show codeAny _ _ (.compStart (.ListComp elt [⟨tg, iter, ifs, 0⟩] scope pos) 0 (.ref it) (.ref s2.heap.objs.size) (compEnvC scope (cellsFrom (({ s2 with heap := s2.heap.push { cls := .type "list", data := .seq ([] : List Value).toArray } } : Shared).heap.objs.size + 1) scope.names (cloFrom X.env.cells scope.names [])) ({ s2 with heap := s2.heap.push { cls := .type "list", data := .seq ([] : List Value).toArray } } : Shared).heap.objs.size X.env)) _ _
  rw [← e3, ← ec, ← eD]
  have nfp : ∀ b ∈ fp, (upd H2 D (.lst [])) b = none := fun b hb => (f3 b hb).1.1
  obtain ⟨H3, e4⟩ : ∃ H3, H3 = upd H2 D (.lst []) := ⟨_, rfl⟩
  rw [← e4] at I3 I4 f3 nfp w0 tk pg pt pe
  obtain ⟨s4, e5⟩ : ∃ s4 : Shared, s4 = { s3 with heap := pushCells (s3.heap.push { cls := .type "dict", data := .dict #[] }) scope.names } := ⟨_, rfl⟩
  rw [← e5] at I4
  show codeAny (model X.prog X.w) X.A (.compStart (.ListComp elt [⟨tg, iter, ifs, 0⟩] scope pos) 0 (.ref it) (.ref D) ce) (postX (model X.prog X.w) X.A X.xe use Qf (.ref D) s3.heap.objs.size X.env.frame) { s3 with heap := pushCells (s3.heap.push { cls := .type "dict", data := .dict #[] }) scope.names }
  rw [← e5, hxf]
  have I4 : Inv (X.blkA s3 H3 scope ce fp xb) [] (wipe σ (own.map (·.2))) H3 s4 := I4.toTry xb
  have st4 : tn 0 s4.heap := T.keep _ _ _ st3 fun b _ o e => by rw [e5]; exact pushCells_keeps _ _ _ _ (Heap.get?_push_of_some _ e)
  have still : ∀ {σ' : L2.St} {H' : Hp} {s' : Shared}, Inv (X.blkA s3 H3 scope ce fp xb) [] σ' H' s' → (∀ b ∈ fp, H' b = none) → ∀ b ∈ fp, FpOk (X.blkA s3 H3 scope ce fp xb) [] H' b := fun {σ' H' s'} I' hn b hb =>
    ⟨hn b hb, (I'.ok.exf b hb).1, I'.ok.exfs b hb, .inl hb, fun x c e => (I'.ok.exf b hb).2 x c e, fun p hp => absurd (show p ∈ ([] : List (Addr × Obj)) ++ [] from hp) (by simp)⟩
  have air : ∀ u s', xb u s' → notedBy (model X.prog X.w) X.A ce (fun e s'' => postX (model X.prog X.w) X.A X.xe use Qf (.ref D) s3.heap.objs.size (some L) (.error e) s'') u s' := fun u s' x => by
    rw [exb] at x
    exact air_out hst I.ok.frames hf0 cF (tA pins) x
  have loop : codeAny (model X.prog X.w) X.A (.compLoop (.ListComp elt [⟨tg, iter, ifs, 0⟩] scope pos) 0 (.ref it) (.ref D) ce) (postX (model X.prog X.w) X.A X.xe use Qf (.ref D) s3.heap.objs.size (some L)) s4 := by
    refine compLoop_any (fun n s' => ∃ i H', Inv (X.blkA s3 H3 scope ce fp xb) [] (wipe σ (own.map (·.2))) H' s' ∧ tn i s'.heap ∧ (∀ b ∈ fp, H' b = none) ∧ W i n H') ?_ m0 ⟨0, H3, I4, st4, nfp, w0⟩
    rintro n s5 ⟨i, H5, I5, st5, n5, w5⟩
    rcases turn i n H5 w5 with ⟨stop, qq⟩ | ⟨go, Nx, hNx, step⟩
    · refine thnF (T.done (X.blkA s3 H3 scope ce fp xb) rfl rfl rfl hc i [] s5 _ H5 (fun _ _ => False) I5 (still I5 n5) st5 stop) fun r s6 z => ?_
      obtain ⟨rfl, I6⟩ := z
      have I7 : Inv X pins σ H5 s6 := I3.call' (ch := fp) I6.os I6.base I6.hok I6.bare fun b hb => by
        obtain ⟨⟨-, z2, -, z4, z5, z6⟩, -⟩ := f3 b hb
        exact ⟨z4, z2, z5, z6⟩
      have nC : H5 s3.heap.objs.size = none := by
        have z : H5 ce.locals = none := I6.free
        rw [cL] at z
        exact z
      obtain ⟨m, hn, -⟩ := I6.loc
      have hn : s6.heap.Ns ce.locals m := hn
      rw [cL] at hn
      exact hRR D s3.heap.objs.size s6 m H5 I7 qq hn (I3.fpOk (Nat.le_refl _) nC)
    · refine thnF (T.item (X.blkA s3 H3 scope ce fp xb) rfl rfl rfl hc i [] s5 _ H5 (fun _ _ => False) I5 (still I5 n5) st5 go) fun r s6 z => ?_
      obtain ⟨u, rfl, h6⟩ := z
      refine thnF h6 fun _ s7 z => ?_
      obtain ⟨x, H7, I7, r7, y7, st7, n7⟩ := z
      have I7' := I7.pinned (still I7 n7) (T.obj _ _ st7)
      refine thnM (pg.run _ s7 _ H7 x u _ I7' r7 (step x H7 y7)) (fun _ s8 z => ?_) air
      obtain ⟨σ8, H8, I8, hw8, q8⟩ := z
      refine thnM (pt.run _ s8 σ8 H8 _ I8 q8) (fun b s9 z => ?_) air
      obtain ⟨H9, I9, q9⟩ := z
      have fin : ∀ {s' : Shared} {H' : Hp}, Inv (X.blkA s3 H3 scope ce fp xb) ([] ++ pinsAt fp s7.heap) σ8 H' s' → Nx H' → ∃ m, m < n ∧ ∃ i H', Inv (X.blkA s3 H3 scope ce fp xb) [] (wipe σ (own.map (·.2))) H' s' ∧ tn i s'.heap ∧ (∀ b ∈ fp, H' b = none) ∧ W i m H' := fun {s' H'} I' nx => by
        obtain ⟨m', hm, w'⟩ := hNx H' nx
        have same : ∀ b ∈ fp, ∀ o, s7.heap.get? b = some o → s'.heap.get? b = some o ∧ H' b = none := fun b hb o e => by
          obtain ⟨z1, z2, -⟩ := I'.pin (b, o) (List.mem_append_right _ (List.mem_append_right _ (mem_pinsAt hb e)))
          exact ⟨z1, z2⟩
        refine ⟨m', hm, i + 1, H', (I'.unpinned (pins := [])).weak (by rw [← hw8, wipe_length]) (fun j v e => ?_), T.keep _ _ _ st7 fun b hb o e => (same b hb o e).1, fun b hb => ?_, w'⟩
        · rw [← hw8] at e
          exact (wipe_some e).1
        · obtain ⟨o, e, -⟩ := T.obj _ _ st7 b hb
          exact (same b hb o e).2
      cases b with
      | false =>
        rw [if_neg (by simp)] at q9
        rw [if_neg (by simp)]
        exact fin I9 q9
      | true =>
        rw [if_pos rfl] at q9
        rw [if_pos rfl]
        refine thnM (pe.run _ s9 σ8 H9 _ I9 q9) (fun z s10 z2 => ?_) air
        obtain ⟨yv, H10, I10, r10, acc, hD10, hz10, nx⟩ := z2
        exact app_ok (X := X.blkA s3 H3 scope ce fp xb) I10 hD10 hz10 r10 fun s11 I11 => fin I11 nx
  exact codeAny_compStart_list loop (T.self X.A 0 _ _ _ st4 loop)
def tLcX (wi : TI) (g : TG) (tt : L2.St → TT) (te : L2.St → TE) (vs : List Nat) : TE := fun σ H Q => tLc wi g (tt σ) (te σ) vs σ H Q
section
variable {W : WX} {elt tg iter : Expr} {ifs : List Expr} {scope : Scope} {own : List (Str × Nat)} {pos : Pos} {wi : TI} {g : TG} {tt : L2.St → TT} {te : L2.St → TE}
theorem pe_lcX (tk : TakesA X W) (hc : X.calm = true) (hN : X.N.Nodup) (hi : PI X tg iter wi) (ok : BlkOk X.N X.env.scope scope own) (hg : ∀ σ, BlkT X (WE W σ) scope fun Y => PG Y tg g) (ht : ∀ σ, BlkT X (WE W σ) scope fun Y => PTs Y ifs (tt σ))
    (he : ∀ σ, BlkT X (WE W σ) scope fun Y => PE Y elt (te σ)) (hs : ∀ x, foldedSetIterable iter X.env x = pure x := by intro _; rfl) : PE X (.ListComp elt [⟨tg, iter, ifs, 0⟩] scope pos) (tLcX wi g tt te (own.map (·.2))) := by
  obtain ⟨e0, outer, L, hst, hxf, hf0, t⟩ := tk.out
  refine ⟨fun pins s σ H Q I h => ?_⟩
  rw [eval_ListComp]
  refine lcX hst hxf hf0 (fun p u s' x => t p σ u s' x) hc hN I hi ok (hg σ) (ht σ) (he σ) hs h fun D C s' m H' I' q hn f => ?_
  obtain ⟨f0, f1, -, f3, f4, f5⟩ := f
  exact ⟨m, hn, fun h'' sb => ⟨.ref D, H', I'.turned (t' := s'.toks) (fun b o hb e => (sb.2 b hb).trans e) f0 f1 f3 f4 f5, rfl, q⟩⟩
theorem ps_setLcX (tk : TakesA X W) {i : Nat} {y : Str} {py spos : Pos} (hc : X.calm = true) (hN : X.N.Nodup) (hy : X.N[i]? = some y) (hyl : X.env.scope.names.lookup y = some .local)
    (hsw : swapsWith (.ListComp elt [⟨tg, iter, ifs, 0⟩] scope pos) (some (.Name y py)) spos.line X.env = pure true) (hi : PI X tg iter wi) (ok : BlkOk X.N X.env.scope scope own) (hg : ∀ σ, BlkT X (WE W σ) scope fun Y => PG Y tg g) (ht : ∀ σ, BlkT X (WE W σ) scope fun Y => PTs Y ifs (tt σ))
    (he : ∀ σ, BlkT X (WE W σ) scope fun Y => PE Y elt (te σ)) (hs : ∀ x, foldedSetIterable iter X.env x = pure x := by intro _; rfl) :
    PS X (.Assign [.Name y py] (.ListComp elt [⟨tg, iter, ifs, 0⟩] scope pos) spos) (tAsg (tLcX wi g tt te (own.map (·.2))) (gName i)) := by
  obtain ⟨e0, outer, L, hst, hxf, hf0, t⟩ := tk.out
  refine ⟨fun pins s σ H D I h => ?_⟩
  rw [exec_Assign_Name_used _ _ _ _ hsw]
  refine wpAny_bind (wpAny_standAt (wpAny_bind ?_))
  show wpAny _ X.A (do let _ ← comprehension (.ListComp elt [⟨tg, iter, ifs, 0⟩] scope pos) scope X.env (firstIterPos [⟨tg, iter, ifs, 0⟩] pos) (newList []) false (eval iter X.env) (some (assign (.Name y py) X.env))) _ _ s
  have h : tLc wi g (tt σ) (te σ) (own.map (·.2)) σ H (fun x H1 => gName i x σ H1 D.nx) := h
  refine wpAny_bind (thn (lcX (Qf := fun _ s' => SP X pins D .next s') hst hxf hf0 (fun p u s' x => t p σ u s' x) hc hN I hi ok (hg σ) (ht σ) (he σ) hs h fun A1 C s' m H' I' q hn f => ?_) fun _ s' hq => wpAny_pure (wpAny_pure hq))
  obtain ⟨f0, f1, -, f3, f4, f5⟩ := f
  show wpAny _ _ (assign (.Name y py) X.env (.ref A1)) _ _ _
  refine wpAny_assign_Name (store_ok2 (v := V.ref A1) I' hN hy (.inl hyl) rfl (fun s2 I2 z => ?_) (.inr hyl))
  obtain ⟨a, sb, ha⟩ := z
  have ne : C ≠ a := by
    rcases ha with z | z
    · rw [z]; exact f1
    · exact fun e => f4 y a z e.symm
  exact ⟨m, hn.sameBut sb ne, fun h3 sb3 => ⟨_, H', I2.turned (t' := s2.toks) (fun b o hb e => (sb3.2 b hb).trans e) f0 f1 f3 f4 f5, q⟩⟩
end
end core
end Q
/-! Q1: a plain interpreter of the program's own syntax, over plain data. Tuples and lists that nobody changes are values; lists that are changed, and instances, stand in a store. -/
namespace Q
open PySem L2

/-- data -/
inductive D where
  | non | bl (b : Bool) | int (i : Int) | str (x : Str) | tup (xs : List D) | lst (xs : List D) | ref (l : Nat)

def isStar' : Expr → Bool
  | .Starred .. => true
  | _ => false
/-- what stands in the store -/
inductive Ob where
  | lst (xs : List D) | ins (C : Str) (fs : List (Str × D)) | dic (kvs : List (L2.Key × D)) | dead

abbrev Store := List Ob
abbrev Env := List (Option D)

inductive Out (α : Type) where
  | ok (a : α) (S : Store) | exc (c : Str) (S : Store) | bad
def Out.bind {α β : Type} (r : Out α) (f : α → Store → Out β) : Out β := match r with
  | .ok a S => f a S
  | .exc c S => .exc c S
  | .bad => .bad
def ofO {α : Type} (S : Store) : Option α → Out α
  | some a => .ok a S
  | none => .bad
/-- what an operation of values gives, with the store behind it -/
def ofP {α : Type} : Option (α × Store) → Out α
  | some (a, S) => .ok a S
  | none => .bad

inductive Fl where
  | nx (σ : Env) (S : Store) | rt (d : D) (S : Store) | bk (σ : Env) (S : Store) | ct (σ : Env) (S : Store) | exc (c : Str) (σ : Env) (S : Store) | bad
def Fl.seq (r : Fl) (f : Env → Store → Fl) : Fl := match r with
  | .nx σ S => f σ S
  | r => r
/-- an expression's value, in a statement -/
def Out.use {α : Type} (r : Out α) (σ : Env) (f : α → Store → Fl) : Fl := match r with
  | .ok a S => f a S
  | .exc c S => .exc c σ S
  | .bad => .bad

abbrev Fn := List D → Store → Out D
structure Cfg where
  funs : Str → Option Fn
  vars : Str → Option D
  free : Str → Bool
  mutl : Pos → Bool
  flds : Str → List Str := fun _ => []
  meths : Str → List (Str × Fn) := fun _ => []
  mks : Str → Option Fn := fun _ => none
  excs : Str → Bool := fun _ => false
  hot : Option (Nat × Str) := none
  kits : Str → Str → Option Bool := fun _ _ => none
  mutb : Pos → Bool := fun _ => false
  dks : Str → Option (List Str) := fun _ => none
/-- where an error is held: no calls, no loops -/
def Cfg.hotC (c : Cfg) (i : Nat) (x : Str) : Cfg := { c with funs := fun _ => none, meths := fun _ => [], mks := fun _ => none, excs := fun _ => false, free := fun f => c.free f && (f == "isinstance" || f == "int"), hot := some (i, x) }
def Cfg.calm (c : Cfg) : Bool := c.hot.isNone
def Cfg.hotAt (c : Cfg) (i : Nat) : Bool := match c.hot with
  | some (j, _) => i == j
  | none => false

/-! ### operations -/
def seqL (S : Store) : D → Option (List D)
  | .lst xs => some xs
  | .ref l => (match S[l]? with
    | some (.lst xs) => some xs
    | _ => none)
  | _ => none
def seqT : D → Option (List D)
  | .tup xs => some xs
  | _ => none
def seqO (S : Store) (d : D) : Option (List D) := match d with
  | .tup xs => some xs
  | d => seqL S d
/-- a dict's key -/
def keyD : D → Option L2.Key
  | .int i => some (.inl i)
  | .str x => some (.inr x)
  | _ => none
def valG {α : Type} (kvs : List (L2.Key × α)) (k : L2.Key) : Option α := (kvs.find? fun kv => decide (kv.1 = k)).map (·.2)
def putG {α : Type} (kvs : List (L2.Key × α)) (k : L2.Key) (v : α) : List (L2.Key × α) :=
  if (kvs.any fun kv => decide (kv.1 = k)) = true then kvs.map (fun kv => if kv.1 = k then (kv.1, v) else kv) else kvs ++ [(k, v)]
def mergeG {α : Type} (kvs more : List (L2.Key × α)) : List (L2.Key × α) := more.foldl (fun acc kv => putG acc kv.1 kv.2) kvs
def dicOf (S : Store) : D → Option (List (L2.Key × D))
  | .ref l => (match S[l]? with
    | some (.dic kvs) => some kvs
    | _ => none)
  | _ => none
def truth (S : Store) : D → Option Bool
  | .non => some false
  | .bl b => some b
  | .int i => some (i != 0)
  | .str x => if x.length ≤ 16777216 then some ((x.length : Int) != 0) else none
  | d => (match seqO S d with
    | some xs => some (!xs.isEmpty)
    | none => none)
def arith (op : Operator) (i j : Int) : Option Int := match op with
  | .Add => some (i + j)
  | .Sub => some (i - j)
  | .Mult => if i.natAbs.log2 + j.natAbs.log2 < 1000000 then some (i * j) else none
  | .FloorDiv => if 0 < j ∧ j.natAbs.log2 < 9000 then some (i / j) else none
  | .Mod => if 0 < j then some (i % j) else none
  | .Pow => if 0 ≤ j ∧ j ≤ 1000000 ∧ i.natAbs < 2 ^ 64 then some (i ^ j.toNat) else none
  | .LShift => if 0 ≤ j ∧ (Builtin.Int.intBits i : Int) + j ≤ 2 ^ 27 then some (i * 2 ^ j.toNat) else none
  | .RShift => if 0 ≤ j then some (i / 2 ^ j.toNat) else none
  | .BitAnd => some (Builtin.bitAnd i j)
  | _ => none
def catD (S : Store) (op : Operator) (x y : D) : Option D := match op with
  | .Add => (match seqL S x, seqL S y with
    | some xs, some ys => if xs.length ≤ 16777216 ∧ ys.length ≤ 16777216 ∧ xs.length + ys.length ≤ 16777216 then some (.lst (xs ++ ys)) else none
    | _, _ => none)
  | .Mult => (match seqL S x, y with
    | some xs, .int k => if -1000000 ≤ k ∧ k ≤ 1000000 ∧ xs.length * k.toNat ≤ 1000000 then some (.lst (List.replicate k.toNat xs).flatten) else none
    | _, _ => none)
  | _ => none
def binD (S : Store) (op : Operator) (x y : D) : Option D := match x, y with
  | .int i, .int j => (arith op i j).map D.int
  | .str a, .int k => (match op with
    | .Mult => if -1000000 ≤ k ∧ k ≤ 1000000 ∧ a.length * k.toNat ≤ 1000000 then some (.str (timesS a k)) else none
    | _ => none)
  | .tup xs, .int k => (match op with
    | .Mult => if -1000000 ≤ k ∧ k ≤ 1000000 ∧ xs.length * k.toNat ≤ 1000000 then some (.tup (List.replicate k.toNat xs).flatten) else none
    | _ => none)
  | .str a, .str b => (match op with
    | .Add => if a.length + b.length ≤ 16777216 then some (.str (a ++ b)) else none
    | _ => none)
  | .tup xs, .tup ys => (match op with
    | .Add => if xs.length + ys.length ≤ 16777216 then some (.tup (xs ++ ys)) else none
    | _ => none)
  | x, y => catD S op x y
mutual
def toPy : D → Option PyData
  | .non => some .none
  | .bl b => some (.bool b)
  | .int i => some (.int i)
  | .str x => some (.str x)
  | .tup xs => (match toPys xs with
    | some ys => some (.tuple ys)
    | none => none)
  | .lst xs => (match toPys xs with
    | some ys => some (.list ys)
    | none => none)
  | .ref _ => none
def toPys : List D → Option (List PyData)
  | [] => some []
  | x :: xs => (match toPy x, toPys xs with
    | some y, some ys => some (y :: ys)
    | _, _ => none)
end
/-- lists of the store that stand in a thing, looked up -/
def res : Nat → Store → D → D
  | 0, _, d => d
  | n + 1, S, .ref l => (match S[l]? with
    | some (.lst xs) => .lst (xs.map (res n S))
    | _ => .ref l)
  | n + 1, S, .tup xs => .tup (xs.map (res n S))
  | n + 1, S, .lst xs => .lst (xs.map (res n S))
  | _ + 1, _, d => d
def toPyS (S : Store) (d : D) : Option PyData := toPy (res 8 S d)
def eqD (S : Store) (x y : D) : Option Bool := match toPyS S x, toPyS S y with
  | some a, some b => if SeqAt.shaped a = true ∧ SeqAt.shaped b = true then some (PyData.eqv a b) else none
  | _, _ => (match seqL S x, seqL S y with
    | some xs, some ys => if xs.length = ys.length then none else some false
    | _, _ => none)
def inSeq (S : Store) (x y : D) : Option Bool := match toPyS S x, toPyS S y with
  | some a, some (.list bs) => if SeqAt.shaped a = true ∧ SeqAt.shaped (.list bs) = true then some (bs.any fun z => PyData.eqv z a) else none
  | some a, some (.tuple bs) => if SeqAt.shaped a = true ∧ SeqAt.shaped (.tuple bs) = true then some (bs.any fun z => PyData.eqv z a) else none
  | _, _ => none
def inObj (S : Store) (x y : D) : Option Bool := match dicOf S y with
  | some kvs => (match keyD x with
    | some k => some (valG kvs k).isSome
    | none => none)
  | none => inSeq S x y
def inD (S : Store) (x y : D) : Option Bool := match x, y with
  | .str a, .str b => some (!(Builtin.Str.occurrences b a 0 b.length 1).isEmpty)
  | x, y => inObj S x y
def cmpI (op : CmpOp) (i j : Int) : Option Bool := match op with
  | .Lt => some (decide (i < j))
  | .LtE => some (decide (i ≤ j))
  | .Gt => some (decide (j < i))
  | .GtE => some (decide (j ≤ i))
  | _ => none
def cmpS (op : CmpOp) (i j : Str) : Option Bool := match op with
  | .Lt => some (decide (i.cps.toList < j.cps.toList))
  | .Gt => some (decide (j.cps.toList < i.cps.toList))
  | _ => none
def isD (x y : D) : Option Bool := match x, y with
  | .bl a, .bl b => some (decide (a = b))
  | .non, .non => some true
  | _, .non => some false
  | _, _ => none
def cmpD (S : Store) (op : CmpOp) (x y : D) : Option Bool := match op with
  | .Eq => eqD S x y
  | .NotEq => (eqD S x y).map (! ·)
  | .Is => isD x y
  | .IsNot => (isD x y).map (! ·)
  | .In => inD S x y
  | .NotIn => (inD S x y).map (! ·)
  | op => (match x, y with
    | .int i, .int j => cmpI op i j
    | .str i, .str j => cmpS op i j
    | _, _ => none)
/-- the place of an index -/
def ixS (S : Store) (x i : D) : Option D := match i with
  | .int k => (match x with
    | .str z => if z.length ≤ 16777216 then (match L2.atI z.cps.toList k with
      | some c => some (.str ⟨#[c]⟩)
      | none => none) else none
    | x => (match seqO S x with
      | some xs => L2.atI xs k
      | none => none))
  | _ => none
def ixD (S : Store) (x i : D) : Option D := match dicOf S x with
  | some kvs => (match keyD i with
    | some k => valG kvs k
    | none => none)
  | none => ixS S x i
def cut {α : Type} (xs : List α) (lo hi : Option Int) : List α := (xs.drop (HT.sIx xs.length 0 lo)).take (HT.sIx xs.length xs.length hi - HT.sIx xs.length 0 lo)
def slD (S : Store) (x : D) (lo hi : Option Int) : Option D := match x with
  | .str z => if z.length ≤ 16777216 then some (.str (Txt.slice z lo hi)) else none
  | .tup xs => some (.tup (cut xs lo hi))
  | x => (match seqL S x with
    | some xs => some (.lst (cut xs lo hi))
    | none => none)
def revD (S : Store) (x : D) : Option D := match seqL S x with
  | some xs => some (.lst xs.reverse)
  | none => (match seqT x with
    | some xs => some (.tup xs.reverse)
    | none => none)
def isTy (S : Store) (x : D) (t : Str) : Option Bool := match x with
  | .non => some false
  | .bl _ => some (t == "bool" || t == "int")
  | .int _ => some (t == "int")
  | .str _ => some (t == "str")
  | .tup _ => some (t == "tuple")
  | .lst _ => some (t == "list")
  | .ref l => (match S[l]? with
    | some (.lst _) => some (t == "list")
    | some (.dic _) => some (t == "dict")
    | _ => none)
def tyOk (t : Str) : Bool := t == "int" || t == "bool" || t == "str" || t == "tuple" || t == "list" || t == "dict"
def lenD (S : Store) (x : D) : Option D := match x with
  | .str z => if z.length ≤ 16777216 then some (.int z.length) else none
  | x => (match seqO S x with
    | some xs => some (.int xs.length)
    | none => none)
def blsOf : List D → Option (List Bool)
  | [] => some []
  | .bl b :: xs => (match blsOf xs with
    | some bs => some (b :: bs)
    | none => none)
  | _ => none
def intsOf : List D → Option (List Int)
  | [] => some []
  | .int b :: xs => (match intsOf xs with
    | some bs => some (b :: bs)
    | none => none)
  | _ => none
def strsOf : List D → Option (List Str)
  | [] => some []
  | .str b :: xs => (match strsOf xs with
    | some bs => some (b :: bs)
    | none => none)
  | _ => none
/-- the built-ins' ids, types and rules, by name -/
inductive Blt where
  | len | int | list | tuple | all | abs | min | max | str | any | sum
def bltOf (f : Str) : Option Blt :=
  if f == "len" then some .len else if f == "int" then some .int else if f == "list" then some .list else if f == "tuple" then some .tuple else if f == "all" then some .all else if f == "abs" then some .abs
  else if f == "min" then some .min else if f == "max" then some .max else if f == "str" then some .str else if f == "any" then some .any else if f == "sum" then some .sum else none
/-- a built-in called by its name -/
def intD : D → Option D
  | .int i => some (.int i)
  | .bl b => some (.int (if b then 1 else 0))
  | .str x => (match PySem.intText? x with
    | some n => if x.length ≤ 640 then some (.int n) else none
    | none => none)
  | _ => none
def absD : D → Option D
  | .int i => some (.int (if i < 0 then -i else i))
  | _ => none
def listD (S : Store) (x : D) : Option D := match x with
  | .str z => if z.length ≤ 16777216 then some (.lst (z.cps.toList.map fun c => .str ⟨#[c]⟩)) else none
  | x => (match seqO S x with
    | some ys => some (.lst ys)
    | none => none)
def tupleD (S : Store) (x : D) : Option D := match seqO S x with
  | some ys => some (.tup ys)
  | none => none
def allD (S : Store) (x : D) : Option D := match seqL S x with
  | some ys => (match blsOf ys with
    | some bs => some (.bl (bs.all id))
    | none => none)
  | none => none
def anyD (S : Store) (x : D) : Option D := match seqL S x with
  | some ys => (match blsOf ys with
    | some bs => some (.bl (bs.any id))
    | none => none)
  | none => none
def sumD (S : Store) (x : D) : Option D := match seqL S x with
  | some ys => (match intsOf ys with
    | some bs => some (.int bs.sum)
    | none => none)
  | none => none
def minD : D → D → Option D
  | .int i, .int j => some (.int (if j < i then j else i))
  | _, _ => none
def maxD : D → D → Option D
  | .int i, .int j => some (.int (if j > i then j else i))
  | _, _ => none
def strD : D → Option D
  | .int i => if i.natAbs.log2 < 1920 then some (.str (toString i)) else none
  | .str x => some (.str x)
  | _ => none
def Blt.sem1 (S : Store) (b : Blt) (x : D) : Option D := match b with
  | .len => lenD S x
  | .int => intD x
  | .list => listD S x
  | .tuple => tupleD S x
  | .all => allD S x
  | .abs => absD x
  | .str => strD x
  | .any => anyD S x
  | .sum => sumD S x
  | _ => none
def Blt.sem2 (b : Blt) (x y : D) : Option D := match b with
  | .min => minD x y
  | .max => maxD x y
  | _ => none
def Blt.sem (S : Store) (b : Blt) (xs : List D) : Option D := match xs with
  | [x] => b.sem1 S x
  | [x, y] => b.sem2 x y
  | _ => none
/-- len(set(x)) of texts -/
def lenSetD (S : Store) (x : D) : Option D := match seqO S x with
  | some ys => (match strsOf ys with
    | some zs => if zs.length ≤ 1000 then some (.int (onceS [] zs).length) else none
    | none => none)
  | none => none
def lenSet? : List Expr → Option (Expr × Str)
  | [.Call (.Name f _) [a] [] _] => if f == "set" && !isStar' a then some (a, f) else none
  | _ => none
/-- pairs of keys and values -/
def pairsD : List D → Option (List (L2.Key × D))
  | [] => some []
  | .tup [k, v] :: xs => (match keyD k, pairsD xs with
    | some k, some r => some ((k, v) :: r)
    | _, _ => none)
  | _ => none
/-- dict(x) -/
def dictD (S : Store) (x : D) : Option (D × Store) := match dicOf S x with
  | some kvs => some (.ref S.length, S ++ [.dic kvs])
  | none => (match seqL S x with
    | some xs => (match pairsD xs with
      | some kvs => some (.ref S.length, S ++ [.dic (mergeG [] kvs)])
      | none => none)
    | none => none)
/-- methods of built-in types -/
inductive MId where
  | bitLength | append | split | join | index | pop | insert | clear | upper | partition | get | count | countL
/-- the method of a name, by what the thing is -/
def mIdD (S : Store) (x : D) (m : Str) : Option MId := match x with
  | .int _ => if m == "bit_length" then some .bitLength else none
  | .str _ => if m == "split" then some .split else if m == "join" then some .join else if m == "upper" then some .upper else if m == "partition" then some .partition else if m == "count" then some .count else none
  | x => (match seqL S x with
    | some _ => if m == "append" then some .append else if m == "index" then some .index else if m == "pop" then some .pop else if m == "insert" then some .insert else if m == "clear" then some .clear else if m == "count" then some .countL else none
    | none => (match dicOf S x with
      | some _ => if m == "get" then some .get else none
      | none => none))
/-- the first place of an equal item -/
def firstD (a : PyData) : Nat → List PyData → Option Nat
  | _, [] => none
  | i, z :: zs => if PyData.eqv z a = true then some i else firstD a (i + 1) zs
/-- called: the value, the store behind -/
def mthD (S : Store) (m : MId) (x : D) (xs : List D) : Option (D × Store) := match m with
  | .bitLength => (match x, xs with
    | .int i, [] => some (.int (Builtin.Int.intBits i : Nat), S)
    | _, _ => none)
  | .append => (match x, xs with
    | .ref l, [y] => (match S[l]? with
      | some (.lst ys) => if ys.length < 16777216 then some (.non, S.set l (.lst (ys ++ [y]))) else none
      | _ => none)
    | _, _ => none)
  | .split => (match x, xs with
    | .str a, [.str b] => if (b.length == 0) = false ∧ a.length + 2 ≤ 16777216 then some (.lst ((Txt.split a b).map D.str), S) else none
    | _, _ => none)
  | .join => (match x, xs with
    | .str a, [y] => (match seqO S y with
      | some ys => (match strsOf ys with
        | some zs => if (zs.map (·.length)).sum + zs.length * a.length ≤ 16777216 then some (.str (Txt.join a zs), S) else none
        | none => none)
      | none => none)
    | _, _ => none)
  | .upper => (match x, xs with
    | .str a, [] => if a.length ≤ 5592405 then some (.str (Txt.upper a), S) else none
    | _, _ => none)
  | .partition => (match x, xs with
    | .str a, [.str b] => if (b.length == 0) = false ∧ a.length ≤ 16777216 then some (.tup [.str (Txt.partition a b).1, .str (Txt.partition a b).2.1, .str (Txt.partition a b).2.2], S) else none
    | _, _ => none)
  | .count => (match x, xs with
    | .str a, [.str b] => some (.int (Txt.count a b), S)
    | _, _ => none)
  | .index => (match toPyS S x, xs with
    | some (.list ds), [y] => (match toPyS S y with
      | some a => if SeqAt.shaped (.list ds) = true ∧ SeqAt.shaped a = true then (match firstD a 0 ds with
        | some j => some (.int (j : Nat), S)
        | none => none) else none
      | none => none)
    | _, _ => none)
  | .countL => (match toPyS S x, xs with
    | some (.list ds), [y] => (match toPyS S y with
      | some a => if SeqAt.shaped (.list ds) = true ∧ SeqAt.shaped a = true then some (.int (ds.countP fun z => PyData.eqv z a), S) else none
      | none => none)
    | _, _ => none)
  | .pop => (match x, xs with
    | .ref l, [] => (match S[l]? with
      | some (.lst ys) => (match ys[ys.length - 1]? with
        | some y => some (y, S.set l (.lst ys.dropLast))
        | none => none)
      | _ => none)
    | .ref l, [.int i] => (match S[l]? with
      | some (.lst ys) => if 0 ≤ i ∧ i < ys.length ∧ i < 2 ^ 62 then (match ys[i.toNat]? with
        | some y => some (y, S.set l (.lst (ys.eraseIdx i.toNat)))
        | none => none) else none
      | _ => none)
    | _, _ => none)
  | .insert => (match x, xs with
    | .ref l, [.int i, y] => (match S[l]? with
      | some (.lst ys) => if ys.length < 16777216 ∧ 0 ≤ i ∧ i < 2 ^ 62 then some (.non, S.set l (.lst (ys.take i.toNat ++ [y] ++ ys.drop i.toNat))) else none
      | _ => none)
    | _, _ => none)
  | .clear => (match x, xs with
    | .ref l, [] => (match S[l]? with
      | some (.lst _) => some (.non, S.set l (.lst []))
      | _ => none)
    | _, _ => none)
  | .get => (match dicOf S x, xs with
    | some kvs, [y] => (match keyD y with
      | some k => some ((valG kvs k).getD .non, S)
      | none => none)
    | some kvs, [y, z] => (match keyD y with
      | some k => some ((valG kvs k).getD z, S)
      | none => none)
    | _, _ => none)
def setL (S : Store) (o i v : D) : Option Store := match o, i with
  | .ref l, .int k => (match S[l]? with
    | some (.lst xs) => (match L2.ixN xs.length k with
      | some j => some (S.set l (.lst (xs.set j v)))
      | none => none)
    | _ => none)
  | _, _ => none
def setD (S : Store) (o i v : D) : Option Store := match o, dicOf S o, keyD i with
  | .ref l, some kvs, some k => if kvs.length < 16777216 then some (S.set l (.dic (putG kvs k v))) else none
  | o, _, _ => setL S o i v

/-! ### instances -/
def insOf (S : Store) : D → Option (Str × List (Str × D))
  | .ref l => (match S[l]? with
    | some (.ins C fs) => some (C, fs)
    | _ => none)
  | _ => none
def putFD (f : Str) (d : D) : List (Str × D) → List (Str × D)
  | [] => [(f, d)]
  | (g, x) :: r => if g = f then (g, d) :: r else (g, x) :: putFD f d r
/-- x.f; cs: the classes of which it may be asked -/
def fldD (cs : List Str) (S : Store) (x : D) (f : Str) : Option D := match insOf S x with
  | some (C, fs) => if cs.contains C then fs.lookup f else none
  | none => none
/-- x.f = v -/
def fldS (cs : List Str) (S : Store) (x v : D) (f : Str) : Option Store := match x with
  | .ref l => (match insOf S (.ref l) with
    | some (C, fs) => if cs.contains C && decide (fs.length < 1000) then some (S.set l (.ins C (putFD f v fs))) else none
    | none => none)
  | _ => none
/-- the def behind x.m -/
def methD (ts : List (Str × Fn)) (S : Store) (x : D) (m : Str) : Option Fn := match insOf S x with
  | some (C, fs) => if (fs.lookup m).isNone then ts.lookup C else none
  | none => none
/-- C(..) by its __init__ -/
def makeD (C : Str) (φ : Fn) (xs : List D) (S : Store) : Out D := match φ (.ref S.length :: xs) (S ++ [.ins C []]) with
  | .ok .non S' => .ok (.ref S.length) S'
  | .exc e S' => .exc e S'
  | _ => .bad

/-! ### names -/
inductive Nm where
  | slot (i : Nat) | glob | no
def Nm.isGlob : Nm → Bool
  | .glob => true
  | _ => false
/-- isinstance(a, T) -/
def isArgs : List Expr → Option (Expr × Str)
  | [a, .Name t _] => some (a, t)
  | _ => none
def nmOf (sc : Scope) (N : List Str) (x : Str) : Nm := match sc.names.lookup x with
  | some .local | some .cell | some .free => (match N.idxOf? x with
    | some i => .slot i
    | none => .no)
  | some .globalImplicit => .glob
  | _ => .no
/-- a name that is stored -/
def stOf (sc : Scope) (N : List Str) (x : Str) : Option Nat := match sc.names.lookup x with
  | some .local | some .cell => N.idxOf? x
  | _ => none
def plainName (x : Str) : Bool := !(x == ("__debug__" : Str)) && !(x == ("__classdict__" : Str)) && !(x == ("__name__" : Str))
/-- isinstance of the error that is held -/
def kitAll (c : Cfg) (N : List Str) (sc : Scope) (x : Str) : List Expr → Option Bool
  | [] => some false
  | .Name t _ :: es => if (nmOf sc N t).isGlob && plainName t then (match c.kits x t, kitAll c N sc x es with
    | some b, some r => some (b || r)
    | _, _ => none) else none
  | _ => none
def Nm.at_ (i : Nat) : Nm → Bool
  | .slot j => i == j
  | _ => false
def hotIs (c : Cfg) (N : List Str) (sc : Scope) : List Expr → Option Bool
  | [.Name e _, .Name t p] => (match c.hot with
    | some (i, x) => if (nmOf sc N e).at_ i && plainName e then kitAll c N sc x [.Name t p] else none
    | none => none)
  | [.Name e _, .Tuple es _ _] => (match c.hot with
    | some (i, x) => if (nmOf sc N e).at_ i && plainName e && decide (es.length ≤ 20) then kitAll c N sc x es else none
    | none => none)
  | _ => none
def litD : Const → Option D
  | .none => some .non
  | .bool b => some (.bl b)
  | .int i => some (.int i)
  | .str x => some (.str x)
  | _ => none
def isStar : Expr → Bool
  | .Starred .. => true
  | _ => false
/-- o.m(..) with nothing odd about o -/
def okBase : Expr → Bool
  | .Call (.Name _ _) [] [] _ => false
  | _ => true
def isTup : Expr → Bool
  | .Tuple .. => true
  | _ => false
def isSet : Expr → Bool
  | .Set .. => true
  | _ => false
def isSlice : Expr → Bool
  | .Slice .. => true
  | _ => false

/-- what is walked: the items, and which list must stay as it is meanwhile -/
structure Items where
  xs : List D
  at_ : Option Nat
  enum : Bool := false
def wrapI (e : Bool) (i : Nat) (d : D) : D := if e then .tup [.int (i : Nat), d] else d
/-- the item at a turn -/
def Items.get (it : Items) (S : Store) (i : Nat) : Option (Option D) := match it.at_ with
  | none => some (it.xs[i]?.map (wrapI it.enum i))
  | some l => (match S[l]? with
    | some (.lst xs) => some (xs[i]?.map (wrapI it.enum i))
    | _ => none)
def itersD (S : Store) (d : D) : Option Items := match d with
  | .tup xs => some ⟨xs, none, false⟩
  | .lst xs => some ⟨xs, none, false⟩
  | .str z => some ⟨z.cps.toList.map fun c => .str ⟨#[c]⟩, none, false⟩
  | .ref l => (match S[l]? with
    | some (.lst xs) => some ⟨xs, some l, false⟩
    | _ => none)
  | _ => none
/-- enumerate -/
def enumD (S : Store) (d : D) : Option Items := match d with
  | .lst xs => some ⟨xs, none, true⟩
  | .ref l => (match S[l]? with
    | some (.lst xs) => some ⟨xs, some l, true⟩
    | _ => none)
  | _ => none
def pairUp : List D → List D → List D
  | x :: xs, y :: ys => .tup [x, y] :: pairUp xs ys
  | _, _ => []
/-- zip -/
def zipD (x y : D) : Option Items := match x, y with
  | .lst xs, .lst ys => some ⟨pairUp xs ys, none, false⟩
  | .tup xs, .tup ys => some ⟨pairUp xs ys, none, false⟩
  | _, _ => none
def rangeD (lo hi : Int) : Items := ⟨(List.range (hi - lo).toNat).map fun (k : Nat) => .int (lo + k), none, false⟩
def small62 (i : Int) : Bool := decide (-(2 ^ 62) ≤ i) && decide (i < 2 ^ 62)

/-- the turns of a comprehension, from item i on -/
def compF (it : Items) (f : D → Store → Out (Option D)) : Nat → Nat → List D → Store → Out (List D)
  | 0, _, _, _ => .bad
  | m + 1, i, acc, S => match it.get S i with
    | none => .bad
    | some none => .ok acc S
    | some (some x) => (match f x S with
      | .ok (some y) S1 => if acc.length < 16777216 then compF it f m (i + 1) (acc ++ [y]) S1 else .bad
      | .ok none S1 => compF it f m (i + 1) acc S1
      | .exc c S1 => .exc c S1
      | .bad => .bad)
def loopMost : Nat := 100000
/-- a new list: a value, or in the store -/
def newL (c : Cfg) (pos : Pos) (xs : List D) (S : Store) : Out D :=
  if c.mutl pos then .ok (.ref S.length) (S ++ [.lst xs]) else .ok (.lst xs) S

/-- an operator's list, list(x): a value, or in the store -/
def biF (c : Cfg) (pos : Pos) (op : Operator) (x y : D) (S : Store) : Out D :=
  if c.mutb pos then (match catD S op x y with
    | some (.lst xs) => .ok (.ref S.length) (S ++ [.lst xs])
    | _ => .bad) else ofO S (binD S op x y)
def blF (c : Cfg) (pos : Pos) (b : Blt) (xs : List D) (S : Store) : Out D :=
  if c.mutb pos then (match b, xs with
    | .list, [x] => (match listD S x with
      | some (.lst ys) => .ok (.ref S.length) (S ++ [.lst ys])
      | _ => .bad)
    | _, _ => .bad) else ofO S (b.sem S xs)
/-- a method's new list into the store -/
def mtM (S : Store) (i : MId) (x : D) (xs : List D) : Out D := match i, mthD S i x xs with
  | .split, some (.lst ys, S') => .ok (.ref S'.length) (S' ++ [.lst ys])
  | _, _ => .bad
def mtF (c : Cfg) (pos : Pos) (i : MId) (x : D) (xs : List D) (S : Store) : Out D := if c.mutb pos then mtM S i x xs else ofP (mthD S i x xs)
/-- word in NAME, a dict of the top -/
def dkOf (c : Cfg) (N : List Str) (sc : Scope) : CmpOp → Expr → Option (List Str)
  | .In, .Name g _ => if plainName g && (nmOf sc N g).isGlob then c.dks g else none
  | _, _ => none
def dkIn (ks : List Str) (x : D) (S : Store) : Out D := match x with
  | .str z => .ok (.bl (ks.contains z)) S
  | _ => .bad
/-- a slice: a value, or in the store -/
def slF (c : Cfg) (pos : Pos) (S : Store) (x : D) (lo hi : Option Int) : Out D :=
  if c.mutl pos then (match slD S x lo hi with
    | some (.lst xs) => .ok (.ref S.length) (S ++ [.lst xs])
    | _ => .bad) else ofO S (slD S x lo hi)
/-- {x} -/
def fmtD : D → Option D
  | .int i => if i.natAbs.log2 < 1920 then some (.str (toString i)) else none
  | .str x => if x.length ≤ 16777216 then some (.str x) else none
  | _ => none
/-- the parts of f'..' one behind another -/
def joinF : List (Env → Store → Out D) → Str → Env → Store → Out D
  | [], acc, _, S => .ok (.str acc) S
  | f :: fs, acc, σ, S => (f σ S).bind fun x S1 => (match x with
    | .str y => if (acc ++ y).length ≤ 16777216 then joinF fs (acc ++ y) σ S1 else .bad
    | _ => .bad)

def wipeE (σ : Env) : List Nat → Env
  | [] => σ
  | i :: is => (wipeE σ is).set i none
/-- the names of a target: one name, or a tuple of names -/
def tgEach : List Expr → Option (List Str)
  | [] => some []
  | .Name x _ :: es => (match tgEach es with
    | some xs => some (x :: xs)
    | none => none)
  | _ => none
def tgNames : Expr → Option (List Str)
  | .Name x _ => some [x]
  | .Tuple es _ _ => tgEach es
  | _ => none
def slotsOf (sc : Scope) (N : List Str) : List Str → Option (List Nat)
  | [] => some []
  | x :: xs => (match stOf sc N x, slotsOf sc N xs with
    | some i, some is => some (i :: is)
    | _, _ => none)
/-- one name or a tuple of names gets an item -/
def setAll (σ : Env) : List Nat → List D → Env
  | i :: is, d :: ds => setAll (σ.set i (some d)) is ds
  | _, _ => σ
/-- a tuple of names gets a tuple -/
def bT (is : List Nat) : Env → D → Option Env := fun σ d => match seqT d with
  | some ds => if ds.length = is.length then some (setAll σ is ds) else none
  | none => none
def bindTg (tg : Expr) (sc : Scope) (N : List Str) (σ : Env) (d : D) : Option Env := match tg with
  | .Name x _ => (match stOf sc N x with
    | some i => some (σ.set i (some d))
    | none => none)
  | .Tuple es _ _ => (match tgEach es with
    | some xs => (match slotsOf sc N xs with
      | some is => bT is σ d
      | none => none)
    | none => none)
  | _ => none

mutual
def ev (c : Cfg) (N : List Str) : Nat → Scope → Expr → Env → Store → Out D
  | 0, _, _, _, _ => .bad
  | n + 1, sc, e, σ, S => match e with
    | .Constant k _ _ => ofO S (litD k)
    | .Name x _ => if plainName x then (match nmOf sc N x with
      | .slot i => (match σ[i]? with
        | some (some d) => .ok d S
        | _ => .bad)
      | .glob => ofO S (c.vars x)
      | .no => .bad) else .bad
    | .BinOp a op b pos => (ev c N n sc a σ S).bind fun x S1 => (ev c N n sc b σ S1).bind fun y S2 => biF c pos op x y S2
    | .UnaryOp .Not a _ => (ev c N n sc a σ S).bind fun x S1 => ofO S1 ((truth S1 x).map fun b => .bl (!b))
    | .UnaryOp .USub a _ => (ev c N n sc a σ S).bind fun x S1 => (match x with
      | .int i => .ok (.int (-i)) S1
      | _ => .bad)
    | .BoolOp op es _ => evB c N n sc op es σ S
    | .Compare a [op] [b] _ => if isSet b then .bad else (match dkOf c N sc op b with
      | some ks => (ev c N n sc a σ S).bind fun x S1 => dkIn ks x S1
      | none => (ev c N n sc a σ S).bind fun x S1 => (ev c N n sc b σ S1).bind fun y S2 => ofO S2 ((cmpD S2 op x y).map D.bl))
    | .Compare a [op, op'] [b, b'] _ => if isSet b || isSet b' then .bad else (ev c N n sc a σ S).bind fun x S1 => (ev c N n sc b σ S1).bind fun y S2 => (match cmpD S2 op x y with
      | some true => (ev c N n sc b' σ S2).bind fun z S3 => ofO S3 ((cmpD S3 op' y z).map D.bl)
      | some false => .ok (.bl false) S2
      | none => .bad)
    | .IfExp t a b _ => (evT c N n sc t σ S).bind fun k S1 => if k = true then ev c N n sc a σ S1 else ev c N n sc b σ S1
    | .List es pos => (evA c N n sc es σ S).bind fun xs S1 => if xs.length ≤ 16777216 then newL c pos xs S1 else .bad
    | .Dict [] [] _ => .ok (.ref S.length) (S ++ [.dic []])
    | .Dict ks vs _ => if ks.all (·.isSome) = true ∧ ks.length = vs.length ∧ ks.length ≤ 15 then (evD c N n sc ks vs σ S).bind fun kvs S1 => .ok (.ref S1.length) (S1 ++ [.dic (mergeG [] kvs)]) else .bad
    | .Tuple es _ _ => (evA c N n sc es σ S).bind fun xs S1 => if xs.length ≤ 16777216 then .ok (.tup xs) S1 else .bad
    | .Subscript a (.Slice lo hi none _) pos => (ev c N n sc a σ S).bind fun x S1 => (evP c N n sc lo σ S1).bind fun l S2 => (evP c N n sc hi σ S2).bind fun h S3 => slF c pos S3 x l h
    | .FormattedValue a (-1) none _ => (ev c N n sc a σ S).bind fun x S1 => ofO S1 (fmtD x)
    | .JoinedStr es _ => if 2 ≤ es.length then joinF (es.map fun e => ev c N n sc e) Str.empty σ S else .bad
    | .Subscript a (.Slice none none (some (.UnaryOp .USub (.Constant (.int 1) _ _) _)) _) _ => (ev c N n sc a σ S).bind fun x S1 => ofO S1 (revD S1 x)
    | .Subscript a i _ => if isSlice i then .bad else (ev c N n sc a σ S).bind fun x S1 => (ev c N n sc i σ S1).bind fun y S2 => ofO S2 (ixD S2 x y)
    | .Call (.Name f _) args [] pos => if plainName f && !args.any isStar then (match nmOf sc N f with
      | .glob => (match c.funs f with
        | some φ => (evA c N n sc args σ S).bind fun xs S1 => φ xs S1
        | none => (match c.mks f with
        | some φ => (evA c N n sc args σ S).bind fun xs S1 => makeD f φ xs S1
        | none => if c.free f then (if f == "isinstance" then (match hotIs c N sc args with
            | some b => .ok (.bl b) S
            | none => (match isArgs args with
              | some (a, t) => if (nmOf sc N t).isGlob && (c.free t && tyOk t && plainName t) then (ev c N n sc a σ S).bind fun x S1 => ofO S1 ((isTy S1 x t).map D.bl) else .bad
              | none => .bad))
          else if f == "dict" then (evA c N n sc args σ S).bind fun xs S1 => (match xs with
            | [x] => ofP (dictD S1 x)
            | _ => .bad)
          else (match (if f == "len" then lenSet? args else none) with
            | some (a, g) => if c.free g && (nmOf sc N g).isGlob then (ev c N n sc a σ S).bind fun x S1 => ofO S1 (lenSetD S1 x) else .bad
            | none => (match bltOf f with
              | some b => (evA c N n sc args σ S).bind fun xs S1 => blF c pos b xs S1
              | none => .bad)))
          else .bad))
      | _ => .bad) else .bad
    | .Call (.Attribute o m apos) args [] cpos => if apos.endLine == cpos.line && (okBase o && (!args.any isStar && decide (args.length < 20))) then (ev c N n sc o σ S).bind fun x S1 => (match mIdD S1 x m with
      | some i => (evA c N n sc args σ S1).bind fun xs S2 => mtF c cpos i x xs S2
      | none => (match methD (c.meths m) S1 x m with
        | some φ => (evA c N n sc args σ S1).bind fun xs S2 => φ (x :: xs) S2
        | none => .bad)) else .bad
    | .Attribute o f _ => if okBase o then (ev c N n sc o σ S).bind fun x S1 => ofO S1 (fldD (c.flds f) S1 x f) else .bad
    | .ListComp elt [⟨tg, iter, ifs, 0⟩] scope pos => (match tgNames tg with
      | some xs => (match slotsOf scope N xs with
        | some is => if !c.calm || (isSet iter || (!L2.blkC N sc scope (xs.zip is) || decide (2 ≤ ifs.length))) then .bad else (evI c N n (isTup tg) sc iter σ S).bind fun it S1 => (compF it (fun d S2 => match bindTg tg scope N (wipeE σ is) d with
            | some σ2 => (match ifs with
              | [] => (ev c N n scope elt σ2 S2).bind fun y S3 => .ok (some y) S3
              | [t] => (evT c N n scope t σ2 S2).bind fun k S3 => if k = true then (ev c N n scope elt σ2 S3).bind fun y S4 => .ok (some y) S4 else .ok none S3
              | _ => .bad)
            | none => .bad) loopMost 0 [] S1).bind fun ys S2 => newL c pos ys S2
        | none => .bad)
      | none => .bad)
    | _ => .bad
def evB (c : Cfg) (N : List Str) : Nat → Scope → BoolOp → List Expr → Env → Store → Out D
  | 0, _, _, _, _, _ => .bad
  | n + 1, sc, op, es, σ, S => match es with
    | [] => .bad
    | [a] => ev c N n sc a σ S
    | a :: b :: rest => (ev c N n sc a σ S).bind fun x S1 => (match truth S1 x with
      | some k => (match op with
        | .And => if k = true then evB c N n sc op (b :: rest) σ S1 else .ok x S1
        | .Or => if k = true then .ok x S1 else evB c N n sc op (b :: rest) σ S1)
      | none => .bad)
def evT (c : Cfg) (N : List Str) : Nat → Scope → Expr → Env → Store → Out Bool
  | 0, _, _, _, _ => .bad
  | n + 1, sc, e, σ, S => match e with
    | .UnaryOp .Not a _ => (evT c N n sc a σ S).bind fun k S1 => .ok (!k) S1
    | .BoolOp op es _ => evTs c N n sc op es σ S
    | .IfExp .. => .bad
    | .Compare .. => (ev c N n sc e σ S).bind fun x S1 => (match x with
      | .bl k => .ok k S1
      | _ => .bad)
    | e => (ev c N n sc e σ S).bind fun x S1 => ofO S1 (truth S1 x)
def evTs (c : Cfg) (N : List Str) : Nat → Scope → BoolOp → List Expr → Env → Store → Out Bool
  | 0, _, _, _, _, _ => .bad
  | n + 1, sc, op, es, σ, S => match es with
    | [] => .bad
    | [a] => evT c N n sc a σ S
    | a :: b :: rest => (evT c N n sc a σ S).bind fun k S1 => (match op with
      | .And => if k = true then evTs c N n sc op (b :: rest) σ S1 else .ok false S1
      | .Or => if k = true then .ok true S1 else evTs c N n sc op (b :: rest) σ S1)
def evA (c : Cfg) (N : List Str) : Nat → Scope → List Expr → Env → Store → Out (List D)
  | 0, _, _, _, _ => .bad
  | n + 1, sc, es, σ, S => match es with
    | [] => .ok [] S
    | a :: rest => if isStar a then .bad else (ev c N n sc a σ S).bind fun x S1 => (evA c N n sc rest σ S1).bind fun xs S2 => .ok (x :: xs) S2
def evD (c : Cfg) (N : List Str) : Nat → Scope → List (Option Expr) → List Expr → Env → Store → Out (List (L2.Key × D))
  | 0, _, _, _, _, _ => .bad
  | n + 1, sc, ks, vs, σ, S => match ks, vs with
    | [], [] => .ok [] S
    | some k :: ks, v :: vs => (ev c N n sc k σ S).bind fun x S1 => (ev c N n sc v σ S1).bind fun y S2 => (evD c N n sc ks vs σ S2).bind fun r S3 => (match keyD x with
      | some k => .ok ((k, y) :: r) S3
      | none => .bad)
    | _, _ => .bad
def evP (c : Cfg) (N : List Str) : Nat → Scope → Option Expr → Env → Store → Out (Option Int)
  | 0, _, _, _, _ => .bad
  | n + 1, sc, e, σ, S => match e with
    | none => .ok none S
    | some a => (ev c N n sc a σ S).bind fun x S1 => (match x with
      | .int i => .ok (some i) S1
      | _ => .bad)
def evI (c : Cfg) (N : List Str) : Nat → Bool → Scope → Expr → Env → Store → Out Items
  | 0, _, _, _, _, _ => .bad
  | n + 1, tp, sc, e, σ, S => match e with
    | .Call (.Name f _) [a] [] _ => if f == "range" && c.free f && (match nmOf sc N f with | .glob => true | _ => false) then
        (if isStar a then .bad else (ev c N n sc a σ S).bind fun x S1 => (match x with
          | .int j => if small62 j then .ok (rangeD 0 j) S1 else .bad
          | _ => .bad))
      else if tp && (f == "enumerate" && c.free f && (match nmOf sc N f with | .glob => true | _ => false)) then
        (if isStar a then .bad else (ev c N n sc a σ S).bind fun x S1 => ofO S1 (enumD S1 x))
      else (ev c N n sc e σ S).bind fun x S1 => ofO S1 (itersD S1 x)
    | .Call (.Name f _) [a, b] [] _ => if f == "range" && c.free f && (match nmOf sc N f with | .glob => true | _ => false) then
        (if isStar a || isStar b then .bad else (ev c N n sc a σ S).bind fun x S1 => (ev c N n sc b σ S1).bind fun y S2 => (match x, y with
          | .int i, .int j => if small62 i && small62 j then .ok (rangeD i j) S2 else .bad
          | _, _ => .bad))
      else if tp && (f == "zip" && c.free f && (match nmOf sc N f with | .glob => true | _ => false)) then
        (if isStar a || isStar b then .bad else (ev c N n sc a σ S).bind fun x S1 => (ev c N n sc b σ S1).bind fun y S2 => ofO S2 (zipD x y))
      else (ev c N n sc e σ S).bind fun x S1 => ofO S1 (itersD S1 x)
    | e => (ev c N n sc e σ S).bind fun x S1 => ofO S1 (itersD S1 x)
end

/-- what may be given to a name by =, as we serve it -/
def okSet (sc : Scope) (x : Str) (p : Pos) : Expr → Bool
  | .ListComp _ _ scope pos => decide (sc.names.lookup x = some .cell) || decide (sc.names.lookup x = some .local) && (p.line == pos.line && !(scope.names.any fun (n, k) => n == x && (k == .local || k == .cell)))
  | .SetComp .. => false
  | .DictComp .. => false
  | _ => true
/-- the turns of a for: at each turn the item is looked up anew -/
def forF (it : Items) (f : D → Env → Store → Fl) : Nat → Nat → Env → Store → Fl
  | 0, _, _, _ => .bad
  | m + 1, i, σ, S => match it.get S i with
    | none => .bad
    | some none => .nx σ S
    | some (some d) => (match f d σ S with
      | .nx σ1 S1 => forF it f m (i + 1) σ1 S1
      | .ct σ1 S1 => forF it f m (i + 1) σ1 S1
      | .bk σ1 S1 => .nx σ1 S1
      | r => r)
def whileF (t : Env → Store → Out Bool) (f : Env → Store → Fl) : Nat → Env → Store → Fl
  | 0, _, _ => .bad
  | m + 1, σ, S => (t σ S).use σ fun k S1 => if k = true then (match f σ S1 with
      | .nx σ1 S2 => whileF t f m σ1 S2
      | .ct σ1 S2 => whileF t f m σ1 S2
      | .bk σ1 S2 => .nx σ1 S2
      | r => r) else .nx σ S1

/-- one of several targets -/
def asg1 (c : Cfg) (N : List Str) (n : Nat) (sc : Scope) (tg : Expr) (d : D) (σ : Env) (S : Store) : Fl := match tg with
  | .Name x _ => (match stOf sc N x with
    | some i => if c.hotAt i then .bad else .nx (σ.set i (some d)) S
    | none => .bad)
  | .Attribute o f _ => (ev c N n sc o σ S).use σ fun x S2 => (match fldS (c.flds f) S2 x d f with
    | some S3 => .nx σ S3
    | none => .bad)
  | .Subscript o i _ => if isSlice i then .bad else (ev c N n sc o σ S).use σ fun x S2 => (ev c N n sc i σ S2).use σ fun y S3 => (match setD S3 x y d with
    | some S4 => .nx σ S4
    | none => .bad)
  | _ => .bad
def runT : List (D → Env → Store → Fl) → List D → Env → Store → Fl
  | [], [], σ, S => .nx σ S
  | g :: gs, d :: ds, σ, S => (g d σ S).seq (runT gs ds)
  | _, _, _, _ => .bad
def asgs (c : Cfg) (N : List Str) (n : Nat) (sc : Scope) (es : List Expr) : List D → Env → Store → Fl := runT (es.map (asg1 c N n sc))
def isNm : Expr → Bool
  | .Name .. => true
  | _ => false
def okTg : Expr → Bool
  | .Name .. => true
  | .Attribute .. => true
  | .Subscript .. => true
  | _ => false
def mixT (es : List Expr) : Bool := es.all okTg && !es.all isNm
def locS (sc : Scope) (x : Str) : Bool := match sc.names.lookup x with
  | some .local => true
  | _ => false
/-- a, b = x, y : the names are stored from the right, no pair is made -/
def parC (sc : Scope) : List Expr → List Expr → Bool
  | [.Name x px, .Name y py], [a, b] => (locS sc x && (locS sc y && (py.line == px.line && !(x == y)))) && (!isStar a && (!isStar b && (!(foldedForSure 8 a && foldedForSure 8 b) && !(constantsAlone 8 a && constantsAlone 8 b))))
  | [.Name x px, .Name y py, .Name z pz], [a, b, d] => (locS sc x && (locS sc y && (locS sc z && (py.line == px.line && (pz.line == px.line && (!(x == y) && (!(x == z) && !(y == z)))))))) &&
      (!isStar a && (!isStar b && (!isStar d && (!(foldedForSure 8 a && (foldedForSure 8 b && foldedForSure 8 d)) && !(constantsAlone 8 a && (constantsAlone 8 b && constantsAlone 8 d))))))
  | _, _ => false
def parV (sc : Scope) (es : List Expr) : Expr → Option (List Expr)
  | .Tuple vs _ _ => if parC sc es vs then some vs else none
  | _ => none
/-- the slot of an except clause's name -/
def heldAt (sc : Scope) (N : List Str) : Option Str → Option Nat
  | none => some N.length
  | some nm => if sc.names.lookup nm = some .local then N.idxOf? nm else none
/-- a suite's end: the error is let go -/
def hotEnd (i : Nat) : Fl → Fl
  | .nx σ S => .nx (σ.set i none) S
  | .bk σ S => .bk (σ.set i none) S
  | .ct σ S => .ct (σ.set i none) S
  | .rt d S => .rt d S
  | _ => .bad
mutual
def ex (c : Cfg) (N : List Str) (sc : Scope) : Nat → Stmt → Env → Store → Fl
  | 0, _, _, _ => .bad
  | n + 1, st, σ, S => match st with
    | .Pass _ => .nx σ S
    | .Break _ => .bk σ S
    | .Continue _ => .ct σ S
    | .Return none _ => .rt .non S
    | .Return (some e) _ => (ev c N n sc e σ S).use σ fun x S1 => .rt x S1
    | .Expr e _ => (match e with
      | .Call .. => (ev c N n sc e σ S).use σ fun _ S1 => .nx σ S1
      | _ => .bad)
    | .If t a b _ => (evT c N n sc t σ S).use σ fun k S1 => if k = true then exs c N sc n a σ S1 else exs c N sc n b σ S1
    | .Assign [.Name x p] e _ => if okSet sc x p e then (match stOf sc N x with
      | some i => if c.hotAt i then .bad else (ev c N n sc e σ S).use σ fun d S1 => .nx (σ.set i (some d)) S1
      | none => .bad) else .bad
    | .Assign [.Subscript o i _] e _ => if isSlice i then .bad else (ev c N n sc e σ S).use σ fun d S1 => (ev c N n sc o σ S1).use σ fun x S2 => (ev c N n sc i σ S2).use σ fun y S3 => (match setD S3 x y d with
      | some S4 => .nx σ S4
      | none => .bad)
    | .Assign [.Attribute o f _] e _ => (ev c N n sc e σ S).use σ fun d S1 => (ev c N n sc o σ S1).use σ fun x S2 => (match fldS (c.flds f) S2 x d f with
      | some S3 => .nx σ S3
      | none => .bad)
    | .Assign [.Tuple es k p] e _ => if !c.calm then .bad else (match tgNames (.Tuple es k p) with
      | some xs => (match slotsOf sc N xs with
        | some is => if isTup e then (match parV sc es e with
            | some vs => (evA c N n sc vs σ S).use σ fun ds S1 => if ds.length = is.length then .nx (setAll σ is ds) S1 else .bad
            | none => .bad)
          else (ev c N n sc e σ S).use σ fun d S1 => (match bindTg (.Tuple es k p) sc N σ d with
          | some σ1 => .nx σ1 S1
          | none => .bad)
        | none => .bad)
      | none => if mixT es then (ev c N n sc e σ S).use σ fun d S1 => (match seqT d with
          | some ds => if ds.length = es.length then asgs c N n sc es ds σ S1 else .bad
          | none => .bad) else .bad)
    | .While t body [] _ => whileF (evT c N n sc t) (exs c N sc n body) loopMost σ S
    | .For tg iter body [] _ => if !c.calm || isSet iter then .bad else (match tgNames tg with
      | some xs => (match slotsOf sc N xs with
        | some _ => (evI c N n (isTup tg) sc iter σ S).use σ fun it S1 => forF it (fun d σ1 S2 => match bindTg tg sc N σ1 d with
          | some σ2 => exs c N sc n body σ2 S2
          | none => .bad) loopMost 0 σ S1
        | none => .bad)
      | none => .bad)
    | .Raise (some (.Call (.Name x _) [.Constant (.str _) _ _] [] _)) none _ => if plainName x && c.excs x && (nmOf sc N x).isGlob then .exc x σ S else .bad
    | .Try body [.ExceptHandler (some (.Name y _)) nm (b0 :: suite) _] [] [] _ => if c.calm && (plainName y && ((nmOf sc N y).isGlob && (c.kits y y).isSome)) then (match heldAt sc N nm with
      | some i => (match exs c N sc n body σ S with
        | .exc x σ1 S1 => (match c.kits x y with
          | some true => if nm.isSome && decide (σ1.length ≤ i) then .bad else hotEnd i (exs (c.hotC i x) N sc n (b0 :: suite) (σ1.set i none) S1)
          | some false => .exc x σ1 S1
          | none => .bad)
        | r => r)
      | none => .bad) else .bad
    | _ => .bad
def exs (c : Cfg) (N : List Str) (sc : Scope) : Nat → List Stmt → Env → Store → Fl
  | 0, _, _, _ => .bad
  | n + 1, sts, σ, S => match sts with
    | [] => .nx σ S
    | [st] => ex c N sc n st σ S
    | st :: rest => (ex c N sc n st σ S).seq (exs c N sc n rest)
end

/-! ### a def -/
mutual
def below (n : Nat) : D → Bool
  | .ref l => decide (l < n)
  | .tup xs => belows n xs
  | .lst xs => belows n xs
  | _ => true
def belows (n : Nat) : List D → Bool
  | [] => true
  | x :: xs => below n x && belows n xs
end
def obBelow (n : Nat) : Ob → Bool
  | .lst xs => belows n xs
  | .ins _ fs => belows n (fs.map (·.2))
  | .dic kvs => belows n (kvs.map (·.2))
  | .dead => true
/-- what a def leaves: its own objects are forgotten where nothing names them; a list of its own that is handed back, unless it is to be changed further, becomes a value -/
def fin (frz : Bool) (n : Nat) (d : D) (S : Store) : Out D :=
  let d1 := if frz then (match d with
    | .ref l => if l < n then d else (match S[l]? with
      | some (.lst xs) => .lst xs
      | _ => d)
    | d => d) else d
  if S.length = n ∧ frz = false then .ok d1 S
  else if below n d1 && (S.take n).all (obBelow n) then .ok d1 (S.take n) else .ok d S
def finX (n : Nat) (c : Str) (S : Store) : Out D :=
  if S.length = n then .exc c S else if (S.take n).all (obBelow n) then .exc c (S.take n) else .exc c S
def runF (c : Cfg) (frz : Bool) (ps N : List Str) (sc : Scope) (fuel : Nat) (body : List Stmt) : Fn := fun args S =>
  if args.length = ps.length then (match exs c N sc fuel body (args.map some ++ List.replicate (N.length - args.length) none) S with
    | .nx _ S' => fin frz S.length .non S'
    | .rt d S' => fin frz S.length d S'
    | .exc x _ S' => finX S.length x S'
    | _ => .bad) else .bad
end Q
/-! Q2: plain data stand in the heap of HandS. -/
namespace Q
open PySem PySem.Spec PyProof.Rows L2

def KT (K : PySem.W.Frag) (a : Addr) (vs : List V) : Prop :=
  ∃ (o : Obj) (its : Array Value) (n : Nat), K.lookup a = some o ∧ o.cls = .type "tuple" ∧ o.data = .seq its n ∧ its.size ≤ sizeLine ∧ Vals vs its.toList
/-- the places of the store's objects, and places that somebody is just writing at -/
structure Pl where
  l : List Addr
  b : List Addr
  pin : Option (Nat × Addr)
/-- where the classes stand; the place and the address of the error that a suite holds -/
structure CA where
  ad : Str → Addr
  pin : Option (Nat × Addr)
instance : CoeFun CA (fun _ => Str → Addr) := ⟨CA.ad⟩
def Pl.has (ρ : Pl) (a : Addr) : Prop := a ∈ ρ.l ∨ a ∈ ρ.b
def TupAt (K : PySem.W.Frag) (ρ : Pl) (H : Hp) (a : Addr) (vs : List V) : Prop := (Rd H a (.tup vs) ∧ ¬ ρ.has a) ∨ KT K a vs
def KL (K : PySem.W.Frag) (a : Addr) (vs : List V) : Prop :=
  ∃ (o : Obj) (its : Array Value) (n : Nat), K.lookup a = some o ∧ o.cls = .type "list" ∧ o.dict = none ∧ o.data = .seq its n ∧ its.size ≤ sizeLine ∧ Vals vs its.toList
def LstAt (K : PySem.W.Frag) (ρ : Pl) (H : Hp) (a : Addr) (vs : List V) : Prop := (Rd H a (.lst vs) ∧ ¬ ρ.has a) ∨ KL K a vs

mutual
inductive Rep (K : PySem.W.Frag) (ρ : Pl) (H : Hp) : D → V → Prop
  | non : Rep K ρ H .non .non
  | bl (b : Bool) : Rep K ρ H (.bl b) (.bl b)
  | int (i : Int) : Rep K ρ H (.int i) (.int i)
  | str (x : Str) : Rep K ρ H (.str x) (.str x)
  | tup {ds : List D} {a : Addr} {vs : List V} : TupAt K ρ H a vs → Reps K ρ H ds vs → Rep K ρ H (.tup ds) (.ref a)
  | lst {ds : List D} {a : Addr} {vs : List V} : LstAt K ρ H a vs → Reps K ρ H ds vs → Rep K ρ H (.lst ds) (.ref a)
  | ref {l : Nat} {a : Addr} : ρ.l[l]? = some a → Rep K ρ H (.ref l) (.ref a)
inductive Reps (K : PySem.W.Frag) (ρ : Pl) (H : Hp) : List D → List V → Prop
  | nil : Reps K ρ H [] []
  | cons {d : D} {v : V} {ds : List D} {vs : List V} : Rep K ρ H d v → Reps K ρ H ds vs → Reps K ρ H (d :: ds) (v :: vs)
end

structure Ext (ρ : Pl) (H : Hp) (ρ' : Pl) (H' : Hp) : Prop where
  pre : ∃ τ, ρ'.l = ρ.l ++ τ ∧ ∀ a ∈ τ, H a = none
  lo : ∀ a, a ∈ ρ.b → a ∈ ρ'.b
  hi : ∀ a, a ∈ ρ'.b → a ∈ ρ.b ∨ H a = none
  keep : ∀ a o, a ∉ ρ.l → H a = some o → H' a = some o
  tr : ∀ a, H' a = none → H a = none
  pn : ρ'.pin = ρ.pin

section
variable {K : PySem.W.Frag} {cA : CA} {ρ ρ' ρ1 ρ2 : Pl} {H H' H1 H2 : Hp}
theorem Ext.refl : Ext ρ H ρ H := ⟨⟨[], by simp⟩, fun _ h => h, fun _ h => .inl h, fun _ _ _ e => e, fun _ e => e, rfl⟩
theorem Ext.trans (a : Ext ρ H ρ1 H1) (b : Ext ρ1 H1 ρ2 H2) : Ext ρ H ρ2 H2 := by
  obtain ⟨τ, e1, f1⟩ := a.pre
  obtain ⟨τ', e2, f2⟩ := b.pre
  refine ⟨⟨τ ++ τ', by rw [e2, e1, List.append_assoc], fun x hx => ?_⟩, fun x h => b.lo x (a.lo x h), fun x h => (b.hi x h).elim (a.hi x) fun z => .inr (a.tr x z), fun x o nx e => ?_, fun x e => a.tr x (b.tr x e), b.pn.trans a.pn⟩
  · rcases List.mem_append.mp hx with h | h
    · exact f1 x h
    · exact a.tr x (f2 x h)
  · refine b.keep x o (fun h => ?_) (a.keep x o nx e)
    rw [e1] at h
    rcases List.mem_append.mp h with h | h
    · exact nx h
    · rw [f1 x h] at e; cases e
theorem Ext.get (e : Ext ρ H ρ' H') {l : Nat} {a : Addr} (h : ρ.l[l]? = some a) : ρ'.l[l]? = some a := by
  obtain ⟨τ, e1, _⟩ := e.pre
  rw [e1, List.getElem?_append_left (List.getElem?_eq_some_iff.mp h).1]; exact h
theorem Ext.nmem (e : Ext ρ H ρ' H') {a : Addr} (h : ¬ ρ.has a) (t : H a ≠ none) : ¬ ρ'.has a := by
  obtain ⟨τ, e1, f⟩ := e.pre
  intro q
  rcases q with q | q
  · rw [e1] at q
    rcases List.mem_append.mp q with q | q
    · exact h (.inl q)
    · exact t (f a q)
  · exact (e.hi a q).elim (fun z => h (.inr z)) t
theorem Rd.ne {a : Addr} {u : HO} (h : Rd H a u) : H a ≠ none := by
  rcases h with h | ⟨o, h⟩ <;> rw [h] <;> simp
theorem Rd.ext (e : Ext ρ H ρ' H') {a : Addr} {u : HO} (h : Rd H a u) (n : ¬ ρ.has a) : Rd H' a u := by
  rcases h with h | ⟨o, h⟩
  · exact .inl (e.keep a _ (fun z => n (.inl z)) h)
  · exact .inr ⟨o, e.keep a _ (fun z => n (.inl z)) h⟩
theorem TupAt.ext (e : Ext ρ H ρ' H') {a : Addr} {vs : List V} (h : TupAt K ρ H a vs) : TupAt K ρ' H' a vs := by
  rcases h with ⟨h, n⟩ | h
  · exact .inl ⟨Rd.ext e h n, e.nmem n (Rd.ne h)⟩
  · exact .inr h
theorem LstAt.ext (e : Ext ρ H ρ' H') {a : Addr} {vs : List V} (h : LstAt K ρ H a vs) : LstAt K ρ' H' a vs := by
  rcases h with ⟨h, n⟩ | h
  · exact .inl ⟨Rd.ext e h n, e.nmem n (Rd.ne h)⟩
  · exact .inr h
theorem TupAt.sq {a : Addr} {vs : List V} (h : TupAt K ρ H a vs) : SqT K H a vs := by
  rcases h with ⟨h, _⟩ | h
  · exact .inl h
  · exact .inr h
theorem LstAt.sq {a : Addr} {vs : List V} (h : LstAt K ρ H a vs) : SqL K H a vs := by
  rcases h with ⟨h, _⟩ | h
  · exact .inl h
  · exact .inr h
mutual
theorem Rep.ext (e : Ext ρ H ρ' H') : ∀ {d : D} {v : V}, Rep K ρ H d v → Rep K ρ' H' d v
  | _, _, .non => .non
  | _, _, .bl b => .bl b
  | _, _, .int i => .int i
  | _, _, .str x => .str x
  | _, _, .tup h r => .tup (h.ext e) (Reps.ext e r)
  | _, _, .lst h r => .lst (h.ext e) (Reps.ext e r)
  | _, _, .ref h => .ref (e.get h)
theorem Reps.ext (e : Ext ρ H ρ' H') : ∀ {ds : List D} {vs : List V}, Reps K ρ H ds vs → Reps K ρ' H' ds vs
  | _, _, .nil => .nil
  | _, _, .cons r t => .cons (Rep.ext e r) (Reps.ext e t)
end
theorem Reps.length : ∀ {ds : List D} {vs : List V}, Reps K ρ H ds vs → ds.length = vs.length
  | _, _, .nil => rfl
  | _, _, .cons _ t => congrArg (· + 1) t.length
theorem Reps.get : ∀ {ds : List D} {vs : List V} {i : Nat} {d : D}, Reps K ρ H ds vs → ds[i]? = some d → ∃ v, vs[i]? = some v ∧ Rep K ρ H d v
  | _, _, _, _, .nil, e => by simp at e
  | _, _, 0, _, .cons r _, e => by simp at e; subst e; exact ⟨_, rfl, r⟩
  | _, _, i + 1, d, .cons _ t, e => by
    obtain ⟨v, h1, h2⟩ := Reps.get (i := i) (d := d) t (by simpa using e)
    exact ⟨v, by simpa using h1, h2⟩
theorem Reps.getV : ∀ {ds : List D} {vs : List V} {i : Nat} {v : V}, Reps K ρ H ds vs → vs[i]? = some v → ∃ d, ds[i]? = some d ∧ Rep K ρ H d v
  | _, _, _, _, .nil, e => by simp at e
  | _, _, 0, _, .cons r _, e => by simp at e; subst e; exact ⟨_, rfl, r⟩
  | _, _, i + 1, d, .cons _ t, e => by
    obtain ⟨v, h1, h2⟩ := Reps.getV (i := i) (v := d) t (by simpa using e)
    exact ⟨v, by simpa using h1, h2⟩
theorem Reps.append : ∀ {ds es : List D} {vs ws : List V}, Reps K ρ H ds vs → Reps K ρ H es ws → Reps K ρ H (ds ++ es) (vs ++ ws)
  | _, _, _, _, .nil, s => s
  | _, _, _, _, .cons r t, s => .cons r (Reps.append t s)
theorem Reps.take : ∀ {ds : List D} {vs : List V} (n : Nat), Reps K ρ H ds vs → Reps K ρ H (ds.take n) (vs.take n)
  | _, _, 0, _ => .nil
  | _, _, _ + 1, .nil => .nil
  | _, _, n + 1, .cons r t => .cons r (Reps.take n t)
theorem Reps.drop : ∀ {ds : List D} {vs : List V} (n : Nat), Reps K ρ H ds vs → Reps K ρ H (ds.drop n) (vs.drop n)
  | _, _, 0, r => r
  | _, _, _ + 1, .nil => .nil
  | _, _, n + 1, .cons r t => Reps.drop n t
theorem Reps.set {d : D} {v : V} (r : Rep K ρ H d v) : ∀ {ds : List D} {vs : List V} (i : Nat), Reps K ρ H ds vs → Reps K ρ H (ds.set i d) (vs.set i v)
  | _, _, _, .nil => .nil
  | _, _, 0, .cons _ t => .cons r t
  | _, _, i + 1, .cons q t => .cons q (Reps.set r i t)
theorem Reps.cut {ds : List D} {vs : List V} (r : Reps K ρ H ds vs) (lo hi : Option Int) : Reps K ρ H (Q.cut ds lo hi) (cutV vs lo hi) := by
  unfold Q.cut cutV
  rw [r.length]
  exact (r.drop _).take _

/-! ### the store -/
inductive FReps (K : PySem.W.Frag) (ρ : Pl) (H : Hp) {κ : Type} : List (κ × D) → List (κ × V) → Prop
  | nil : FReps K ρ H [] []
  | cons {k : κ} {d : D} {v : V} {ds : List (κ × D)} {vs : List (κ × V)} : Rep K ρ H d v → FReps K ρ H ds vs → FReps K ρ H ((k, d) :: ds) ((k, v) :: vs)
theorem FReps.ext {κ : Type} (e : Ext ρ H ρ' H') : ∀ {ds : List (κ × D)} {vs : List (κ × V)}, FReps K ρ H ds vs → FReps K ρ' H' ds vs
  | _, _, .nil => .nil
  | _, _, .cons r t => .cons (Rep.ext e r) (FReps.ext e t)
variable (K cA) in
def ObR (ρ : Pl) (H : Hp) (a : Addr) : Ob → Prop
  | .lst ds => ∃ vs, H a = some (.lst vs) ∧ Reps K ρ H ds vs
  | .ins C fs => ∃ dx vs, H a = some (.ins (cA C) dx vs) ∧ FReps K ρ H fs vs
  | .dic kvs => ∃ vs, H a = some (.dK vs) ∧ FReps K ρ H kvs vs
  | .dead => ∃ o, H a = some o
theorem ObR.tr {a : Addr} {o : Ob} (h : ObR K cA ρ H a o) : H a ≠ none := by
  cases o with
  | lst ds => obtain ⟨vs, e, _⟩ := h; rw [e]; simp
  | ins C fs => obtain ⟨_, vs, e, _⟩ := h; rw [e]; simp
  | dic kvs => obtain ⟨vs, e, _⟩ := h; rw [e]; simp
  | dead => obtain ⟨o, e⟩ := h; rw [e]; simp
theorem ObR.ext {a : Addr} {o : Ob} (h : ObR K cA ρ H a o) (e : Ext ρ H ρ' H') (s : ∀ u, H a = some u → H' a = some u) : ObR K cA ρ' H' a o := by
  cases o with
  | lst ds => obtain ⟨vs, q, r⟩ := h; exact ⟨vs, s _ q, r.ext e⟩
  | ins C fs => obtain ⟨dx, vs, q, r⟩ := h; exact ⟨dx, vs, s _ q, r.ext e⟩
  | dic kvs => obtain ⟨vs, q, r⟩ := h; exact ⟨vs, s _ q, r.ext e⟩
  | dead => obtain ⟨o, q⟩ := h; exact ⟨o, s _ q⟩
variable (K cA) in
structure StR (ρ : Pl) (H : Hp) (S : Store) : Prop where
  len : ρ.l.length = S.length
  nd : ρ.l.Nodup
  ob : ∀ (l : Nat) (o : Ob), S[l]? = some o → ∃ a, ρ.l[l]? = some a ∧ ObR K cA ρ H a o
  bl : ∀ a ∈ ρ.b, H a ≠ none ∧ a ∉ ρ.l
  pin : ρ.pin = cA.pin
theorem StR.at {S : Store} (s : StR K cA ρ H S) {l : Nat} {o : Ob} {a : Addr} (e : S[l]? = some o) (f : ρ.l[l]? = some a) : ObR K cA ρ H a o := by
  obtain ⟨b, g, r⟩ := s.ob l o e
  rw [f] at g; cases g; exact r
theorem StR.trk {S : Store} (s : StR K cA ρ H S) {a : Addr} (h : a ∈ ρ.l) : H a ≠ none := by
  obtain ⟨l, hl, e⟩ := List.getElem_of_mem h
  have hl' : l < S.length := by rw [← s.len]; exact hl
  have := s.at (l := l) (o := S[l]) (a := a) (List.getElem?_eq_getElem hl') (by rw [List.getElem?_eq_getElem hl, e])
  exact this.tr
theorem StR.freshL {S : Store} (s : StR K cA ρ H S) {p : Addr} (h : H p = none) : p ∉ ρ.l := fun q => s.trk q h
theorem StR.fresh {S : Store} (s : StR K cA ρ H S) {p : Addr} (h : H p = none) : ¬ ρ.has p := by
  rintro (q | q)
  · exact s.trk q h
  · exact (s.bl p q).1 h
/-- a new object that is a value -/
theorem ext_new {S : Store} (s : StR K cA ρ H S) {p : Addr} {u : HO} (h : H p = none) : Ext ρ H ρ (upd H p u) ∧ StR K cA ρ (upd H p u) S := by
  have e : Ext ρ H ρ (upd H p u) := by
    refine ⟨⟨[], by simp⟩, fun _ h => h, fun _ h => .inl h, fun a o _ q => ?_, fun a q => ?_, rfl⟩
    · rw [upd_ne (ne_of_none q h)]; exact q
    · by_cases z : a = p
      · rw [z]; exact h
      · rw [upd_ne z] at q; exact q
  refine ⟨e, s.len, s.nd, fun l o q => ?_, fun a q => ⟨fun z => (s.bl a q).1 (e.tr a z), (s.bl a q).2⟩, s.pin⟩
  obtain ⟨a, f, r⟩ := s.ob l o q
  exact ⟨a, f, r.ext e fun v z => by rw [upd_ne (ne_of_none z h)]; exact z⟩
def Pl.more (ρ : Pl) (p : Addr) : Pl := ⟨ρ.l ++ [p], ρ.b, ρ.pin⟩
/-- a new object in the store -/
theorem ext_alloc {S : Store} (s : StR K cA ρ H S) {p : Addr} {u : HO} {o : Ob} (h : H p = none) (r : ∀ ρ' H', Ext ρ H ρ' H' → H' p = some u → ObR K cA ρ' H' p o) :
    Ext ρ H (ρ.more p) (upd H p u) ∧ StR K cA (ρ.more p) (upd H p u) (S ++ [o]) := by
  have e : Ext ρ H (ρ.more p) (upd H p u) := by
    refine ⟨⟨[p], rfl, fun a q => ?_⟩, fun _ h => h, fun _ h => .inl h, fun a o _ q => ?_, fun a q => ?_, rfl⟩
    · rw [List.mem_singleton.mp q]; exact h
    · rw [upd_ne (ne_of_none q h)]; exact q
    · by_cases z : a = p
      · rw [z]; exact h
      · rw [upd_ne z] at q; exact q
  refine ⟨e, by simp [Pl.more, s.len], ?_, fun l o' q => ?_, fun a q => ⟨fun z => (s.bl a q).1 (e.tr a z), fun z => ?_⟩, s.pin⟩
  · show (ρ.l ++ [p]).Nodup
    rw [List.nodup_append]
    refine ⟨s.nd, by simp, fun a ha b hb z => ?_⟩
    rw [List.mem_singleton.mp hb] at z
    exact s.freshL h (z ▸ ha)
  · by_cases hl : l < S.length
    · rw [List.getElem?_append_left hl] at q
      obtain ⟨a, f, r'⟩ := s.ob l o' q
      exact ⟨a, e.get f, r'.ext e fun v z => by rw [upd_ne (ne_of_none z h)]; exact z⟩
    · rw [List.getElem?_append_right (Nat.le_of_not_lt hl)] at q
      have z : l - S.length = 0 := by
        have := (List.getElem?_eq_some_iff.mp q).1
        simp at this; omega
      rw [z] at q
      simp at q
      subst q
      refine ⟨p, ?_, r _ _ e upd_same⟩
      show (ρ.l ++ [p])[l]? = some p
      rw [List.getElem?_append_right (by rw [s.len]; exact Nat.le_of_not_lt hl), s.len, z]; rfl
  · have z : a ∈ ρ.l ++ [p] := z
    rcases List.mem_append.mp z with z | z
    · exact (s.bl a q).2 z
    · rw [List.mem_singleton.mp z] at q
      exact (s.bl p q).1 h
/-- an object of the store is changed -/
theorem ext_write {S : Store} (s : StR K cA ρ H S) {l : Nat} {a : Addr} {u : HO} {o : Ob} (h : ρ.l[l]? = some a) (r : ∀ H', Ext ρ H ρ H' → H' a = some u → ObR K cA ρ H' a o) :
    Ext ρ H ρ (upd H a u) ∧ StR K cA ρ (upd H a u) (S.set l o) := by
  have ha : a ∈ ρ.l := List.mem_of_getElem? h
  have e : Ext ρ H ρ (upd H a u) := by
    refine ⟨⟨[], by simp⟩, fun _ h => h, fun _ h => .inl h, fun b o n q => ?_, fun b q => ?_, rfl⟩
    · rw [upd_ne (fun z => n (by rw [z]; exact ha))]; exact q
    · by_cases z : b = a
      · rw [z, upd_same] at q; cases q
      · rw [upd_ne z] at q; exact q
  refine ⟨e, by simp [s.len], s.nd, fun l' o' q => ?_, fun b q => ⟨fun z => (s.bl b q).1 (e.tr b z), (s.bl b q).2⟩, s.pin⟩
  by_cases hl : l' = l
  · subst hl
    have hs : l' < S.length := by
      have := (List.getElem?_eq_some_iff.mp q).1
      simpa using this
    rw [List.getElem?_set_self hs] at q
    cases q
    exact ⟨a, h, r _ e upd_same⟩
  · rw [List.getElem?_set_ne (fun z => hl z.symm)] at q
    obtain ⟨b, f, r'⟩ := s.ob l' o' q
    refine ⟨b, f, r'.ext e fun v z => ?_⟩
    rw [upd_ne]; exact z
    intro w
    rw [w] at f
    obtain ⟨h1, e1⟩ := List.getElem?_eq_some_iff.mp f
    obtain ⟨h2, e2⟩ := List.getElem?_eq_some_iff.mp h
    exact hl ((List.getElem_inj s.nd).mp (e1.trans e2.symm))
/-! a place that is being written at -/
mutual
theorem Rep.turn {f : Hp → Hp} (k : ∀ a u, ¬ ρ.has a → Rd H a u → Rd (f H) a u) : ∀ {d : D} {v : V}, Rep K ρ H d v → Rep K ρ (f H) d v
  | _, _, .non => .non
  | _, _, .bl b => .bl b
  | _, _, .int i => .int i
  | _, _, .str x => .str x
  | _, _, .tup (.inl ⟨h, n⟩) r => .tup (.inl ⟨k _ _ n h, n⟩) (Reps.turn k r)
  | _, _, .tup (.inr h) r => .tup (.inr h) (Reps.turn k r)
  | _, _, .lst (.inl ⟨h, n⟩) r => .lst (.inl ⟨k _ _ n h, n⟩) (Reps.turn k r)
  | _, _, .lst (.inr h) r => .lst (.inr h) (Reps.turn k r)
  | _, _, .ref h => .ref h
theorem Reps.turn {f : Hp → Hp} (k : ∀ a u, ¬ ρ.has a → Rd H a u → Rd (f H) a u) : ∀ {ds : List D} {vs : List V}, Reps K ρ H ds vs → Reps K ρ (f H) ds vs
  | _, _, .nil => .nil
  | _, _, .cons r t => .cons (Rep.turn k r) (Reps.turn k t)
end
mutual
theorem Rep.pl {σ : Pl} (hl : ∀ (i : Nat) (a : Addr), ρ.l[i]? = some a → σ.l[i]? = some a) (hb : ∀ a, σ.has a → ρ.has a ∨ H a = none) : ∀ {d : D} {v : V}, Rep K ρ H d v → Rep K σ H d v
  | _, _, .non => .non
  | _, _, .bl b => .bl b
  | _, _, .int i => .int i
  | _, _, .str x => .str x
  | _, _, .tup (.inl ⟨h, n⟩) r => .tup (.inl ⟨h, fun z => (hb _ z).elim n fun z => Rd.ne h z⟩) (Reps.pl hl hb r)
  | _, _, .tup (.inr h) r => .tup (.inr h) (Reps.pl hl hb r)
  | _, _, .lst (.inl ⟨h, n⟩) r => .lst (.inl ⟨h, fun z => (hb _ z).elim n fun z => Rd.ne h z⟩) (Reps.pl hl hb r)
  | _, _, .lst (.inr h) r => .lst (.inr h) (Reps.pl hl hb r)
  | _, _, .ref h => .ref (hl _ _ h)
theorem Reps.pl {σ : Pl} (hl : ∀ (i : Nat) (a : Addr), ρ.l[i]? = some a → σ.l[i]? = some a) (hb : ∀ a, σ.has a → ρ.has a ∨ H a = none) : ∀ {ds : List D} {vs : List V}, Reps K ρ H ds vs → Reps K σ H ds vs
  | _, _, .nil => .nil
  | _, _, .cons r t => .cons (Rep.pl hl hb r) (Reps.pl hl hb t)
end
theorem FReps.pl {κ : Type} {σ : Pl} (hl : ∀ (i : Nat) (a : Addr), ρ.l[i]? = some a → σ.l[i]? = some a) (hb : ∀ a, σ.has a → ρ.has a ∨ H a = none) : ∀ {ds : List (κ × D)} {vs : List (κ × V)}, FReps K ρ H ds vs → FReps K σ H ds vs
  | _, _, .nil => .nil
  | _, _, .cons r t => .cons (Rep.pl hl hb r) (FReps.pl hl hb t)
theorem FReps.turn {κ : Type} {f : Hp → Hp} (k : ∀ a u, ¬ ρ.has a → Rd H a u → Rd (f H) a u) : ∀ {ds : List (κ × D)} {vs : List (κ × V)}, FReps K ρ H ds vs → FReps K ρ (f H) ds vs
  | _, _, .nil => .nil
  | _, _, .cons r t => .cons (Rep.turn k r) (FReps.turn k t)
theorem ObR.pl {σ : Pl} (hl : ∀ (i : Nat) (a : Addr), ρ.l[i]? = some a → σ.l[i]? = some a) (hb : ∀ a, σ.has a → ρ.has a ∨ H a = none) {a : Addr} {o : Ob} (h : ObR K cA ρ H a o) : ObR K cA σ H a o := by
  cases o with
  | lst ds => obtain ⟨vs, q, r⟩ := h; exact ⟨vs, q, r.pl hl hb⟩
  | ins C fs => obtain ⟨dx, vs, q, r⟩ := h; exact ⟨dx, vs, q, r.pl hl hb⟩
  | dic kvs => obtain ⟨vs, q, r⟩ := h; exact ⟨vs, q, r.pl hl hb⟩
  | dead => exact h
theorem ObR.turn {f : Hp → Hp} (k : ∀ a u, ¬ ρ.has a → Rd H a u → Rd (f H) a u) {a : Addr} {o : Ob} (ha : ∀ u, H a = some u → f H a = some u) (h : ObR K cA ρ H a o) : ObR K cA ρ (f H) a o := by
  cases o with
  | lst ds => obtain ⟨vs, q, r⟩ := h; exact ⟨vs, ha _ q, r.turn k⟩
  | ins C fs => obtain ⟨dx, vs, q, r⟩ := h; exact ⟨dx, vs, ha _ q, r.turn k⟩
  | dic kvs => obtain ⟨vs, q, r⟩ := h; exact ⟨vs, ha _ q, r.turn k⟩
  | dead => obtain ⟨o, q⟩ := h; exact ⟨o, ha _ q⟩
def Pl.lock (ρ : Pl) (p : Addr) : Pl := ⟨ρ.l, p :: ρ.b, ρ.pin⟩
/-- a new place is taken for writing -/
theorem lock_new {S : Store} (s : StR K cA ρ H S) {p : Addr} {u : HO} (h : H p = none) : Ext ρ H (ρ.lock p) (upd H p u) ∧ StR K cA (ρ.lock p) (upd H p u) S := by
  obtain ⟨e0, s'⟩ := ext_new (u := u) s h
  have e : Ext ρ H (ρ.lock p) (upd H p u) := ⟨e0.pre, fun a q => List.mem_cons_of_mem _ q, fun a q => by
    rcases List.mem_cons.mp q with z | z
    · exact .inr (by rw [z]; exact h)
    · exact .inl z, e0.keep, e0.tr, e0.pn⟩
  refine ⟨e, s.len, s.nd, fun l o q => ?_, fun a q => ?_, s.pin⟩
  · obtain ⟨a, f, r⟩ := s.ob l o q
    exact ⟨a, f, r.ext e fun v z => by rw [upd_ne (ne_of_none z h)]; exact z⟩
  · rcases List.mem_cons.mp q with z | z
    · rw [z]
      exact ⟨by rw [upd_same]; simp, s.freshL h⟩
    · exact s'.bl a z
/-- what is written at such a place changes nothing else -/
theorem lock_turn {S : Store} {p : Addr} {u : HO} (s : StR K cA ρ H S) (hp : p ∈ ρ.b) : StR K cA ρ (upd H p u) S ∧ (∀ {d v}, Rep K ρ H d v → Rep K ρ (upd H p u) d v) ∧ (∀ {d v}, Reps K ρ H d v → Reps K ρ (upd H p u) d v) := by
  have k : ∀ a u', ¬ ρ.has a → Rd H a u' → Rd (upd H p u) a u' := fun a u' n q => by
    have z : a ≠ p := fun z => n (.inr (by rw [z]; exact hp))
    rcases q with q | ⟨o, q⟩
    · exact .inl (by rw [upd_ne z]; exact q)
    · exact .inr ⟨o, by rw [upd_ne z]; exact q⟩
  refine ⟨⟨s.len, s.nd, fun l o q => ?_, fun a q => ⟨fun z => ?_, (s.bl a q).2⟩, s.pin⟩, fun r => r.turn (f := fun H => upd H p u) k, fun r => r.turn (f := fun H => upd H p u) k⟩
  · obtain ⟨a, f, r⟩ := s.ob l o q
    refine ⟨a, f, r.turn (f := fun H => upd H p u) k fun v z => ?_⟩
    show upd H p u a = _
    rw [upd_ne]; exact z
    intro w
    exact (s.bl p hp).2 (by rw [← w]; exact List.mem_of_getElem? f)
  · by_cases w : a = p
    · rw [w, upd_same] at z; cases z
    · rw [upd_ne w] at z; exact (s.bl a q).1 z
/-- such a place is let go -/
def Pl.drop (ρ : Pl) (p : Addr) : Pl := ⟨ρ.l, ρ.b.filter fun a => decide (a ≠ p), ρ.pin⟩
theorem unlock {S : Store} {p : Addr} (s : StR K cA ρ H S) : StR K cA (ρ.drop p) H S ∧ (∀ {d v}, Rep K ρ H d v → Rep K (ρ.drop p) H d v) ∧ (∀ {d v}, Reps K ρ H d v → Reps K (ρ.drop p) H d v) := by
  have hb : ∀ a, (ρ.drop p).has a → ρ.has a ∨ H a = none := fun a q => .inl (q.elim .inl fun q => .inr (List.mem_filter.mp q).1)
  refine ⟨⟨s.len, s.nd, fun l o q => ?_, fun a q => s.bl a (List.mem_filter.mp q).1, s.pin⟩, fun r => Rep.pl (ρ := ρ) (σ := ρ.drop p) (fun _ _ h => h) hb r, fun r => Reps.pl (ρ := ρ) (σ := ρ.drop p) (fun _ _ h => h) hb r⟩
  obtain ⟨a, f, r⟩ := s.ob l o q
  exact ⟨a, f, ObR.pl (ρ := ρ) (σ := ρ.drop p) (fun _ _ h => h) hb r⟩
/-- .. as an object of the store -/
theorem unlock_keep {S : Store} {p : Addr} {o : Ob} (s : StR K cA ρ H S) (hp : p ∈ ρ.b) (r : ∀ ρ', (∀ {d v}, Reps K ρ H d v → Reps K ρ' H d v) → ObR K cA ρ' H p o) :
    StR K cA ((ρ.drop p).more p) H (S ++ [o]) ∧ ((ρ.drop p).more p).l[S.length]? = some p := by
  have hpl : p ∉ ρ.l := (s.bl p hp).2
  have hl : ∀ (i : Nat) (a : Addr), ρ.l[i]? = some a → ((ρ.drop p).more p).l[i]? = some a := fun i a h => by
    show (ρ.l ++ [p])[i]? = some a
    rw [List.getElem?_append_left (List.getElem?_eq_some_iff.mp h).1]; exact h
  have hb : ∀ a, ((ρ.drop p).more p).has a → ρ.has a ∨ H a = none := fun a q => .inl (by
    rcases q with q | q
    · rcases List.mem_append.mp q with z | z
      · exact .inl z
      · rw [List.mem_singleton.mp z]; exact .inr hp
    · exact .inr (List.mem_filter.mp q).1)
  have hlast : ((ρ.drop p).more p).l[S.length]? = some p := by
    show (ρ.l ++ [p])[S.length]? = some p
    rw [List.getElem?_append_right (by rw [s.len]; exact Nat.le_refl _), s.len, Nat.sub_self]; rfl
  refine ⟨⟨by show (ρ.l ++ [p]).length = _; simp [s.len], ?_, fun l o' q => ?_, fun a q => ?_, s.pin⟩, hlast⟩
  · show (ρ.l ++ [p]).Nodup
    rw [List.nodup_append]
    refine ⟨s.nd, by simp, fun a ha b hb z => ?_⟩
    rw [List.mem_singleton.mp hb] at z
    exact hpl (z ▸ ha)
  · by_cases hl' : l < S.length
    · rw [List.getElem?_append_left hl'] at q
      obtain ⟨a, f, r'⟩ := s.ob l o' q
      exact ⟨a, hl _ _ f, ObR.pl (ρ := ρ) hl hb r'⟩
    · rw [List.getElem?_append_right (Nat.le_of_not_lt hl')] at q
      have z : l - S.length = 0 := by
        have := (List.getElem?_eq_some_iff.mp q).1
        simp at this; omega
      rw [z] at q
      simp at q
      subst q
      have e : l = S.length := by omega
      rw [e]
      exact ⟨p, hlast, r _ fun r => Reps.pl (ρ := ρ) hl hb r⟩
  · have q := List.mem_filter.mp q
    refine ⟨(s.bl a q.1).1, fun z => ?_⟩
    rcases List.mem_append.mp z with z | z
    · exact (s.bl a q.1).2 z
    · exact of_decide_eq_true q.2 (List.mem_singleton.mp z)
theorem FReps.mapR {κ : Type} (f : ∀ {d v}, Rep K ρ H d v → Rep K ρ' H' d v) : ∀ {ds : List (κ × D)} {vs : List (κ × V)}, FReps K ρ H ds vs → FReps K ρ' H' ds vs
  | _, _, .nil => .nil
  | _, _, .cons r t => .cons (f r) (FReps.mapR f t)
theorem unlock_keepD {S : Store} {p : Addr} {kvs : List (L2.Key × D)} {ws : List (L2.Key × V)} (s : StR K cA ρ H S) (hp : p ∈ ρ.b) (hv : H p = some (.dK ws)) (rs : FReps K ρ H kvs ws) :
    StR K cA ((ρ.drop p).more p) H (S ++ [.dic kvs]) ∧ ((ρ.drop p).more p).l[S.length]? = some p := by
  have hpl : p ∉ ρ.l := (s.bl p hp).2
  have hl : ∀ (i : Nat) (a : Addr), ρ.l[i]? = some a → ((ρ.drop p).more p).l[i]? = some a := fun i a h => by
    show (ρ.l ++ [p])[i]? = some a
    rw [List.getElem?_append_left (List.getElem?_eq_some_iff.mp h).1]; exact h
  have hb : ∀ a, ((ρ.drop p).more p).has a → ρ.has a ∨ H a = none := fun a q => .inl (by
    rcases q with q | q
    · rcases List.mem_append.mp q with z | z
      · exact .inl z
      · rw [List.mem_singleton.mp z]; exact .inr hp
    · exact .inr (List.mem_filter.mp q).1)
  have hlast : ((ρ.drop p).more p).l[S.length]? = some p := by
    show (ρ.l ++ [p])[S.length]? = some p
    rw [List.getElem?_append_right (by rw [s.len]; exact Nat.le_refl _), s.len, Nat.sub_self]; rfl
  refine ⟨⟨by show (ρ.l ++ [p]).length = _; simp [s.len], ?_, fun l o' q => ?_, fun a q => ?_, s.pin⟩, hlast⟩
  · show (ρ.l ++ [p]).Nodup
    rw [List.nodup_append]
    refine ⟨s.nd, by simp, fun a ha b hb z => ?_⟩
    rw [List.mem_singleton.mp hb] at z
    exact hpl (z ▸ ha)
  · by_cases hl' : l < S.length
    · rw [List.getElem?_append_left hl'] at q
      obtain ⟨a, f, r'⟩ := s.ob l o' q
      exact ⟨a, hl _ _ f, ObR.pl (ρ := ρ) hl hb r'⟩
    · rw [List.getElem?_append_right (Nat.le_of_not_lt hl')] at q
      have z : l - S.length = 0 := by
        have := (List.getElem?_eq_some_iff.mp q).1
        simp at this; omega
      rw [z] at q
      simp at q
      subst q
      have e : l = S.length := by omega
      rw [e]
      exact ⟨p, hlast, ws, hv, FReps.pl (ρ := ρ) hl hb rs⟩
  · have q := List.mem_filter.mp q
    refine ⟨(s.bl a q.1).1, fun z => ?_⟩
    rcases List.mem_append.mp z with z | z
    · exact (s.bl a q.1).2 z
    · exact of_decide_eq_true q.2 (List.mem_singleton.mp z)
theorem Ext.drop {p : Addr} (e : Ext ρ H ρ' H') (h : p ∉ ρ.b) : Ext ρ H (ρ'.drop p) H' :=
  ⟨e.pre, fun a q => List.mem_filter.mpr ⟨e.lo a q, decide_eq_true fun z => h (by rw [← z]; exact q)⟩, fun a q => e.hi a (List.mem_filter.mp q).1, e.keep, e.tr, e.pn⟩
theorem Ext.turn {p : Addr} {u : HO} (e : Ext ρ H ρ' H') (h : H p = none) : Ext ρ H ρ' (upd H' p u) := by
  refine ⟨e.pre, e.lo, e.hi, fun a o n q => ?_, fun a q => ?_, e.pn⟩
  · rw [upd_ne (ne_of_none q h)]; exact e.keep a o n q
  · by_cases z : a = p
    · rw [z]; exact h
    · rw [upd_ne z] at q; exact e.tr a q

/-! ### the slots -/
variable (K) in
structure EnvR (ρ : Pl) (H : Hp) (σd : Env) (σ : L2.St) : Prop where
  len : σd.length = σ.length
  get : ∀ (i : Nat) (d : D), σd[i]? = some (some d) → ∃ v, σ[i]? = some (some v) ∧ Rep K ρ H d v
  pin : ∀ (i : Nat) (a : Addr), ρ.pin = some (i, a) → σ[i]? = some (some (.ref a))
theorem EnvR.ext {σd : Env} {σ : L2.St} (r : EnvR K ρ H σd σ) (e : Ext ρ H ρ' H') : EnvR K ρ' H' σd σ :=
  ⟨r.len, fun i d h => let ⟨v, h1, h2⟩ := r.get i d h; ⟨v, h1, h2.ext e⟩, fun i a h => r.pin i a (e.pn ▸ h)⟩
theorem EnvR.set {σd : Env} {σ : L2.St} {i : Nat} {d : D} {v : V} (r : EnvR K ρ H σd σ) (q : Rep K ρ H d v) (hp : ∀ a, ρ.pin ≠ some (i, a)) : EnvR K ρ H (σd.set i (some d)) (σ.set i (some v)) := by
  refine ⟨by simp [r.len], fun j e h => ?_, fun j a h => by rw [List.getElem?_set_ne (fun z => hp a (by rw [z]; exact h))]; exact r.pin j a h⟩
  by_cases hj : i = j
  · subst hj
    have hl : i < σd.length := by
      have := (List.getElem?_eq_some_iff.mp h).1
      simpa using this
    rw [List.getElem?_set_self hl] at h
    cases h
    exact ⟨v, by rw [List.getElem?_set_self (by rw [← r.len]; exact hl)], q⟩
  · rw [List.getElem?_set_ne hj] at h
    obtain ⟨w, h1, h2⟩ := r.get j e h
    exact ⟨w, by rw [List.getElem?_set_ne hj]; exact h1, h2⟩
theorem EnvR.setN {σd : Env} {σ : L2.St} {i : Nat} (r : EnvR K ρ H σd σ) (hp : ∀ a, ρ.pin ≠ some (i, a)) : EnvR K ρ H (σd.set i none) (σ.set i none) := by
  refine ⟨by simp [r.len], fun j e h => ?_, fun j a h => by rw [List.getElem?_set_ne (fun z => hp a (by rw [z]; exact h))]; exact r.pin j a h⟩
  by_cases hj : i = j
  · subst hj
    have hl : i < σd.length := by
      have := (List.getElem?_eq_some_iff.mp h).1
      simpa using this
    rw [List.getElem?_set_self hl] at h
    cases h
  · rw [List.getElem?_set_ne hj] at h
    obtain ⟨w, h1, h2⟩ := r.get j e h
    exact ⟨w, by rw [List.getElem?_set_ne hj]; exact h1, h2⟩
theorem EnvR.wipe {σd : Env} {σ : L2.St} (r : EnvR K ρ H σd σ) (hp : ρ.pin = none) : ∀ is : List Nat, EnvR K ρ H (wipeE σd is) (L2.wipe σ is)
  | [] => r
  | i :: is => (EnvR.wipe r hp is).setN (fun a z => by rw [hp] at z; cases z)
end

/-! ### the readings that the interpreter gives -/
section
variable (K : PySem.W.Frag) (cA : CA)
/-- what an outcome leaves to be wished -/
def tO {α β : Type} (W : WX) (σ : L2.St) (ρ : Pl) (H : Hp) (R : Pl → Hp → α → β → Prop) (r : Out α) (Q : β → Hp → Prop) : Prop := match r with
  | .ok d S' => ∀ ρ' H' v, Ext ρ H ρ' H' → StR K cA ρ' H' S' → R ρ' H' d v → Q v H'
  | .exc x S' => ∀ ρ' H', Ext ρ H ρ' H' → StR K cA ρ' H' S' → W (.ref (cA x)) none σ H'
  | .bad => False
def tX {α β : Type} (R : Pl → Hp → α → β → Prop) (W : WX) (f : Env → Store → Out α) : L2.St → Hp → (β → Hp → Prop) → Prop := fun σ H Q =>
  ∃ ρ σd S, EnvR K ρ H σd σ ∧ StR K cA ρ H S ∧ tO K cA W σ ρ H R (f σd S) Q
abbrev RB : Pl → Hp → Bool → Bool → Prop := fun _ _ a b => a = b
abbrev RI : Pl → Hp → Option Int → Option Int → Prop := fun _ _ a b => a = b
abbrev tE (W : WX) (f : Env → Store → Out D) : TE := tX K cA (Rep K) W f
abbrev tT (W : WX) (f : Env → Store → Out Bool) : TT := tX K cA RB W f
abbrev tAs (W : WX) (f : Env → Store → Out (List D)) : TA := tX K cA (Reps K) W f
abbrev tP (W : WX) (f : Env → Store → Out (Option Int)) : TO := tX K cA RI W f
end
section
variable {K : PySem.W.Frag} {cA : CA} {ρ ρ' ρ1 ρ2 : Pl} {H H' H1 H2 : Hp} {W : WX} {σ : L2.St} {α β γ δ : Type}
theorem tO.ext {R : Pl → Hp → α → β → Prop} {r : Out α} {Q : β → Hp → Prop} (e : Ext ρ H ρ' H') (h : tO K cA W σ ρ H R r Q) : tO K cA W σ ρ' H' R r Q := by
  cases r with
  | ok d S => exact fun ρ2 H2 v e2 => h ρ2 H2 v (e.trans e2)
  | exc x S => exact fun ρ2 H2 e2 => h ρ2 H2 (e.trans e2)
  | bad => exact h
theorem tO.post {R : Pl → Hp → α → β → Prop} {r : Out α} {Q Q' : β → Hp → Prop} (h : tO K cA W σ ρ H R r Q) (hq : ∀ v H, Q v H → Q' v H) : tO K cA W σ ρ H R r Q' := by
  cases r with
  | ok d S => exact fun ρ2 H2 v e2 s r => hq _ _ (h ρ2 H2 v e2 s r)
  | exc x S => exact h
  | bad => exact h
/-- one step of two -/
theorem tO.bind {R : Pl → Hp → α → β → Prop} {R1 : Pl → Hp → γ → δ → Prop} {r : Out γ} {g : γ → Store → Out α} {Q : β → Hp → Prop}
    (h : tO K cA W σ ρ H R (r.bind g) Q) :
    tO K cA W σ ρ H R1 r fun v H1 => ∃ ρ1 d S1, Ext ρ H ρ1 H1 ∧ StR K cA ρ1 H1 S1 ∧ R1 ρ1 H1 d v ∧ tO K cA W σ ρ1 H1 R (g d S1) Q := by
  cases r with
  | ok d S => exact fun ρ1 H1 v e s r => ⟨ρ1, d, S, e, s, r, h.ext e⟩
  | exc x S => exact h
  | bad => exact h
theorem tO.ofO {R : Pl → Hp → α → β → Prop} {S : Store} {o : Option α} {Q : β → Hp → Prop} (h : tO K cA W σ ρ H R (_root_.Q.ofO S o) Q) : ∃ d, o = some d ∧ ∀ ρ' H' v, Ext ρ H ρ' H' → StR K cA ρ' H' S → R ρ' H' d v → Q v H' := by
  cases o with
  | none => exact h.elim
  | some d => exact ⟨d, rfl, h⟩
theorem tO.ofP {R : Pl → Hp → α → β → Prop} {o : Option (α × Store)} {Q : β → Hp → Prop} (h : tO K cA W σ ρ H R (_root_.Q.ofP o) Q) : ∃ d S', o = some (d, S') ∧ ∀ ρ' H' v, Ext ρ H ρ' H' → StR K cA ρ' H' S' → R ρ' H' d v → Q v H' := by
  cases o with
  | none => exact h.elim
  | some p => exact ⟨p.1, p.2, rfl, h⟩
end
end Q
/-! Q3: each operation on plain data is HandS's. -/
namespace Q
open PySem PySem.Spec PyProof.Rows L2

/-! ### two rules that want a wider reading: list + list where one may be locked -/
section
variable {X : Cx} {pins : List (Addr × Obj)} {σ : L2.St} {H : Hp} {s : Shared}
def rCatR (K : PySem.W.Frag) : R2 := fun x y H Q => ∃ l b xs zs, x = .ref l ∧ y = .ref b ∧ SqL K H l xs ∧ SqL K H b zs ∧ xs.length + zs.length ≤ sizeLine ∧ ∀ p, H p = none → Q (.ref p) (upd H p (.lst (xs ++ zs)))
theorem op_catR : OpR X (binaryOp .Add) (rCatR X.K) := by
  intro pins s σ H x y v u Q I rx ry h
  obtain ⟨l, b, xs, zs, rfl, rfl, hH, hB, hz, q⟩ := h
  cases rx
  cases ry
  obtain ⟨its, r, ⟨⟨cls, dd, data, sl⟩, n, ho, hc, _, hd⟩, _⟩ := I.list hH
  obtain ⟨its2, r2, ⟨⟨cls2, dd2, data2, sl2⟩, n2, ho2, hc2, _, hd2⟩, _⟩ := I.list hB
  simp only at hc hd hc2 hd2
  subst hc hd hc2 hd2
  refine PySem.concat_meets ⟨_, ho, rfl⟩ ⟨_, ho2, rfl⟩ PySem.noFill_list_add PySem.seq_list_add PySem.F.slot_list_add PySem.F.entry_list_add (PySem.F.args_list_add_2 _ _) (list_addW l b its.toArray its2.toArray n n2 dd dd2 sl sl2 (by rw [List.size_toArray, List.size_toArray, ← r.length, ← r2.length]; exact hz)) ⟨ho, ho2, ?_⟩
  have ea : its.toArray ++ its2.toArray = (its ++ its2).toArray := by simp
  rw [ea]
  exact ⟨.ref _, _, I.lnew (t' := s.toks) (r.append r2) (by rw [List.length_append]; omega), rfl, q _ I.fresh⟩
end

section
variable {X : Cx} {cA : CA} {ρ : Pl} {H : Hp} {S : Store}
/-- what an operation may suppose: d comes out, the store is S' -/
abbrev Kon (K : PySem.W.Frag) (cA : CA) (ρ : Pl) (H : Hp) (S' : Store) (d : D) (Q : VK) : Prop := ∀ ρ' H' v, Ext ρ H ρ' H' → StR K cA ρ' H' S' → Rep K ρ' H' d v → Q v H'
variable {K : PySem.W.Frag}

theorem line_eq : (sizeLine : Nat) = 16777216 := sizeLine_eq

/-- a list or a tuple, read -/
theorem seqL_at (st : StR K cA ρ H S) {d : D} {xs : List D} {v : V} (r : Rep K ρ H d v) (h : seqL S d = some xs) : ∃ a vs, v = .ref a ∧ SqL K H a vs ∧ Reps K ρ H xs vs := by
  cases r with
  | lst at_ rs =>
    rename_i ds a vs
    have e : ds = xs := Option.some.inj h
    subst e
    exact ⟨a, vs, rfl, at_.sq, rs⟩
  | ref e =>
    rename_i l a
    have h' : (match S[l]? with | some (.lst xs) => some xs | _ => none) = some xs := h
    cases q : S[l]? with
    | none => rw [q] at h'; cases h'
    | some o =>
      rw [q] at h'
      cases o with
      | lst ys =>
        have z : ys = xs := Option.some.inj h'
        subst z
        obtain ⟨vs, e1, e2⟩ := st.at q e
        exact ⟨a, vs, rfl, .inl (.inl e1), e2⟩
      | ins => cases h'
      | dic => cases h'
      | dead => cases h'
  | non => cases h
  | bl => cases h
  | int => cases h
  | str => cases h
  | tup => cases h
theorem seqL_sq (st : StR K cA ρ H S) {d : D} {xs : List D} {v : V} (r : Rep K ρ H d v) (h : seqL S d = some xs) : ∃ a vs, v = .ref a ∧ SqL K H a vs ∧ Reps K ρ H xs vs := by
  exact seqL_at st r h
theorem seqO_sq (st : StR K cA ρ H S) {d : D} {xs : List D} {v : V} (r : Rep K ρ H d v) (h : seqO S d = some xs) : ∃ a vs, v = .ref a ∧ (SqL K H a vs ∨ SqT K H a vs) ∧ Reps K ρ H xs vs := by
  cases d with
  | tup ds =>
    cases r with
    | tup at_ rs =>
      rename_i a vs
      have e : ds = xs := Option.some.inj h
      subst e
      exact ⟨a, vs, rfl, .inr at_.sq, rs⟩
  | _ =>
    obtain ⟨a, vs, e, q, rs⟩ := seqL_sq st r (show seqL S _ = some xs from h)
    exact ⟨a, vs, e, .inl q, rs⟩
theorem reps_nil {vs : List V} (r : Reps K ρ H [] vs) : vs = [] := by cases r; rfl
theorem reps_empty {ds : List D} {vs : List V} (r : Reps K ρ H ds vs) : vs.isEmpty = ds.isEmpty := by cases r <;> rfl

theorem tru_rep (st : StR K cA ρ H S) {d : D} {v : V} {k : Bool} (r : Rep K ρ H d v) (h : truth S d = some k) : TruV K v H k := by
  cases r with
  | non => exact (Option.some.inj h).symm
  | bl b => exact (Option.some.inj h).symm
  | int i => exact (Option.some.inj h).symm
  | str x =>
    have h' : (if x.length ≤ 16777216 then some ((x.length : Int) != 0) else none) = some k := h
    split at h'
    · rename_i hl
      exact ⟨by rw [line_eq]; exact hl, (Option.some.inj h').symm⟩
    · cases h'
  | tup at_ rs =>
    rename_i ds a vs
    have e : (!ds.isEmpty) = k := Option.some.inj h
    exact .inr (.inl ⟨vs, at_.sq, by rw [reps_empty rs]; exact e.symm⟩)
  | lst at_ rs =>
    rename_i ds a vs
    have e : (!ds.isEmpty) = k := Option.some.inj h
    exact .inl ⟨vs, at_.sq, by rw [reps_empty rs]; exact e.symm⟩
  | ref e =>
    rename_i l a
    have h' : (match seqO S (.ref l) with | some xs => some (!xs.isEmpty) | none => none) = some k := h
    cases q : seqO S (.ref l) with
    | none => rw [q] at h'; cases h'
    | some xs =>
      rw [q] at h'
      have e' : (!xs.isEmpty) = k := Option.some.inj h'
      obtain ⟨b, vs, ev, sq, rs⟩ := seqL_sq st (Rep.ref e) (show seqL S (.ref l) = some xs from q)
      cases ev
      exact .inl ⟨vs, sq, by rw [reps_empty rs]; exact e'.symm⟩

/-- a new tuple, a new list as values -/
theorem kon_tup {ds : List D} {vs : List V} {Q : VK} (st : StR K cA ρ H S) (k : Kon K cA ρ H S (.tup ds) Q) (rs : Reps K ρ H ds vs) : ∀ p, H p = none → Q (.ref p) (upd H p (.tup vs)) := fun p hp => by
  obtain ⟨e, s⟩ := ext_new (u := .tup vs) st hp
  exact k _ _ _ e s (.tup (.inl ⟨.inl upd_same, st.fresh hp⟩) (rs.ext e))
theorem kon_lst {ds : List D} {vs : List V} {Q : VK} (st : StR K cA ρ H S) (k : Kon K cA ρ H S (.lst ds) Q) (rs : Reps K ρ H ds vs) : ∀ p, H p = none → Q (.ref p) (upd H p (.lst vs)) := fun p hp => by
  obtain ⟨e, s⟩ := ext_new (u := .lst vs) st hp
  exact k _ _ _ e s (.lst (.inl ⟨.inl upd_same, st.fresh hp⟩) (rs.ext e))
theorem kon_here {d : D} {v : V} {Q : VK} (st : StR K cA ρ H S) (k : Kon K cA ρ H S d Q) (r : Rep K ρ H d v) : Q v H := k _ _ _ Ext.refl st r
/-- a new list in the store -/
theorem kon_ref {ds : List D} {vs : List V} {Q : VK} (st : StR K cA ρ H S) (k : Kon K cA ρ H (S ++ [.lst ds]) (.ref S.length) Q) (rs : Reps K ρ H ds vs) : ∀ p, H p = none → Q (.ref p) (upd H p (.lst vs)) := fun p hp => by
  obtain ⟨e, s⟩ := ext_alloc (u := .lst vs) (o := .lst ds) st hp fun ρ' H' e' q => ⟨vs, q, rs.ext e'⟩
  exact k _ _ _ e s (.ref (by show (ρ.l ++ [p])[S.length]? = some p; rw [List.getElem?_append_right (by rw [st.len]; exact Nat.le_refl _), st.len, Nat.sub_self]; rfl))

theorem Reps.times {ρ : Pl} {H : Hp} {ds : List D} {vs : List V} (r : Reps K ρ H ds vs) : ∀ m : Nat, Reps K ρ H (List.replicate m ds).flatten (List.replicate m vs).flatten
  | 0 => .nil
  | m + 1 => by rw [List.replicate_succ, List.replicate_succ, List.flatten_cons, List.flatten_cons]; exact r.append (Reps.times r m)
/-! ### operators -/
def rAdd (K : PySem.W.Frag) : R2 := fun x y H Q => rI0 (fun i j => .int (i + j)) x y H Q ∨ ((∃ i j, x = .str i ∧ y = .str j ∧ i.length + j.length ≤ sizeLine ∧ Q (.str (i ++ j)) H) ∨ (rCatA K x y H Q ∨ rCatR K x y H Q))
theorem op_addAll : OpR X (binaryOp .Add) (rAdd X.K) := OpR.or op_add (OpR.or op_add_str (OpR.or op_catA op_catR))
def rMult (K : PySem.W.Frag) : R2 := fun x y H Q => rI CMulW (fun i j => .int (i * j)) x y H Q ∨ (rMulS x y H Q ∨ (rMulT K x y H Q ∨ rMulL K x y H Q))
theorem op_mulAll : OpR X (binaryOp .Mult) (rMult X.K) := OpR.or op_mulW (OpR.or op_mulS (OpR.or op_mulT op_mulL))
def rOf (K : PySem.W.Frag) : Operator → R2
  | .Add => rAdd K
  | .Sub => rI0 fun i j => .int (i - j)
  | .Mult => rMult K
  | .FloorDiv => rI CDivW fun i j => .int (i / j)
  | .Mod => rI (fun _ j => 0 < j) fun i j => .int (i % j)
  | .Pow => rI CPow fun i j => .int (i ^ j.toNat)
  | .LShift => rI CShl fun i j => .int (i * 2 ^ j.toNat)
  | .RShift => rI (fun _ j => 0 ≤ j) fun i j => .int (i / 2 ^ j.toNat)
  | .BitAnd => rI0 fun i j => .int (Builtin.bitAnd i j)
  | _ => fun _ _ _ _ => False
theorem op_of (op : Operator) : OpR X (binaryOp op) (rOf X.K op) := by
  cases op with
  | Add => exact op_addAll
  | Sub => exact op_sub
  | Mult => exact op_mulAll
  | FloorDiv => exact op_fdivW
  | Mod => exact op_mod
  | Pow => exact op_pow
  | LShift => exact op_shlW
  | RShift => exact op_shr
  | BitAnd => exact op_and
  | _ => exact fun pins s σ H x y v u Q I rx ry h => h.elim
theorem arith_of {op : Operator} {i j n : Int} {Q : VK} (h : arith op i j = some n) (q : Q (.int n) H) : rOf K op (.int i) (.int j) H Q := by
  cases op with
  | Add => cases h; exact .inl ⟨i, j, rfl, rfl, q⟩
  | Sub => cases h; exact ⟨i, j, rfl, rfl, q⟩
  | BitAnd => cases h; exact ⟨i, j, rfl, rfl, q⟩
  | Mult =>
    simp only [arith] at h
    split at h <;> cases h
    rename_i c; exact .inl ⟨i, j, rfl, rfl, c, q⟩
  | FloorDiv =>
    simp only [arith] at h
    split at h <;> cases h
    rename_i c; exact ⟨i, j, rfl, rfl, c, q⟩
  | Mod =>
    simp only [arith] at h
    split at h <;> cases h
    rename_i c; exact ⟨i, j, rfl, rfl, c, q⟩
  | Pow =>
    simp only [arith] at h
    split at h <;> cases h
    rename_i c; exact ⟨i, j, rfl, rfl, c, q⟩
  | LShift =>
    simp only [arith] at h
    split at h <;> cases h
    rename_i c; exact ⟨i, j, rfl, rfl, c, q⟩
  | RShift =>
    simp only [arith] at h
    split at h <;> cases h
    rename_i c; exact ⟨i, j, rfl, rfl, c, q⟩
  | _ => cases h
theorem cat_of (st : StR K cA ρ H S) {op : Operator} {x y d : D} {vx vy : V} {Q : VK} (rx : Rep K ρ H x vx) (ry : Rep K ρ H y vy) (h : catD S op x y = some d) (k : ∀ zs vs, d = .lst zs → Reps K ρ H zs vs → ∀ p, H p = none → Q (.ref p) (upd H p (.lst vs))) : rOf K op vx vy H Q := by
  cases op with
  | Add =>
    simp only [catD] at h
    cases e1 : seqL S x with
    | none => rw [e1] at h; cases h
    | some xs =>
      cases e2 : seqL S y with
      | none => rw [e1, e2] at h; cases h
      | some ys =>
        rw [e1, e2] at h
        simp only at h
        split at h <;> cases h
        rename_i c
        obtain ⟨a, vs, rfl, ha, ra⟩ := seqL_at st rx e1
        obtain ⟨b, ws, rfl, hb, rb⟩ := seqL_at st ry e2
        exact .inr (.inr (.inr ⟨a, b, vs, ws, rfl, rfl, ha, hb, by rw [line_eq, ← ra.length, ← rb.length]; exact c.2.2, k _ _ rfl (ra.append rb)⟩))
  | Mult =>
    simp only [catD] at h
    cases e1 : seqL S x with
    | none => rw [e1] at h; cases h
    | some xs =>
      rw [e1] at h
      cases ry with
      | int n =>
        simp only at h
        split at h <;> cases h
        rename_i c
        obtain ⟨a, vs, rfl, ha, ra⟩ := seqL_at st rx e1
        exact .inr (.inr (.inr ⟨a, n, vs, rfl, rfl, ha, c.1, c.2.1, by rw [← ra.length]; exact c.2.2, k _ _ rfl (ra.times n.toNat)⟩))
      | _ => cases h
  | _ => cases h
theorem bin_of (st : StR K cA ρ H S) {op : Operator} {x y d : D} {vx vy : V} {Q : VK} (rx : Rep K ρ H x vx) (ry : Rep K ρ H y vy) (h : binD S op x y = some d) (k : Kon K cA ρ H S d Q) : rOf K op vx vy H Q := by
  have lists : catD S op x y = some d → rOf K op vx vy H Q := fun h => cat_of st rx ry h fun zs vs e r => kon_lst st (by rw [← e]; exact k) r
  cases rx with
  | int i =>
    cases ry with
    | int j =>
      simp only [binD] at h
      cases e : arith op i j with
      | none => rw [e] at h; cases h
      | some n =>
        rw [e] at h; cases h
        exact arith_of e (kon_here st k (.int n))
    | _ => exact lists h
  | str a =>
    cases ry with
    | str b =>
      simp only [binD] at h
      cases op with
      | Add =>
        simp only at h
        split at h <;> cases h
        rename_i c
        exact .inr (.inl ⟨a, b, rfl, rfl, by rw [line_eq]; exact c, kon_here st k (.str _)⟩)
      | _ => cases h
    | int n =>
      simp only [binD] at h
      cases op with
      | Mult =>
        simp only at h
        split at h <;> cases h
        rename_i c
        exact .inr (.inl ⟨a, n, rfl, rfl, c.1, c.2.1, c.2.2, kon_here st k (.str _)⟩)
      | _ => cases h
    | _ => exact lists h
  | tup at_ rs =>
    rename_i xs a vs
    cases ry with
    | int n =>
      simp only [binD] at h
      cases op with
      | Mult =>
        simp only at h
        split at h <;> cases h
        rename_i c
        refine .inr (.inr (.inl ⟨a, n, vs, rfl, rfl, at_.sq, c.1, c.2.1, by rw [← rs.length]; exact c.2.2, fun e => ?_, fun _ => kon_tup st k (rs.times n.toNat)⟩))
        have e2 : (List.replicate n.toNat xs).flatten = xs := by
          rcases e with e | e
          · rw [e]; simp
          · subst e
            cases rs
            simp
        rw [e2] at k
        exact kon_here st k (.tup at_ rs)
      | _ => cases h
    | tup at2 rs2 =>
      rename_i ys b ws
      simp only [binD] at h
      cases op with
      | Add =>
        simp only at h
        split at h <;> cases h
        rename_i c
        refine .inr (.inr (.inl ⟨a, b, vs, ws, rfl, rfl, at_.sq, at2.sq, by rw [line_eq, ← rs.length, ← rs2.length]; exact c, fun e => ?_, fun _ e => ?_, fun _ _ => kon_tup st k (rs.append rs2)⟩))
        · subst e
          cases rs
          exact kon_here st k (.tup at2 rs2)
        · subst e
          cases rs2
          rw [List.append_nil] at k
          exact kon_here st k (.tup at_ rs)
      | _ => cases h
    | _ => exact lists h
  | _ => exact lists h

/-! ### comparisons -/
mutual
theorem toPy_dp : ∀ {d : D} {v : V} {p : PyData}, Rep K ρ H d v → toPy d = some p → Dp K H v p
  | _, _, _, .non, h => by cases h; exact .non
  | _, _, _, .bl b, h => by cases h; exact .bl b
  | _, _, _, .int i, h => by cases h; exact .int i
  | _, _, _, .str x, h => by cases h; exact .str x
  | _, _, p, .tup (ds := ds) at_ rs, h => by
    simp only [toPy] at h
    cases e : toPys ds with
    | none => rw [e] at h; cases h
    | some ys => rw [e] at h; cases h; exact .tup at_.sq (toPys_dp rs e)
  | _, _, p, .lst (ds := ds) at_ rs, h => by
    simp only [toPy] at h
    cases e : toPys ds with
    | none => rw [e] at h; cases h
    | some ys => rw [e] at h; cases h; exact .lst at_.sq (toPys_dp rs e)
  | _, _, _, .ref _, h => by cases h
theorem toPys_dp : ∀ {ds : List D} {vs : List V} {ps : List PyData}, Reps K ρ H ds vs → toPys ds = some ps → DpAll K H vs ps
  | _, _, _, .nil, h => by cases h; exact .nil
  | _, _, ps, .cons (d := d) (ds := ds) r rs, h => by
    simp only [toPys] at h
    cases e1 : toPy d with
    | none => rw [e1] at h; cases h
    | some y =>
      cases e2 : toPys ds with
      | none => rw [e1, e2] at h; cases h
      | some ys => rw [e1, e2] at h; cases h; exact .cons (toPy_dp r e1) (toPys_dp rs e2)
end
theorem dpAll_res (n : Nat) (ih : ∀ {d : D} {v : V} {p : PyData}, Rep K ρ H d v → toPy (res n S d) = some p → Dp K H v p) : ∀ {ds : List D} {vs : List V} {ps : List PyData}, Reps K ρ H ds vs → toPys (ds.map (res n S)) = some ps → DpAll K H vs ps
  | _, _, _, .nil, h => by cases h; exact .nil
  | _, _, ps, .cons (d := d) (ds := ds) r rs, h => by
    simp only [List.map_cons, toPys] at h
    cases e1 : toPy (res n S d) with
    | none => rw [e1] at h; cases h
    | some y =>
      cases e2 : toPys (ds.map (res n S)) with
      | none => rw [e1, e2] at h; cases h
      | some ys => rw [e1, e2] at h; cases h; exact .cons (ih r e1) (dpAll_res n ih rs e2)
theorem res_dp (st : StR K cA ρ H S) : ∀ (n : Nat) {d : D} {v : V} {p : PyData}, Rep K ρ H d v → toPy (res n S d) = some p → Dp K H v p
  | 0, d, v, p, r, h => toPy_dp r h
  | n + 1, d, v, p, r, h => by
    cases r with
    | ref e =>
      rename_i l a
      cases q : S[l]? with
      | none => rw [res, q] at h; cases h
      | some o =>
        rw [res, q] at h
        cases o with
        | lst xs =>
          simp only [toPy] at h
          cases e2 : toPys (xs.map (res n S)) with
          | none => rw [e2] at h; cases h
          | some ys =>
            rw [e2] at h; cases h
            obtain ⟨vs, e3, rs⟩ := st.at q e
            exact .lst (.inl (.inl e3)) (dpAll_res n (res_dp st n) rs e2)
        | ins => cases h
        | dic => cases h
        | dead => cases h
    | tup at_ rs =>
      rename_i ds a vs
      simp only [res, toPy] at h
      cases e : toPys (ds.map (res n S)) with
      | none => rw [e] at h; cases h
      | some ys => rw [e] at h; cases h; exact .tup at_.sq (dpAll_res n (res_dp st n) rs e)
    | lst at_ rs =>
      rename_i ds a vs
      simp only [res, toPy] at h
      cases e : toPys (ds.map (res n S)) with
      | none => rw [e] at h; cases h
      | some ys => rw [e] at h; cases h; exact .lst at_.sq (dpAll_res n (res_dp st n) rs e)
    | non => exact toPy_dp (ρ := ρ) .non h
    | bl b => exact toPy_dp (ρ := ρ) (.bl b) h
    | int b => exact toPy_dp (ρ := ρ) (.int b) h
    | str b => exact toPy_dp (ρ := ρ) (.str b) h
theorem toPyS_dp (st : StR K cA ρ H S) {d : D} {v : V} {p : PyData} (r : Rep K ρ H d v) (h : toPyS S d = some p) : Dp K H v p := res_dp st 8 r h
theorem eqD_of (st : StR K cA ρ H S) {x y : D} {vx vy : V} {b : Bool} (rx : Rep K ρ H x vx) (ry : Rep K ρ H y vy) (h : eqD S x y = some b) :
    (∃ d e, Dp K H vx d ∧ Dp K H vy e ∧ SeqAt.shaped d = true ∧ SeqAt.shaped e = true ∧ b = PyData.eqv d e) ∨
    (∃ a a' xs ys, vx = .ref a ∧ vy = .ref a' ∧ SqL K H a xs ∧ SqL K H a' ys ∧ xs.length ≠ ys.length ∧ b = false) := by
  have two : (match seqL S x, seqL S y with | some xs, some ys => if xs.length = ys.length then none else some false | _, _ => none) = some b →
      (∃ a a' xs ys, vx = .ref a ∧ vy = .ref a' ∧ SqL K H a xs ∧ SqL K H a' ys ∧ xs.length ≠ ys.length ∧ b = false) := fun h => by
    cases e1 : seqL S x with
    | none => rw [e1] at h; cases h
    | some xs =>
      cases e2 : seqL S y with
      | none => rw [e1, e2] at h; cases h
      | some ys =>
        rw [e1, e2] at h
        simp only at h
        split at h <;> cases h
        rename_i c
        obtain ⟨a, vs, rfl, q1, r1⟩ := seqL_at st rx e1
        obtain ⟨a', us, rfl, q2, r2⟩ := seqL_at st ry e2
        exact ⟨a, a', vs, us, rfl, rfl, q1, q2, by rw [← r1.length, ← r2.length]; exact c, rfl⟩
  unfold eqD at h
  cases e1 : toPyS S x with
  | none => rw [e1] at h; exact .inr (two h)
  | some p =>
    cases e2 : toPyS S y with
    | none => rw [e1, e2] at h; exact .inr (two h)
    | some q =>
      rw [e1, e2] at h
      simp only at h
      split at h <;> cases h
      rename_i c
      exact .inl ⟨p, q, toPyS_dp st rx e1, toPyS_dp st ry e2, c.1, c.2, rfl⟩
/-- the comparisons' rules -/
def cOf (K : PySem.W.Frag) : CmpOp → R2
  | .Eq => fun x y H Q => rEqD K x y H Q ∨ rLnD K false x y H Q
  | .NotEq => fun x y H Q => rNeD K x y H Q ∨ rLnD K true x y H Q
  | .Lt => fun x y H Q => rI0 (fun i j => .bl (decide (i < j))) x y H Q ∨ ∃ i j, x = .str i ∧ y = .str j ∧ Q (.bl (decide (i.cps.toList < j.cps.toList))) H
  | .LtE => rI0 fun i j => .bl (decide (i ≤ j))
  | .Gt => fun x y H Q => rI0 (fun i j => .bl (decide (j < i))) x y H Q ∨ ∃ i j, x = .str i ∧ y = .str j ∧ Q (.bl (decide (j.cps.toList < i.cps.toList))) H
  | .GtE => rI0 fun i j => .bl (decide (j ≤ i))
  | .Is => fun x y H Q => rIsB x y H Q ∨ (y = .non ∧ Q (.bl (decide (x = .non))) H)
  | .IsNot => fun x y H Q => rNotB x y H Q ∨ (y = .non ∧ Q (.bl (!decide (x = .non))) H)
  | .In => fun x y H Q => (∃ i j, x = .str i ∧ y = .str j ∧ Q (.bl (!(Builtin.Str.occurrences j i 0 j.length 1).isEmpty)) H) ∨ (rInD K x y H Q ∨ (rInT K false x y H Q ∨ rInK false x y H Q))
  | .NotIn => fun x y H Q => (∃ i j, x = .str i ∧ y = .str j ∧ Q (.bl (!(!(Builtin.Str.occurrences j i 0 j.length 1).isEmpty))) H) ∨ (rNotInD K x y H Q ∨ (rInT K true x y H Q ∨ rInK true x y H Q))
theorem cmp_of (hu : X.A.units + 65 < cLine) (op : CmpOp) : OpR X (compareOp op) (cOf X.K op) := by
  cases op with
  | Eq => exact OpR.or (op_eqD (by omega)) (op_eqLn (by omega))
  | NotEq => exact OpR.or (op_neD (by omega)) (op_neLn (by omega))
  | Lt => exact OpR.or op_lt op_lt_str
  | LtE => exact op_le
  | Gt => exact OpR.or op_gt op_gt_str
  | GtE => exact op_ge
  | Is => exact OpR.or op_isBl op_isN
  | IsNot => exact OpR.or op_notBl op_notN
  | In => exact OpR.or op_in_str (OpR.or (op_inD hu) (OpR.or (op_inT hu) (op_inK hu)))
  | NotIn => exact OpR.or op_notin_str (OpR.or (op_notInD hu) (OpR.or (op_ninT hu) (op_ninK hu)))
theorem is_of {x y : D} {vx vy : V} {b : Bool} (rx : Rep K ρ H x vx) (ry : Rep K ρ H y vy) (h : isD x y = some b) : (∃ k l : Bool, vx = .bl k ∧ vy = .bl l ∧ b = decide (k = l)) ∨ (vy = .non ∧ b = decide (vx = .non)) := by
  cases ry with
  | bl l =>
    cases rx with
    | bl k => cases h; exact .inl ⟨k, l, rfl, rfl, rfl⟩
    | _ => cases h
  | non => cases rx <;> cases h <;> exact .inr ⟨rfl, by simp⟩
  | _ => cases rx <;> cases h
/-! dicts -/
theorem FReps.val {kvs : List (L2.Key × D)} {vs : List (L2.Key × V)} (r : FReps K ρ H kvs vs) (k : L2.Key) : (valG kvs k).isSome = (valV vs k).isSome ∧ ∀ d, valG kvs k = some d → ∃ v, valV vs k = some v ∧ Rep K ρ H d v := by
  induction r with
  | nil => exact ⟨rfl, fun d h => by cases h⟩
  | @cons k' d v ds vs rd rs ih =>
    by_cases c : k' = k
    · have e1 : valG ((k', d) :: ds) k = some d := by unfold valG; rw [List.find?_cons, decide_eq_true (show (k', d).1 = k from c)]; rfl
      have e2 : valV ((k', v) :: vs) k = some v := valV_pos (p := (k', v)) c
      rw [e1, e2]
      exact ⟨rfl, fun d' h => by cases h; exact ⟨v, rfl, rd⟩⟩
    · have e1 : valG ((k', d) :: ds) k = valG ds k := by unfold valG; rw [List.find?_cons, decide_eq_false (show ¬ (k', d).1 = k from c)]
      have e2 : valV ((k', v) :: vs) k = valV vs k := valV_neg (p := (k', v)) c
      rw [e1, e2]
      exact ih
theorem keyD_rep {d : D} {v : V} {k : L2.Key} (r : Rep K ρ H d v) (h : keyD d = some k) : v = kV k := by
  cases r <;> cases h <;> rfl
theorem dicOf_at (st : StR K cA ρ H S) {d : D} {v : V} {kvs : List (L2.Key × D)} (r : Rep K ρ H d v) (h : dicOf S d = some kvs) : ∃ l a vs, d = .ref l ∧ v = .ref a ∧ S[l]? = some (.dic kvs) ∧ ρ.l[l]? = some a ∧ H a = some (.dK vs) ∧ FReps K ρ H kvs vs := by
  cases r with
  | ref e =>
    rename_i l a
    have h' : (match S[l]? with | some (.dic kvs) => some kvs | _ => none) = some kvs := h
    cases q : S[l]? with
    | none => rw [q] at h'; cases h'
    | some o =>
      rw [q] at h'
      cases o with
      | dic ks =>
        cases h'
        obtain ⟨vs, e1, e2⟩ := st.at q e
        exact ⟨l, a, vs, rfl, rfl, q, e, e1, e2⟩
      | ins => cases h'
      | lst => cases h'
      | dead => cases h'
  | non => cases h
  | bl => cases h
  | int => cases h
  | str => cases h
  | tup => cases h
  | lst => cases h
def InWay (K : PySem.W.Frag) (H : Hp) (vx vy : V) (b : Bool) : Prop :=
    (∃ i j, vx = .str i ∧ vy = .str j ∧ b = !(Builtin.Str.occurrences j i 0 j.length 1).isEmpty) ∨
    (∃ d ds, Dp K H vx d ∧ Dp K H vy (.list ds) ∧ SeqAt.shaped d = true ∧ SeqAt.shaped (.list ds) = true ∧ b = ds.any fun z => PyData.eqv z d) ∨
    (∃ d ds, Dp K H vx d ∧ Dp K H vy (.tuple ds) ∧ SeqAt.shaped d = true ∧ SeqAt.shaped (.tuple ds) = true ∧ b = ds.any fun z => PyData.eqv z d) ∨
    (∃ a o, vy = .ref a ∧ DGet H a vx o ∧ b = o.isSome)
/-- what comes of x in y -/
theorem in_of (st : StR K cA ρ H S) {x y : D} {vx vy : V} {b : Bool} (rx : Rep K ρ H x vx) (ry : Rep K ρ H y vy) (h : inD S x y = some b) :
    InWay K H vx vy b := by
  have objs : inObj S x y = some b → InWay K H vx vy b := fun h => by
    unfold inObj at h
    cases e : dicOf S y with
    | some kvs =>
      rw [e] at h
      simp only at h
      cases e2 : keyD x with
      | none => rw [e2] at h; cases h
      | some k =>
        rw [e2] at h; cases h
        obtain ⟨l, a, vs, rfl, rfl, _, _, e3, r3⟩ := dicOf_at st ry e
        rw [keyD_rep rx e2]
        exact .inr (.inr (.inr ⟨a, _, rfl, DGet.k e3, (r3.val k).1⟩))
    | none =>
      rw [e] at h
      have h : inSeq S x y = some b := h
      unfold inSeq at h
      cases e1 : toPyS S x with
      | none => rw [e1] at h; cases h
      | some p =>
        cases e2 : toPyS S y with
        | none => rw [e1, e2] at h; cases h
        | some q =>
          rw [e1, e2] at h
          cases q with
          | list bs =>
            simp only at h
            split at h
            case isFalse => cases h
            rename_i c
            cases h
            exact .inr (.inl ⟨p, bs, toPyS_dp st rx e1, toPyS_dp st ry e2, c.1, c.2, rfl⟩)
          | tuple bs =>
            simp only at h
            split at h
            case isFalse => cases h
            rename_i c
            cases h
            exact .inr (.inr (.inl ⟨p, bs, toPyS_dp st rx e1, toPyS_dp st ry e2, c.1, c.2, rfl⟩))
          | _ => cases h
  cases rx with
  | str i =>
    cases ry with
    | str j => cases h; exact .inl ⟨i, j, rfl, rfl, rfl⟩
    | _ => exact objs h
  | _ => exact objs h
theorem cmpr_of (st : StR K cA ρ H S) {op : CmpOp} {x y : D} {vx vy : V} {b : Bool} {Q : VK} (rx : Rep K ρ H x vx) (ry : Rep K ρ H y vy) (h : cmpD S op x y = some b) (q : Q (.bl b) H) : cOf K op vx vy H Q := by
  cases op with
  | Eq =>
    rcases eqD_of st rx ry h with ⟨d1, d2, h1, h2, h3, h4, rfl⟩ | ⟨a, a', xs, ys, h1, h2, h3, h4, h5, rfl⟩
    · exact .inl ⟨d1, d2, h1, h2, h3, h4, q⟩
    · exact .inr ⟨a, a', xs, ys, h1, h2, h3, h4, h5, q⟩
  | NotEq =>
    simp only [cmpD] at h
    cases e : eqD S x y with
    | none => rw [e] at h; cases h
    | some b' =>
      rw [e] at h; cases h
      rcases eqD_of st rx ry e with ⟨d1, d2, h1, h2, h3, h4, rfl⟩ | ⟨a, a', xs, ys, h1, h2, h3, h4, h5, rfl⟩
      · exact .inl ⟨d1, d2, h1, h2, h3, h4, q⟩
      · exact .inr ⟨a, a', xs, ys, h1, h2, h3, h4, h5, q⟩
  | Is =>
    rcases is_of rx ry h with ⟨k, l, rfl, rfl, rfl⟩ | ⟨rfl, rfl⟩
    · exact .inl ⟨k, l, rfl, rfl, q⟩
    · exact .inr ⟨rfl, q⟩
  | IsNot =>
    simp only [cmpD] at h
    cases e : isD x y with
    | none => rw [e] at h; cases h
    | some b' =>
      rw [e] at h; cases h
      rcases is_of rx ry e with ⟨k, l, rfl, rfl, rfl⟩ | ⟨rfl, rfl⟩
      · exact .inl ⟨k, l, rfl, rfl, q⟩
      · exact .inr ⟨rfl, q⟩
  | In =>
    rcases in_of st rx ry h with ⟨i, j, rfl, rfl, rfl⟩ | ⟨d, ds, h1, h2, h3, h4, rfl⟩ | ⟨d, ds, h1, h2, h3, h4, rfl⟩ | ⟨a, o, rfl, g, rfl⟩
    · exact .inl ⟨i, j, rfl, rfl, q⟩
    · exact .inr (.inl ⟨d, ds, h1, h2, h3, h4, q⟩)
    · exact .inr (.inr (.inl ⟨d, ds, h1, h2, h3, h4, q⟩))
    · exact .inr (.inr (.inr ⟨a, o, rfl, g, q⟩))
  | NotIn =>
    simp only [cmpD] at h
    cases e : inD S x y with
    | none => rw [e] at h; cases h
    | some b' =>
      rw [e] at h; cases h
      rcases in_of st rx ry e with ⟨i, j, rfl, rfl, rfl⟩ | ⟨d, ds, h1, h2, h3, h4, rfl⟩ | ⟨d, ds, h1, h2, h3, h4, rfl⟩ | ⟨a, o, rfl, g, rfl⟩
      · exact .inl ⟨i, j, rfl, rfl, q⟩
      · exact .inr (.inl ⟨d, ds, h1, h2, h3, h4, q⟩)
      · exact .inr (.inr (.inl ⟨d, ds, h1, h2, h3, h4, q⟩))
      · exact .inr (.inr (.inr ⟨a, o, rfl, g, q⟩))
  | Lt => cases rx <;> cases ry <;> first | (cases h; first | exact .inl ⟨_, _, rfl, rfl, q⟩ | exact .inr ⟨_, _, rfl, rfl, q⟩) | (cases h)
  | Gt => cases rx <;> cases ry <;> first | (cases h; first | exact .inl ⟨_, _, rfl, rfl, q⟩ | exact .inr ⟨_, _, rfl, rfl, q⟩) | (cases h)
  | LtE => cases rx <;> cases ry <;> first | (cases h; exact ⟨_, _, rfl, rfl, q⟩) | (cases h)
  | GtE => cases rx <;> cases ry <;> first | (cases h; exact ⟨_, _, rfl, rfl, q⟩) | (cases h)
end
end Q
/-! Q4: indices, slices, built-ins, methods, stores, walks. -/
namespace Q
open PySem PySem.Spec PyProof.Rows L2
section
variable {X : Cx} {K : PySem.W.Frag} {cA : CA} {ρ : Pl} {H : Hp} {S : Store}

/-! ### x[i] -/
theorem atI_rep {xs : List D} {vs : List V} {i : Int} {d : D} (rs : Reps K ρ H xs vs) (h : L2.atI xs i = some d) : ∃ v, L2.atI vs i = some v ∧ Rep K ρ H d v := by
  unfold L2.atI at h ⊢
  rw [rs.length] at h
  cases e : L2.ixN vs.length i with
  | none => rw [e] at h; cases h
  | some j =>
    rw [e] at h
    exact rs.get h
theorem ixS_of (st : StR K cA ρ H S) {x i d : D} {vx vi : V} {Q : VK} (rx : Rep K ρ H x vx) (ri : Rep K ρ H i vi) (h : ixS S x i = some d) (k : Kon K cA ρ H S d Q) : rIx K vx vi H Q := by
  have seqs : ∀ n : Int, (match seqO S x with | some xs => L2.atI xs n | none => none) = some d → rIx K vx (.int n) H Q := by
    intro n h
    cases e : seqO S x with
    | none => rw [e] at h; cases h
    | some xs =>
      rw [e] at h
      obtain ⟨a, vs, rfl, q, rs⟩ := seqO_sq st rx e
      obtain ⟨v, h1, h2⟩ := atI_rep rs h
      rcases q with q | q
      · exact .inl ⟨a, vs, n, v, rfl, rfl, q, h1, kon_here st k h2⟩
      · exact .inr (.inl ⟨a, vs, n, v, rfl, rfl, q, h1, kon_here st k h2⟩)
  cases ri with
  | int n =>
    cases rx with
    | str z =>
      simp only [ixS] at h
      split at h
      · rename_i c
        cases e : L2.atI z.cps.toList n with
        | none => rw [e] at h; cases h
        | some y =>
          rw [e] at h; cases h
          exact .inr (.inr ⟨z, n, y, rfl, rfl, by rw [line_eq]; exact c, e, kon_here st k (.str _)⟩)
      · cases h
    | _ => exact seqs n h
  | _ => cases h

def rIxA (K : PySem.W.Frag) : R2 := fun x y H Q => rIx K x y H Q ∨ rIxK x y H Q
theorem ix_all (hu : X.A.units + 65 < cLine) : IxR X (rIxA X.K) := ix_seq.or (ix_key hu)
theorem ix_of (st : StR K cA ρ H S) {x i d : D} {vx vi : V} {Q : VK} (rx : Rep K ρ H x vx) (ri : Rep K ρ H i vi) (h : ixD S x i = some d) (k : Kon K cA ρ H S d Q) : rIxA K vx vi H Q := by
  unfold ixD at h
  cases e : dicOf S x with
  | some kvs =>
    rw [e] at h
    simp only at h
    cases e2 : keyD i with
    | none => rw [e2] at h; cases h
    | some kk =>
      rw [e2] at h
      obtain ⟨l, a, vs, rfl, rfl, _, _, e3, r3⟩ := dicOf_at st rx e
      obtain ⟨v, h1, h2⟩ := (r3.val kk).2 d h
      exact .inr ⟨a, v, rfl, by rw [keyD_rep ri e2, ← h1]; exact DGet.k e3, kon_here st k h2⟩
  | none =>
    rw [e] at h
    exact .inl (ixS_of st rx ri h k)
/-! ### x[i:j] -/
def rSlAll (K : PySem.W.Frag) : V → Option Int → Option Int → Hp → VK → Prop := fun x lo hi H Q => rSlA K x lo hi H Q ∨ (rSlL K x lo hi H Q ∨ C8.rSlX x lo hi H Q)
theorem sl_all : SlR X (rSlAll X.K) := SlR.or sl_tupA (SlR.or sl_list C8.sl_txt)
theorem cut_whole {α : Type} {xs : List α} {lo hi : Option Int} (h : HT.sIx xs.length 0 lo = 0 ∧ HT.sIx xs.length xs.length hi = xs.length) : cut xs lo hi = xs := by
  unfold cut
  rw [h.1, h.2]; simp
theorem sl_of (st : StR K cA ρ H S) {x d : D} {vx : V} {lo hi : Option Int} {Q : VK} (rx : Rep K ρ H x vx) (h : slD S x lo hi = some d) (k : Kon K cA ρ H S d Q) : rSlAll K vx lo hi H Q := by
  have lists : (match seqL S x with | some xs => some (D.lst (cut xs lo hi)) | none => none) = some d → rSlAll K vx lo hi H Q := by
    intro h
    cases e : seqL S x with
    | none => rw [e] at h; cases h
    | some xs =>
      rw [e] at h; cases h
      obtain ⟨a, vs, rfl, q, rs⟩ := seqL_sq st rx e
      exact .inr (.inl ⟨a, vs, rfl, q, kon_lst st k (rs.cut lo hi)⟩)
  cases rx with
  | str z =>
    simp only [slD] at h
    split at h <;> cases h
    rename_i c
    exact .inr (.inr ⟨z, rfl, by rw [line_eq]; exact c, kon_here st k (.str _)⟩)
  | tup at_ rs =>
    rename_i ds a vs
    cases h
    refine .inl ⟨a, vs, rfl, at_.sq, fun w => ?_, fun _ => kon_tup st k (rs.cut lo hi)⟩
    rw [← rs.length] at w
    rw [cut_whole w] at k
    exact kon_here st k (.tup at_ rs)
  | _ => exact lists h

theorem sl_ref (st : StR K cA ρ H S) {x : D} {xs : List D} {vx : V} {lo hi : Option Int} {Q : VK} (rx : Rep K ρ H x vx) (h : slD S x lo hi = some (.lst xs)) (k : Kon K cA ρ H (S ++ [.lst xs]) (.ref S.length) Q) : rSlAll K vx lo hi H Q := by
  have lists : (match seqL S x with | some xs => some (D.lst (cut xs lo hi)) | none => none) = some (.lst xs) → rSlAll K vx lo hi H Q := by
    intro h
    cases e : seqL S x with
    | none => rw [e] at h; cases h
    | some ys =>
      rw [e] at h; cases h
      obtain ⟨a, vs, rfl, q, rs⟩ := seqL_sq st rx e
      exact .inr (.inl ⟨a, vs, rfl, q, kon_ref st k (rs.cut lo hi)⟩)
  cases rx with
  | str z =>
    simp only [slD] at h
    split at h <;> cases h
  | tup at_ rs => cases h
  | _ => exact lists h

/-! ### isinstance -/
theorem ty_cases {t : Str} (h : tyOk t = true) : t = "int" ∨ t = "bool" ∨ t = "str" ∨ t = "tuple" ∨ t = "list" ∨ t = "dict" := by
  simp only [tyOk, Bool.or_eq_true, beq_iff_eq] at h
  rcases h with ((((h | h) | h) | h) | h) | h <;> simp [h]
def tyNm (t : Str) : String := if t = "int" then "int" else if t = "bool" then "bool" else if t = "str" then "str" else if t = "tuple" then "tuple" else if t = "list" then "list" else "dict"
theorem boot_ty {t : Str} (h : tyOk t = true) : bootBuiltins t = some (.type (tyNm t)) := by
  rcases ty_cases h with rfl | rfl | rfl | rfl | rfl | rfl <;> decide +kernel
/-- a thing's type -/
theorem tyx_rep (st : StR K cA ρ H S) {x : D} {v : V} {t : Str} {b : Bool} (r : Rep K ρ H x v) (ht : tyOk t = true) (h : isTy S x t = some b) : ∃ a : String, TyX K H v (.type a) ∧ kitB a (tyNm t) = some b := by
  have tb : ∀ a : String, a = "NoneType" ∨ a = "bool" ∨ a = "int" ∨ a = "str" ∨ a = "tuple" ∨ a = "list" ∨ a = "dict" →
      kitB a (tyNm t) = some (if a = "NoneType" then false else if a = "bool" then (t == "bool" || t == "int") else if a = "int" then t == "int" else if a = "str" then t == "str" else if a = "tuple" then t == "tuple" else if a = "list" then t == "list" else t == "dict") := by
    intro a ha
    rcases ty_cases ht with rfl | rfl | rfl | rfl | rfl | rfl <;> rcases ha with rfl | rfl | rfl | rfl | rfl | rfl | rfl <;> decide +kernel
  cases r with
  | non => cases h; exact ⟨"NoneType", .base .non, tb _ (by simp)⟩
  | bl => cases h; exact ⟨"bool", .base (.bl _), tb _ (by simp)⟩
  | int => cases h; exact ⟨"int", .base (.int _), tb _ (by simp)⟩
  | str => cases h; exact ⟨"str", .base (.str _), tb _ (by simp)⟩
  | tup at_ rs =>
    cases h
    refine ⟨"tuple", ?_, tb _ (by simp)⟩
    rcases at_ with ⟨q | ⟨o, q⟩, _⟩ | ⟨o, its, n, q, c, _⟩
    · exact .base (.tup q)
    · exact .fTuple q
    · exact .kTuple q c
  | lst at_ rs =>
    cases h
    refine ⟨"list", ?_, tb _ (by simp)⟩
    rcases at_ with ⟨q | ⟨o, q⟩, _⟩ | ⟨o, its, n, q, c, _⟩
    · exact .base (.lst q)
    · exact .base (.frz q)
    · exact .kList q c
  | ref e =>
    rename_i l a
    have h' : (match S[l]? with | some (.lst _) => some (t == "list") | some (.dic _) => some (t == "dict") | _ => none) = some b := h
    cases q : S[l]? with
    | none => rw [q] at h'; cases h'
    | some o =>
      rw [q] at h'
      cases o with
      | lst xs =>
        cases h'
        obtain ⟨vs, e1, _⟩ := st.at q e
        exact ⟨"list", .base (.lst e1), tb _ (by simp)⟩
      | dic kvs =>
        cases h'
        obtain ⟨vs, e1, _⟩ := st.at q e
        exact ⟨"dict", .base (.dK e1), tb _ (by simp)⟩
      | ins => cases h'
      | dead => cases h'

/-! ### built-ins by their names -/
abbrev RC : Type := List V → Hp → VK → Prop
theorem len_of (st : StR K cA ρ H S) {x d : D} {vx : V} {Q : VK} (rx : Rep K ρ H x vx) (h : lenD S x = some d) (k : Kon K cA ρ H S d Q) : ∃ n, LenV K vx H n ∧ Q (.int n) H := by
  have seqs : (match seqO S x with | some xs => some (D.int xs.length) | none => none) = some d → ∃ n, LenV K vx H n ∧ Q (.int n) H := by
    intro h
    cases e : seqO S x with
    | none => rw [e] at h; cases h
    | some xs =>
      rw [e] at h; cases h
      obtain ⟨a, vs, rfl, q, rs⟩ := seqO_sq st rx e
      refine ⟨xs.length, ?_, kon_here st k (.int _)⟩
      rcases q with q | q
      · exact .inl ⟨vs, q, rs.length⟩
      · exact .inr ⟨vs, q, rs.length⟩
  cases rx with
  | str z =>
    simp only [lenD] at h
    split at h <;> cases h
    rename_i c
    exact ⟨z.length, ⟨by rw [line_eq]; exact c, rfl⟩, kon_here st k (.int _)⟩
  | _ => exact seqs h
theorem bls_rep : ∀ {xs : List D} {vs : List V} {bs : List Bool}, Reps K ρ H xs vs → blsOf xs = some bs → vs = bs.map V.bl
  | _, _, _, .nil, h => by cases h; rfl
  | _, _, bs, .cons (d := d) (ds := ds) r rs, h => by
    cases r with
    | bl b =>
      simp only [blsOf] at h
      cases e : blsOf ds with
      | none => rw [e] at h; cases h
      | some cs => rw [e] at h; cases h; rw [bls_rep rs e]; rfl
    | _ => cases h
theorem ints_rep : ∀ {xs : List D} {vs : List V} {bs : List Int}, Reps K ρ H xs vs → intsOf xs = some bs → vs = bs.map V.int
  | _, _, _, .nil, h => by cases h; rfl
  | _, _, bs, .cons (d := d) (ds := ds) r rs, h => by
    cases r with
    | int b =>
      simp only [intsOf] at h
      cases e : intsOf ds with
      | none => rw [e] at h; cases h
      | some cs => rw [e] at h; cases h; rw [ints_rep rs e]; rfl
    | _ => cases h
def Blt.val : Blt → Value
  | .len => .builtin "len"
  | .int => .type "int"
  | .list => .type "list"
  | .tuple => .type "tuple"
  | .all => .builtin "all"
  | .abs => .builtin "abs"
  | .min => .builtin "min"
  | .max => .builtin "max"
  | .str => .type "str"
  | .any => .builtin "any"
  | .sum => .builtin "sum"
def Blt.rule (K : PySem.W.Frag) : Blt → RC
  | .len => fun xs H Q => ∃ x n, xs = [x] ∧ LenV K x H n ∧ Q (.int n) H
  | .int => fun xs H Q => ((∃ i, xs = [.int i] ∧ Q (.int i) H) ∨ ∃ k, xs = [.bl k] ∧ Q (.int (if k then 1 else 0)) H) ∨ ∃ a n, xs = [.str a] ∧ PySem.intText? a = some n ∧ a.length ≤ 640 ∧ Q (.int n) H
  | .list => fun xs H Q => (∃ p ys, xs = [.ref p] ∧ (SqL K H p ys ∨ SqT K H p ys) ∧ ∀ l, H l = none → Q (.ref l) (upd H l (.lst ys))) ∨
      ∃ z : Str, xs = [.str z] ∧ z.length ≤ sizeLine ∧ ∀ l, H l = none → Q (.ref l) (upd H l (.lst (z.cps.toList.map fun c => .str ⟨#[c]⟩)))
  | .tuple => fun xs H Q => ∃ p ys, xs = [.ref p] ∧ ((SqL K H p ys ∧ ∀ l, H l = none → Q (.ref l) (upd H l (.tup ys))) ∨ (SqT K H p ys ∧ Q (.ref p) H))
  | .all => rAll K
  | .abs => fun xs H Q => ∃ i, xs = [.int i] ∧ Q (.int (if i < 0 then -i else i)) H
  | .min => fun xs H Q => ∃ i j, xs = [.int i, .int j] ∧ Q (.int (if j < i then j else i)) H
  | .max => fun xs H Q => ∃ i j, xs = [.int i, .int j] ∧ Q (.int (if j > i then j else i)) H
  | .str => fun xs H Q => (∃ i, xs = [.int i] ∧ i.natAbs.log2 < 1920 ∧ Q (.str (toString i)) H) ∨ ∃ a, xs = [.str a] ∧ Q (.str a) H
  | .any => rAny K
  | .sum => rSum K
theorem Blt.ok (b : Blt) (hc : b ≠ .int → X.calm = true) : CallR X b.val (b.rule X.K) := by
  cases b with
  | len => exact call_len
  | int => exact CallR.or call_int1 call_int_str
  | list => exact CallR.or call_list_of (cr_listS (hc (by simp)))
  | tuple => exact call_tuple_of
  | all => exact cr_all (hc (by simp))
  | abs => exact call_abs
  | min => exact call_min2 (hc (by simp))
  | max => exact call_max2 (hc (by simp))
  | str => exact CallR.or call_str_int SkE.call_str_str
  | any => exact cr_any (hc (by simp))
  | sum => exact cr_sum (hc (by simp))

theorem reps0 {vs : List V} (rs : Reps K ρ H [] vs) : vs = [] := by cases rs; rfl
theorem reps1 {x : D} {vs : List V} (rs : Reps K ρ H [x] vs) : ∃ v, vs = [v] ∧ Rep K ρ H x v := by
  cases rs with
  | cons r t => cases t; exact ⟨_, rfl, r⟩
theorem reps2 {x y : D} {vs : List V} (rs : Reps K ρ H [x, y] vs) : ∃ v w, vs = [v, w] ∧ Rep K ρ H x v ∧ Rep K ρ H y w := by
  cases rs with
  | cons r t =>
    obtain ⟨w, rfl, q⟩ := reps1 t
    exact ⟨_, w, rfl, r, q⟩
theorem list_of (st : StR K cA ρ H S) {x : D} {v : V} {d : D} {Q : VK} (r : Rep K ρ H x v) (h : listD S x = some d) (k : ∀ zs vs, d = .lst zs → Reps K ρ H zs vs → ∀ p, H p = none → Q (.ref p) (upd H p (.lst vs))) : Blt.list.rule K [v] H Q := by
  have seqs : (match seqO S x with | some ys => some (D.lst ys) | none => none) = some d → Blt.list.rule K [v] H Q := fun h => by
    cases e : seqO S x with
    | none => rw [e] at h; cases h
    | some ys =>
      rw [e] at h; cases h
      obtain ⟨a, ws, rfl, q, rw_⟩ := seqO_sq st r e
      exact .inl ⟨a, ws, rfl, q, k _ _ rfl rw_⟩
  cases r with
  | str z =>
    simp only [listD] at h
    split at h
    case isFalse => cases h
    rename_i c
    cases h
    refine .inr ⟨z, rfl, by rw [line_eq]; exact c, k _ _ rfl ?_⟩
    induction z.cps.toList with
    | nil => exact .nil
    | cons c cs ih => exact .cons (.str _) ih
  | _ => exact seqs h
theorem Blt.of1 (st : StR K cA ρ H S) {b : Blt} {x : D} {v : V} {d : D} {Q : VK} (r : Rep K ρ H x v) (h : b.sem1 S x = some d) (k : Kon K cA ρ H S d Q) : b.rule K [v] H Q := by
  cases b with
  | len =>
    obtain ⟨n, h1, h2⟩ := len_of st r h k
    exact ⟨_, n, rfl, h1, h2⟩
  | int =>
    have h : intD x = some d := h
    cases r with
    | int i => cases h; exact .inl (.inl ⟨i, rfl, kon_here st k (.int _)⟩)
    | bl i => cases h; exact .inl (.inr ⟨i, rfl, kon_here st k (.int _)⟩)
    | str z =>
      simp only [intD] at h
      cases e : PySem.intText? z with
      | none => rw [e] at h; cases h
      | some n =>
        rw [e] at h
        simp only at h
        split at h
        case isFalse => cases h
        rename_i c
        cases h
        exact .inr ⟨z, n, rfl, e, c, kon_here st k (.int _)⟩
    | _ => cases h
  | list => exact list_of st r h fun zs vs e rs => kon_lst st (by rw [← e]; exact k) rs
  | tuple =>
    have h : tupleD S x = some d := h
    unfold tupleD at h
    cases e : seqO S x with
    | none => rw [e] at h; cases h
    | some ys =>
      rw [e] at h; cases h
      by_cases ht : ∃ ds, x = .tup ds
      · obtain ⟨ds, rfl⟩ := ht
        cases e
        cases r with
        | tup at_ rs =>
          exact ⟨_, _, rfl, .inr ⟨at_.sq, kon_here st k (.tup at_ rs)⟩⟩
      · have e' : seqL S x = some ys := by
          cases x with
          | tup ds => exact absurd ⟨ds, rfl⟩ ht
          | _ => exact e
        obtain ⟨a, ws, rfl, q, rw_⟩ := seqL_sq st r e'
        exact ⟨a, ws, rfl, .inl ⟨q, kon_tup st k rw_⟩⟩
  | all =>
    have h : allD S x = some d := h
    unfold allD at h
    cases e : seqL S x with
    | none => rw [e] at h; cases h
    | some ys =>
      rw [e] at h
      simp only at h
      cases e2 : blsOf ys with
      | none => rw [e2] at h; cases h
      | some bs =>
        rw [e2] at h; cases h
        obtain ⟨a, ws, rfl, q, rw_⟩ := seqL_sq st r e
        rw [bls_rep rw_ e2] at q
        exact ⟨a, bs, rfl, q, kon_here st k (.bl _)⟩
  | abs =>
    have h : absD x = some d := h
    cases r with
    | int i => cases h; exact ⟨i, rfl, kon_here st k (.int _)⟩
    | _ => cases h
  | min => cases h
  | max => cases h
  | any =>
    have h : anyD S x = some d := h
    unfold anyD at h
    cases e : seqL S x with
    | none => rw [e] at h; cases h
    | some ys =>
      rw [e] at h
      simp only at h
      cases e2 : blsOf ys with
      | none => rw [e2] at h; cases h
      | some bs =>
        rw [e2] at h; cases h
        obtain ⟨a, ws, rfl, q, rw_⟩ := seqL_sq st r e
        rw [bls_rep rw_ e2] at q
        exact ⟨a, bs, rfl, q, kon_here st k (.bl _)⟩
  | sum =>
    have h : sumD S x = some d := h
    unfold sumD at h
    cases e : seqL S x with
    | none => rw [e] at h; cases h
    | some ys =>
      rw [e] at h
      simp only at h
      cases e2 : intsOf ys with
      | none => rw [e2] at h; cases h
      | some bs =>
        rw [e2] at h; cases h
        obtain ⟨a, ws, rfl, q, rw_⟩ := seqL_sq st r e
        rw [ints_rep rw_ e2] at q
        exact ⟨a, bs, rfl, q, kon_here st k (.int _)⟩
  | str =>
    have h : strD x = some d := h
    cases r with
    | int i =>
      have h : (if i.natAbs.log2 < 1920 then some (D.str (toString i)) else none) = some d := h
      split at h
      · next c => cases h; exact .inl ⟨i, rfl, c, kon_here st k (.str _)⟩
      · cases h
    | str z => cases h; exact .inr ⟨z, rfl, kon_here st k (.str _)⟩
    | _ => cases h
theorem Blt.of2 (st : StR K cA ρ H S) {b : Blt} {x y : D} {v w : V} {d : D} {Q : VK} (r : Rep K ρ H x v) (r2 : Rep K ρ H y w) (h : b.sem2 x y = some d) (k : Kon K cA ρ H S d Q) : b.rule K [v, w] H Q := by
  cases b with
  | min =>
    have h : minD x y = some d := h
    cases r with
    | int i =>
      cases r2 with
      | int j => cases h; exact ⟨i, j, rfl, kon_here st k (.int _)⟩
      | _ => cases h
    | _ => cases h
  | max =>
    have h : maxD x y = some d := h
    cases r with
    | int i =>
      cases r2 with
      | int j => cases h; exact ⟨i, j, rfl, kon_here st k (.int _)⟩
      | _ => cases h
    | _ => cases h
  | _ => cases h
theorem Blt.of (st : StR K cA ρ H S) {b : Blt} {xs : List D} {vs : List V} {d : D} {Q : VK} (rs : Reps K ρ H xs vs) (h : b.sem S xs = some d) (k : Kon K cA ρ H S d Q) : b.rule K vs H Q := by
  rcases xs with _ | ⟨x, _ | ⟨y, _ | ⟨z, zs⟩⟩⟩
  · cases h
  · obtain ⟨v, rfl, r⟩ := reps1 rs
    exact Blt.of1 st r h k
  · obtain ⟨v, w, rfl, r, r2⟩ := reps2 rs
    exact Blt.of2 st r r2 h k
  · cases h
theorem bltOf_cases {f : Str} {b : Blt} (h : bltOf f = some b) : bootBuiltins f = some b.val ∧ f ≠ "__name__" := by
  unfold bltOf at h
  repeat' (split at h)
  all_goals first
    | (cases h; done)
    | (rename_i e; cases h; rw [beq_iff_eq.mp e]; exact ⟨by decide +kernel, by decide +kernel⟩)
    | (cases h; simp_all; exact ⟨by decide +kernel, by decide +kernel⟩)

/-! ### methods -/
theorem strs_rep : ∀ {xs : List D} {vs : List V} {bs : List Str}, Reps K ρ H xs vs → strsOf xs = some bs → vs = bs.map V.str
  | _, _, _, .nil, h => by cases h; rfl
  | _, _, bs, .cons (d := d) (ds := ds) r rs, h => by
    cases r with
    | str b =>
      simp only [strsOf] at h
      cases e : strsOf ds with
      | none => rw [e] at h; cases h
      | some cs => rw [e] at h; cases h; rw [strs_rep rs e]; rfl
    | _ => cases h
def MId.id : MId → String
  | .bitLength => "int.bit_length"
  | .append => "list.append"
  | .split => "str.split"
  | .join => "str.join"
  | .index => "list.index"
  | .pop => "list.pop"
  | .insert => "list.insert"
  | .clear => "list.clear"
  | .upper => "str.upper"
  | .partition => "str.partition"
  | .get => "dict.get"
  | .count => "str.count"
  | .countL => "list.count"
def MId.T : MId → String
  | .bitLength => "int"
  | .append | .index | .pop | .insert | .clear | .countL => "list"
  | .split | .join | .upper | .partition | .count => "str"
  | .get => "dict"
def MId.nm : MId → Str
  | .bitLength => "bit_length"
  | .append => "append"
  | .split => "split"
  | .join => "join"
  | .index => "index"
  | .pop => "pop"
  | .insert => "insert"
  | .clear => "clear"
  | .upper => "upper"
  | .partition => "partition"
  | .get => "get"
  | .count => "count"
  | .countL => "count"
def MId.rule (K : PySem.W.Frag) : MId → V → List V → Hp → VK → Prop
  | .bitLength => fun x xs H Q => ∃ i, x = .int i ∧ xs = [] ∧ Q (.int (Builtin.Int.intBits i : Nat)) H
  | .append => rAppend
  | .split => fun x xs H Q => ∃ a b, x = .str a ∧ xs = [.str b] ∧ (b.length == 0) = false ∧ a.length + 2 ≤ sizeLine ∧ rNewStrs (Txt.split a b) H Q
  | .join => fun x xs H Q => ∃ a p, ∃ ys : List Str, x = .str a ∧ xs = [.ref p] ∧ (SqL K H p (ys.map V.str) ∨ SqT K H p (ys.map V.str)) ∧ (ys.map (·.length)).sum + ys.length * a.length ≤ 16777216 ∧ Q (.str (Txt.join a ys)) H
  | .index => rIndexD K
  | .pop => fun x xs H Q => rPop x xs H Q ∨ rPopAt x xs H Q
  | .insert => fun x vs H Q => ∃ (l : Addr) (xs : List V) (i : Int) (y : V), x = .ref l ∧ vs = [.int i, y] ∧ H l = some (.lst xs) ∧ xs.length < sizeLine ∧ 0 ≤ i ∧ i < 2 ^ 63 ∧ Q .non (upd H l (.lst (xs.take i.toNat ++ [y] ++ xs.drop i.toNat)))
  | .clear => rClear
  | .upper => fun x xs H Q => ∃ a, x = .str a ∧ xs = [] ∧ a.length ≤ 5592405 ∧ Q (.str (Txt.upper a)) H
  | .partition => fun x xs H Q => ∃ a b, x = .str a ∧ xs = [.str b] ∧ (b.length == 0) = false ∧ a.length ≤ sizeLine ∧ ∀ p, H p = none → Q (.ref p) (upd H p (.tup [.str (Txt.partition a b).1, .str (Txt.partition a b).2.1, .str (Txt.partition a b).2.2]))
  | .get => rGetD
  | .count => fun x xs H Q => ∃ a b, x = .str a ∧ xs = [.str b] ∧ Q (.int (Txt.count a b)) H
  | .countL => rCountD K
theorem MId.plain (m : MId) : PlainAttrs m.T := by
  cases m <;> first | exact PySem.F.plainAttrs_int | exact PySem.F.plainAttrs_list | exact PySem.F.plainAttrs_str | exact PySem.F.plainAttrs_dict
theorem MId.slot (m : MId) : Slot m.T m.nm m.id := by
  cases m with
  | bitLength => exact PyProof.Rows.slot_int_bit_length
  | append => exact PySem.F.slot_list_append
  | split => exact PySem.F.slot_str_split
  | join => exact PySem.F.slot_str_join
  | index => exact PySem.F.slot_list_index
  | pop => exact PySem.F.slot_list_pop
  | insert => exact PySem.F.slot_list_insert
  | clear => exact PySem.F.slot_list_clear
  | upper => exact PySem.F.slot_str_upper
  | partition => exact PySem.F.slot_str_partition
  | get => exact PySem.F.slot_dict_get
  | count => exact PySem.F.slot_str_count
  | countL => exact PySem.F.slot_list_count
theorem MId.ty (m : MId) : typeOf (.builtin m.id) = pure (.type "method_descriptor") := by
  cases m with
  | bitLength => exact PyProof.Rows.type_int_bit_length
  | append => exact PySem.F.type_list_append
  | split => exact PySem.F.type_str_split
  | join => exact PySem.F.type_str_join
  | index => exact PySem.F.type_list_index
  | pop => exact PySem.F.type_list_pop
  | insert => exact PySem.F.type_list_insert
  | clear => exact PySem.F.type_list_clear
  | upper => exact PySem.F.type_str_upper
  | partition => exact PySem.F.type_str_partition
  | get => exact PySem.F.type_dict_get
  | count => exact PySem.F.type_str_count
  | countL => exact PySem.F.type_list_count
theorem MId.ok (hu : X.A.units + 65 < cLine) (m : MId) : MtR X m.id (m.rule X.K) := by
  cases m with
  | bitLength =>
    intro pins s σ H x xs v us Q I r1 r2 h
    obtain ⟨i, rfl, rfl, q⟩ := h
    obtain ⟨t, rfl⟩ := _root_.id r1
    cases r2
    exact call_int_bit_length ⟨.int _, H, I.tok _, ⟨_, rfl⟩, q⟩
  | append => exact mt_append
  | split => exact mt_split
  | join => exact mt_join
  | index => exact mt_indexD hu
  | pop => exact MtR.or mt_pop mt_popAt
  | insert => exact mt_insert
  | clear => exact mt_clear
  | upper => exact mt_upper
  | partition => exact mt_partition
  | get => exact mt_getD hu
  | count => exact mt_count
  | countL => exact mt_countD hu
/-- what the receiver is, where the method is found -/
theorem mId_of (st : StR K cA ρ H S) {x : D} {m : Str} {i : MId} {v : V} (r : Rep K ρ H x v) (h : mIdD S x m = some i) : m = i.nm ∧ tyV K i.T v H := by
  have lists : (match seqL S x with
    | some _ => if m == "append" then some MId.append else if m == "index" then some .index else if m == "pop" then some .pop else if m == "insert" then some .insert else if m == "clear" then some .clear else if m == "count" then some .countL else none
    | none => (match dicOf S x with
      | some _ => if m == "get" then some .get else none
      | none => none)) = some i → m = i.nm ∧ tyV K i.T v H := by
    intro h
    cases e : seqL S x with
    | none =>
      rw [e] at h
      simp only at h
      cases e2 : dicOf S x with
      | none => rw [e2] at h; cases h
      | some kvs =>
        rw [e2] at h
        simp only at h
        split at h
        case isFalse => cases h
        rename_i c
        cases h
        obtain ⟨l, a, vs, rfl, rfl, _, _, e3, _⟩ := dicOf_at st r e2
        exact ⟨beq_iff_eq.mp c, .inr (.inr (.inl ⟨rfl, .inl ⟨vs, e3⟩⟩))⟩
    | some xs =>
      rw [e] at h
      simp only at h
      obtain ⟨a, vs, rfl, q, _⟩ := seqL_sq st r e
      repeat' split at h
      all_goals first
        | (cases h; done)
        | (rename_i c; cases h; exact ⟨beq_iff_eq.mp c, .inl ⟨rfl, vs, q⟩⟩)
  cases r with
  | int n =>
    simp only [mIdD] at h
    split at h <;> cases h
    rename_i c
    exact ⟨beq_iff_eq.mp c, rfl⟩
  | str z =>
    simp only [mIdD] at h
    repeat' split at h
    all_goals first
      | (cases h; done)
      | (rename_i c; cases h; exact ⟨beq_iff_eq.mp c, rfl⟩)
  | _ => exact lists h
theorem first_ok (a : PyData) : ∀ (ds : List PyData) (i j : Nat), firstD a i ds = some j → ∃ m, j = i + m ∧ ∃ z, ds[m]? = some z ∧ PyData.eqv z a = true ∧ ∀ (m' : Nat) (z' : PyData), m' < m → ds[m']? = some z' → PyData.eqv z' a = false
  | [], i, j, h => by cases h
  | d :: ds, i, j, h => by
    unfold firstD at h
    split at h
    · rename_i c
      cases h
      exact ⟨0, rfl, d, rfl, c, fun m' z' hm => absurd hm (by omega)⟩
    · rename_i c
      obtain ⟨m, rfl, z, h1, h2, h3⟩ := first_ok a ds (i + 1) j h
      refine ⟨m + 1, by omega, z, by simpa using h1, h2, fun m' z' hm hz => ?_⟩
      cases m' with
      | zero => simp at hz; subst hz; simpa using c
      | succ m' => exact h3 m' z' (by omega) (by simpa using hz)
theorem lst_in (st : StR K cA ρ H S) {l : Nat} {a : Addr} {ys : List D} (q : S[l]? = some (.lst ys)) (e : ρ.l[l]? = some a) : ∃ ws, H a = some (.lst ws) ∧ Reps K ρ H ys ws := st.at q e
theorem split_ref (st : StR K cA ρ H S) {x : D} {xs ys : List D} {v : V} {vs : List V} {S' : Store} {Q : VK} (r : Rep K ρ H x v) (rs : Reps K ρ H xs vs) (h : mthD S .split x xs = some (.lst ys, S')) (k : Kon K cA ρ H (S' ++ [.lst ys]) (.ref S'.length) Q) : MId.split.rule K v vs H Q := by
  simp only [mthD] at h
  cases r with
  | str a =>
    rcases xs with _ | ⟨y, _ | ⟨y2, ys⟩⟩
    · cases h
    · obtain ⟨w, rfl, ry⟩ := reps1 rs
      cases ry with
      | str b =>
        simp only at h
        split at h
        case isFalse => cases h
        rename_i c
        cases h
        refine ⟨a, b, rfl, rfl, c.1, by rw [line_eq]; exact c.2, fun p hp => ?_⟩
        refine kon_ref st k ?_ p hp
        induction Txt.split a b with
        | nil => exact .nil
        | cons c cs ih => exact .cons (.str _) ih
      | _ => cases h
    · cases y <;> cases h
  | _ => cases h
theorem mth_of (st : StR K cA ρ H S) {m : MId} {x : D} {xs : List D} {v : V} {vs : List V} {d : D} {S' : Store} {Q : VK} (r : Rep K ρ H x v) (rs : Reps K ρ H xs vs) (h : mthD S m x xs = some (d, S')) (k : Kon K cA ρ H S' d Q) : m.rule K v vs H Q := by
  cases m with
  | bitLength =>
    simp only [mthD] at h
    cases r with
    | int i =>
      cases rs with
      | nil => cases h; exact ⟨i, rfl, rfl, kon_here st k (.int _)⟩
      | cons _ _ => cases h
    | _ => cases h
  | append =>
    simp only [mthD] at h
    cases r with
    | ref e =>
      rename_i l a
      cases rs with
      | nil => cases h
      | cons ry rs2 =>
        cases rs2 with
        | cons _ _ => cases h
        | nil =>
          rename_i y vy
          simp only at h
          cases q : S[l]? with
          | none => rw [q] at h; cases h
          | some o =>
            rw [q] at h
            cases o with
            | lst ys =>
              simp only at h
              split at h <;> cases h
              rename_i c
              obtain ⟨ws, e1, rw_⟩ := st.at q e
              refine ⟨a, ws, vy, rfl, rfl, e1, by rw [line_eq, ← rw_.length]; exact c, ?_⟩
              obtain ⟨e2, s2⟩ := ext_write (u := .lst (ws ++ [vy])) (o := .lst (ys ++ [y])) st e fun H' e' z => ⟨_, z, (rw_.append (.cons ry .nil)).ext e'⟩
              exact k _ _ _ e2 s2 .non
            | ins => cases h
            | dic => cases h
            | dead => cases h
    | _ => cases h
  | split =>
    simp only [mthD] at h
    cases r with
    | str a =>
      rcases xs with _ | ⟨y, _ | ⟨y2, ys⟩⟩
      · cases h
      · obtain ⟨w, rfl, ry⟩ := reps1 rs
        cases ry with
        | str b =>
          simp only at h
          split at h
          case isFalse => cases h
          rename_i c
          cases h
          refine ⟨a, b, rfl, rfl, c.1, by rw [line_eq]; exact c.2, fun p hp => ?_⟩
          refine kon_lst st k ?_ p hp
          induction Txt.split a b with
          | nil => exact .nil
          | cons c cs ih => exact .cons (.str _) ih
        | _ => cases h
      · cases y <;> cases h
    | _ => cases h
  | join =>
    simp only [mthD] at h
    cases r with
    | str a =>
      rcases xs with _ | ⟨y, _ | ⟨y2, ys⟩⟩
      · cases h
      · obtain ⟨w, rfl, ry⟩ := reps1 rs
        simp only at h
        cases e : seqO S y with
        | none => rw [e] at h; cases h
        | some zs =>
          rw [e] at h
          simp only at h
          cases e2 : strsOf zs with
          | none => rw [e2] at h; cases h
          | some ts =>
            rw [e2] at h
            simp only at h
            split at h
            case isFalse => cases h
            rename_i c
            cases h
            obtain ⟨p, ws, rfl, q, rw_⟩ := seqO_sq st ry e
            rw [strs_rep rw_ e2] at q
            exact ⟨a, p, ts, rfl, rfl, q, c, kon_here st k (.str _)⟩
      · cases h
    | _ => cases h
  | upper =>
    simp only [mthD] at h
    cases r with
    | str a =>
      cases rs with
      | cons _ _ => cases h
      | nil =>
        simp only at h
        split at h
        case isFalse => cases h
        rename_i c
        cases h
        exact ⟨a, rfl, rfl, c, kon_here st k (.str _)⟩
    | _ => cases h
  | partition =>
    simp only [mthD] at h
    cases r with
    | str a =>
      rcases xs with _ | ⟨y, _ | ⟨y2, ys⟩⟩
      · cases h
      · obtain ⟨w, rfl, ry⟩ := reps1 rs
        cases ry with
        | str b =>
          simp only at h
          split at h
          case isFalse => cases h
          rename_i c
          cases h
          exact ⟨a, b, rfl, rfl, c.1, by rw [line_eq]; exact c.2, kon_tup st k (.cons (.str _) (.cons (.str _) (.cons (.str _) .nil)))⟩
        | _ => cases h
      · cases y <;> cases h
    | _ => cases h
  | count =>
    simp only [mthD] at h
    cases r with
    | str a =>
      rcases xs with _ | ⟨y, _ | ⟨y2, ys⟩⟩
      · cases h
      · obtain ⟨w, rfl, ry⟩ := reps1 rs
        cases ry with
        | str b => cases h; exact ⟨a, b, rfl, rfl, kon_here st k (.int _)⟩
        | _ => cases h
      · cases y <;> cases h
    | _ => cases h
  | index =>
    simp only [mthD] at h
    cases e : toPyS S x with
    | none => rw [e] at h; cases h
    | some p =>
      rw [e] at h
      cases p with
      | list ds =>
        rcases xs with _ | ⟨y, _ | ⟨y2, ys⟩⟩
        · cases h
        · obtain ⟨w, rfl, ry⟩ := reps1 rs
          simp only at h
          cases e2 : toPyS S y with
          | none => rw [e2] at h; cases h
          | some a =>
            rw [e2] at h
            simp only at h
            split at h
            case isFalse => cases h
            rename_i c
            cases e3 : firstD a 0 ds with
            | none => rw [e3] at h; cases h
            | some j =>
              rw [e3] at h
              cases h
              obtain ⟨m, hj, z, h1, h2, h3⟩ := first_ok a ds 0 j e3
              have hj : j = m := by omega
              subst hj
              have dp := toPyS_dp st r e
              cases dp with
              | lst hs ha => exact ⟨_, w, a, ds, j, z, rfl, rfl, .lst hs ha, toPyS_dp st ry e2, c.1, c.2, h1, h2, h3, kon_here st k (.int _)⟩
        · cases h
      | _ => cases h
  | countL =>
    simp only [mthD] at h
    cases e : toPyS S x with
    | none => rw [e] at h; cases h
    | some p =>
      rw [e] at h
      cases p with
      | list ds =>
        rcases xs with _ | ⟨y, _ | ⟨y2, ys⟩⟩
        · cases h
        · obtain ⟨w, rfl, ry⟩ := reps1 rs
          simp only at h
          cases e2 : toPyS S y with
          | none => rw [e2] at h; cases h
          | some a =>
            rw [e2] at h
            simp only at h
            split at h
            case isFalse => cases h
            rename_i c
            cases h
            have dp := toPyS_dp st r e
            cases dp with
            | lst hs ha => exact ⟨_, w, a, ds, rfl, rfl, .lst hs ha, toPyS_dp st ry e2, c.1, c.2, kon_here st k (.int _)⟩
        · cases h
      | _ => cases h
  | pop =>
    simp only [mthD] at h
    cases r with
    | ref e =>
      rename_i l a
      rcases xs with _ | ⟨y, _ | ⟨y2, ys⟩⟩
      · obtain rfl := reps0 rs
        simp only at h
        cases q : S[l]? with
        | none => rw [q] at h; cases h
        | some o =>
          rw [q] at h
          cases o with
          | lst ys =>
            simp only at h
            cases e2 : ys[ys.length - 1]? with
            | none => rw [e2] at h; cases h
            | some y =>
              rw [e2] at h; cases h
              obtain ⟨ws, e1, rw_⟩ := st.at q e
              obtain ⟨w, h1, h2⟩ := rw_.get e2
              refine .inl ⟨a, ws, w, rfl, rfl, e1, by rw [← rw_.length]; exact h1, ?_⟩
              obtain ⟨e3, s3⟩ := ext_write (u := .lst ws.dropLast) (o := .lst ys.dropLast) st e fun H' e' z => ⟨_, z, by rw [List.dropLast_eq_take, List.dropLast_eq_take, ← rw_.length]; exact (rw_.take _).ext e'⟩
              exact k _ _ _ e3 s3 (h2.ext e3)
          | _ => cases h
      · obtain ⟨w, rfl, ry⟩ := reps1 rs
        cases ry with
        | int i =>
          simp only at h
          cases q : S[l]? with
          | none => rw [q] at h; cases h
          | some o =>
            rw [q] at h
            cases o with
            | lst ys =>
              simp only at h
              split at h
              case isFalse => cases h
              rename_i c
              cases e2 : ys[i.toNat]? with
              | none => rw [e2] at h; cases h
              | some y =>
                rw [e2] at h; cases h
                obtain ⟨ws, e1, rw_⟩ := st.at q e
                obtain ⟨w, h1, h2⟩ := rw_.get e2
                refine .inr ⟨a, ws, i, i.toNat, w, rfl, rfl, e1, by omega, by omega, seqIndex_of c.1 (by rw [← rw_.length]; exact c.2.1), h1, ?_⟩
                obtain ⟨e3, s3⟩ := ext_write (u := .lst (ws.eraseIdx i.toNat)) (o := .lst (ys.eraseIdx i.toNat)) st e fun H' e' z => ⟨_, z, by rw [List.eraseIdx_eq_take_drop_succ, List.eraseIdx_eq_take_drop_succ]; exact ((rw_.take _).append (rw_.drop _)).ext e'⟩
                exact k _ _ _ e3 s3 (h2.ext e3)
            | _ => cases h
        | _ => cases h
      · cases y <;> cases h
    | _ => rcases xs with _ | ⟨y, _ | ⟨y2, ys⟩⟩ <;> first | cases h | (cases y <;> cases h)
  | insert =>
    simp only [mthD] at h
    cases r with
    | ref e =>
      rename_i l a
      rcases xs with _ | ⟨y, _ | ⟨y2, _ | ⟨y3, ys⟩⟩⟩
      · cases h
      · cases y <;> cases h
      · obtain ⟨w, w2, rfl, ry, ry2⟩ := reps2 rs
        cases ry with
        | int i =>
          simp only at h
          cases q : S[l]? with
          | none => rw [q] at h; cases h
          | some o =>
            rw [q] at h
            cases o with
            | lst ys =>
              simp only at h
              split at h
              case isFalse => cases h
              rename_i c
              cases h
              obtain ⟨ws, e1, rw_⟩ := st.at q e
              refine ⟨a, ws, i, w2, rfl, rfl, e1, by rw [line_eq, ← rw_.length]; exact c.1, c.2.1, by omega, ?_⟩
              obtain ⟨e3, s3⟩ := ext_write (u := .lst (ws.take i.toNat ++ [w2] ++ ws.drop i.toNat)) (o := .lst (ys.take i.toNat ++ [y2] ++ ys.drop i.toNat)) st e fun H' e' z => ⟨_, z, (((rw_.take _).append (.cons ry2 .nil)).append (rw_.drop _)).ext e'⟩
              exact k _ _ _ e3 s3 .non
            | _ => cases h
        | _ => cases h
      · cases y <;> cases h
    | _ => rcases xs with _ | ⟨y, _ | ⟨y2, _ | ⟨y3, ys⟩⟩⟩ <;> first | cases h | (cases y <;> cases h)
  | clear =>
    simp only [mthD] at h
    cases r with
    | ref e =>
      rename_i l a
      cases rs with
      | cons _ _ => cases h
      | nil =>
        simp only at h
        cases q : S[l]? with
        | none => rw [q] at h; cases h
        | some o =>
          rw [q] at h
          cases o with
          | lst ys =>
            cases h
            obtain ⟨ws, e1, rw_⟩ := st.at q e
            refine ⟨a, ws, rfl, rfl, e1, ?_⟩
            obtain ⟨e3, s3⟩ := ext_write (u := .lst []) (o := .lst []) st e fun H' e' z => ⟨_, z, .nil⟩
            exact k _ _ _ e3 s3 .non
          | _ => cases h
    | _ => cases rs <;> cases h
  | get =>
    simp only [mthD] at h
    cases e : dicOf S x with
    | none => rw [e] at h; cases h
    | some kvs =>
      rw [e] at h
      obtain ⟨l, a, ws, rfl, rfl, _, _, e3, r3⟩ := dicOf_at st r e
      rcases xs with _ | ⟨y, _ | ⟨y2, _ | ⟨y3, ys⟩⟩⟩
      · cases h
      · obtain ⟨w, rfl, ry⟩ := reps1 rs
        simp only at h
        cases e2 : keyD y with
        | none => rw [e2] at h; cases h
        | some kk =>
          rw [e2] at h; cases h
          refine ⟨a, w, valV ws kk, rfl, by rw [keyD_rep ry e2]; exact DGet.k e3, .inl ⟨rfl, ?_⟩⟩
          obtain ⟨p1, p2⟩ := r3.val kk
          cases c : valG kvs kk with
          | none =>
            rw [c] at k p1
            cases c2 : valV ws kk with
            | none => exact kon_here st k .non
            | some z => rw [c2] at p1; cases p1
          | some d =>
            obtain ⟨z, q1, q2⟩ := p2 d c
            rw [c] at k
            rw [q1]
            exact kon_here st k q2
      · obtain ⟨w, w2, rfl, ry, ry2⟩ := reps2 rs
        simp only at h
        cases e2 : keyD y with
        | none => rw [e2] at h; cases h
        | some kk =>
          rw [e2] at h; cases h
          refine ⟨a, w, valV ws kk, rfl, by rw [keyD_rep ry e2]; exact DGet.k e3, .inr ⟨w2, rfl, ?_⟩⟩
          obtain ⟨p1, p2⟩ := r3.val kk
          cases c : valG kvs kk with
          | none =>
            rw [c] at k p1
            cases c2 : valV ws kk with
            | none => exact kon_here st k ry2
            | some z => rw [c2] at p1; cases p1
          | some d =>
            obtain ⟨z, q1, q2⟩ := p2 d c
            rw [c] at k
            rw [q1]
            exact kon_here st k q2
      · cases h

/-! ### dict(x), len(set(x)), x[::-1] -/
theorem FReps.put {kvs : List (L2.Key × D)} {vs : List (L2.Key × V)} (r : FReps K ρ H kvs vs) (k : L2.Key) {d : D} {v : V} (q : Rep K ρ H d v) : FReps K ρ H (putG kvs k d) (putK vs k v) := by
  have an : (kvs.any fun kv => decide (kv.1 = k)) = (vs.any fun kv => decide (kv.1 = k)) := by
    induction r with
    | nil => rfl
    | cons _ _ ih => rw [List.any_cons, List.any_cons, ih]
  have rep : FReps K ρ H (kvs.map fun kv => if kv.1 = k then (kv.1, d) else kv) (vs.map fun kv => if kv.1 = k then (kv.1, v) else kv) := by
    clear an
    induction r with
    | nil => exact .nil
    | @cons k' d' v' ds vs' rd rs ih =>
      rw [List.map_cons, List.map_cons]
      by_cases c : k' = k
      · rw [if_pos (show (k', d').1 = k from c), if_pos (show (k', v').1 = k from c)]; exact .cons q ih
      · rw [if_neg (show ¬ (k', d').1 = k from c), if_neg (show ¬ (k', v').1 = k from c)]; exact .cons rd ih
  have more : FReps K ρ H (kvs ++ [(k, d)]) (vs ++ [(k, v)]) := by
    clear an rep
    induction r with
    | nil => exact .cons q .nil
    | cons rd rs ih => exact .cons rd ih
  unfold putG putK
  rw [← an]
  split
  · exact rep
  · exact more
theorem FReps.merge : ∀ {more : List (L2.Key × D)} {mv : List (L2.Key × V)} {kvs : List (L2.Key × D)} {vs : List (L2.Key × V)}, FReps K ρ H more mv → FReps K ρ H kvs vs → FReps K ρ H (mergeG kvs more) (mergeK vs mv)
  | [], _, _, _, .nil, r => r
  | (k, d) :: more, (_, v) :: mv, _, _, .cons q t, r => FReps.merge (more := more) (mv := mv) t (r.put k q)
theorem FReps.length {kvs : List (L2.Key × D)} {vs : List (L2.Key × V)} (r : FReps K ρ H kvs vs) : kvs.length = vs.length := by
  induction r with
  | nil => rfl
  | cons _ _ ih => rw [List.length_cons, List.length_cons, ih]
/-- a new dict -/
theorem kon_dic {kvs : List (L2.Key × D)} {vs : List (L2.Key × V)} {Q : VK} (st : StR K cA ρ H S) (k : Kon K cA ρ H (S ++ [.dic kvs]) (.ref S.length) Q) (r : FReps K ρ H kvs vs) : ∀ p, H p = none → Q (.ref p) (upd H p (.dK vs)) := fun p hp => by
  obtain ⟨e, s⟩ := ext_alloc (u := .dK vs) (o := .dic kvs) st hp fun ρ' H' e' q => ⟨vs, q, r.ext e'⟩
  exact k _ _ _ e s (.ref (by show (ρ.l ++ [p])[S.length]? = some p; rw [List.getElem?_append_right (by rw [st.len]; exact Nat.le_refl _), st.len, Nat.sub_self]; rfl))
theorem pairs_rep : ∀ {xs : List D} {vs : List V} {kvs : List (L2.Key × D)}, Reps K ρ H xs vs → pairsD xs = some kvs → ∃ (ps : List Addr) (ws : List (L2.Key × V)), vs = ps.map V.ref ∧ Paired (fun p kv => SqT K H p [kV kv.1, kv.2]) ps ws ∧ FReps K ρ H kvs ws
  | [], _, kvs, .nil, h => by cases h; exact ⟨[], [], rfl, .nil, .nil⟩
  | x :: xs, _, kvs, .cons r rs, h => by
    cases r with
    | tup at_ r2 =>
      rename_i ds a vs2
      rcases ds with _ | ⟨k0, _ | ⟨d0, _ | ⟨d1, ds⟩⟩⟩
      · cases h
      · cases h
      · obtain ⟨v1, v2, rfl, q1, q2⟩ := reps2 r2
        simp only [pairsD] at h
        cases e1 : keyD k0 with
        | none => rw [e1] at h; cases h
        | some kk =>
          cases e2 : pairsD xs with
          | none => rw [e1, e2] at h; cases h
          | some more =>
            rw [e1, e2] at h; cases h
            obtain ⟨ps, ws, rfl, h1, h2⟩ := pairs_rep rs e2
            refine ⟨a :: ps, (kk, v2) :: ws, rfl, .cons ?_ h1, .cons q2 h2⟩
            rw [keyD_rep q1 e1] at at_
            exact at_.sq
      · cases h
    | _ => cases h
theorem dict_of (st : StR K cA ρ H S) {x : D} {v : V} {d : D} {S' : Store} {Q : VK} (r : Rep K ρ H x v) (h : dictD S x = some (d, S')) (k : Kon K cA ρ H S' d Q) :
    (∃ (a : Addr) (ps : List Addr) (kvs : List (L2.Key × V)), [v] = [V.ref a] ∧ SqL K H a (ps.map V.ref) ∧ Paired (fun p kv => SqT K H p [kV kv.1, kv.2]) ps kvs ∧ ∀ p, H p = none → Q (.ref p) (upd H p (.dK (mergeK [] kvs)))) ∨
    ∃ (a : Addr) (kvs : List (L2.Key × V)), [v] = [V.ref a] ∧ Rd H a (.dK kvs) ∧ ∀ p, H p = none → Q (.ref p) (upd H p (.dK kvs)) := by
  unfold dictD at h
  cases e : dicOf S x with
  | some kvs =>
    rw [e] at h; cases h
    obtain ⟨l, a, ws, rfl, rfl, _, _, e3, r3⟩ := dicOf_at st r e
    exact .inr ⟨a, ws, rfl, .inl e3, kon_dic st k r3⟩
  | none =>
    rw [e] at h
    simp only at h
    cases e1 : seqL S x with
    | none => rw [e1] at h; cases h
    | some xs =>
      rw [e1] at h
      simp only at h
      cases e2 : pairsD xs with
      | none => rw [e2] at h; cases h
      | some kvs =>
        rw [e2] at h; cases h
        obtain ⟨a, vs, rfl, q, rs⟩ := seqL_sq st r e1
        obtain ⟨ps, ws, rfl, h1, h2⟩ := pairs_rep rs e2
        exact .inl ⟨a, ps, ws, rfl, q, h1, kon_dic st k (FReps.merge h2 .nil)⟩
theorem lenSet_of (st : StR K cA ρ H S) {x : D} {v : V} {d : D} {Q : VK} (r : Rep K ρ H x v) (h : lenSetD S x = some d) (k : Kon K cA ρ H S d Q) :
    ∃ l, ∃ xs : List Str, v = .ref l ∧ (SqL K H l (xs.map V.str) ∨ SqT K H l (xs.map V.str)) ∧ xs.length ≤ 1000 ∧ Q (.int (onceS [] xs).length) H := by
  unfold lenSetD at h
  cases e : seqO S x with
  | none => rw [e] at h; cases h
  | some ys =>
    rw [e] at h
    simp only at h
    cases e2 : strsOf ys with
    | none => rw [e2] at h; cases h
    | some zs =>
      rw [e2] at h
      simp only at h
      split at h
      case isFalse => cases h
      rename_i c
      cases h
      obtain ⟨a, vs, rfl, q, rs⟩ := seqO_sq st r e
      rw [strs_rep rs e2] at q
      exact ⟨a, zs, rfl, q, c, kon_here st k (.int _)⟩
theorem Reps.rev : ∀ {ds : List D} {vs : List V}, Reps K ρ H ds vs → Reps K ρ H ds.reverse vs.reverse
  | _, _, .nil => .nil
  | _, _, .cons r t => by rw [List.reverse_cons, List.reverse_cons]; exact (Reps.rev t).append (.cons r .nil)
theorem rev_of (st : StR K cA ρ H S) {x : D} {v : V} {d : D} {Q : VK} (r : Rep K ρ H x v) (h : revD S x = some d) (k : Kon K cA ρ H S d Q) : (∃ a xs, v = .ref a ∧ SqL K H a xs ∧ ∀ p, H p = none → Q (.ref p) (upd H p (.lst xs.reverse))) ∨ ∃ a xs, v = .ref a ∧ SqT K H a xs ∧ ∀ p, H p = none → Q (.ref p) (upd H p (.tup xs.reverse)) := by
  unfold revD at h
  cases e : seqL S x with
  | none =>
    rw [e] at h
    cases e2 : seqT x with
    | none => rw [e2] at h; cases h
    | some xs =>
      rw [e2] at h; cases h
      cases x with
      | tup ys =>
        cases e2
        cases r with
        | tup at_ rs => exact .inr ⟨_, _, rfl, at_.sq, kon_tup st k rs.rev⟩
      | _ => cases e2
  | some xs =>
    rw [e] at h; cases h
    obtain ⟨a, vs, rfl, q, rs⟩ := seqL_sq st r e
    exact .inl ⟨a, vs, rfl, q, kon_lst st k rs.rev⟩

/-! ### x[i] = v -/
theorem setL_of (st : StR K cA ρ H S) {o i v : D} {vo vi vv : V} {S' : Store} {Q : Hp → Prop} (ro : Rep K ρ H o vo) (ri : Rep K ρ H i vi) (rv : Rep K ρ H v vv) (h : setL S o i v = some S')
    (k : ∀ ρ' H', Ext ρ H ρ' H' → StR K cA ρ' H' S' → Q H') : rSetL vo vi vv H Q := by
  unfold setL at h
  cases ro with
  | ref e =>
    rename_i l a
    cases ri with
    | int n =>
      simp only at h
      cases q : S[l]? with
      | none => rw [q] at h; cases h
      | some ob =>
        rw [q] at h
        cases ob with
        | lst ys =>
          simp only at h
          cases e3 : L2.ixN ys.length n with
          | none => rw [e3] at h; cases h
          | some j =>
            rw [e3] at h; cases h
            obtain ⟨ws, e1, rw_⟩ := st.at q e
            refine ⟨a, ws, n, j, rfl, rfl, e1, by rw [← rw_.length]; exact e3, ?_⟩
            obtain ⟨e2, s2⟩ := ext_write (u := .lst (ws.set j vv)) (o := .lst (ys.set j v)) st e fun H' e' z => ⟨_, z, (rw_.set rv j).ext e'⟩
            exact k _ _ e2 s2
        | ins => cases h
        | dic => cases h
        | dead => cases h
    | _ => cases h
  | _ => cases h

def rSetA : V → V → V → Hp → (Hp → Prop) → Prop := fun o i v H Q => rSetL o i v H Q ∨ rSetK o i v H Q
theorem set_all (hu : X.A.units + 65 < cLine) : PSet X rSetA := by
  intro pins s σ H o i v ov iv u Q I ro ri rv h
  rcases h with h | h
  · exact set_list pins s σ H o i v ov iv u Q I ro ri rv h
  · exact set_key hu pins s σ H o i v ov iv u Q I ro ri rv h
theorem set_of (st : StR K cA ρ H S) {o i v : D} {vo vi vv : V} {S' : Store} {Q : Hp → Prop} (ro : Rep K ρ H o vo) (ri : Rep K ρ H i vi) (rv : Rep K ρ H v vv) (h : setD S o i v = some S')
    (k : ∀ ρ' H', Ext ρ H ρ' H' → StR K cA ρ' H' S' → Q H') : rSetA vo vi vv H Q := by
  cases e : dicOf S o with
  | none =>
    have : setL S o i v = some S' := by
      unfold setD at h
      rw [e] at h
      cases o <;> exact h
    exact .inl (setL_of st ro ri rv this k)
  | some kvs =>
    obtain ⟨l, a, ws, rfl, rfl, q, e2, e3, r3⟩ := dicOf_at st ro e
    cases e4 : keyD i with
    | none =>
      have : setL S (.ref l) i v = some S' := by
        unfold setD at h
        rw [e, e4] at h
        exact h
      exact .inl (setL_of st ro ri rv this k)
    | some kk =>
      unfold setD at h
      rw [e, e4] at h
      simp only at h
      split at h
      case isFalse => cases h
      rename_i c
      cases h
      obtain ⟨e5, s5⟩ := ext_write (u := .dK (putK ws kk vv)) (o := .dic (putG kvs kk v)) st e2 fun H' e' z => ⟨_, z, (r3.put kk rv).ext e'⟩
      refine .inr ⟨a, _, rfl, ?_, k _ _ e5 s5⟩
      rw [keyD_rep ri e4]
      exact DPut.k e3 (by rw [line_eq, ← r3.length]; exact c)

/-! ### walks -/
/-- J goes through the items of it -/
def ItR (K : PySem.W.Frag) (cA : CA) (it : Items) (ρ : Pl) (H : Hp) (J : It) : Prop := ∀ ρ' H' S (i : Nat), Ext ρ H ρ' H' → StR K cA ρ' H' S →
  (it.get S i = some none → J.stop i H') ∧ ∀ d, it.get S i = some (some d) → J.go i H' ∧ ∀ x H2, J.yld i H' x H2 → ∃ ρ2, Ext ρ' H' ρ2 H2 ∧ StR K cA ρ2 H2 S ∧ Rep K ρ2 H2 d x
abbrev iX (K : PySem.W.Frag) (cA : CA) (W : WX) (f : Env → Store → Out Items) : TI := tX K cA (fun ρ H it J => ItR K cA it ρ H J) W f
theorem ItR.ext {ρ' : Pl} {H' : Hp} {it : Items} {J : It} (h : ItR K cA it ρ H J) (e : Ext ρ H ρ' H') : ItR K cA it ρ' H' J := fun ρ2 H2 S i e2 st => h ρ2 H2 S i (e.trans e2) st
theorem wrap0 {i : Nat} {o : Option D} : o.map (wrapI false i) = o := by cases o <;> rfl
theorem get_val {xs : List D} {e : Bool} {S : Store} {i : Nat} : Items.get ⟨xs, none, e⟩ S i = some (xs[i]?.map (wrapI e i)) := rfl
theorem get_val0 {xs : List D} {S : Store} {i : Nat} : Items.get ⟨xs, none, false⟩ S i = some xs[i]? := by rw [get_val, wrap0]
/-- the walk of a text, a tuple, a list -/
def rIter (K : PySem.W.Frag) (v : V) (H : Hp) (R : It → Hp → Prop) : Prop :=
  (∃ z, v = .str z ∧ R (Its z) H) ∨ (∃ a, v = .ref a ∧ (∃ xs, SqL K H a xs) ∧ R (Itl K a) H) ∨ ∃ a, v = .ref a ∧ (∃ xs, SqT K H a xs) ∧ R (Itt K a) H
theorem itl_val (st : StR K cA ρ H S) {a : Addr} {xs : List D} {vs : List V} (q : LstAt K ρ H a vs) (rs : Reps K ρ H xs vs) : ItR K cA ⟨xs, none, false⟩ ρ H (Itl K a) := by
  intro ρ' H' S' i e st'
  have q' := q.ext e
  have rs' := rs.ext e
  rw [get_val0]
  refine ⟨fun h => ?_, fun d h => ?_⟩
  · have h : xs[i]? = none := Option.some.inj h
    exact ⟨vs, q'.sq, by rw [← rs.length]; exact List.getElem?_eq_none_iff.mp h⟩
  · have h : xs[i]? = some d := Option.some.inj h
    obtain ⟨v, h1, h2⟩ := rs'.get h
    refine ⟨⟨vs, v, q'.sq, h1⟩, fun x H2 y => ?_⟩
    obtain ⟨rfl, y⟩ := y
    have z := y vs q'.sq
    rw [h1] at z; cases z
    exact ⟨ρ', Ext.refl, st', h2⟩
theorem itt_val (st : StR K cA ρ H S) {a : Addr} {xs : List D} {vs : List V} (q : TupAt K ρ H a vs) (rs : Reps K ρ H xs vs) : ItR K cA ⟨xs, none, false⟩ ρ H (Itt K a) := by
  intro ρ' H' S' i e st'
  have q' := q.ext e
  have rs' := rs.ext e
  rw [get_val0]
  refine ⟨fun h => ?_, fun d h => ?_⟩
  · have h : xs[i]? = none := Option.some.inj h
    exact ⟨vs, q'.sq, by rw [← rs.length]; exact List.getElem?_eq_none_iff.mp h⟩
  · have h : xs[i]? = some d := Option.some.inj h
    obtain ⟨v, h1, h2⟩ := rs'.get h
    refine ⟨⟨vs, v, q'.sq, h1⟩, fun x H2 y => ?_⟩
    obtain ⟨rfl, y⟩ := y
    have z := y vs q'.sq
    rw [h1] at z; cases z
    exact ⟨ρ', Ext.refl, st', h2⟩
/-- the list of the store, at a turn -/
theorem ref_get {S' : Store} {ρ' : Pl} {H' : Hp} (st' : StR K cA ρ' H' S') {l : Nat} {a : Addr} {xs : List D} {en : Bool} {i : Nat} {o : Option D} (e0 : ρ'.l[l]? = some a) (h : Items.get ⟨xs, some l, en⟩ S' i = some o) :
    ∃ ds vs, SqL K H' a vs ∧ Reps K ρ' H' ds vs ∧ ds[i]?.map (wrapI en i) = o := by
  have h : (match S'[l]? with | some (.lst xs) => some (xs[i]?.map (wrapI en i)) | _ => none) = some o := h
  cases q : S'[l]? with
  | none => rw [q] at h; cases h
  | some ob =>
    rw [q] at h
    cases ob with
    | lst ds =>
      obtain ⟨vs, e1, rs⟩ := st'.at q e0
      exact ⟨ds, vs, .of e1, rs, Option.some.inj h⟩
    | ins => cases h
    | dic => cases h
    | dead => cases h
theorem itl_ref {l : Nat} {a : Addr} {xs : List D} (e0 : ρ.l[l]? = some a) : ItR K cA ⟨xs, some l, false⟩ ρ H (Itl K a) := by
  intro ρ' H' S' i e st'
  refine ⟨fun h => ?_, fun d h => ?_⟩
  · obtain ⟨ds, vs, q, rs, hi⟩ := ref_get st' (e.get e0) h
    rw [wrap0] at hi
    exact ⟨vs, q, by rw [← rs.length]; exact List.getElem?_eq_none_iff.mp hi⟩
  · obtain ⟨ds, vs, q, rs, hi⟩ := ref_get st' (e.get e0) h
    rw [wrap0] at hi
    obtain ⟨v, h1, h2⟩ := rs.get hi
    refine ⟨⟨vs, v, q, h1⟩, fun x H2 y => ?_⟩
    obtain ⟨rfl, y⟩ := y
    have z := y vs q
    rw [h1] at z; cases z
    exact ⟨ρ', Ext.refl, st', h2⟩
/-- a turn's new pair -/
theorem pair_new {ρ' : Pl} {H' : Hp} {S' : Store} (st' : StR K cA ρ' H' S') {x y : D} {v w : V} {T : Addr} (hT : H' T = none) (r1 : Rep K ρ' H' x v) (r2 : Rep K ρ' H' y w) :
    ∃ ρ2, Ext ρ' H' ρ2 (upd H' T (.tup [v, w])) ∧ StR K cA ρ2 (upd H' T (.tup [v, w])) S' ∧ Rep K ρ2 (upd H' T (.tup [v, w])) (.tup [x, y]) (.ref T) := by
  obtain ⟨e, s⟩ := ext_new (u := .tup [v, w]) st' hT
  exact ⟨ρ', e, s, .tup (.inl ⟨.inl upd_same, st'.fresh hT⟩) (.cons (r1.ext e) (.cons (r2.ext e) .nil))⟩
theorem ite_of {a : Addr} {it : Items} (hen : it.enum = true) (get : ∀ ρ' H' S' i o, Ext ρ H ρ' H' → StR K cA ρ' H' S' → it.get S' i = some o → ∃ ds vs, SqL K H' a vs ∧ Reps K ρ' H' ds vs ∧ ds[i]?.map (wrapI true i) = o) : ItR K cA it ρ H (Ite K a) := by
  intro ρ' H' S' i e st'
  refine ⟨fun h => ?_, fun d h => ?_⟩
  · obtain ⟨ds, vs, q, rs, hi⟩ := get ρ' H' S' i _ e st' h
    rw [Option.map_eq_none_iff] at hi
    exact ⟨vs, q, by rw [← rs.length]; exact List.getElem?_eq_none_iff.mp hi⟩
  · obtain ⟨ds, vs, q, rs, hi⟩ := get ρ' H' S' i _ e st' h
    obtain ⟨d0, h0, rfl⟩ := Option.map_eq_some_iff.mp hi
    obtain ⟨v, h1, h2⟩ := rs.get h0
    refine ⟨⟨vs, v, q, h1⟩, fun x H2 y => ?_⟩
    obtain ⟨T, x1, rfl, hT, rfl, y⟩ := y
    have z := y vs q
    rw [h1] at z; cases z
    exact pair_new st' hT (.int _) h2
theorem itz_of {a b : Addr} {xs ys : List D} {vs ws : List V} (qa : LstAt K ρ H a vs) (qb : LstAt K ρ H b ws) (ra : Reps K ρ H xs vs) (rb : Reps K ρ H ys ws) : ItR K cA ⟨pairUp xs ys, none, false⟩ ρ H (Itz K a b) := by
  have get : ∀ (xs ys : List D) (i : Nat), (pairUp xs ys)[i]? = none ∧ (xs.length ≤ i ∨ ys.length ≤ i) ∨ ∃ x y, (pairUp xs ys)[i]? = some (.tup [x, y]) ∧ xs[i]? = some x ∧ ys[i]? = some y := by
    intro xs
    induction xs with
    | nil => intro ys i; exact .inl ⟨by cases ys <;> rfl, .inl (Nat.zero_le _)⟩
    | cons x xs ih =>
      intro ys i
      cases ys with
      | nil => exact .inl ⟨rfl, .inr (Nat.zero_le _)⟩
      | cons y ys =>
        cases i with
        | zero => exact .inr ⟨x, y, rfl, rfl, rfl⟩
        | succ i =>
          rcases ih ys i with ⟨h1, h2⟩ | ⟨x', y', h1, h2, h3⟩
          · exact .inl ⟨by simpa [pairUp] using h1, h2.imp (fun h => by simpa using h) (fun h => by simpa using h)⟩
          · exact .inr ⟨x', y', by simpa [pairUp] using h1, by simpa using h2, by simpa using h3⟩
  intro ρ' H' S' i e st'
  rw [get_val0]
  rcases get xs ys i with ⟨h1, h2⟩ | ⟨x, y, h1, h2, h3⟩
  · refine ⟨fun _ => ⟨vs, ws, (qa.ext e).sq, (qb.ext e).sq, by rw [← ra.length, ← rb.length]; exact h2⟩, fun d h => by rw [h1] at h; cases h⟩
  · refine ⟨fun h => (by rw [h1] at h; cases h), fun d h => ?_⟩
    rw [h1] at h; cases h
    obtain ⟨v, p1, p2⟩ := (ra.ext e).get h2
    obtain ⟨w, q1, q2⟩ := (rb.ext e).get h3
    refine ⟨⟨vs, ws, v, w, (qa.ext e).sq, (qb.ext e).sq, p1, q1⟩, fun u H2 g => ?_⟩
    obtain ⟨T, x1, y1, rfl, hT, rfl, g1, g2⟩ := g
    have z := g1 vs (qa.ext e).sq
    rw [p1] at z; cases z
    have z := g2 ws (qb.ext e).sq
    rw [q1] at z; cases z
    exact pair_new st' hT p2 q2
theorem itzT_of {a b : Addr} {xs ys : List D} {vs ws : List V} (qa : TupAt K ρ H a vs) (qb : TupAt K ρ H b ws) (ra : Reps K ρ H xs vs) (rb : Reps K ρ H ys ws) : ItR K cA ⟨pairUp xs ys, none, false⟩ ρ H (RZ.ItzT K a b) := by
  have get : ∀ (xs ys : List D) (i : Nat), (pairUp xs ys)[i]? = none ∧ (xs.length ≤ i ∨ ys.length ≤ i) ∨ ∃ x y, (pairUp xs ys)[i]? = some (.tup [x, y]) ∧ xs[i]? = some x ∧ ys[i]? = some y := by
    intro xs
    induction xs with
    | nil => intro ys i; exact .inl ⟨by cases ys <;> rfl, .inl (Nat.zero_le _)⟩
    | cons x xs ih =>
      intro ys i
      cases ys with
      | nil => exact .inl ⟨rfl, .inr (Nat.zero_le _)⟩
      | cons y ys =>
        cases i with
        | zero => exact .inr ⟨x, y, rfl, rfl, rfl⟩
        | succ i =>
          rcases ih ys i with ⟨h1, h2⟩ | ⟨x', y', h1, h2, h3⟩
          · exact .inl ⟨by simpa [pairUp] using h1, h2.imp (fun h => by simpa using h) (fun h => by simpa using h)⟩
          · exact .inr ⟨x', y', by simpa [pairUp] using h1, by simpa using h2, by simpa using h3⟩
  intro ρ' H' S' i e st'
  rw [get_val0]
  rcases get xs ys i with ⟨h1, h2⟩ | ⟨x, y, h1, h2, h3⟩
  · refine ⟨fun _ => ⟨vs, ws, (qa.ext e).sq, (qb.ext e).sq, by rw [← ra.length, ← rb.length]; exact h2⟩, fun d h => by rw [h1] at h; cases h⟩
  · refine ⟨fun h => (by rw [h1] at h; cases h), fun d h => ?_⟩
    rw [h1] at h; cases h
    obtain ⟨v, p1, p2⟩ := (ra.ext e).get h2
    obtain ⟨w, q1, q2⟩ := (rb.ext e).get h3
    refine ⟨⟨vs, ws, v, w, (qa.ext e).sq, (qb.ext e).sq, p1, q1⟩, fun u H2 g => ?_⟩
    obtain ⟨T, x1, y1, rfl, hT, rfl, g1, g2⟩ := g
    have z := g1 vs (qa.ext e).sq
    rw [p1] at z; cases z
    have z := g2 ws (qb.ext e).sq
    rw [q1] at z; cases z
    exact pair_new st' hT p2 q2
theorem its_val {z : Str} : ItR K cA ⟨z.cps.toList.map fun c => .str ⟨#[c]⟩, none, false⟩ ρ H (Its z) := by
  intro ρ' H' S' i e st'
  rw [get_val0]
  have sz : z.cps.toList.length = z.cps.size := by simp
  refine ⟨fun h => ?_, fun d h => ?_⟩
  · have h := List.getElem?_eq_none_iff.mp (Option.some.inj h)
    rw [List.length_map, sz] at h
    exact h
  · have h := Option.some.inj h
    rw [List.getElem?_map] at h
    cases e1 : z.cps.toList[i]? with
    | none => rw [e1] at h; cases h
    | some c =>
      rw [e1] at h; cases h
      have hl := (List.getElem?_eq_some_iff.mp e1).1
      refine ⟨by show i < z.cps.size; rw [← sz]; exact hl, fun x H2 y => ?_⟩
      obtain ⟨rfl, c', hc, rfl⟩ := y
      have : c' = c := by
        rw [← Array.getElem?_toList] at hc
        rw [e1] at hc; exact (Option.some.inj hc).symm
      subst this
      exact ⟨ρ', Ext.refl, st', .str _⟩
theorem itr_val {lo : Int} {n : Nat} : ItR K cA ⟨(List.range n).map fun (k : Nat) => .int (lo + k), none, false⟩ ρ H (Itr lo n) := by
  intro ρ' H' S' i e st'
  rw [get_val0]
  refine ⟨fun h => ?_, fun d h => ?_⟩
  · have h := List.getElem?_eq_none_iff.mp (Option.some.inj h)
    rw [List.length_map, List.length_range] at h
    exact h
  · have h := Option.some.inj h
    rw [List.getElem?_map] at h
    cases e1 : (List.range n)[i]? with
    | none => rw [e1] at h; cases h
    | some c =>
      rw [e1] at h; cases h
      have hl := (List.getElem?_eq_some_iff.mp e1).1
      rw [List.length_range] at hl
      have : c = i := by
        rw [List.getElem?_range hl] at e1
        exact (Option.some.inj e1).symm
      subst this
      refine ⟨hl, fun x H2 y => ?_⟩
      obtain ⟨rfl, rfl⟩ := y
      exact ⟨ρ', Ext.refl, st', .int _⟩
theorem iter_of (st : StR K cA ρ H S) {x : D} {v : V} {it : Items} {R : It → Hp → Prop} (r : Rep K ρ H x v) (h : itersD S x = some it) (k : ∀ J, ItR K cA it ρ H J → R J H) : rIter K v H R := by
  cases r with
  | tup at_ rs => cases h; exact .inr (.inr ⟨_, rfl, ⟨_, at_.sq⟩, k _ (itt_val st at_ rs)⟩)
  | lst at_ rs => cases h; exact .inr (.inl ⟨_, rfl, ⟨_, at_.sq⟩, k _ (itl_val st at_ rs)⟩)
  | str z => cases h; exact .inl ⟨z, rfl, k _ its_val⟩
  | ref e =>
    rename_i l a
    simp only [itersD] at h
    cases q : S[l]? with
    | none => rw [q] at h; cases h
    | some o =>
      rw [q] at h
      cases o with
      | lst xs =>
        cases h
        obtain ⟨vs, e1, rs⟩ := st.at q e
        exact .inr (.inl ⟨a, rfl, ⟨vs, .of e1⟩, k _ (itl_ref e)⟩)
      | ins => cases h
      | dic => cases h
      | dead => cases h
  | _ => cases h
theorem enum_of (st : StR K cA ρ H S) {x : D} {v : V} {it : Items} {R : It → Hp → Prop} (r : Rep K ρ H x v) (h : enumD S x = some it) (k : ∀ J, ItR K cA it ρ H J → R J H) : ∃ a xs, [v] = [V.ref a] ∧ SqL K H a xs ∧ R (Ite K a) H := by
  cases r with
  | lst at_ rs =>
    cases h
    rename_i ds a vs
    refine ⟨a, vs, rfl, at_.sq, k _ (ite_of rfl fun ρ' H' S' i o e st' g => ⟨ds, vs, (at_.ext e).sq, rs.ext e, ?_⟩)⟩
    rw [get_val] at g
    exact Option.some.inj g
  | ref e =>
    rename_i l a
    simp only [enumD] at h
    cases q : S[l]? with
    | none => rw [q] at h; cases h
    | some o =>
      rw [q] at h
      cases o with
      | lst xs =>
        cases h
        obtain ⟨vs, e1, rs⟩ := st.at q e
        exact ⟨a, vs, rfl, .of e1, k _ (ite_of rfl fun ρ' H' S' i o e2 st' g => ref_get st' (e2.get e) g)⟩
      | ins => cases h
      | dic => cases h
      | dead => cases h
  | _ => cases h
theorem zip_of (st : StR K cA ρ H S) {x y : D} {v w : V} {it : Items} {R : It → Hp → Prop} (r : Rep K ρ H x v) (r2 : Rep K ρ H y w) (h : zipD x y = some it) (k : ∀ J, ItR K cA it ρ H J → R J H) :
    ∃ a b xs ys, [v, w] = [V.ref a, V.ref b] ∧ ((SqL K H a xs ∧ SqL K H b ys ∧ R (Itz K a b) H) ∨ (SqT K H a xs ∧ SqT K H b ys ∧ R (RZ.ItzT K a b) H)) := by
  cases r with
  | lst at_ rs =>
    cases r2 with
    | lst at2 rs2 => cases h; exact ⟨_, _, _, _, rfl, .inl ⟨at_.sq, at2.sq, k _ (itz_of at_ at2 rs rs2)⟩⟩
    | _ => cases h
  | tup at_ rs =>
    cases r2 with
    | tup at2 rs2 => cases h; exact ⟨_, _, _, _, rfl, .inr ⟨at_.sq, at2.sq, k _ (itzT_of at_ at2 rs rs2)⟩⟩
    | _ => cases h
  | _ => cases h
end
end Q
/-! QN (read between Q4 and Q5): instances in the store. -/
namespace Q
open PySem PySem.Spec PyProof.Rows L2
section
variable {K : PySem.W.Frag} {cA : CA} {ρ ρ' : Pl} {H H' : Hp} {S : Store}
theorem FReps.look {f : Str} : ∀ {fs : List (Str × D)} {vs : List (Str × V)}, FReps K ρ H fs vs → (fs.lookup f = none → vs.lookup f = none) ∧ ∀ d, fs.lookup f = some d → ∃ v, vs.lookup f = some v ∧ Rep K ρ H d v
  | _, _, .nil => ⟨fun _ => rfl, fun d h => by cases h⟩
  | _, _, .cons (k := k) (d := d) (v := v) (ds := ds) (vs := vs) r t => by
    have ih := FReps.look (f := f) t
    rw [List.lookup_cons, List.lookup_cons]
    cases e : f == k with
    | true =>
      refine ⟨fun h => ?_, fun d' h => ?_⟩
      · have h : some d = none := h
        cases h
      · have h : some d = some d' := h
        cases h
        exact ⟨v, rfl, r⟩
    | false => exact ih
theorem FReps.putF {f : Str} {d : D} {v : V} (r : Rep K ρ H d v) : ∀ {fs : List (Str × D)} {vs : List (Str × V)}, FReps K ρ H fs vs → FReps K ρ H (putFD f d fs) (L2.putF f v vs)
  | _, _, .nil => .cons r .nil
  | _, _, .cons (k := k) q t => by
    unfold putFD L2.putF
    by_cases c : k = f
    · rw [if_pos c, if_pos c]; exact .cons r t
    · rw [if_neg c, if_neg c]; exact .cons q (FReps.putF r t)
theorem FReps.len : ∀ {fs : List (Str × D)} {vs : List (Str × V)}, FReps K ρ H fs vs → fs.length = vs.length
  | _, _, .nil => rfl
  | _, _, .cons _ t => congrArg Nat.succ (FReps.len t)
theorem ins_at (st : StR K cA ρ H S) {x : D} {v : V} {C : Str} {fs : List (Str × D)} (r : Rep K ρ H x v) (h : insOf S x = some (C, fs)) : ∃ l a dx vs, x = .ref l ∧ v = .ref a ∧ S[l]? = some (.ins C fs) ∧ ρ.l[l]? = some a ∧ H a = some (.ins (cA C) dx vs) ∧ FReps K ρ H fs vs := by
  cases r with
  | ref e =>
    rename_i l a
    have h' : (match S[l]? with | some (.ins C fs) => some (C, fs) | _ => none) = some (C, fs) := h
    cases q : S[l]? with
    | none => rw [q] at h'; cases h'
    | some o =>
      rw [q] at h'
      cases o with
      | ins C' fs' =>
        cases h'
        obtain ⟨dx, vs, e1, e2⟩ := st.at q e
        exact ⟨l, a, dx, vs, rfl, rfl, q, e, e1, e2⟩
      | dic => cases h'
      | lst => cases h'
      | dead => cases h'
  | non => cases h
  | bl => cases h
  | int => cases h
  | str => cases h
  | tup => cases h
  | lst => cases h
end
end Q
/-! Q5: the interpreter's expressions are read by HandS. -/
namespace Q
open PySem PySem.Spec PyProof.Rows L2

/-- the promise of a function of plain data -/
def spOf (K : PySem.W.Frag) (cA : CA) (φ : Fn) : Sp := fun vs H Q E => ∃ ρ ds S, Reps K ρ H ds vs ∧ StR K cA ρ H S ∧ tO K cA (fun cls d _ H' => E cls d H') [] ρ H (Rep K) (φ ds S) Q

/-- isinstance(e, (c1, ..)), e the error that the suite holds -/
def rIsET (K : PySem.W.Frag) (D a : Addr) : List V → Hp → VK → Prop := fun xs H Q => ∃ (tp : Addr) (cs : List V) (us : List Value) (b : Bool), xs = [.ref a, .ref tp] ∧ H tp = some (.tup cs) ∧ Paired ClsV cs us ∧ PySem.W.kitAny K (.ref D) us = some b ∧ Q (.bl b) H
theorem call_isET {X : Cx} {a D : Addr} {oe : Obj} {pn : List (Addr × Obj)} (C : ExcC X.K D) (hz : Zc (.ref D) none oe) (hf : ∃ vs, oe.data = .fields vs) : CallR (X.suite a ((a, oe) :: pn)) (.builtin "isinstance") (rIsET X.K D a) := by
  intro pins s σ H xs us Q I r h
  obtain ⟨tp, cs, ws, b, rfl, hT, k, e, q⟩ := h
  cases r with
  | cons rx rr =>
    cases rr with
    | cons rt rr =>
      cases rr
      cases rx
      cases rt
      obtain ⟨hget, _⟩ := I.pin (a, oe) (List.mem_append.mpr (.inl List.mem_cons_self))
      obtain ⟨vs, hv⟩ := hf
      have J : PySem.W.InstAt s.heap a oe D none := by
        obtain ⟨oc, od, oda, osl⟩ := oe
        obtain ⟨h1, h2⟩ := hz
        dsimp only at h1 h2 hv
        subst h1 h2 hv
        exact ⟨hget, rfl, rfl, trivial⟩
      obtain ⟨_, its, rv, o, h1, h2, n, h3⟩ := (show ObjOk X.prog X.w H s.heap tp (.tup cs) from I.hok tp _ hT)
      have e3 := ClsV.all k rv
      subst e3
      obtain ⟨oc, od, dt, sl⟩ := o
      simp only at h2 h3
      subst h2 h3
      exact PySem.W.kia_tup (PySem.W.handS_kitx_exc C.hg C.hk C.hs C.hd C.ha C.hn C.ht C.hm) I.kIn J h1 e (fun z => nomatch z) fun tk => ⟨.bl b, H, I.tok tk, rfl, q⟩
structure CfgOk (P : Program) (w : World) (K : PySem.W.Frag) (mg : Str → Option Value) (base : Heap) (cA : CA) (k : Nat) (c : Cfg) : Prop where
  fn : ∀ x φ, c.funs x = some φ → ∃ f fd ps ds dvs dds φ0, FnOk P w K mg base (L2.CX P w) k f fd ps (spOf K cA φ0) ∧ mg x = some (.ref f) ∧ PySem.W.keepIn K (.ref f) = true ∧ Binds K fd ps ds ∧ Vals dvs ds ∧ (∀ ρ H, Reps K ρ H dds dvs) ∧ (φ = (fun xs S => φ0 (xs ++ dds) S) ∨ (Binds K fd ps [] ∧ φ = fun xs S => if xs.length = ps.length then φ0 xs S else φ0 (xs ++ dds) S))
  var : ∀ x d, c.vars x = some d → ∃ u v, mg x = some u ∧ RelV v u ∧ ∀ ρ H, Rep K ρ H d v
  free : ∀ x, c.free x = true → mg x = none
  exc : ∀ x, c.excs x = true → mg x = some (.ref (cA x)) ∧ PySem.W.excIn K (cA x) He.veBase "ValueError.__new__" = true ∧ PySem.W.keepIn K (.ref (cA x)) = true ∧
    PySem.W.subIn K (.ref (cA x)) (.type "BaseException") = some true ∧ PySem.W.typeIn K (.ref (cA x)) = some (.type "type")
  fld : ∀ C f, (c.flds f).contains C = true → Cls K (cA C) ∧ NoAttr K (cA C) f
  dk : ∀ g ks, c.dks g = some ks → ∃ a es n, mg g = some (.ref a) ∧ KDict K w a es n ∧ ∀ z, ∃ r, PySem.W.nsIn K a z = some r ∧ r.isSome = ks.contains z
  meth : ∀ m C φ, (c.meths m).lookup C = some φ → ∃ f fd ps, Cls K (cA C) ∧ Meth K (cA C) m f ∧ FnOk P w K mg base (L2.CX P w) k f fd ps (spOf K cA φ) ∧ Binds K fd ps []
  mkr : ∀ C φ, c.mks C = some φ → mg C = some (.ref (cA C)) ∧ ∃ j f fd ps, j + 1 ≤ k ∧ Mk K (cA C) f ∧ FnOk P w K mg base (L2.CX P w) j f fd ps (spOf K cA φ) ∧ Binds K fd ps []
  kit : ∀ x y b, c.kits x y = some b → ∃ v u, (mg y = some u ∧ RelV v u ∨ mg y = none ∧ bootBuiltins y = some u ∧ RelV v u) ∧ ClsV v u ∧ PySem.W.kitOne K (.ref (cA x)) u = some b ∧ PySem.W.exmOne K (.ref (cA x)) u = some b ∧ ExcC K (cA x)

/-- isinstance of the error that is held -/
structure HeldOk (X : Cx) (cA : CA) (i : Nat) (x : Str) : Prop where
  out : ∃ a, cA.pin = some (i, a) ∧ CallR X (.builtin "isinstance") (rIsE X.K (cA x) a) ∧ CallR X (.builtin "isinstance") (rIsET X.K (cA x) a)
structure XOk (cA : CA) (k : Nat) (c : Cfg) (N : List Str) (X : Cx) (sc : Scope) : Prop where
  cfg : CfgOk X.prog X.w X.K X.mg X.base cA k c
  calm : c.hot = none → X.calm = true
  room : c.hot = none → Room k X.A
  un : X.A.units + 200 < cLine
  pinAt : ∀ i a, cA.pin = some (i, a) → ∃ x, c.hot = some (i, x)
  tame : c.hot = none ∨ ((∀ f, c.funs f = none) ∧ (∀ f, c.free f = true → f = "isinstance" ∨ f = "int") ∧ (∀ x, c.excs x = false) ∧ (∀ m, c.meths m = []) ∧ ∀ C, c.mks C = none)
  held : ∀ i x, c.hot = some (i, x) → i < N.length → HeldOk X cA i x
  names : X.N = N
  nd : N.Nodup
  vis : ∀ x kd, sc.names.lookup x = some kd → (kd = .local ∨ kd = .cell ∨ kd = .free → Vis X.env.scope x) ∧ (kd = .globalImplicit → Gl X x)
  loc : ∀ x kd, sc.names.lookup x = some kd → kd = .local ∨ kd = .cell → Loc X.env.scope x ∧ (X.fn x = true ∨ X.env.scope.names.lookup x = some .local)
  cf : ∀ x, sc.names.lookup x = some .cell ∨ sc.names.lookup x = some .free → X.env.scope.names.lookup x = some .cell ∨ X.env.scope.names.lookup x = some .free

theorem calm_none {c : Cfg} (h : c.calm = true) : c.hot = none := Option.isNone_iff_eq_none.mp h
section
variable {cA : CA} {k : Nat} {c : Cfg} {N : List Str} {X : Cx} {sc : Scope}
theorem XOk.pin (x : XOk cA k c N X sc) (h : c.hot = none) : cA.pin = none := by
  cases e : cA.pin with
  | none => rfl
  | some ia =>
    obtain ⟨y, z⟩ := x.pinAt ia.1 ia.2 e
    rw [h] at z; cases z
theorem XOk.free_at (x : XOk cA k c N X sc) {i : Nat} (h : c.hotAt i = false) (a : Addr) : cA.pin ≠ some (i, a) := fun e => by
  obtain ⟨y, z⟩ := x.pinAt i a e
  unfold Cfg.hotAt at h
  rw [z] at h
  simp at h
theorem XOk.of_fun (x : XOk cA k c N X sc) {f : Str} {φ : Fn} (h : c.funs f = some φ) : c.hot = none := x.tame.elim id fun z => by rw [z.1] at h; cases h
theorem XOk.of_free (x : XOk cA k c N X sc) {f : Str} (h : c.free f = true) (h1 : f ≠ "isinstance") (h2 : f ≠ "int") : c.hot = none := x.tame.elim id fun z => (z.2.1 f h).elim (fun q => absurd q h1) fun q => absurd q h2
theorem XOk.of_exc (x : XOk cA k c N X sc) {y : Str} (h : c.excs y = true) : c.hot = none := x.tame.elim id fun z => by rw [z.2.2.1] at h; cases h
theorem XOk.of_meth (x : XOk cA k c N X sc) {m C : Str} {φ : Fn} (h : (c.meths m).lookup C = some φ) : c.hot = none := x.tame.elim id fun z => by rw [z.2.2.2.1] at h; cases h
theorem XOk.of_mk (x : XOk cA k c N X sc) {C : Str} {φ : Fn} (h : c.mks C = some φ) : c.hot = none := x.tame.elim id fun z => by rw [z.2.2.2.2] at h; cases h
end
section
variable {X : Cx}
theorem PE.weak {e : Expr} {t t' : TE} (h : PE X e t) (w : ∀ σ H Q, t' σ H Q → t σ H Q) : PE X e t' := ⟨fun pins s σ H Q I q => h.run pins s σ H Q I (w σ H Q q)⟩
theorem PT.weak {e : Expr} {t t' : TT} (h : PT X e t) (w : ∀ σ H Q, t' σ H Q → t σ H Q) : PT X e t' := ⟨fun pins s σ H Q I q => h.run pins s σ H Q I (w σ H Q q)⟩
theorem PW.weak {e : Expr} {t t' : TT} (h : PW X e t) (w : ∀ σ H Q, t' σ H Q → t σ H Q) : PW X e t' := ⟨fun wh pins s σ H Q I q => h.run wh pins s σ H Q I (w σ H Q q)⟩
theorem PA.weak {es : List Expr} {t t' : TA} (h : PA X es t) (w : ∀ σ H Q, t' σ H Q → t σ H Q) : PA X es t' := ⟨fun pos pins s σ H Q I q => h.run pos pins s σ H Q I (w σ H Q q)⟩
theorem PO.weak {e : Option Expr} {t t' : TO} (h : PO X e t) (w : ∀ σ H Q, t' σ H Q → t σ H Q) : PO X e t' := ⟨fun pins s σ H Q I q => h.run pins s σ H Q I (w σ H Q q)⟩
theorem PI.weak {tg e : Expr} {t t' : TI} (h : PI X tg e t) (w : ∀ σ H R, t' σ H R → t σ H R) : PI X tg e t' := ⟨fun pins s σ H Q I q => h.run pins s σ H Q I (w σ H Q q)⟩
theorem PE.none {e : Expr} {t : TE} (w : ∀ σ H Q, ¬ t σ H Q) : PE X e t := ⟨fun pins s σ H Q I q => (w σ H Q q).elim⟩
theorem PT.none {e : Expr} {t : TT} (w : ∀ σ H Q, ¬ t σ H Q) : PT X e t := ⟨fun pins s σ H Q I q => (w σ H Q q).elim⟩
theorem PA.none {e : List Expr} {t : TA} (w : ∀ σ H Q, ¬ t σ H Q) : PA X e t := ⟨fun _ pins s σ H Q I q => (w σ H Q q).elim⟩
theorem PI.none {tg e : Expr} {t : TI} (w : ∀ σ H Q, ¬ t σ H Q) : PI X tg e t := ⟨fun pins s σ H Q I q => (w σ H Q q).elim⟩
end
section
variable {K : PySem.W.Frag} {cA : CA} {W : WX} {α β : Type}
theorem tX_bad {R : Pl → Hp → α → β → Prop} {f : Env → Store → Out α} (h : ∀ σ S, f σ S = .bad) : ∀ σ H Q, ¬ tX K cA R W f σ H Q := by
  rintro σ H Q ⟨ρ, σd, S, _, _, q⟩
  rw [h] at q; exact q
end

/-! ### side conditions of the syntax -/
theorem star_one {e : Expr} (h : isStar e = false) (env : PySem.Env) (es : List Expr) : starEach (e :: es) env = (false, eval e env) :: starEach es env := by
  cases e <;> first | rfl | cases h
theorem star_any {env : PySem.Env} {pos : Pos} : ∀ {es : List Expr}, es.any isStar = false → (backTo pos (starEach es env)).any (·.1) = false
  | [], _ => rfl
  | e :: es, h => by
    rw [List.any_cons, Bool.or_eq_false_iff] at h
    rw [star_one h.1]
    show (false || (backTo pos (starEach es env)).any (·.1)) = false
    rw [star_any h.2]; rfl
theorem star_all {env : PySem.Env} {pos : Pos} : ∀ {es : List Expr}, es.any isStar = false → (backTo pos (starEach es env)).all (fun x => !x.1) = true
  | [], _ => rfl
  | e :: es, h => by
    rw [List.any_cons, Bool.or_eq_false_iff] at h
    rw [star_one h.1]
    show (true && (backTo pos (starEach es env)).all (fun x => !x.1)) = true
    rw [star_all h.2]; rfl
theorem base_ok {e : Expr} (h : okBase e = true) (nm : Str) (env : PySem.Env) : attributeBase e nm env (eval e env) = eval e env := by
  unfold attributeBase
  cases e <;> try rfl
  rename_i f args kws pos
  cases f <;> try rfl
  cases args <;> try rfl
  cases kws <;> try rfl
  cases h
theorem plain_ix {e : Expr} (h : isSlice e = false) : PlainIx e := by
  intro o i
  cases e <;> first | rfl | cases h
theorem set_ok {e : Expr} (h : isSet e = false) (env : PySem.Env) : ∀ x, foldedSetIterable e env x = pure x := by
  intro x
  cases e <;> first | rfl | cases h
theorem set_marks {e : Expr} (h : isSet e = false) (op : CmpOp) : behindInMarks op e = false := by
  cases e <;> first | rfl | cases h
theorem pn {x : Str} (h : plainName x = true) : (x == ("__debug__" : Str)) = false ∧ (x == ("__classdict__" : Str)) = false ∧ x ≠ "__name__" := by
  simp only [plainName, Bool.and_eq_true, Bool.not_eq_true'] at h
  exact ⟨h.1.1, h.1.2, fun e => by rw [e] at h; exact absurd h.2 (by decide)⟩
theorem nm_slot {sc : Scope} {N : List Str} {x : Str} {i : Nat} (h : nmOf sc N x = .slot i) : N[i]? = some x ∧ ∃ kd, sc.names.lookup x = some kd ∧ (kd = .local ∨ kd = .cell ∨ kd = .free) := by
  unfold nmOf at h
  have get : ∀ {i : Nat}, N.idxOf? x = some i → N[i]? = some x := by
    intro i e
    obtain ⟨h1, h2, _⟩ := List.idxOf?_eq_some_iff.mp e
    rw [List.getElem?_eq_getElem h1, h2]
  cases e : sc.names.lookup x with
  | none => rw [e] at h; cases h
  | some kd =>
    rw [e] at h
    cases kd <;> simp only at h
    all_goals first
      | (cases h; done)
      | (split at h <;> first | (cases h; rename_i j; exact ⟨get j, _, rfl, by simp⟩) | (cases h))
theorem nm_glob {sc : Scope} {N : List Str} {x : Str} (h : nmOf sc N x = .glob) : sc.names.lookup x = some .globalImplicit := by
  unfold nmOf at h
  cases e : sc.names.lookup x with
  | none => rw [e] at h; cases h
  | some kd =>
    rw [e] at h
    cases kd <;> simp only at h
    all_goals first
      | rfl
      | (cases h; done)
      | (split at h <;> cases h)

/-! ### rules of ours: a walk of anything; methods; calls -/
section
variable {X : Cx}
theorem pi_any {tg e : Expr} {te : TE} (he : PE X e te) : PI X tg e (fun σ H R => te σ H fun v H1 => rIter X.K v H1 R) := by
  refine ⟨fun pins s σ H R I h => ?_⟩
  refine thn (he.run pins s σ H _ I h) fun v s1 ⟨x, H1, I1, r1, q1⟩ => ?_
  rcases q1 with ⟨z, rfl, q⟩ | ⟨a, rfl, ⟨xs, hq⟩, q⟩ | ⟨a, rfl, ⟨xs, hq⟩, q⟩
  · obtain ⟨t, rfl⟩ := r1
    cases ha : z.cps.all (· < 128)
    · exact wpAny_pyIter_wide ha (pi_one (tk := s1.toks) I1 _ (turn_str _ z t "str_iterator" (.inr rfl)) ⟨_, Heap.get?_push_size _ rfl, rfl, rfl⟩ q)
    · exact wpAny_pyIter_ascii ha (pi_one (tk := s1.toks) I1 _ (turn_str _ z t "str_ascii_iterator" (.inl rfl)) ⟨_, Heap.get?_push_size _ rfl, rfl, rfl⟩ q)
  · cases r1
    obtain ⟨its, rv, p, hz⟩ := I1.list hq
    refine wpAny_pyIter_list p.isList ?_
    refine ⟨s1.heap.objs.size, [s1.heap.objs.size], _, _, H1, rfl, I1.kept (t' := s1.toks) fun b o e => Heap.get?_push_of_some _ e, turn_list a _, ⟨_, Heap.get?_push_size _ rfl, rfl, rfl⟩, fun b hb => ?_, q⟩
    have e : b = s1.heap.objs.size := by simpa using hb
    subst e
    exact I1.fpOk (Nat.le_refl _) (I1.hok.fresh (Nat.le_refl _))
  · cases r1
    obtain ⟨its, rv, p, hz⟩ := I1.tuple hq
    refine wpAny_pyIter_tuple (show s1.heap.IsTuple a its.toArray from p) ?_
    refine ⟨s1.heap.objs.size, [s1.heap.objs.size], _, _, H1, rfl, I1.kept (t' := s1.toks) fun b o e => Heap.get?_push_of_some _ e, turn_tuple a _, ⟨_, Heap.get?_push_size _ rfl, rfl, rfl⟩, fun b hb => ?_, q⟩
    have e : b = s1.heap.objs.size := by simpa using hb
    subst e
    exact I1.fpOk (Nat.le_refl _) (I1.hok.fresh (Nat.le_refl _))
/-- a method of a built-in type, found by what the receiver is -/
def tMth (K : PySem.W.Frag) (name : Str) (to : TE) (t : TA) : TE := fun σ H Q => to σ H fun x H1 => ∃ m : MId, name = m.nm ∧ tyV K m.T x H1 ∧ t σ H1 fun xs H2 => m.rule K x xs H2 Q
theorem pe_mth {o : Expr} {to : TE} {e : Expr} {es : List Expr} {t : TA} {name : Str} {apos cpos : Pos} (hu : X.A.units + 65 < cLine) (ho : PE X o to) (ha : PA X (e :: es) t) (hb : okBase o = true) (hline : (apos.endLine == cpos.line) = true) (hs : (e :: es).any isStar = false) (hl : (e :: es).length < 20) :
    PE X (.Call (.Attribute o name apos) (e :: es) [] cpos) (tMth X.K name to t) := by
  have hs' := hs
  rw [List.any_cons, Bool.or_eq_false_iff] at hs'
  refine ⟨fun pins s σ H Q I h => ?_⟩
  refine wpAny_Call_method_late (base_ok hb name X.env) ?_ hline rfl (thn (ho.run pins s σ H _ I h) fun v s1 ⟨x, H1, I1, r1, m, hm, ty, q1⟩ => ?_)
  · rw [star_all hs]
    show (true && true && decide ((e :: es).length + 0 + 0 < 30)) = true
    rw [decide_eq_true (by omega)]; rfl
  · subst hm
    obtain ⟨h1, h2⟩ := tyV_is I1 r1 ty
    refine ⟨m.T, m.id, m.plain, m.slot, m.ty, h1, h2, ?_⟩
    have hA := ha.run cpos pins s1 σ H1 _ I1 q1
    rw [star_one hs'.1] at hA ⊢
    refine Calls.callWith_builtin (by show (false || (backTo cpos (starEach es X.env)).any (·.1)) = false; rw [star_any hs'.2] <;> rfl) (Calls.evalArgs_plain ?_)
    exact thn hA fun us s2 ⟨vs, H2, I2, r2, q2⟩ => m.ok hu pins s2 σ H2 x vs v us Q I2 r1 r2 q2
theorem pe_mth0 {o : Expr} {to : TE} {name : Str} {apos cpos : Pos} (hu : X.A.units + 65 < cLine) (ho : PE X o to) (hb : okBase o = true) (hline : (apos.endLine == cpos.line) = true) :
    PE X (.Call (.Attribute o name apos) [] [] cpos) (tMth X.K name to tNil) := by
  refine ⟨fun pins s σ H Q I h => ?_⟩
  refine wpAny_Call_method0_late (base_ok hb name X.env) hline (thn (ho.run pins s σ H _ I h) fun v s1 ⟨x, H1, I1, r1, m, hm, ty, q1⟩ => ?_)
  subst hm
  obtain ⟨h1, h2⟩ := tyV_is I1 r1 ty
  exact ⟨m.T, m.id, m.plain, m.slot, m.ty, h1, h2, Calls.callWith_builtin rfl (PySem.evalArgs_none (m.ok hu pins s1 σ H1 x [] v [] Q I1 r1 .nil q1))⟩
/-- f(), f a def -/
theorem pe_call0S {CX : CXT} {k : Nat} {f : Addr} {fd : FuncData} {ps : List Str} {sp : Sp} {dvs : List V} {ds : List Value} {E : L2.St → XK} {x : Str} {p pos : Pos}
    (F : FnOk X.prog X.w X.K X.mg X.base CX k f fd ps sp) (hr : Room k X.A) (hg : Gl X x) (hm : X.mg x = some (.ref f)) (hk : PySem.W.keepIn X.K (.ref f) = true) (hb : Binds X.K fd ps ds) (hd : Vals dvs ds) (hx : ∀ σ, PassesAt CX X σ (E σ))
    (hdb : (x == ("__debug__" : Str)) = false) : PE X (.Call (.Name x p) [] [] pos) (tCallSD sp dvs E tNil) := by
  refine ⟨fun pins s σ H Q I h => ?_⟩
  refine wpAny_Call_Name_kw (ld_glob I hg hm ?_ hdb)
  exact PySem.W.callWith_K0 I.kIn hk (run_fnSD (us := []) F hr hb hd (hx σ) I .nil h)
end

/-! ### the cases -/
section
variable {X : Cx} {cA : CA} {k : Nat} {c : Cfg} {N : List Str} {sc : Scope} {W : WX} {n : Nat}
abbrev SE (cA : CA) (c : Cfg) (N : List Str) (n : Nat) (X : Cx) (sc : Scope) (W : WX) : Prop := ∀ e, PE X e (tE X.K cA W (ev c N n sc e))
abbrev ST (cA : CA) (c : Cfg) (N : List Str) (n : Nat) (X : Cx) (sc : Scope) (W : WX) : Prop := ∀ e, PT X e (tT X.K cA W (evT c N n sc e))
abbrev SB (cA : CA) (c : Cfg) (N : List Str) (n : Nat) (X : Cx) (sc : Scope) (W : WX) : Prop := ∀ op es pos, PE X (.BoolOp op es pos) (tE X.K cA W (evB c N n sc op es))
abbrev STs (cA : CA) (c : Cfg) (N : List Str) (n : Nat) (X : Cx) (sc : Scope) (W : WX) : Prop := ∀ op es pos, PW X (.BoolOp op es pos) (tT X.K cA W (evTs c N n sc op es))
abbrev SA (cA : CA) (c : Cfg) (N : List Str) (n : Nat) (X : Cx) (sc : Scope) (W : WX) : Prop := ∀ es, PA X es (tAs X.K cA W (evA c N n sc es))
abbrev SP' (cA : CA) (c : Cfg) (N : List Str) (n : Nat) (X : Cx) (sc : Scope) (W : WX) : Prop := ∀ e, PO X e (tP X.K cA W (evP c N n sc e))
abbrev SI (cA : CA) (c : Cfg) (N : List Str) (n : Nat) (X : Cx) (sc : Scope) (W : WX) : Prop := ∀ tg e, PI X tg e (iX X.K cA W (evI c N n (isTup tg) sc e))

/-- two operands -/
theorem two_w {fa fb : Env → Store → Out D} {r : R2} {g : Store → D → D → Out D}
    (hr : ∀ σ ρ H S x y v u Q, StR X.K cA ρ H S → Rep X.K ρ H x v → Rep X.K ρ H y u → tO X.K cA W σ ρ H (Rep X.K) (g S x y) Q → r v u H Q) :
    ∀ σ H Q, tE X.K cA W (fun σ S => (fa σ S).bind fun x S1 => (fb σ S1).bind fun y S2 => g S2 x y) σ H Q → tOp r (tE X.K cA W fa) (tE X.K cA W fb) σ H Q := by
  rintro σ H Q ⟨ρ, σd, S, env, st, h⟩
  refine ⟨ρ, σd, S, env, st, (tO.bind (R1 := Rep X.K) h).post ?_⟩
  rintro v H1 ⟨ρ1, x, S1, e1, st1, r1, h1⟩
  refine ⟨ρ1, σd, S1, env.ext e1, st1, (tO.bind (R1 := Rep X.K) h1).post ?_⟩
  rintro u H2 ⟨ρ2, y, S2, e2, st2, r2, h2⟩
  exact hr σ ρ2 H2 S2 x y v u Q st2 (r1.ext e2) r2 h2
/-- one operand -/
theorem one_w {fa : Env → Store → Out D} {r : V → Hp → VK → Prop} {g : Store → D → Out D}
    (hr : ∀ σ ρ H S x v Q, StR X.K cA ρ H S → Rep X.K ρ H x v → tO X.K cA W σ ρ H (Rep X.K) (g S x) Q → r v H Q) :
    ∀ σ H Q, tE X.K cA W (fun σ S => (fa σ S).bind fun x S1 => g S1 x) σ H Q → tE X.K cA W fa σ H (fun v H1 => r v H1 Q) := by
  rintro σ H Q ⟨ρ, σd, S, env, st, h⟩
  refine ⟨ρ, σd, S, env, st, (tO.bind (R1 := Rep X.K) h).post ?_⟩
  rintro v H1 ⟨ρ1, x, S1, e1, st1, r1, h1⟩
  exact hr σ ρ1 H1 S1 x v Q st1 r1 h1

theorem c_attr (x : XOk cA k c N X sc) (ih : SE cA c N n X sc W) {o : Expr} {f : Str} {pos} : PE X (.Attribute o f pos) (tE X.K cA W (ev c N (n + 1) sc (.Attribute o f pos))) := by
  have e0 : ∀ σ S, ev c N (n + 1) sc (.Attribute o f pos) σ S = if okBase o then (ev c N n sc o σ S).bind fun x S1 => ofO S1 (fldD (c.flds f) S1 x f) else .bad := fun _ _ => rfl
  cases hb : okBase o with
  | false => exact PE.none (tX_bad fun σ S => by rw [e0, hb]; rfl)
  | true =>
    refine PE.weak (pe_fld (ih o) (base_ok hb f X.env)) ?_
    rintro σ H Q ⟨ρ, σd, S, env, st, q⟩
    rw [e0, if_pos hb] at q
    refine ⟨ρ, σd, S, env, st, (tO.bind (R1 := Rep X.K) q).post ?_⟩
    rintro v H1 ⟨ρ1, d, S1, e1, st1, r1, h1⟩
    obtain ⟨d2, e2, kq⟩ := tO.ofO h1
    unfold fldD at e2
    split at e2
    · next C fs hi =>
      split at e2
      · next hc =>
        obtain ⟨l, a, dx, vs, rfl, rfl, g1, g2, g3, rs⟩ := ins_at st1 r1 hi
        obtain ⟨u, lu, ru⟩ := (rs.look (f := f)).2 d2 e2
        exact ⟨a, _, dx, vs, u, rfl, g3, (x.cfg.fld C f hc).1, (x.cfg.fld C f hc).2, lu, kon_here st1 kq ru⟩
      · cases e2
    · cases e2
theorem c_const {k : Const} {j pos} : PE X (.Constant k j pos) (tE X.K cA W (fun _ S => ofO S (litD k))) := by
  cases k with
  | none => exact PE.weak pe_non fun σ H Q ⟨ρ, σd, S, env, st, h⟩ => h ρ H _ Ext.refl st .non
  | bool b => exact PE.weak pe_bl fun σ H Q ⟨ρ, σd, S, env, st, h⟩ => h ρ H _ Ext.refl st (.bl b)
  | int i => exact PE.weak pe_int fun σ H Q ⟨ρ, σd, S, env, st, h⟩ => h ρ H _ Ext.refl st (.int i)
  | str x => exact PE.weak pe_str fun σ H Q ⟨ρ, σd, S, env, st, h⟩ => h ρ H _ Ext.refl st (.str x)
  | _ => exact PE.none fun σ H Q ⟨ρ, σd, S, env, st, h⟩ => h
theorem c_name (x : XOk cA k c N X sc) {y : Str} {pos} : PE X (.Name y pos) (tE X.K cA W (ev c N (n + 1) sc (.Name y pos))) := by
  have key : ∀ σ S, ev c N (n + 1) sc (.Name y pos) σ S = if plainName y then (match nmOf sc N y with
      | .slot i => (match σ[i]? with
        | some (some d) => .ok d S
        | _ => .bad)
      | .glob => ofO S (c.vars y)
      | .no => .bad) else .bad := fun _ _ => rfl
  cases hp : plainName y with
  | false => exact PE.none (tX_bad fun σ S => by rw [key, hp]; rfl)
  | true =>
    obtain ⟨p1, p2, p3⟩ := pn hp
    cases hn : nmOf sc N y with
    | no => exact PE.none (tX_bad fun σ S => by rw [key, hp, hn]; rfl)
    | slot i =>
      obtain ⟨h1, kd, h2, h3⟩ := nm_slot hn
      refine PE.weak (pe_var (i := i) (by rw [x.names]; exact h1) ((x.vis _ _ h2).1 h3) p1 p2) ?_
      rintro σ H Q ⟨ρ, σd, S, env, st, h⟩
      rw [key, hp, hn] at h
      simp only [if_true] at h
      cases e : σd[i]? with
      | none => rw [e] at h; exact h.elim
      | some o =>
        rw [e] at h
        cases o with
        | none => exact h.elim
        | some d =>
          obtain ⟨v, e1, r⟩ := env.get i d e
          exact ⟨v, e1, h ρ H v Ext.refl st r⟩
    | glob =>
      cases hv : c.vars y with
      | none => exact PE.none (tX_bad fun σ S => by rw [key, hp, hn]; simp only [hv]; rfl)
      | some d =>
        obtain ⟨u, v, e1, r1, r2⟩ := x.cfg.var y d hv
        refine PE.weak (pe_glob ((x.vis _ _ (nm_glob hn)).2 rfl) e1 r1 p1) ?_
        rintro σ H Q ⟨ρ, σd, S, env, st, h⟩
        rw [key, hp, hn] at h
        simp only [hv, if_true] at h
        exact h ρ H v Ext.refl st (r2 ρ H)
theorem c_bin (ih : SE cA c N n X sc W) {a b : Expr} {op pos} : PE X (.BinOp a op b pos) (tE X.K cA W (ev c N (n + 1) sc (.BinOp a op b pos))) :=
  PE.weak (pe_op (op_of op) (ih a) (ih b)) (two_w (r := rOf X.K op) (g := fun S x y => biF c pos op x y S) fun σ ρ H S x y v u Q st rx ry h => by
    unfold biF at h
    split at h
    · split at h
      · next xs e =>
        exact cat_of st rx ry e fun zs vs e2 rs => kon_ref st (by cases e2; exact h) rs
      · exact h.elim
    · obtain ⟨d, e, k⟩ := tO.ofO h
      exact bin_of st rx ry e k)
theorem c_not (ih : SE cA c N n X sc W) {a : Expr} {pos} : PE X (.UnaryOp .Not a pos) (tE X.K cA W (ev c N (n + 1) sc (.UnaryOp .Not a pos))) :=
  PE.weak (pe_notT (ih a)) (one_w (r := fun v H Q => ∃ k, TruV X.K v H k ∧ Q (.bl (!k)) H) (g := fun S x => ofO S ((truth S x).map fun b => .bl (!b))) fun σ ρ H S x v Q st rx h => by
    obtain ⟨d, e, k⟩ := tO.ofO h
    cases e2 : truth S x with
    | none => rw [e2] at e; cases e
    | some b => rw [e2] at e; cases e; exact ⟨b, tru_rep st rx e2, kon_here st k (.bl _)⟩)
theorem c_neg (ih : SE cA c N n X sc W) {a : Expr} {pos} : PE X (.UnaryOp .USub a pos) (tE X.K cA W (ev c N (n + 1) sc (.UnaryOp .USub a pos))) :=
  PE.weak (pe_un un_neg (ih a)) (one_w (r := rU fun i => .int (-i)) (g := fun S x => match x with
        | .int i => .ok (.int (-i)) S
        | _ => .bad) fun σ ρ H S x v Q st rx h => by
    cases rx with
    | int i => exact ⟨i, rfl, h ρ H _ Ext.refl st (.int _)⟩
    | _ => exact h.elim)
theorem dkOf_ok {c : Cfg} {N : List Str} {sc : Scope} {op : CmpOp} {b : Expr} {ks : List Str} (hk : dkOf c N sc op b = some ks) : ∃ g p, op = .In ∧ b = .Name g p ∧ plainName g = true ∧ nmOf sc N g = .glob ∧ c.dks g = some ks := by
  unfold dkOf at hk
  split at hk
  · next g p =>
    split at hk
    · next z =>
      rw [Bool.and_eq_true] at z
      refine ⟨g, p, rfl, rfl, z.1, ?_, hk⟩
      cases q : nmOf sc N g with
      | glob => rfl
      | slot i => rw [q] at z; cases z.2
      | no => rw [q] at z; cases z.2
    · cases hk
  · cases hk
theorem c_cmp (x : XOk cA k c N X sc) (ih : SE cA c N n X sc W) {a b : Expr} {op pos} : PE X (.Compare a [op] [b] pos) (tE X.K cA W (ev c N (n + 1) sc (.Compare a [op] [b] pos))) := by
  cases hs : isSet b with
  | true => exact PE.none (tX_bad fun σ S => by show (if isSet b = true then _ else _) = _; rw [hs]; rfl)
  | false =>
  have e0 : ∀ σd S, ev c N (n + 1) sc (.Compare a [op] [b] pos) σd S = if isSet b = true then .bad else (match dkOf c N sc op b with
      | some ks => (ev c N n sc a σd S).bind fun x S1 => dkIn ks x S1
      | none => (ev c N n sc a σd S).bind fun x S1 => (ev c N n sc b σd S1).bind fun y S2 => ofO S2 ((cmpD S2 op x y).map D.bl)) := fun _ _ => rfl
  cases hk : dkOf c N sc op b with
  | some ks =>
    obtain ⟨g, p, rfl, rfl, hp, hg, hd⟩ := dkOf_ok hk
    obtain ⟨d, es, m, hm, kd, hz⟩ := x.cfg.dk g ks hd
    refine PE.weak (pe_cmpR (op_in_kd kd) (ih a) (pe_glob (v := V.ref d) ((x.vis _ _ (nm_glob hg)).2 rfl) hm rfl (pn hp).1) (set_marks hs .In)) ?_
    rintro σ H Q ⟨ρ, σd, S, env, st, h⟩
    rw [e0, hs, hk] at h
    have h : tO X.K cA W σ ρ H (Rep X.K) ((ev c N n sc a σd S).bind fun x S1 => dkIn ks x S1) Q := h
    refine ⟨ρ, σd, S, env, st, (tO.bind (R1 := Rep X.K) h).post ?_⟩
    rintro v H1 ⟨ρ1, y, S1, e1, st1, r1, h1⟩
    cases r1 with
    | str z =>
      obtain ⟨r, q1, q2⟩ := hz z
      have h1 : tO X.K cA W σ ρ1 H1 (Rep X.K) (.ok (.bl (ks.contains z)) S1) Q := h1
      exact ⟨z, r, rfl, rfl, q1, by rw [q2]; exact h1 ρ1 H1 _ Ext.refl st1 (.bl _)⟩
    | _ => exact h1.elim
  | none =>
  refine PE.weak (pe_cmpR (cmp_of (by have := x.un; omega) op) (ih a) (ih b) (set_marks hs op)) fun σ H Q h => ?_
  have h : tE X.K cA W (fun σ S => (ev c N n sc a σ S).bind fun x S1 => (ev c N n sc b σ S1).bind fun y S2 => ofO S2 ((cmpD S2 op x y).map D.bl)) σ H Q := by
    obtain ⟨ρ, σd, S, env, st, h⟩ := h
    rw [e0, hs, hk] at h
    exact ⟨ρ, σd, S, env, st, h⟩
  exact (two_w (r := cOf X.K op) (g := fun S x y => ofO S ((cmpD S op x y).map D.bl)) fun σ ρ H S x y v u Q st rx ry h => by
    obtain ⟨d, e, k⟩ := tO.ofO h
    cases e2 : cmpD S op x y with
    | none => rw [e2] at e; cases e
    | some b => rw [e2] at e; cases e; exact cmpr_of st rx ry e2 (kon_here st k (.bl _))) σ H Q h
theorem c_chain (x : XOk cA k c N X sc) (ih : SE cA c N n X sc W) {a b b' : Expr} {op op' pos} :
    PE X (.Compare a [op, op'] [b, b'] pos) (tE X.K cA W (ev c N (n + 1) sc (.Compare a [op, op'] [b, b'] pos))) := by
  cases hs : isSet b || isSet b' with
  | true => exact PE.none (tX_bad fun σ S => by show (if (isSet b || isSet b') = true then _ else _) = _; rw [hs]; rfl)
  | false =>
  have hm : lastMarks [op, op'] [b, b'] = false := set_marks (Bool.or_eq_false_iff.mp hs).2 op'
  have hu : X.A.units + 65 < cLine := by have := x.un; omega
  refine PE.weak (pe_chain (cmp_of hu op) (cmp_of hu op') (ih a) (ih b) (ih b') hm) ?_
  rintro σ H Q ⟨ρ, σd, S, env, st, h⟩
  have e0 : ev c N (n + 1) sc (.Compare a [op, op'] [b, b'] pos) σd S = if (isSet b || isSet b') = true then .bad else (ev c N n sc a σd S).bind fun x S1 => (ev c N n sc b σd S1).bind fun y S2 => (match cmpD S2 op x y with
      | some true => (ev c N n sc b' σd S2).bind fun z S3 => ofO S3 ((cmpD S3 op' y z).map D.bl)
      | some false => .ok (.bl false) S2
      | none => .bad) := rfl
  rw [e0, hs] at h
  refine ⟨ρ, σd, S, env, st, (tO.bind (R1 := Rep X.K) h).post ?_⟩
  rintro v H1 ⟨ρ1, x, S1, e1, st1, r1, h1⟩
  refine ⟨ρ1, σd, S1, env.ext e1, st1, (tO.bind (R1 := Rep X.K) h1).post ?_⟩
  rintro u H2 ⟨ρ2, y, S2, e2, st2, r2, h2⟩
  cases e : cmpD S2 op x y with
  | none => rw [e] at h2; exact h2.elim
  | some bb =>
    rw [e] at h2
    refine cmpr_of st2 (r1.ext e2) r2 e ⟨bb, rfl, ?_⟩
    cases bb with
    | false => exact h2 ρ2 H2 _ Ext.refl st2 (.bl _)
    | true =>
      refine ⟨ρ2, σd, S2, (env.ext e1).ext e2, st2, (tO.bind (R1 := Rep X.K) h2).post ?_⟩
      rintro w H3 ⟨ρ3, z, S3, e3, st3, r3, h3⟩
      obtain ⟨d, e4, k⟩ := tO.ofO h3
      cases e5 : cmpD S3 op' y z with
      | none => rw [e5] at e4; cases e4
      | some b3 => rw [e5] at e4; cases e4; exact cmpr_of st3 (r2.ext e3) r3 e5 (kon_here st3 k (.bl _))
theorem c_ite (ih : SE cA c N n X sc W) (iht : ST cA c N n X sc W) {t a b : Expr} {pos} : PE X (.IfExp t a b pos) (tE X.K cA W (ev c N (n + 1) sc (.IfExp t a b pos))) := by
  refine PE.weak (pe_ifExp (iht t) (ih a) (ih b)) ?_
  rintro σ H Q ⟨ρ, σd, S, env, st, h⟩
  refine ⟨ρ, σd, S, env, st, (tO.bind (R1 := RB) h).post ?_⟩
  rintro b H1 ⟨ρ1, bb, S1, e1, st1, rfl, h1⟩
  cases bb with
  | true => exact ⟨ρ1, σd, S1, env.ext e1, st1, h1⟩
  | false => exact ⟨ρ1, σd, S1, env.ext e1, st1, h1⟩
theorem c_sub (x : XOk cA k c N X sc) (ih : SE cA c N n X sc W) {a i : Expr} {pos} (hs : isSlice i = false) : PE X (.Subscript a i pos) (tE X.K cA W (ev c N (n + 1) sc (.Subscript a i pos))) := by
  have key : ∀ σ S, ev c N (n + 1) sc (.Subscript a i pos) σ S = (ev c N n sc a σ S).bind fun x S1 => (ev c N n sc i σ S1).bind fun y S2 => ofO S2 (ixD S2 x y) := by
    intro σ S
    cases i <;> first | rfl | (cases hs)
  refine PE.weak (pe_ix (ix_all (by have := x.un; omega)) (ih a) (ih i) (plain_ix hs)) fun σ H Q h => ?_
  refine two_w (r := rIxA X.K) (g := fun S x y => ofO S (ixD S x y)) (fun σ ρ H S x y v u Q st rx ry h => ?_) σ H Q ?_
  · obtain ⟨d, e, k⟩ := tO.ofO h
    exact ix_of st rx ry e k
  · obtain ⟨ρ, σd, S, env, st, h⟩ := h
    rw [key] at h
    exact ⟨ρ, σd, S, env, st, h⟩
theorem c_slice (ih : SE cA c N n X sc W) (ihp : SP' cA c N n X sc W) {a : Expr} {lo hi : Option Expr} {p2 pos} : PE X (.Subscript a (.Slice lo hi none p2) pos) (tE X.K cA W (ev c N (n + 1) sc (.Subscript a (.Slice lo hi none p2) pos))) := by
  refine PE.weak (pe_slice sl_all (ih a) (ihp lo) (ihp hi)) ?_
  rintro σ H Q ⟨ρ, σd, S, env, st, h⟩
  refine ⟨ρ, σd, S, env, st, (tO.bind (R1 := Rep X.K) h).post ?_⟩
  rintro v H1 ⟨ρ1, x, S1, e1, st1, r1, h1⟩
  refine ⟨ρ1, σd, S1, env.ext e1, st1, (tO.bind (R1 := RI) h1).post ?_⟩
  rintro l H2 ⟨ρ2, l2, S2, e2, st2, rfl, h2⟩
  refine ⟨ρ2, σd, S2, (env.ext e1).ext e2, st2, (tO.bind (R1 := RI) h2).post ?_⟩
  rintro u H3 ⟨ρ3, u2, S3, e3, st3, rfl, h3⟩
  unfold slF at h3
  split at h3
  · cases e : slD S3 x l2 u2 with
    | none => rw [e] at h3; exact h3.elim
    | some d =>
      rw [e] at h3
      cases d with
      | lst xs => exact sl_ref st3 ((r1.ext e2).ext e3) e h3
      | _ => exact h3.elim
  · obtain ⟨d, e, k⟩ := tO.ofO h3
    exact sl_of st3 ((r1.ext e2).ext e3) e k
theorem c_tup (iha : SA cA c N n X sc W) {es : List Expr} {j pos} : PE X (.Tuple es j pos) (tE X.K cA W (ev c N (n + 1) sc (.Tuple es j pos))) := by
  refine PE.weak (pe_tup (iha es)) ?_
  rintro σ H Q ⟨ρ, σd, S, env, st, h⟩
  refine ⟨ρ, σd, S, env, st, (tO.bind (R1 := Reps X.K) h).post ?_⟩
  rintro vs H1 ⟨ρ1, xs, S1, e1, st1, r1, h1⟩
  by_cases c : xs.length ≤ 16777216
  · rw [if_pos c] at h1
    exact ⟨by rw [line_eq, ← r1.length]; exact c, kon_tup st1 h1 r1⟩
  · rw [if_neg c] at h1; exact h1.elim
theorem newL_of {pos : Pos} {ρ : Pl} {H : Hp} {S : Store} {σ : L2.St} {xs : List D} {vs : List V} {Q : VK} (st : StR X.K cA ρ H S) (r : Reps X.K ρ H xs vs) (h : tO X.K cA W σ ρ H (Rep X.K) (newL c pos xs S) Q) :
    ∀ p, H p = none → Q (.ref p) (upd H p (.lst vs)) := by
  unfold newL at h
  split at h
  · exact kon_ref st h r
  · exact kon_lst st h r
theorem c_list (iha : SA cA c N n X sc W) {es : List Expr} {pos} : PE X (.List es pos) (tE X.K cA W (ev c N (n + 1) sc (.List es pos))) := by
  refine PE.weak (pe_lst (iha es)) ?_
  rintro σ H Q ⟨ρ, σd, S, env, st, h⟩
  refine ⟨ρ, σd, S, env, st, (tO.bind (R1 := Reps X.K) h).post ?_⟩
  rintro vs H1 ⟨ρ1, xs, S1, e1, st1, r1, h1⟩
  by_cases c : xs.length ≤ 16777216
  · rw [if_pos c] at h1
    exact ⟨by rw [line_eq, ← r1.length]; exact c, newL_of st1 r1 h1⟩
  · rw [if_neg c] at h1; exact h1.elim
theorem c_dict0 {pos} : PE X (.Dict [] [] pos) (tE X.K cA W (ev c N (n + 1) sc (.Dict [] [] pos))) := by
  refine PE.weak pe_dnewK ?_
  rintro σ H Q ⟨ρ, σd, S, env, st, h⟩ p hp
  obtain ⟨e, s⟩ := ext_alloc (u := .dK []) (o := .dic []) st hp fun ρ' H' e' q => ⟨[], q, .nil⟩
  exact h _ _ _ e s (.ref (by show (ρ.l ++ [p])[S.length]? = some p; rw [List.getElem?_append_right (by rw [st.len]; exact Nat.le_refl _), st.len, Nat.sub_self]; rfl))
section
variable {prog : Program} {w : World} {A : Around} {E : Value → Shared → Prop} {s : Shared}
theorem applied_rev {sl : Addr} {t : Tok} {n : Nat} {Q : Int × Int × Nat → Shared → Prop} (hs : s.heap.IsSliceOf sl .none .none (.int (-1) t))
    (h : Q ((n : Int) - 1, -1, n) s) : wpAny (model prog w) A (Builtin.Slice.sliceApplied (.ref sl) (pure (n : Int))) Q E s := by
  obtain ⟨os, hos, hcs, hds⟩ := id hs
  unfold Builtin.Slice.sliceApplied Builtin.Slice.sliceFields
  refine wpAny_bind (wpAny_bind (wpAny_field hos hds (x := .none) rfl (wpAny_bind (wpAny_field hos hds (x := .none) rfl (wpAny_bind (wpAny_field hos hds (x := .int (-1) t) rfl (wpAny_pure ?_)))))))
  refine wpAny_bind (HT.slicePart_ (.int _ _) ?_)
  show wpAny _ _ (if ((-1 : Int) == 0) = true then _ else _) _ _ s
  rw [if_neg (by decide)]
  refine wpAny_bind (HT.slicePart_ .none (wpAny_bind (HT.slicePart_ .none (wpAny_bind (wpAny_pure ?_)))))
  show wpAny _ _ (pure ((n : Int) - 1, (-1 : Int), Builtin.Slice.slicePlaces ((n : Int) - 1) (-1) (-1))) _ _ s
  have e : Builtin.Slice.slicePlaces ((n : Int) - 1) (-1) (-1) = n := by
    unfold Builtin.Slice.slicePlaces
    rw [if_neg (by decide)]
    have e1 : (-(-1) : Int) = 1 := by decide
    rw [e1, Int.ediv_one]
    split <;> omega
  rw [e]
  exact wpAny_pure h
theorem pick_rev (xs : Array Value) : ((List.range xs.size).filterMap fun (m : Nat) => xs[(((xs.size : Int) - 1) + (m : Int) * (-1)).toNat]?).toArray = xs.toList.reverse.toArray := by
  have e : (fun (m : Nat) => xs[(((xs.size : Int) - 1) + (m : Int) * (-1)).toNat]?) = (fun i => xs[i]?) ∘ fun k => xs.size - 1 - k := by
    funext m
    have : (((xs.size : Int) - 1) + (m : Int) * (-1)).toNat = xs.size - 1 - m := by omega
    rw [this]; rfl
  rw [e, ← List.filterMap_map, PySem.W.krv_range, List.filterMap_reverse, PySem.W.krv_all]
theorem getItem_tuple_rev {t sl : Addr} {items : Array Value} {u : Tok} {Q : Value → Shared → Prop} (ht : IsTup s.heap t items) (hs : s.heap.IsSliceOf sl .none .none (.int (-1) u))
    (h : Q (.ref s.heap.objs.size) { s with heap := s.heap.push { cls := .type "tuple", data := .seq items.toList.reverse.toArray } })
    (hsz : items.size ≤ sizeLine) : wpAny (model prog w) A (getItem (.ref t) (.ref sl)) Q E s := by
  have htake : sizeOk (.seq items.toList.reverse.toArray) := by
    show items.toList.reverse.toArray.size ≤ sizeLine
    rw [List.size_toArray, List.length_reverse, Array.length_toList]
    exact hsz
  obtain ⟨os, hos, hcs, hds⟩ := id hs
  have hTs : s.TypeIs (.ref sl) "slice" := ⟨os, hos, hcs⟩
  unfold getItem
  try with_reducible refine wpAny_holding ?_
  first | refine wpAny_bind (wpAny_pure ?_) | skip
  refine wpAny_bind (wpAny_sequenceKey ht.typeIs (by decide) ?_)
  refine wpAny_bind (wpAny_callSpecial?_slot (name := Str.ofString "__getitem__") ht.typeIs PyProof.Rows.slot_tuple_getitem
    (wpAny_call_entry PyProof.Rows.slot_tuple_getitem ht.typeIs entry_tuple_getitem ?_ (args_tuple_getitem _ _)))
  show wpAny _ _ (Builtin.Tuple.tupleItemsOf (.ref t) >>= _) _ _ s
  refine wpAny_bind (tupleItemsOf_ ht ?_)
  refine wpAny_bind (wpAny_typeOf hTs ?_)
  rw [if_pos (by decide)]
  refine wpAny_bind (applied_rev hs ?_)
  have hno : ¬ ((((items.size : Int) - 1) == 0 && (-1 : Int) == 1 && items.size == items.size) = true) := by simp
  show wpAny _ _ (if (((items.size : Int) - 1) == 0 && (-1 : Int) == 1 && items.size == items.size) = true then _ else _) _ _ s
  rw [if_neg hno, pick_rev]
  first
    | exact wpAny_bind (m := Builtin.Tuple.tupleExact _) (wpAny_newObj_type (wpAny_pure ⟨_, rfl, wpAny_pure h⟩) htake)
    | exact wpAny_bind (m := Builtin.Tuple.tupleExact _) (wpAny_newObj_type (wpAny_bind (wpAny_pure (wpAny_pure ⟨_, rfl, wpAny_pure h⟩))) htake)
    | exact wpAny_bind (wpAny_bind (m := Builtin.Tuple.tupleExact _) (wpAny_newObj_type (wpAny_pure (wpAny_pure ⟨_, rfl, wpAny_pure h⟩)) htake))
    | exact wpAny_bind (wpAny_bind (m := Builtin.Tuple.tupleExact _) (wpAny_newObj_type (wpAny_pure ⟨_, rfl, wpAny_pure h⟩) htake))
end
/-- x[::-1] of a list or a tuple -/
theorem pe_revA {e : Expr} {te : TE} {p2 p3 p4 pos : Pos} {j : Nat} (he : PE X e te) (hp : PE X (.UnaryOp .USub (.Constant (.int 1) j p3) p4) (tC (.int (-1)))) :
    PE X (.Subscript e (.Slice none none (some (.UnaryOp .USub (.Constant (.int 1) j p3) p4)) p2) pos) (fun σ H Q => te σ H fun x H1 => (∃ a xs, x = .ref a ∧ SqL X.K H1 a xs ∧ ∀ p, H1 p = none → Q (.ref p) (upd H1 p (.lst xs.reverse))) ∨ ∃ a xs, x = .ref a ∧ SqT X.K H1 a xs ∧ ∀ p, H1 p = none → Q (.ref p) (upd H1 p (.tup xs.reverse))) := by
  refine ⟨fun pins s σ H Q I h => ?_⟩
  refine Subscript_ (thn (he.run pins s σ H _ I h) fun v s1 ⟨x, H1, I1, r1, q1⟩ => ?_)
  refine wpAny_Slice ?_
  rw [evalPart_none]
  refine wpAny_pure ?_
  refine wpAny_pure ?_
  show wpAny (model X.prog X.w) X.A (eval (.UnaryOp .USub (.Constant (.int 1) j p3) p4) X.env) _ _ _
  refine thn (hp.run pins s1 σ H1 (fun y H' => y = .int (-1) ∧ H' = H1) I1 ⟨rfl, rfl⟩) fun vs s2 ⟨y, H2, I2, ry, ey, eH⟩ => ?_
  subst ey eH
  obtain ⟨t, rfl⟩ := ry
  have I4 : Inv X pins σ H2 { s2 with heap := s2.heap.push { cls := .type "slice", data := .fields #[.none, .none, .int (-1) t] } } := I2.kept (t' := s2.toks) fun b ob q => Heap.get?_push_of_some _ q
  rcases q1 with ⟨a, xs, rfl, hx, q⟩ | ⟨a, xs, rfl, hx, q⟩
  · cases r1
    obtain ⟨its, r, ht, hz⟩ := I4.list hx
    have hlen := r.length
    show wpAny (model X.prog X.w) X.A (subscriptTail e (.Slice none none (some (.UnaryOp .USub (.Constant (.int 1) j p3) p4)) p2) (.ref a) (.ref s2.heap.objs.size)) (EP X pins σ Q) X.xe { s2 with heap := s2.heap.push { cls := .type "slice", data := .fields #[.none, .none, .int (-1) t] } }
    refine tail_any ht.isList.typeIs slot_list_getitem.lookup ?_ (by with_unfolding_all rfl)
    refine wpAny_getItem_list_slice ht.isList (Heap.IsSliceOf.new ..) .none .none (.int _ _) (by decide) ?_ (by rw [List.size_toArray] <;> omega)
    rw [W.krv_pick]
    refine ⟨.ref (s2.heap.push { cls := .type "slice", data := .fields #[.none, .none, .int (-1) t] }).objs.size, _, I4.laid (t' := s2.toks) (o := .lst xs.reverse) (fun b ob q => Heap.get?_push_of_some _ q) (Nat.le_refl _) ?_, rfl, q _ (I4.hok.fresh (Nat.le_refl _))⟩
    refine ⟨by rw [List.length_reverse]; exact hz, its.reverse, 0, r.reverse, ?_⟩
    have := Heap.get?_push_size (s2.heap.push { cls := .type "slice", data := .fields #[.none, .none, .int (-1) t] }) (o := { cls := .type "list", data := .seq its.reverse.toArray 0 }) rfl
    exact this
  · cases r1
    obtain ⟨its, r, ht, hz⟩ := I4.tuple hx
    have hlen := r.length
    show wpAny (model X.prog X.w) X.A (subscriptTail e (.Slice none none (some (.UnaryOp .USub (.Constant (.int 1) j p3) p4)) p2) (.ref a) (.ref s2.heap.objs.size)) (EP X pins σ Q) X.xe { s2 with heap := s2.heap.push { cls := .type "slice", data := .fields #[.none, .none, .int (-1) t] } }
    refine tail_any ht.typeIs PyProof.Rows.slot_tuple_getitem.lookup ?_ (by with_unfolding_all rfl)
    refine getItem_tuple_rev ht (Heap.IsSliceOf.new ..) ?_ (by rw [List.size_toArray] <;> omega)
    refine ⟨.ref (s2.heap.push { cls := .type "slice", data := .fields #[.none, .none, .int (-1) t] }).objs.size, _, I4.laid (t' := s2.toks) (o := .tup xs.reverse) (fun b ob q => Heap.get?_push_of_some _ q) (Nat.le_refl _) ?_, rfl, q _ (I4.hok.fresh (Nat.le_refl _))⟩
    refine ⟨by rw [List.length_reverse]; exact hz, its.reverse, r.reverse, _, Heap.get?_push_size (s2.heap.push { cls := .type "slice", data := .fields #[.none, .none, .int (-1) t] }) (o := { cls := .type "tuple", data := .seq its.reverse.toArray 0 }) rfl, rfl, 0, rfl⟩
theorem c_rev (ih : SE cA c N n X sc W) {a : Expr} {j p2 p3 p4 pos} : PE X (.Subscript a (.Slice none none (some (.UnaryOp .USub (.Constant (.int 1) j p3) p4)) p2) pos)
    (tE X.K cA W (ev c N (n + 1) sc (.Subscript a (.Slice none none (some (.UnaryOp .USub (.Constant (.int 1) j p3) p4)) p2) pos))) := by
  have minus : PE X (.UnaryOp .USub (.Constant (.int 1) j p3) p4) (tC (.int (-1))) := PE.weak (pe_un un_neg pe_int) fun σ H Q q => ⟨1, rfl, q⟩
  refine PE.weak (pe_revA (ih a) minus) ?_
  rintro σ H Q ⟨ρ, σd, S, env, st, h⟩
  refine ⟨ρ, σd, S, env, st, (tO.bind (R1 := Rep X.K) h).post ?_⟩
  rintro v H1 ⟨ρ1, x, S1, e1, st1, r1, h1⟩
  obtain ⟨d, e, k⟩ := tO.ofO h1
  exact rev_of st1 r1 e k
/-! a display of a dict -/
abbrev RKV (K : PySem.W.Frag) : Pl → Hp → List (L2.Key × D) → List (V × V) → Prop := fun ρ H r ps => ∃ ws : List (L2.Key × V), ps = ws.map (fun kv => (kV kv.1, kv.2)) ∧ FReps K ρ H r ws
def trsOf (K : PySem.W.Frag) (cA : CA) (W : WX) (c : Cfg) (N : List Str) (sc : Scope) : Nat → List (Option Expr) → List Expr → List (TE × TE)
  | n, some k :: ks, v :: vs => (tE K cA W (ev c N (n - 1) sc k), tE K cA W (ev c N (n - 1) sc v)) :: trsOf K cA W c N sc (n - 1) ks vs
  | _, _, _ => []
theorem disp_pps {pos : Pos} : ∀ (ks : List (Option Expr)) (vs : List Expr) (n : Nat), (∀ m, m ≤ n → SE cA c N m X sc W) → ks.all (·.isSome) = true → ks.length = vs.length → PPs X pos ks vs (trsOf X.K cA W c N sc n ks vs)
  | [], [], _, _, _, _ => pps_nil
  | [], _ :: _, _, _, _, h => by cases h
  | _ :: _, [], _, _, _, h => by cases h
  | none :: _, _ :: _, _, _, h, _ => by cases h
  | some k :: ks, v :: vs, n, ih, hs, hl => pps_cons (ih (n - 1) (Nat.sub_le _ _) k) (ih (n - 1) (Nat.sub_le _ _) v) (disp_pps ks vs (n - 1) (fun m hm => ih m (Nat.le_trans hm (Nat.sub_le _ _))) hs (by simpa using hl))
theorem disp_w : ∀ (n : Nat) (ks : List (Option Expr)) (vs : List Expr) (σ : L2.St) (H : Hp) (Q : List (V × V) → Hp → Prop), tX X.K cA (RKV X.K) W (evD c N n sc ks vs) σ H Q → tPairs (trsOf X.K cA W c N sc n ks vs) σ H Q
  | 0, ks, vs, σ, H, Q, h => (tX_bad (f := evD c N 0 sc ks vs) (fun _ _ => rfl) σ H Q h).elim
  | n + 1, [], [], σ, H, Q, ⟨ρ, σd, S, env, st, h⟩ => h ρ H [] Ext.refl st ⟨[], rfl, .nil⟩
  | n + 1, [], _ :: _, σ, H, Q, ⟨ρ, σd, S, env, st, h⟩ => h.elim
  | n + 1, none :: _, [], σ, H, Q, ⟨ρ, σd, S, env, st, h⟩ => h.elim
  | n + 1, some _ :: _, [], σ, H, Q, ⟨ρ, σd, S, env, st, h⟩ => h.elim
  | n + 1, none :: _, _ :: _, σ, H, Q, ⟨ρ, σd, S, env, st, h⟩ => h.elim
  | n + 1, some k :: ks, v :: vs, σ, H, Q, ⟨ρ, σd, S, env, st, h⟩ => by
    have h : tO X.K cA W σ ρ H (RKV X.K) ((ev c N n sc k σd S).bind fun x S1 => (ev c N n sc v σd S1).bind fun y S2 => (evD c N n sc ks vs σd S2).bind fun r S3 => (match keyD x with
      | some k => .ok ((k, y) :: r) S3
      | none => .bad)) Q := h
    refine ⟨ρ, σd, S, env, st, (tO.bind (R1 := Rep X.K) h).post ?_⟩
    rintro u H1 ⟨ρ1, x, S1, e1, st1, r1, h1⟩
    refine ⟨ρ1, σd, S1, env.ext e1, st1, (tO.bind (R1 := Rep X.K) h1).post ?_⟩
    rintro w H2 ⟨ρ2, y, S2, e2, st2, r2, h2⟩
    refine disp_w n ks vs σ H2 _ ⟨ρ2, σd, S2, (env.ext e1).ext e2, st2, (tO.bind (R1 := RKV X.K) h2).post ?_⟩
    rintro ps H3 ⟨ρ3, r, S3, e3, st3, ⟨ws, rfl, r3⟩, h3⟩
    cases e : keyD x with
    | none => rw [e] at h3; exact h3.elim
    | some kk =>
      rw [e] at h3
      have : u = kV kk := keyD_rep r1 e
      subst this
      exact h3 ρ3 H3 _ Ext.refl st3 ⟨(kk, w) :: ws, rfl, .cons (r2.ext e3) r3⟩
theorem evD_len : ∀ (n : Nat) (ks : List (Option Expr)) (vs : List Expr) (σ : Env) (S : Store) (r : List (L2.Key × D)) (S' : Store), evD c N n sc ks vs σ S = .ok r S' → r.length = ks.length
  | 0, _, _, _, _, _, _, h => by cases h
  | n + 1, [], [], _, _, _, _, h => by cases h; rfl
  | n + 1, [], _ :: _, _, _, _, _, h => by cases h
  | n + 1, none :: _, [], _, _, _, _, h => by cases h
  | n + 1, some _ :: _, [], _, _, _, _, h => by cases h
  | n + 1, none :: _, _ :: _, _, _, _, _, h => by cases h
  | n + 1, some k :: ks, v :: vs, σ, S, r, S', h => by
    have h : ((ev c N n sc k σ S).bind fun x S1 => (ev c N n sc v σ S1).bind fun y S2 => (evD c N n sc ks vs σ S2).bind fun r S3 => (match keyD x with
      | some k => Out.ok ((k, y) :: r) S3
      | none => .bad)) = .ok r S' := h
    cases e1 : ev c N n sc k σ S with
    | exc => rw [e1] at h; cases h
    | bad => rw [e1] at h; cases h
    | ok x S1 =>
      rw [e1] at h
      have h : ((ev c N n sc v σ S1).bind fun y S2 => (evD c N n sc ks vs σ S2).bind fun r S3 => (match keyD x with
        | some k => Out.ok ((k, y) :: r) S3
        | none => .bad)) = .ok r S' := h
      cases e2 : ev c N n sc v σ S1 with
      | exc => rw [e2] at h; cases h
      | bad => rw [e2] at h; cases h
      | ok y S2 =>
        rw [e2] at h
        have h : ((evD c N n sc ks vs σ S2).bind fun r S3 => (match keyD x with
          | some k => Out.ok ((k, y) :: r) S3
          | none => .bad)) = .ok r S' := h
        cases e3 : evD c N n sc ks vs σ S2 with
        | exc => rw [e3] at h; cases h
        | bad => rw [e3] at h; cases h
        | ok r3 S3 =>
          rw [e3] at h
          have h : (match keyD x with
            | some k => Out.ok ((k, y) :: r3) S3
            | none => .bad) = .ok r S' := h
          cases e4 : keyD x with
          | none => rw [e4] at h; cases h
          | some kk =>
            rw [e4] at h; cases h
            rw [List.length_cons, List.length_cons, evD_len n ks vs σ S2 r3 _ e3]
theorem c_disp (ih : ∀ m, m ≤ n → SE cA c N m X sc W) {ks : List (Option Expr)} {vs : List Expr} {pos} (h0 : ks ≠ []) : PE X (.Dict ks vs pos) (tE X.K cA W (ev c N (n + 1) sc (.Dict ks vs pos))) := by
  have e0 : ∀ σ S, ev c N (n + 1) sc (.Dict ks vs pos) σ S = if ks.all (·.isSome) = true ∧ ks.length = vs.length ∧ ks.length ≤ 15 then (evD c N n sc ks vs σ S).bind fun kvs S1 => .ok (.ref S1.length) (S1 ++ [.dic (mergeG [] kvs)]) else .bad := fun σ S => by
    cases ks with
    | nil => exact absurd rfl h0
    | cons _ _ => rfl
  by_cases hc : ks.all (·.isSome) = true ∧ ks.length = vs.length ∧ ks.length ≤ 15
  case neg => exact PE.none (tX_bad fun σ S => by rw [e0, if_neg hc])
  obtain ⟨hs, hc⟩ := hc
  refine PE.weak (pe_disp (disp_pps ks vs n ih hs hc.1) hs hc.1 h0 hc.2) ?_
  rintro σ H Q ⟨ρ, σd, S, env, st, h⟩ p hp
  rw [e0, if_pos ⟨hs, hc⟩] at h
  have hpb : p ∉ ρ.b := fun z => (st.bl p z).1 hp
  obtain ⟨el, sl⟩ := lock_new (u := .dK []) st hp
  refine disp_w n ks vs σ _ _ ⟨ρ.lock p, σd, S, env.ext el, sl, ?_⟩
  cases er : evD c N n sc ks vs σd S with
  | bad => rw [er] at h; exact h.elim
  | exc x S1 => rw [er] at h; exact fun ρ1 H1 e1 s1 => h ρ1 H1 (el.trans e1) s1
  | ok kvs S1 =>
    rw [er] at h
    have hlen := evD_len n ks vs σd S kvs S1 er
    rintro ρ1 H1 ps e1 s1 ⟨ws, rfl, r1⟩
    have hb : p ∈ ρ1.b := e1.lo p List.mem_cons_self
    have hl : p ∉ ρ1.l := (s1.bl p hb).2
    have h1 : H1 p = some (.dK []) := e1.keep p _ (fun z => (sl.bl p List.mem_cons_self).2 z) upd_same
    refine ⟨h1, ws, rfl, by rw [← r1.length, hlen]; exact hc.2, ?_⟩
    obtain ⟨s2, k1, k2⟩ := lock_turn (u := .dK (mergeK [] ws)) s1 hb
    have r2 : FReps X.K ρ1 (upd H1 p (.dK (mergeK [] ws))) (mergeG [] kvs) (mergeK [] ws) := FReps.merge (FReps.mapR (fun r => k1 r) r1) .nil
    obtain ⟨s3, hlast⟩ := unlock_keepD s2 hb upd_same r2
    have ed : Ext ρ H (ρ1.drop p) (upd H1 p (.dK (mergeK [] ws))) := ((el.trans e1).turn hp).drop hpb
    have e3 : Ext ρ H ((ρ1.drop p).more p) (upd H1 p (.dK (mergeK [] ws))) := by
      obtain ⟨τ, t1, t2⟩ := ed.pre
      refine ⟨⟨τ ++ [p], ?_, fun a ha => ?_⟩, ed.lo, ed.hi, ed.keep, ed.tr, ed.pn⟩
      · show (ρ1.drop p).l ++ [p] = _
        rw [t1, List.append_assoc]
      · rcases List.mem_append.mp ha with z | z
        · exact t2 a z
        · rw [List.mem_singleton.mp z]; exact hp
    exact h _ _ _ e3 s3 (.ref hlast)
end
end Q
/-! Q6: the further cases, and all of them. -/
namespace Q
open PySem PySem.Spec PyProof.Rows L2
section
variable {X : Cx} {cA : CA} {k : Nat} {c : Cfg} {N : List Str} {sc : Scope} {W : WX} {n : Nat}

theorem c_boolE (ihb : SB cA c N n X sc W) {op es pos} : PE X (.BoolOp op es pos) (tE X.K cA W (ev c N (n + 1) sc (.BoolOp op es pos))) := ihb op es pos
theorem c_boolV (ih : SE cA c N n X sc W) (ihb : SB cA c N n X sc W) : SB cA c N (n + 1) X sc W := by
  intro op es pos
  rcases es with _ | ⟨a, _ | ⟨b, rest⟩⟩
  · exact PE.none (tX_bad fun σ S => rfl)
  · exact PE.weak (pe_one (ih a)) fun σ H Q ⟨ρ, σd, S, env, st, h⟩ => ⟨ρ, σd, S, env, st, h⟩
  · cases op with
    | And =>
      refine PE.weak (pe_andT (ih a) (ihb .And (b :: rest) pos)) ?_
      rintro σ H Q ⟨ρ, σd, S, env, st, h⟩
      refine ⟨ρ, σd, S, env, st, (tO.bind (R1 := Rep X.K) h).post ?_⟩
      rintro v H1 ⟨ρ1, x, S1, e1, st1, r1, h1⟩
      cases e : truth S1 x with
      | none => rw [e] at h1; exact h1.elim
      | some kk =>
        rw [e] at h1
        refine ⟨kk, tru_rep st1 r1 e, ?_⟩
        cases kk with
        | true => exact ⟨ρ1, σd, S1, env.ext e1, st1, h1⟩
        | false => exact h1 ρ1 H1 v Ext.refl st1 r1
    | Or =>
      refine PE.weak (pe_orT (ih a) (ihb .Or (b :: rest) pos)) ?_
      rintro σ H Q ⟨ρ, σd, S, env, st, h⟩
      refine ⟨ρ, σd, S, env, st, (tO.bind (R1 := Rep X.K) h).post ?_⟩
      rintro v H1 ⟨ρ1, x, S1, e1, st1, r1, h1⟩
      cases e : truth S1 x with
      | none => rw [e] at h1; exact h1.elim
      | some kk =>
        rw [e] at h1
        refine ⟨kk, tru_rep st1 r1 e, ?_⟩
        cases kk with
        | true => exact h1 ρ1 H1 v Ext.refl st1 r1
        | false => exact ⟨ρ1, σd, S1, env.ext e1, st1, h1⟩
theorem c_tests (iht : ST cA c N n X sc W) (ihs : STs cA c N n X sc W) : STs cA c N (n + 1) X sc W := by
  intro op es pos
  rcases es with _ | ⟨a, _ | ⟨b, rest⟩⟩
  · exact ⟨fun _ pins s σ H Q I q => (tX_bad (fun σ S => rfl) σ H Q q).elim⟩
  · cases op with
    | And => exact PW.weak (pw_and1 (iht a)) fun σ H Q ⟨ρ, σd, S, env, st, h⟩ => ⟨ρ, σd, S, env, st, h⟩
    | Or => exact PW.weak (pw_or1 (iht a)) fun σ H Q ⟨ρ, σd, S, env, st, h⟩ => ⟨ρ, σd, S, env, st, h⟩
  · cases op with
    | And =>
      refine PW.weak (pw_and (iht a) (ihs .And (b :: rest) pos)) ?_
      rintro σ H Q ⟨ρ, σd, S, env, st, h⟩
      refine ⟨ρ, σd, S, env, st, (tO.bind (R1 := RB) h).post ?_⟩
      rintro b H1 ⟨ρ1, bb, S1, e1, st1, rfl, h1⟩
      cases bb with
      | true => exact ⟨ρ1, σd, S1, env.ext e1, st1, h1⟩
      | false => exact h1 ρ1 H1 _ Ext.refl st1 rfl
    | Or =>
      refine PW.weak (pw_or (iht a) (ihs .Or (b :: rest) pos)) ?_
      rintro σ H Q ⟨ρ, σd, S, env, st, h⟩
      refine ⟨ρ, σd, S, env, st, (tO.bind (R1 := RB) h).post ?_⟩
      rintro b H1 ⟨ρ1, bb, S1, e1, st1, rfl, h1⟩
      cases bb with
      | true => exact h1 ρ1 H1 _ Ext.refl st1 rfl
      | false => exact ⟨ρ1, σd, S1, env.ext e1, st1, h1⟩
/-- a value, as a test -/
theorem t_val (ih : SE cA c N n X sc W) {e : Expr} (he : ∀ whole, isTrue e X.env whole = (do let v ← whole; standAt e.pos; holding [v] (truthy v))) :
    PT X e (tT X.K cA W (fun σ S => (ev c N n sc e σ S).bind fun x S1 => ofO S1 (truth S1 x))) := by
  refine PT.weak (pt_truth (ih e) he) ?_
  rintro σ H Q ⟨ρ, σd, S, env, st, h⟩
  refine ⟨ρ, σd, S, env, st, (tO.bind (R1 := Rep X.K) h).post ?_⟩
  rintro v H1 ⟨ρ1, x, S1, e1, st1, r1, h1⟩
  obtain ⟨b, e, kq⟩ := tO.ofO h1
  exact ⟨b, tru_rep st1 r1 e, kq ρ1 H1 b Ext.refl st1 rfl⟩
theorem t_cmp (x : XOk cA k c N X sc) (ih : ∀ m, m < n → SE cA c N m X sc W) {a : Expr} {ops : List CmpOp} {bs : List Expr} {pos} :
    PT X (.Compare a ops bs pos) (tT X.K cA W (fun σ S => (ev c N n sc (.Compare a ops bs pos) σ S).bind fun x S1 => (match x with
      | .bl k => .ok k S1
      | _ => .bad))) := by
  have bad : (∀ σ S, ev c N n sc (.Compare a ops bs pos) σ S = .bad) → PT X (.Compare a ops bs pos) (tT X.K cA W (fun σ S => (ev c N n sc (.Compare a ops bs pos) σ S).bind fun x S1 => (match x with
      | .bl k => .ok k S1
      | _ => .bad))) := fun h => PT.none (tX_bad fun σ S => by rw [h]; rfl)
  cases n with
  | zero => exact bad fun _ _ => rfl
  | succ n =>
    have ih := ih n (Nat.lt_succ_self n)
    have hu : X.A.units + 65 < cLine := by have := x.un; omega
    rcases ops with _ | ⟨op, _ | ⟨op', _ | ⟨op'', ops⟩⟩⟩
    · exact bad fun _ _ => rfl
    · rcases bs with _ | ⟨b, _ | ⟨b', bs⟩⟩
      · exact bad fun _ _ => rfl
      · cases hs : isSet b with
        | true => exact bad fun σ S => by show (if isSet b = true then _ else _) = _; rw [hs]; rfl
        | false =>
          have e0 : ∀ σd S, ev c N (n + 1) sc (.Compare a [op] [b] pos) σd S = if isSet b = true then .bad else (match dkOf c N sc op b with
            | some ks => (ev c N n sc a σd S).bind fun x S1 => dkIn ks x S1
            | none => (ev c N n sc a σd S).bind fun x S1 => (ev c N n sc b σd S1).bind fun y S2 => ofO S2 ((cmpD S2 op x y).map D.bl)) := fun _ _ => rfl
          cases hk : dkOf c N sc op b with
          | some ks =>
            obtain ⟨g, p, rfl, rfl, hp, hg, hd⟩ := dkOf_ok hk
            obtain ⟨d, es, m, hm, kd, hz⟩ := x.cfg.dk g ks hd
            refine PT.weak (pt_cmpR (op_in_kd kd) (ih a) (pe_glob (v := V.ref d) ((x.vis _ _ (nm_glob hg)).2 rfl) hm rfl (pn hp).1) (set_marks hs .In)) ?_
            rintro σ H Q ⟨ρ, σd, S, env, st, h⟩
            dsimp only at h
            rw [e0, hs, hk] at h
            have h' := tO.bind (R1 := Rep X.K) h
            have h' : tO X.K cA W σ ρ H (Rep X.K) ((ev c N n sc a σd S).bind fun x S1 => dkIn ks x S1) _ := h'
            refine ⟨ρ, σd, S, env, st, (tO.bind (R1 := Rep X.K) h').post ?_⟩
            rintro v H1 ⟨ρ1, y, S1, e1, st1, r1, h1⟩
            cases r1 with
            | str z =>
              obtain ⟨r, q1, q2⟩ := hz z
              refine ⟨z, r, rfl, rfl, q1, _, rfl, ?_⟩
              rw [q2]
              obtain ⟨ρ4, d4, S4, e4, st4, r4, h4⟩ := h1 ρ1 H1 _ Ext.refl st1 (.bl _)
              cases r4
              exact h4 ρ4 H1 _ Ext.refl st4 rfl
            | _ => exact h1.elim
          | none =>
          refine PT.weak (pt_cmpR (cmp_of hu op) (ih a) (ih b) (set_marks hs op)) ?_
          rintro σ H Q ⟨ρ, σd, S, env, st, h⟩
          dsimp only at h
          rw [e0, hs, hk] at h
          have h' := tO.bind (R1 := Rep X.K) h
          have h' : tO X.K cA W σ ρ H (Rep X.K) ((ev c N n sc a σd S).bind fun x S1 => (ev c N n sc b σd S1).bind fun y S2 => ofO S2 ((cmpD S2 op x y).map D.bl)) _ := h'
          refine ⟨ρ, σd, S, env, st, (tO.bind (R1 := Rep X.K) h').post ?_⟩
          rintro v H1 ⟨ρ1, x, S1, e1, st1, r1, h1⟩
          refine ⟨ρ1, σd, S1, env.ext e1, st1, (tO.bind (R1 := Rep X.K) h1).post ?_⟩
          rintro u H2 ⟨ρ2, y, S2, e2, st2, r2, h2⟩
          obtain ⟨d, e3, kq⟩ := tO.ofO h2
          cases e : cmpD S2 op x y with
          | none => rw [e] at e3; cases e3
          | some bb =>
            rw [e] at e3; cases e3
            refine cmpr_of st2 (r1.ext e2) r2 e ⟨bb, rfl, ?_⟩
            obtain ⟨ρ4, d4, S4, e4, st4, r4, h4⟩ := kq ρ2 H2 _ Ext.refl st2 (.bl _)
            cases r4
            exact h4 ρ4 H2 _ Ext.refl st4 rfl
      · exact bad fun _ _ => rfl
    · rcases bs with _ | ⟨b, _ | ⟨b', _ | ⟨b'', bs⟩⟩⟩
      · exact bad fun _ _ => rfl
      · exact bad fun _ _ => rfl
      · cases hs : isSet b || isSet b' with
        | true => exact bad fun σ S => by show (if (isSet b || isSet b') = true then _ else _) = _; rw [hs]; rfl
        | false =>
          have hm : lastMarks [op, op'] [b, b'] = false := set_marks (Bool.or_eq_false_iff.mp hs).2 op'
          refine PT.weak (pt_chain (cmp_of hu op) (cmp_of hu op') (ih a) (ih b) (ih b') hm) ?_
          rintro σ H Q ⟨ρ, σd, S, env, st, h⟩
          have e0 : ev c N (n + 1) sc (.Compare a [op, op'] [b, b'] pos) σd S = if (isSet b || isSet b') = true then .bad else (ev c N n sc a σd S).bind fun x S1 => (ev c N n sc b σd S1).bind fun y S2 => (match cmpD S2 op x y with
            | some true => (ev c N n sc b' σd S2).bind fun z S3 => ofO S3 ((cmpD S3 op' y z).map D.bl)
            | some false => .ok (.bl false) S2
            | none => .bad) := rfl
          dsimp only at h
          rw [e0, hs] at h
          have h' := tO.bind (R1 := Rep X.K) h
          have h' : tO X.K cA W σ ρ H (Rep X.K) ((ev c N n sc a σd S).bind fun x S1 => (ev c N n sc b σd S1).bind fun y S2 => (match cmpD S2 op x y with
            | some true => (ev c N n sc b' σd S2).bind fun z S3 => ofO S3 ((cmpD S3 op' y z).map D.bl)
            | some false => .ok (.bl false) S2
            | none => .bad)) _ := h'
          refine ⟨ρ, σd, S, env, st, (tO.bind (R1 := Rep X.K) h').post ?_⟩
          rintro v H1 ⟨ρ1, x, S1, e1, st1, r1, h1⟩
          refine ⟨ρ1, σd, S1, env.ext e1, st1, (tO.bind (R1 := Rep X.K) h1).post ?_⟩
          rintro u H2 ⟨ρ2, y, S2, e2, st2, r2, h2⟩
          cases e : cmpD S2 op x y with
          | none => rw [e] at h2; exact h2.elim
          | some bb =>
            rw [e] at h2
            refine cmpr_of st2 (r1.ext e2) r2 e ⟨bb, rfl, ?_⟩
            cases bb with
            | false =>
              obtain ⟨ρ4, d4, S4, e4, st4, r4, h4⟩ := h2 ρ2 H2 _ Ext.refl st2 (.bl _)
              cases r4
              exact ⟨false, rfl, h4 ρ4 H2 _ Ext.refl st4 rfl⟩
            | true =>
              refine ⟨ρ2, σd, S2, (env.ext e1).ext e2, st2, (tO.bind (R1 := Rep X.K) h2).post ?_⟩
              rintro w H3 ⟨ρ3, z, S3, e3, st3, r3, h3⟩
              obtain ⟨d, e4, kq⟩ := tO.ofO h3
              cases e5 : cmpD S3 op' y z with
              | none => rw [e5] at e4; cases e4
              | some b3 =>
                rw [e5] at e4; cases e4
                refine cmpr_of st3 (r2.ext e3) r3 e5 ⟨b3, rfl, ?_⟩
                obtain ⟨ρ6, d6, S6, e6, st6, r6, h6⟩ := kq ρ3 H3 _ Ext.refl st3 (.bl _)
                cases r6
                exact h6 ρ6 H3 _ Ext.refl st6 rfl
      · exact bad fun _ _ => rfl
    · rcases bs with _ | ⟨b, _ | ⟨b', _ | ⟨b'', bs⟩⟩⟩ <;> exact bad fun _ _ => rfl
theorem c_test (x : XOk cA k c N X sc) (ihl : ∀ m, m < n → SE cA c N m X sc W) (ih : SE cA c N n X sc W) (iht : ST cA c N n X sc W) (ihs : STs cA c N n X sc W) : ST cA c N (n + 1) X sc W := by
  intro e
  cases e with
  | UnaryOp op a pos =>
    cases op with
    | Not =>
      refine PT.weak (pt_not (iht a)) ?_
      rintro σ H Q ⟨ρ, σd, S, env, st, h⟩
      refine ⟨ρ, σd, S, env, st, (tO.bind (R1 := RB) h).post ?_⟩
      rintro b H1 ⟨ρ1, bb, S1, e1, st1, rfl, h1⟩
      exact h1 ρ1 H1 _ Ext.refl st1 rfl
    | _ => exact t_val ih (fun _ => rfl)
  | BoolOp op es pos => exact (ihs op es pos).pt
  | IfExp => exact PT.none (tX_bad fun σ S => rfl)
  | Compare a ops bs pos => exact t_cmp x ihl
  | _ => exact t_val ih (fun _ => rfl)
theorem c_args (ih : SE cA c N n X sc W) (iha : SA cA c N n X sc W) : SA cA c N (n + 1) X sc W := by
  intro es
  cases es with
  | nil => exact PA.weak pa_nil fun σ H Q ⟨ρ, σd, S, env, st, h⟩ => h ρ H [] Ext.refl st .nil
  | cons a rest =>
    cases hs : isStar a with
    | true => exact PA.none (tX_bad fun σ S => by show (if isStar a = true then _ else _) = _; rw [hs]; rfl)
    | false =>
      refine PA.weak (pa_cons (ih a) (iha rest) (star_one hs _ _)) ?_
      rintro σ H Q ⟨ρ, σd, S, env, st, h⟩
      have e0 : evA c N (n + 1) sc (a :: rest) σd S = if isStar a = true then .bad else (ev c N n sc a σd S).bind fun x S1 => (evA c N n sc rest σd S1).bind fun xs S2 => .ok (x :: xs) S2 := rfl
      rw [e0, hs] at h
      have h : tO X.K cA W σ ρ H (Reps X.K) ((ev c N n sc a σd S).bind fun x S1 => (evA c N n sc rest σd S1).bind fun xs S2 => .ok (x :: xs) S2) Q := h
      refine ⟨ρ, σd, S, env, st, (tO.bind (R1 := Rep X.K) h).post ?_⟩
      rintro v H1 ⟨ρ1, x, S1, e1, st1, r1, h1⟩
      refine ⟨ρ1, σd, S1, env.ext e1, st1, (tO.bind (R1 := Reps X.K) h1).post ?_⟩
      rintro vs H2 ⟨ρ2, xs, S2, e2, st2, r2, h2⟩
      exact h2 ρ2 H2 _ Ext.refl st2 (.cons (r1.ext e2) r2)
theorem c_part (ih : SE cA c N n X sc W) : SP' cA c N (n + 1) X sc W := by
  intro e
  cases e with
  | none => exact PO.weak po_none fun σ H Q ⟨ρ, σd, S, env, st, h⟩ => h ρ H none Ext.refl st rfl
  | some a =>
    refine PO.weak (po_some (ih a)) ?_
    rintro σ H Q ⟨ρ, σd, S, env, st, h⟩
    refine ⟨ρ, σd, S, env, st, (tO.bind (R1 := Rep X.K) h).post ?_⟩
    rintro v H1 ⟨ρ1, x, S1, e1, st1, r1, h1⟩
    cases r1 with
    | int i => exact ⟨i, rfl, h1 ρ1 H1 _ Ext.refl st1 rfl⟩
    | _ => exact h1.elim
theorem i_val (ih : SE cA c N n X sc W) {tg e : Expr} : PI X tg e (iX X.K cA W (fun σ S => (ev c N n sc e σ S).bind fun x S1 => ofO S1 (itersD S1 x))) := by
  refine PI.weak (pi_any (ih e)) ?_
  rintro σ H R ⟨ρ, σd, S, env, st, h⟩
  refine ⟨ρ, σd, S, env, st, (tO.bind (R1 := Rep X.K) h).post ?_⟩
  rintro v H1 ⟨ρ1, x, S1, e1, st1, r1, h1⟩
  obtain ⟨it, e, kq⟩ := tO.ofO h1
  exact iter_of st1 r1 e fun J hJ => kq ρ1 H1 J Ext.refl st1 hJ
theorem glob_of {f : Str} (h3 : (match nmOf sc N f with | .glob => true | _ => false) = true) : nmOf sc N f = .glob := by
  cases q : nmOf sc N f with
  | glob => rfl
  | slot => rw [q] at h3; cases h3
  | no => rw [q] at h3; cases h3
theorem tup_is {e : Expr} (h : isTup e = true) : ∃ es k p, e = .Tuple es k p := by
  cases e <;> first | exact ⟨_, _, _, rfl⟩ | cases h
theorem c_iter (x : XOk cA k c N X sc) (ih : SE cA c N n X sc W) : SI cA c N (n + 1) X sc W := by
  intro tg e
  have other : (∀ σ S, evI c N (n + 1) (isTup tg) sc e σ S = (ev c N n sc e σ S).bind fun x S1 => ofO S1 (itersD S1 x)) → PI X tg e (iX X.K cA W (evI c N (n + 1) (isTup tg) sc e)) := by
    intro h
    refine PI.weak (i_val ih) ?_
    rintro σ H R ⟨ρ, σd, S, env, st, h'⟩
    rw [h] at h'
    exact ⟨ρ, σd, S, env, st, h'⟩
  cases e with
  | Call f args kws pos =>
    cases f with
    | Name f p =>
      cases kws with
      | cons _ _ => rcases args with _ | ⟨a, _ | ⟨b, _ | ⟨d, args⟩⟩⟩ <;> exact other fun _ _ => rfl
      | nil =>
        rcases args with _ | ⟨a, _ | ⟨b, _ | ⟨d, args⟩⟩⟩
        · exact other fun _ _ => rfl
        · cases ht : (f == "range" && c.free f && (match nmOf sc N f with | .glob => true | _ => false)) with
          | false =>
            have e1 : ∀ σd S, evI c N (n + 1) (isTup tg) sc (.Call (.Name f p) [a] [] pos) σd S = (if isTup tg && (f == "enumerate" && c.free f && (match nmOf sc N f with | .glob => true | _ => false)) then
        (if isStar a then .bad else (ev c N n sc a σd S).bind fun x S1 => ofO S1 (enumD S1 x))
      else (ev c N n sc (.Call (.Name f p) [a] [] pos) σd S).bind fun x S1 => ofO S1 (itersD S1 x)) := fun σd S => by show (if (f == "range" && c.free f && (match nmOf sc N f with | .glob => true | _ => false)) = true then _ else _) = _; rw [ht]; rfl
            cases hen : (isTup tg && (f == "enumerate" && c.free f && (match nmOf sc N f with | .glob => true | _ => false))) with
            | false => exact other fun σ S => by rw [e1, hen]; rfl
            | true =>
              have e2 : ∀ σd S, evI c N (n + 1) (isTup tg) sc (.Call (.Name f p) [a] [] pos) σd S = (if isStar a then .bad else (ev c N n sc a σd S).bind fun x S1 => ofO S1 (enumD S1 x)) := fun σd S => by rw [e1, hen]; rfl
              rw [Bool.and_eq_true, Bool.and_eq_true, Bool.and_eq_true] at hen
              obtain ⟨h0, ⟨h1, h2⟩, h3⟩ := hen
              have hg := glob_of h3
              have h1 : f = "enumerate" := beq_iff_eq.mp h1
              subst h1
              cases hs : isStar a with
              | true => exact PI.none (tX_bad fun σ S => by rw [e2, hs]; rfl)
              | false =>
                obtain ⟨es, kk, tp, rfl⟩ := tup_is h0
                refine PI.weak (pi_enum ((x.vis _ _ (nm_glob hg)).2 rfl) (x.cfg.free _ h2) (pa_cons (ih a) pa_nil (star_one hs _ _)) (star_one hs _ _)) ?_
                rintro σ H R ⟨ρ, σd, S, env, st, h⟩
                rw [e2, hs] at h
                refine ⟨ρ, σd, S, env, st, (tO.bind (R1 := Rep X.K) h).post ?_⟩
                rintro v H1 ⟨ρ1, x, S1, e1, st1, r1, h1⟩
                obtain ⟨it, e, kq⟩ := tO.ofO h1
                exact enum_of st1 r1 e fun J hJ => kq ρ1 H1 J Ext.refl st1 hJ
          | true =>
            have e0 : ∀ σd S, evI c N (n + 1) (isTup tg) sc (.Call (.Name f p) [a] [] pos) σd S = (if isStar a then .bad else (ev c N n sc a σd S).bind fun x S1 => (match x with
              | .int j => if small62 j then .ok (rangeD 0 j) S1 else .bad
              | _ => .bad)) := fun σd S => by show (if (f == "range" && c.free f && (match nmOf sc N f with | .glob => true | _ => false)) = true then _ else _) = _; rw [ht]; rfl
            rw [Bool.and_eq_true, Bool.and_eq_true] at ht
            obtain ⟨⟨h1, h2⟩, h3⟩ := ht
            have h1 : f = "range" := beq_iff_eq.mp h1
            have hg : nmOf sc N f = .glob := by
              cases q : nmOf sc N f with
              | glob => rfl
              | slot => rw [q] at h3; cases h3
              | no => rw [q] at h3; cases h3
            subst h1
            cases hs : isStar a with
            | true => exact PI.none (tX_bad fun σ S => by rw [e0, hs]; rfl)
            | false =>
              refine PI.weak (pi_range1 ((x.vis _ _ (nm_glob hg)).2 rfl) (x.cfg.free _ h2) (pa_cons (ih a) pa_nil (star_one hs _ _)) (star_one hs _ _)) ?_
              rintro σ H R ⟨ρ, σd, S, env, st, h⟩
              rw [e0, hs] at h
              refine ⟨ρ, σd, S, env, st, (tO.bind (R1 := Rep X.K) h).post ?_⟩
              rintro v H1 ⟨ρ1, x, S1, e1, st1, r1, h1⟩
              cases r1 with
              | int j =>
                cases hj : small62 j with
                | false => simp only [hj] at h1; exact h1.elim
                | true =>
                  simp only [hj, if_true] at h1
                  rw [small62, Bool.and_eq_true] at hj
                  refine ⟨j, rfl, of_decide_eq_true hj.1, of_decide_eq_true hj.2, h1 ρ1 H1 _ Ext.refl st1 ?_⟩
                  have : rangeD 0 j = ⟨(List.range j.toNat).map fun (k : Nat) => .int (0 + k), none, false⟩ := by unfold rangeD; rw [Int.sub_zero]
                  rw [this]
                  exact itr_val
              | _ => exact h1.elim
        · cases ht : (f == "range" && c.free f && (match nmOf sc N f with | .glob => true | _ => false)) with
          | false =>
            have e1 : ∀ σd S, evI c N (n + 1) (isTup tg) sc (.Call (.Name f p) [a, b] [] pos) σd S = (if isTup tg && (f == "zip" && c.free f && (match nmOf sc N f with | .glob => true | _ => false)) then
        (if isStar a || isStar b then .bad else (ev c N n sc a σd S).bind fun x S1 => (ev c N n sc b σd S1).bind fun y S2 => ofO S2 (zipD x y))
      else (ev c N n sc (.Call (.Name f p) [a, b] [] pos) σd S).bind fun x S1 => ofO S1 (itersD S1 x)) := fun σd S => by show (if (f == "range" && c.free f && (match nmOf sc N f with | .glob => true | _ => false)) = true then _ else _) = _; rw [ht]; rfl
            cases hen : (isTup tg && (f == "zip" && c.free f && (match nmOf sc N f with | .glob => true | _ => false))) with
            | false => exact other fun σ S => by rw [e1, hen]; rfl
            | true =>
              have e2 : ∀ σd S, evI c N (n + 1) (isTup tg) sc (.Call (.Name f p) [a, b] [] pos) σd S = (if isStar a || isStar b then .bad else (ev c N n sc a σd S).bind fun x S1 => (ev c N n sc b σd S1).bind fun y S2 => ofO S2 (zipD x y)) := fun σd S => by rw [e1, hen]; rfl
              rw [Bool.and_eq_true, Bool.and_eq_true, Bool.and_eq_true] at hen
              obtain ⟨h0, ⟨h1, h2⟩, h3⟩ := hen
              have hg := glob_of h3
              have h1 : f = "zip" := beq_iff_eq.mp h1
              subst h1
              cases hs : isStar a || isStar b with
              | true => exact PI.none (tX_bad fun σ S => by rw [e2, hs]; rfl)
              | false =>
                obtain ⟨hs1, hs2⟩ := Bool.or_eq_false_iff.mp hs
                obtain ⟨es, kk, tp, rfl⟩ := tup_is h0
                refine PI.weak (RZ.pi_zipA ((x.vis _ _ (nm_glob hg)).2 rfl) (x.cfg.free _ h2) (pa_cons (ih a) (pa_cons (ih b) pa_nil (star_one hs2 _ _)) (star_one hs1 _ _)) (star_one hs1 _ _) (by rw [star_one hs2]; rfl)) ?_
                rintro σ H R ⟨ρ, σd, S, env, st, h⟩
                rw [e2, hs] at h
                refine ⟨ρ, σd, S, env, st, (tO.bind (R1 := Rep X.K) h).post ?_⟩
                rintro v H1 ⟨ρ1, x, S1, e1, st1, r1, h1⟩
                refine ⟨ρ1, σd, S1, env.ext e1, st1, (tO.bind (R1 := Rep X.K) h1).post ?_⟩
                rintro u H2 ⟨ρ2, y, S2, e2, st2, r2, h2⟩
                obtain ⟨it, e, kq⟩ := tO.ofO h2
                exact zip_of st2 (r1.ext e2) r2 e fun J hJ => kq ρ2 H2 J Ext.refl st2 hJ
          | true =>
            have e0 : ∀ σd S, evI c N (n + 1) (isTup tg) sc (.Call (.Name f p) [a, b] [] pos) σd S = (if isStar a || isStar b then .bad else (ev c N n sc a σd S).bind fun x S1 => (ev c N n sc b σd S1).bind fun y S2 => (match x, y with
          | .int i, .int j => if small62 i && small62 j then .ok (rangeD i j) S2 else .bad
          | _, _ => .bad)) := fun σd S => by show (if (f == "range" && c.free f && (match nmOf sc N f with | .glob => true | _ => false)) = true then _ else _) = _; rw [ht]; rfl
            rw [Bool.and_eq_true, Bool.and_eq_true] at ht
            obtain ⟨⟨h1, h2⟩, h3⟩ := ht
            have h1 : f = "range" := beq_iff_eq.mp h1
            have hg : nmOf sc N f = .glob := by
              cases q : nmOf sc N f with
              | glob => rfl
              | slot => rw [q] at h3; cases h3
              | no => rw [q] at h3; cases h3
            subst h1
            cases hs : isStar a || isStar b with
            | true => exact PI.none (tX_bad fun σ S => by rw [e0, hs]; rfl)
            | false =>
              obtain ⟨hs1, hs2⟩ := Bool.or_eq_false_iff.mp hs
              refine PI.weak (pi_range2 ((x.vis _ _ (nm_glob hg)).2 rfl) (x.cfg.free _ h2) (pa_cons (ih a) (pa_cons (ih b) pa_nil (star_one hs2 _ _)) (star_one hs1 _ _)) (by rw [star_one hs1, star_one hs2]; rfl) (star_one hs2 _ _)) ?_
              rintro σ H R ⟨ρ, σd, S, env, st, h⟩
              rw [e0, hs] at h
              refine ⟨ρ, σd, S, env, st, (tO.bind (R1 := Rep X.K) h).post ?_⟩
              rintro v H1 ⟨ρ1, x, S1, e1, st1, r1, h1⟩
              refine ⟨ρ1, σd, S1, env.ext e1, st1, (tO.bind (R1 := Rep X.K) h1).post ?_⟩
              rintro u H2 ⟨ρ2, y, S2, e2, st2, r2, h2⟩
              cases r1 with
              | int i =>
                cases r2 with
                | int j =>
                  cases hj : (small62 i && small62 j) with
                  | false => simp only [hj] at h2; exact h2.elim
                  | true =>
                    simp only [hj, if_true] at h2
                    rw [Bool.and_eq_true, small62, small62, Bool.and_eq_true, Bool.and_eq_true] at hj
                    exact ⟨i, j, rfl, ⟨of_decide_eq_true hj.1.1, of_decide_eq_true hj.1.2, of_decide_eq_true hj.2.1, of_decide_eq_true hj.2.2⟩, h2 ρ2 H2 _ Ext.refl st2 itr_val⟩
                | _ => exact h2.elim
              | _ => exact h2.elim
        · exact other fun _ _ => rfl
    | _ => exact other fun _ _ => rfl
  | _ => exact other fun _ _ => rfl
end
end Q
/-! Q7: targets, comprehensions, calls; every expression is read. -/
namespace Q
open PySem PySem.Spec PyProof.Rows L2

/-! ### targets -/
def gNames : List Nat → TGs
  | [] => gNil
  | i :: is => gCons (gName i) (gNames is)
def gTg (K : PySem.W.Frag) (tg : Expr) (is : List Nat) : TG := match tg, is with
  | .Name .., [i] => gName i
  | .Tuple .., is => gTup K is.length (gNames is)
  | _, _ => fun _ _ _ _ => False
theorem st_slot {sc : Scope} {N : List Str} {x : Str} {i : Nat} (h : stOf sc N x = some i) : N[i]? = some x ∧ ∃ kd, sc.names.lookup x = some kd ∧ (kd = .local ∨ kd = .cell) := by
  unfold stOf at h
  have get : ∀ {i : Nat}, N.idxOf? x = some i → N[i]? = some x := by
    intro i e
    obtain ⟨h1, h2, _⟩ := List.idxOf?_eq_some_iff.mp e
    rw [List.getElem?_eq_getElem h1, h2]
  cases e : sc.names.lookup x with
  | none => rw [e] at h; cases h
  | some kd =>
    rw [e] at h
    cases kd <;> simp only at h
    all_goals first
      | exact ⟨get h, _, rfl, by simp⟩
      | (cases h; done)
section
variable {X : Cx} {cA : CA} {k : Nat} {c : Cfg} {N : List Str} {sc : Scope}
theorem pg_st (x : XOk cA k c N X sc) {y : Str} {pos : Pos} {i : Nat} (h : stOf sc N y = some i) : PG X (.Name y pos) (gName i) := by
  obtain ⟨h1, kd, h2, h3⟩ := st_slot h
  obtain ⟨l1, l2⟩ := x.loc _ _ h2 h3
  exact pg_name (by rw [x.names]; exact x.nd) (by rw [x.names]; exact h1) l1 l2
theorem each_names (env : PySem.Env) : ∀ {es : List Expr} {xs : List Str}, tgEach es = some xs → (assignEach es env).length = xs.length ∧ (assignEach es env).findIdx? (·.1) = none
  | [], xs, h => by cases h; exact ⟨rfl, rfl⟩
  | .Name y p :: es, xs, h => by
    simp only [tgEach] at h
    cases e : tgEach es with
    | none => rw [e] at h; cases h
    | some ys =>
      rw [e] at h; cases h
      obtain ⟨h1, h2⟩ := each_names env e
      refine ⟨congrArg (· + 1) h1, ?_⟩
      show List.findIdx? _ ((false, assign (.Name y p) env) :: assignEach es env) = none
      rw [List.findIdx?_cons, h2]; rfl
  | .BoolOp .. :: _, _, h => by cases h
  | .NamedExpr .. :: _, _, h => by cases h
  | .BinOp .. :: _, _, h => by cases h
  | .UnaryOp .. :: _, _, h => by cases h
  | .Lambda .. :: _, _, h => by cases h
  | .IfExp .. :: _, _, h => by cases h
  | .Dict .. :: _, _, h => by cases h
  | .Set .. :: _, _, h => by cases h
  | .ListComp .. :: _, _, h => by cases h
  | .SetComp .. :: _, _, h => by cases h
  | .DictComp .. :: _, _, h => by cases h
  | .GeneratorExp .. :: _, _, h => by cases h
  | .Await .. :: _, _, h => by cases h
  | .Yield .. :: _, _, h => by cases h
  | .YieldFrom .. :: _, _, h => by cases h
  | .Compare .. :: _, _, h => by cases h
  | .Call .. :: _, _, h => by cases h
  | .FormattedValue .. :: _, _, h => by cases h
  | .JoinedStr .. :: _, _, h => by cases h
  | .Constant .. :: _, _, h => by cases h
  | .Attribute .. :: _, _, h => by cases h
  | .Subscript .. :: _, _, h => by cases h
  | .Starred .. :: _, _, h => by cases h
  | .List .. :: _, _, h => by cases h
  | .Tuple .. :: _, _, h => by cases h
  | .Slice .. :: _, _, h => by cases h
theorem slots_len {sc : Scope} {N : List Str} : ∀ {xs : List Str} {is : List Nat}, slotsOf sc N xs = some is → is.length = xs.length
  | [], is, h => by cases h; rfl
  | x :: xs, is, h => by
    simp only [slotsOf] at h
    cases e1 : stOf sc N x with
    | none => rw [e1] at h; cases h
    | some i =>
      cases e2 : slotsOf sc N xs with
      | none => rw [e1, e2] at h; cases h
      | some js => rw [e1, e2] at h; cases h; exact congrArg (· + 1) (slots_len e2)
theorem pgs_names (x : XOk cA k c N X sc) : ∀ {es : List Expr} {xs : List Str} {is : List Nat}, tgEach es = some xs → slotsOf sc N xs = some is → PGs X es (gNames is)
  | es, xs, is, h, h2 => by
    cases es with
    | nil => cases h; cases h2; exact pgs_nil
    | cons e es =>
      cases e with
      | Name y p =>
        simp only [tgEach] at h
        cases e1 : tgEach es with
        | none => rw [e1] at h; cases h
        | some ys =>
          rw [e1] at h; cases h
          simp only [slotsOf] at h2
          cases e2 : stOf sc N y with
          | none => rw [e2] at h2; cases h2
          | some i =>
            cases e3 : slotsOf sc N ys with
            | none => rw [e2, e3] at h2; cases h2
            | some js =>
              rw [e2, e3] at h2; cases h2
              exact pgs_cons (pg_st x e2) (pgs_names x e1 e3)
      | _ => cases h
theorem pg_tg (x : XOk cA k c N X sc) (hn : c.hot = none) {tg : Expr} {xs : List Str} {is : List Nat} (h : tgNames tg = some xs) (h2 : slotsOf sc N xs = some is) : PG X tg (gTg X.K tg is) := by
  cases tg with
  | Name y p =>
    cases h
    simp only [slotsOf] at h2
    cases e2 : stOf sc N y with
    | none => rw [e2] at h2; cases h2
    | some i => rw [e2] at h2; cases h2; exact pg_st x e2
  | Tuple es kk p =>
    have h : tgEach es = some xs := h
    obtain ⟨h3, h4⟩ := each_names X.env h
    exact pg_tup (x.calm hn) (pgs_names x h h2) (by rw [h3, slots_len h2]) h4
  | _ => cases h
/-- the slots behind a target's store -/
def setV (σ : L2.St) : List Nat → List V → L2.St
  | i :: is, v :: vs => setV (σ.set i (some v)) is vs
  | _, _ => σ
theorem env_setAll {K : PySem.W.Frag} {ρ : Pl} {H : Hp} (hp : ρ.pin = none) : ∀ {is : List Nat} {ds : List D} {vs : List V} {σd : Env} {σ : L2.St}, EnvR K ρ H σd σ → Reps K ρ H ds vs → EnvR K ρ H (setAll σd is ds) (setV σ is vs)
  | [], ds, vs, _, _, e, r => by cases r <;> exact e
  | i :: is, _, _, _, _, e, .nil => e
  | i :: is, d :: ds, v :: vs, σd, σ, e, .cons q r => by
    show EnvR K ρ H (setAll (σd.set i (some d)) is ds) (setV (σ.set i (some v)) is vs)
    exact env_setAll hp (e.set q fun a z => by rw [hp] at z; cases z) r
theorem gNames_of : ∀ {is : List Nat} {vs : List V} {σ : L2.St} {H : Hp} {Q : L2.St → Hp → Prop}, vs.length = is.length → Q (setV σ is vs) H → gNames is vs σ H Q
  | [], [], _, _, _, _, q => ⟨rfl, q⟩
  | [], _ :: _, _, _, _, h, _ => by cases h
  | _ :: _, [], _, _, _, h, _ => by cases h
  | i :: is, v :: vs, σ, H, Q, h, q => ⟨v, vs, rfl, gNames_of (Nat.succ.inj h) q⟩
/-- an item goes to a target -/
theorem tg_of {K : PySem.W.Frag} {ρ : Pl} {H : Hp} (hp : ρ.pin = none) {tg : Expr} {xs : List Str} {is : List Nat} {σd σ' : Env} {σ : L2.St} {d : D} {v : V} {Q : L2.St → Hp → Prop} (h : tgNames tg = some xs) (h2 : slotsOf sc N xs = some is)
    (hb : bindTg tg sc N σd d = some σ') (env : EnvR K ρ H σd σ) (r : Rep K ρ H d v) (q : ∀ vs : List V, vs.length = is.length → EnvR K ρ H σ' (setV σ is vs) → Q (setV σ is vs) H) : gTg K tg is v σ H Q := by
  cases tg with
  | Name y p =>
    cases h
    simp only [slotsOf] at h2
    cases e2 : stOf sc N y with
    | none => rw [e2] at h2; cases h2
    | some i =>
      rw [e2] at h2; cases h2
      simp only [bindTg, e2] at hb
      cases hb
      exact q [v] rfl (env.set r fun a z => by rw [hp] at z; cases z)
  | Tuple es kk p =>
    have h : tgEach es = some xs := h
    simp only [bindTg, h, h2, bT] at hb
    cases d with
    | tup ds =>
      simp only [seqT] at hb
      split at hb <;> cases hb
      rename_i hl
      cases r with
      | tup at_ rs =>
        rename_i a vs
        have hl' : vs.length = is.length := by rw [← rs.length]; exact hl
        exact ⟨a, vs, rfl, at_.sq, hl', gNames_of hl' (q vs hl' (env_setAll hp env rs))⟩
    | _ => cases hb
  | _ => cases h
theorem setV_out {i : Nat} : ∀ {is : List Nat} {vs : List V} {σ : L2.St}, i ∉ is → (setV σ is vs)[i]? = σ[i]?
  | [], vs, _, _ => by cases vs <;> rfl
  | _ :: _, [], _, _ => rfl
  | j :: is, v :: vs, σ, h => by
    show (setV (σ.set j (some v)) is vs)[i]? = _
    rw [setV_out (fun z => h (List.mem_cons_of_mem _ z)), List.getElem?_set_ne (fun z => h (by rw [z]; exact List.mem_cons_self))]
theorem setV_length : ∀ {is : List Nat} {vs : List V} {σ : L2.St}, (setV σ is vs).length = σ.length
  | [], vs, _ => by cases vs <;> rfl
  | _ :: _, [], _ => rfl
  | j :: is, v :: vs, σ => by
    show (setV (σ.set j (some v)) is vs).length = _
    rw [setV_length, List.length_set]
theorem wipe_in {i : Nat} : ∀ {is : List Nat} {σ : L2.St}, i ∈ is → (L2.wipe σ is)[i]? = if i < σ.length then some none else none
  | j :: is, σ, h => by
    show ((L2.wipe σ is).set j none)[i]? = _
    by_cases hj : j = i
    · subst hj
      by_cases hl : j < σ.length
      · rw [if_pos hl, List.getElem?_set_self (by rw [L2.wipe_length]; exact hl)]
      · rw [if_neg hl, List.getElem?_eq_none (by rw [List.length_set, L2.wipe_length]; omega)]
    · rw [List.getElem?_set_ne hj]
      rcases List.mem_cons.mp h with z | z
      · exact absurd z.symm hj
      · exact wipe_in z
theorem wipe_setV {is : List Nat} {vs : List V} {σ : L2.St} : L2.wipe (setV (L2.wipe σ is) is vs) is = L2.wipe (L2.wipe σ is) is ∧ L2.wipe (setV (L2.wipe σ is) is vs) is = L2.wipe σ is := by
  have key : ∀ τ : L2.St, τ.length = σ.length → (∀ i, i ∉ is → τ[i]? = σ[i]?) → L2.wipe τ is = L2.wipe σ is := by
    intro τ hl ho
    apply List.ext_getElem?
    intro i
    by_cases hi : i ∈ is
    · rw [wipe_in hi, wipe_in hi, hl]
    · rw [L2.wipe_out hi, L2.wipe_out hi]; exact ho i hi
  have l1 : (setV (L2.wipe σ is) is vs).length = σ.length := by rw [setV_length, L2.wipe_length]
  have o1 : ∀ i, i ∉ is → (setV (L2.wipe σ is) is vs)[i]? = σ[i]? := fun i hi => by rw [setV_out hi, L2.wipe_out hi]
  have l2 : (L2.wipe σ is).length = σ.length := L2.wipe_length _ _
  have o2 : ∀ i, i ∉ is → (L2.wipe σ is)[i]? = σ[i]? := fun i hi => L2.wipe_out hi
  exact ⟨(key _ l1 o1).trans (key _ l2 o2).symm, key _ l1 o1⟩

/-! ### a comprehension's block -/
theorem look_relabel {env : PySem.Env} : ∀ {names : List (Str × NameKind)} {x : Str} {kd : NameKind}, names.lookup x = some kd →
    (names.map fun (n, k) => if (k == NameKind.free && env.scope.kind == .function && env.kindOf n == some .cell) then (n, NameKind.cell) else (n, k)).lookup x = some kd ∨ (kd = .free ∧
    (names.map fun (n, k) => if (k == NameKind.free && env.scope.kind == .function && env.kindOf n == some .cell) then (n, NameKind.cell) else (n, k)).lookup x = some .cell)
  | [], _, _, h => by simp at h
  | (n, k) :: r, x, kd, h => by
    cases hx : x == n with
    | true =>
      simp only [List.lookup_cons, hx] at h
      cases h
      cases hc : (k == NameKind.free && env.scope.kind == .function && env.kindOf n == some .cell) with
      | true =>
        refine .inr ⟨?_, ?_⟩
        · rw [Bool.and_eq_true, Bool.and_eq_true] at hc
          exact beq_iff_eq.mp hc.1.1
        · rw [List.map_cons]; simp only [hc, if_true, List.lookup_cons, hx]
      | false =>
        refine .inl ?_
        rw [List.map_cons]; simp [hc, List.lookup_cons, hx]
    | false =>
      simp only [List.lookup_cons, hx] at h
      have ih := look_relabel (env := env) h
      rw [List.map_cons]
      cases hc : (k == NameKind.free && env.scope.kind == .function && env.kindOf n == some .cell) <;> simpa [hc, List.lookup_cons, hx] using ih
theorem XOk.blk (x : XOk cA k c N X sc) (hn : c.hot = none) (scope : Scope) (s : Shared) (H : Hp) (C : Addr) (cl : List (Str × Addr)) (fp : List Addr) : XOk cA k c N (X.blk s H scope (compEnvC scope cl C X.env) fp) scope where
  cfg := x.cfg
  calm := x.calm
  room := x.room
  un := x.un
  pinAt := x.pinAt
  tame := x.tame
  held := fun i y z => by rw [hn] at z; cases z
  names := x.names
  nd := x.nd
  vis := fun y kd h => by
    have l := look_relabel (env := X.env) h
    refine ⟨fun z => ?_, fun z => ?_⟩
    · rcases l with l | ⟨_, l⟩
      · rcases z with rfl | rfl | rfl
        · exact .inl l
        · exact .inr (.inl l)
        · exact .inr (.inr l)
      · exact .inr (.inl l)
    · subst z
      rcases l with l | ⟨z, _⟩
      · exact l
      · cases z
  loc := fun y kd h z => by
    have l := look_relabel (env := X.env) h
    rcases z with rfl | rfl
    · rcases l with l | ⟨z, _⟩
      · exact ⟨.inl l, .inr l⟩
      · cases z
    · rcases l with l | ⟨z, _⟩
      · refine ⟨.inr l, .inl ?_⟩
        show (scope.names.lookup y == some .cell) = true
        rw [h]; rfl
      · cases z
  cf := fun y h => by
    rcases h with h | h
    · rcases look_relabel (env := X.env) h with l | ⟨z, _⟩
      · exact .inl l
      · cases z
    · rcases look_relabel (env := X.env) h with l | ⟨_, l⟩
      · exact .inr l
      · exact .inl l
end
end Q
/-! Q8: comprehensions, calls; every expression is read. -/
namespace Q
open PySem PySem.Spec PyProof.Rows L2
section
variable {X : Cx} {cA : CA} {k : Nat} {c : Cfg} {N : List Str} {sc : Scope} {W : WX} {n : Nat}
abbrev W0 : WX := fun _ _ _ _ => False

/-- a turn of a comprehension -/
def turnF (c : Cfg) (N : List Str) (n : Nat) (scope : Scope) (tg elt : Expr) (ifs : List Expr) (is : List Nat) (σ : Env) : D → Store → Out (Option D) := fun d S2 => match bindTg tg scope N (wipeE σ is) d with
  | some σ2 => (match ifs with
    | [] => (ev c N n scope elt σ2 S2).bind fun y S3 => .ok (some y) S3
    | [t] => (evT c N n scope t σ2 S2).bind fun k S3 => if k = true then (ev c N n scope elt σ2 S3).bind fun y S4 => .ok (some y) S4 else .ok none S3
    | _ => .bad)
  | none => .bad
/-- errors out of a block, as the slots at its start want them -/
abbrev WA (W : WX) (σ : L2.St) : WX := fun cls d _ H => W cls d σ H
def ttOf (K : PySem.W.Frag) (cA : CA) (W : WX) (c : Cfg) (N : List Str) (n : Nat) (scope : Scope) : List Expr → TT
  | [] => tYes
  | [t] => tT K cA W (evT c N n scope t)
  | _ => fun _ _ _ => False

theorem XOk.blkA (x : XOk cA k c N X sc) (hn : c.hot = none) (scope : Scope) (s : Shared) (H : Hp) (C : Addr) (cl : List (Str × Addr)) (fp : List Addr) (xb : Value → Shared → Prop) : XOk cA k c N (X.blkA s H scope (compEnvC scope cl C X.env) fp xb) scope :=
  have y := x.blk hn scope s H C cl fp
  ⟨y.cfg, y.calm, y.room, y.un, y.pinAt, y.tame, (fun j z h => by rw [hn] at h; cases h), y.names, y.nd, y.vis, y.loc, y.cf⟩
theorem comp_read {it : Items} {f : D → Store → Out (Option D)} {J : It} {g : TG} {tt : TT} {te : TE} {is : List Nat} {σ : L2.St} {σd : Env} {ρ1 : Pl} {H1 : Hp} {S1 : Store} {pos : Pos} {Q : VK}
    (env : EnvR X.K ρ1 H1 σd σ) (st : StR X.K cA ρ1 H1 S1) (hJ : ItR X.K cA it ρ1 H1 J)
    (turn : ∀ ρ H S d v (P1 : V → Hp → Prop) (Nx : Hp → Prop), EnvR X.K ρ H σd σ → StR X.K cA ρ H S → Rep X.K ρ H d v →
      (match f d S with
        | .ok (some y) S' => ∀ ρ' H' u, Ext ρ H ρ' H' → StR X.K cA ρ' H' S' → Rep X.K ρ' H' y u → P1 u H'
        | .ok none S' => ∀ ρ' H', Ext ρ H ρ' H' → StR X.K cA ρ' H' S' → Nx H'
        | .exc x S' => ∀ ρ' H', Ext ρ H ρ' H' → StR X.K cA ρ' H' S' → W (.ref (cA.ad x)) none σ H'
        | .bad => False) →
      g v (L2.wipe σ is) H fun σ2 H2 => L2.wipe σ2 is = L2.wipe σ is ∧ tt σ2 H2 fun b H3 => if b = true then te σ2 H3 P1 else Nx H3)
    (h : tO X.K cA W σ ρ1 H1 (Rep X.K) ((compF it f loopMost 0 [] S1).bind fun ys S2 => newL c pos ys S2) Q) :
    ∀ D, H1 D = none → ∃ W' : Nat → Nat → Hp → Prop, (∃ m, W' 0 m (upd H1 D (.lst []))) ∧ ∀ i m H, W' i m H →
      (J.stop i H ∧ Q (.ref D) H) ∨ (J.go i H ∧ ∃ Nx : Hp → Prop, (∀ H', Nx H' → ∃ m', m' < m ∧ W' (i + 1) m' H') ∧ ∀ x H', J.yld i H x H' → g x (L2.wipe σ is) H' fun σ2 H2 => L2.wipe σ2 is = L2.wipe σ is ∧ tt σ2 H2 fun b H3 =>
        if b = true then te σ2 H3 fun y H4 => ∃ acc, H4 D = some (.lst acc) ∧ acc.length < sizeLine ∧ Nx (upd H4 D (.lst (acc ++ [y]))) else Nx H3) := by
  intro D hD
  have hDb : D ∉ ρ1.b := fun z => (st.bl D z).1 hD
  refine ⟨fun i m H => ∃ ρ S acc accV, Ext ρ1 H1 ρ H ∧ D ∈ ρ.b ∧ StR X.K cA ρ H S ∧ H D = some (.lst accV) ∧ Reps X.K ρ H acc accV ∧
    tO X.K cA W σ ρ1 H1 (Rep X.K) ((compF it f m i acc S).bind fun ys S2 => newL c pos ys S2) Q, ⟨loopMost, ?_⟩, ?_⟩
  · obtain ⟨e, s⟩ := lock_new (u := .lst []) st hD
    exact ⟨ρ1.lock D, S1, [], [], e, List.mem_cons_self, s, upd_same, .nil, h⟩
  · rintro i m H ⟨ρ, S, acc, accV, e, hb, s, hv, rs, q⟩
    have hdl : D ∉ ρ.l := (s.bl D hb).2
    cases m with
    | zero => exact q.elim
    | succ m =>
      obtain ⟨j1, j2⟩ := hJ ρ H S i e s
      have e0 : compF it f (m + 1) i acc S = (match it.get S i with
        | none => .bad
        | some none => .ok acc S
        | some (some x) => (match f x S with
          | .ok (some y) S1 => if acc.length < 16777216 then compF it f m (i + 1) (acc ++ [y]) S1 else .bad
          | .ok none S1 => compF it f m (i + 1) acc S1
          | .exc c S1 => .exc c S1
          | .bad => .bad)) := rfl
      rw [e0] at q
      cases g0 : it.get S i with
      | none => rw [g0] at q; exact q.elim
      | some o =>
        rw [g0] at q
        cases o with
        | none =>
          refine .inl ⟨j1 g0, ?_⟩
          have q : tO X.K cA W σ ρ1 H1 (Rep X.K) (newL c pos acc S) Q := q
          obtain ⟨s2, r2, rs2⟩ := unlock (p := D) s
          have ed := e.drop hDb
          have hnl : D ∉ (ρ.drop D).l := hdl
          have hnb : ¬ (ρ.drop D).has D := by
            rintro (z | z)
            · exact hnl z
            · exact of_decide_eq_true (List.mem_filter.mp z).2 rfl
          unfold newL at q
          split at q
          · have q : tO X.K cA W σ ρ1 H1 (Rep X.K) (.ok (.ref S.length) (S ++ [.lst acc])) Q := q
            have e3 : Ext ρ1 H1 ((ρ.drop D).more D) H := by
              obtain ⟨τ, t1, t2⟩ := ed.pre
              refine ⟨⟨τ ++ [D], ?_, fun a ha => ?_⟩, ed.lo, ed.hi, ed.keep, ed.tr, ed.pn⟩
              · show (ρ.drop D).l ++ [D] = _
                rw [t1, List.append_assoc]
              · rcases List.mem_append.mp ha with z | z
                · exact t2 a z
                · rw [List.mem_singleton.mp z]; exact hD
            obtain ⟨s3, hlast⟩ := unlock_keep (o := .lst acc) s hb fun ρ' k => ⟨accV, hv, k rs⟩
            exact q _ _ _ e3 s3 (.ref hlast)
          · have q : tO X.K cA W σ ρ1 H1 (Rep X.K) (.ok (.lst acc) S) Q := q
            exact q _ _ _ ed s2 (.lst (.inl ⟨.inl hv, hnb⟩) (rs2 rs))
        | some d =>
          have q : tO X.K cA W σ ρ1 H1 (Rep X.K) ((match f d S with
            | .ok (some y) S1 => if acc.length < 16777216 then compF it f m (i + 1) (acc ++ [y]) S1 else .bad
            | .ok none S1 => compF it f m (i + 1) acc S1
            | .exc c S1 => .exc c S1
            | .bad => .bad).bind fun ys S2 => newL c pos ys S2) Q := q
          obtain ⟨j3, j4⟩ := j2 d g0
          refine .inr ⟨j3, fun H' => ∃ ρ S acc accV, Ext ρ1 H1 ρ H' ∧ D ∈ ρ.b ∧ StR X.K cA ρ H' S ∧ H' D = some (.lst accV) ∧ Reps X.K ρ H' acc accV ∧
              tO X.K cA W σ ρ1 H1 (Rep X.K) ((compF it f m (i + 1) acc S).bind fun ys S2 => newL c pos ys S2) Q, fun H' z => ⟨m, Nat.lt_succ_self m, z⟩, fun v H' y => ?_⟩
          obtain ⟨ρ2, e2, s2, r2⟩ := j4 v H' y
          refine turn ρ2 H' S d v _ _ (env.ext (e.trans e2)) s2 r2 ?_
          cases fe : f d S with
          | exc x S' =>
            rw [fe] at q
            exact fun ρ' H4 e4 s4 => q ρ' H4 ((e.trans e2).trans e4) s4
          | bad => rw [fe] at q; exact q.elim
          | ok r S' =>
          cases r with
          | some y =>
            intro ρ' H4 u e4 s4 r4
            rw [fe] at q
            by_cases hl : acc.length < 16777216
            · have q : tO X.K cA W σ ρ1 H1 (Rep X.K) ((if acc.length < 16777216 then compF it f m (i + 1) (acc ++ [y]) S' else .bad).bind fun ys S2 => newL c pos ys S2) Q := q
              rw [if_pos hl] at q
              have e24 := e2.trans e4
              have hb4 : D ∈ ρ'.b := e24.lo D hb
              have hv4 : H4 D = some (.lst accV) := e24.keep D _ hdl hv
              obtain ⟨s5, r5, rs5⟩ := lock_turn (u := .lst (accV ++ [u])) s4 hb4
              refine ⟨accV, hv4, by rw [line_eq, ← rs.length]; exact hl, ρ', S', acc ++ [y], accV ++ [u], ((e.trans e24).turn hD), hb4, s5, upd_same, ?_, q⟩
              exact (rs5 (rs.ext e24)).append (.cons (r5 r4) .nil)
            · have q : tO X.K cA W σ ρ1 H1 (Rep X.K) ((if acc.length < 16777216 then compF it f m (i + 1) (acc ++ [y]) S' else .bad).bind fun ys S2 => newL c pos ys S2) Q := q
              rw [if_neg hl] at q; exact q.elim
          | none =>
            intro ρ' H4 e4 s4
            rw [fe] at q
            have e24 := e2.trans e4
            exact ⟨ρ', S', acc, accV, e.trans e24, e24.lo D hb, s4, e24.keep D _ hdl hv, rs.ext e24, q⟩
end
end Q
/-! Q9: comprehensions, calls; every expression is read. -/
namespace Q
open PySem PySem.Spec PyProof.Rows L2
section
variable {X : Cx} {cA : CA} {k : Nat} {c : Cfg} {N : List Str} {sc : Scope} {W : WX} {n : Nat}
structure AllE (cA : CA) (c : Cfg) (N : List Str) (n : Nat) (X : Cx) (sc : Scope) (W : WX) : Prop where
  e : SE cA c N n X sc W
  t : ST cA c N n X sc W
  b : SB cA c N n X sc W
  ts : STs cA c N n X sc W
  a : SA cA c N n X sc W
  p : SP' cA c N n X sc W
  i : SI cA c N n X sc W
theorem turn_read (hp : cA.pin = none) {ρ : Pl} {H : Hp} {S : Store} {σd : Env} {σ : L2.St} {d : D} {v : V} {tg elt : Expr} {ifs : List Expr} {scope : Scope} {xs : List Str} {is : List Nat} (h : tgNames tg = some xs) (h2 : slotsOf scope N xs = some is) (hi : ifs.length < 2)
    (P1 : V → Hp → Prop) (Nx : Hp → Prop) (env : EnvR X.K ρ H σd σ) (st : StR X.K cA ρ H S) (r : Rep X.K ρ H d v)
    (hm : match turnF c N n scope tg elt ifs is σd d S with
        | .ok (some y) S' => ∀ ρ' H' u, Ext ρ H ρ' H' → StR X.K cA ρ' H' S' → Rep X.K ρ' H' y u → P1 u H'
        | .ok none S' => ∀ ρ' H', Ext ρ H ρ' H' → StR X.K cA ρ' H' S' → Nx H'
        | .exc x S' => ∀ ρ' H', Ext ρ H ρ' H' → StR X.K cA ρ' H' S' → W (.ref (cA.ad x)) none σ H'
        | .bad => False) :
    gTg X.K tg is v (L2.wipe σ is) H fun σ2 H2 => L2.wipe σ2 is = L2.wipe σ is ∧ ttOf X.K cA (WA W σ) c N n scope ifs σ2 H2 fun b H3 => if b = true then tE X.K cA (WA W σ) (ev c N n scope elt) σ2 H3 P1 else Nx H3 := by
  unfold turnF at hm
  cases hb : bindTg tg scope N (wipeE σd is) d with
  | none => rw [hb] at hm; exact hm.elim
  | some σ2 =>
    rw [hb] at hm
    refine tg_of (st.pin.trans hp) h h2 hb (env.wipe (st.pin.trans hp) is) r fun vs hl env' => ⟨wipe_setV.2, ?_⟩
    rcases ifs with _ | ⟨t, _ | ⟨t2, ifs⟩⟩
    · show tE X.K cA (WA W σ) (ev c N n scope elt) _ H P1
      refine ⟨ρ, σ2, S, env', st, ?_⟩
      have hm : (match (ev c N n scope elt σ2 S).bind fun y S3 => Out.ok (some y) S3 with
        | .ok (some y) S' => ∀ ρ' H' u, Ext ρ H ρ' H' → StR X.K cA ρ' H' S' → Rep X.K ρ' H' y u → P1 u H'
        | .ok none S' => ∀ ρ' H', Ext ρ H ρ' H' → StR X.K cA ρ' H' S' → Nx H'
        | .exc x S' => ∀ ρ' H', Ext ρ H ρ' H' → StR X.K cA ρ' H' S' → W (.ref (cA.ad x)) none σ H'
        | .bad => False) := hm
      cases e : ev c N n scope elt σ2 S with
      | ok y S' => rw [e] at hm; exact hm
      | exc x S' => rw [e] at hm; exact hm
      | bad => rw [e] at hm; exact hm.elim
    · show tT X.K cA (WA W σ) (evT c N n scope t) _ H _
      refine ⟨ρ, σ2, S, env', st, ?_⟩
      have hm : (match (evT c N n scope t σ2 S).bind fun k S3 => if k = true then (ev c N n scope elt σ2 S3).bind fun y S4 => Out.ok (some y) S4 else Out.ok none S3 with
        | .ok (some y) S' => ∀ ρ' H' u, Ext ρ H ρ' H' → StR X.K cA ρ' H' S' → Rep X.K ρ' H' y u → P1 u H'
        | .ok none S' => ∀ ρ' H', Ext ρ H ρ' H' → StR X.K cA ρ' H' S' → Nx H'
        | .exc x S' => ∀ ρ' H', Ext ρ H ρ' H' → StR X.K cA ρ' H' S' → W (.ref (cA.ad x)) none σ H'
        | .bad => False) := hm
      cases e : evT c N n scope t σ2 S with
      | exc x S' => rw [e] at hm; exact hm
      | bad => rw [e] at hm; exact hm.elim
      | ok b S1 =>
        rw [e] at hm
        rintro ρ' H' b' e1 s1 rfl
        cases b with
        | false => exact hm ρ' H' e1 s1
        | true =>
          refine ⟨ρ', σ2, S1, env'.ext e1, s1, ?_⟩
          have hm : (match (ev c N n scope elt σ2 S1).bind fun y S4 => Out.ok (some y) S4 with
            | .ok (some y) S' => ∀ ρ' H' u, Ext ρ H ρ' H' → StR X.K cA ρ' H' S' → Rep X.K ρ' H' y u → P1 u H'
            | .ok none S' => ∀ ρ' H', Ext ρ H ρ' H' → StR X.K cA ρ' H' S' → Nx H'
            | .exc x S' => ∀ ρ' H', Ext ρ H ρ' H' → StR X.K cA ρ' H' S' → W (.ref (cA.ad x)) none σ H'
            | .bad => False) := hm
          cases e2 : ev c N n scope elt σ2 S1 with
          | ok y S' =>
            rw [e2] at hm
            exact fun ρ3 H3 u e3 s3 r3 => hm ρ3 H3 u (e1.trans e3) s3 r3
          | exc x S' =>
            rw [e2] at hm
            exact fun ρ3 H3 e3 s3 => hm ρ3 H3 (e1.trans e3) s3
          | bad => rw [e2] at hm; exact hm.elim
    · exact absurd hi (by simp)
theorem c_comp (x : XOk cA k c N X sc) (IH : ∀ X sc W, XOk cA k c N X sc → TakesA X W → AllE cA c N n X sc W) (tk : TakesA X W) {elt tg iter : Expr} {ifs : List Expr} {scope : Scope} {pos} :
    PE X (.ListComp elt [⟨tg, iter, ifs, 0⟩] scope pos) (tE X.K cA W (ev c N (n + 1) sc (.ListComp elt [⟨tg, iter, ifs, 0⟩] scope pos))) := by
  have e0 : ∀ σ S, ev c N (n + 1) sc (.ListComp elt [⟨tg, iter, ifs, 0⟩] scope pos) σ S = (match tgNames tg with
      | some xs => (match slotsOf scope N xs with
        | some is => if !c.calm || (isSet iter || (!L2.blkC N sc scope (xs.zip is) || decide (2 ≤ ifs.length))) then .bad else (evI c N n (isTup tg) sc iter σ S).bind fun it S1 => (compF it (turnF c N n scope tg elt ifs is σ) loopMost 0 [] S1).bind fun ys S2 => newL c pos ys S2
        | none => .bad)
      | none => .bad) := fun _ _ => rfl
  cases h : tgNames tg with
  | none => exact PE.none (tX_bad fun σ S => by rw [e0, h])
  | some xs =>
    cases h2 : slotsOf scope N xs with
    | none => exact PE.none (tX_bad fun σ S => by rw [e0, h]; simp only [h2])
    | some is =>
      cases hc : (!c.calm || (isSet iter || (!L2.blkC N sc scope (xs.zip is) || decide (2 ≤ ifs.length)))) with
      | true => exact PE.none (tX_bad fun σ S => by rw [e0, h]; simp only [h2]; rw [if_pos hc])
      | false =>
        obtain ⟨hcm, hc1⟩ := Bool.or_eq_false_iff.mp hc
        have hn : c.hot = none := calm_none (by simpa using hcm)
        obtain ⟨hs, hc2⟩ := Bool.or_eq_false_iff.mp hc1
        obtain ⟨hb, hl⟩ := Bool.or_eq_false_iff.mp hc2
        have hb : L2.blkC N sc scope (xs.zip is) = true := by simpa using hb
        have hl : ifs.length < 2 := by have := of_decide_eq_false hl; omega
        have ok := blkOk_by hb
        have ok' : BlkOk X.N X.env.scope scope (xs.zip is) := by
          rw [x.names]
          exact ⟨ok.kind, ok.uniq, ok.ix, fun y hy z => x.cf _ (ok.free y hy z), ok.own⟩
        have snd_eq : (xs.zip is).map (·.2) = is := by
          rw [List.map_snd_zip]
          exact Nat.le_of_eq (slots_len h2)
        have hT : ∀ σ, BlkT X (WE W σ) scope fun Y => PTs Y ifs (ttOf X.K cA (WA W σ) c N n scope ifs) := fun σ s H C cl fp xb tk' => by
          rcases ifs with _ | ⟨t, _ | ⟨t2, ifs⟩⟩
          · exact pts_nil
          · exact pts_one ((IH _ scope _ (x.blkA hn scope s H C cl fp xb) tk').t t)
          · exact absurd hl (by simp)
        have L := pe_lcX (X := X) (W := W) (ifs := ifs) (pos := pos) (tt := fun σ => ttOf X.K cA (WA W σ) c N n scope ifs) (te := fun σ => tE X.K cA (WA W σ) (ev c N n scope elt)) (g := gTg X.K tg is) tk (x.calm hn) (by rw [x.names]; exact x.nd) ((IH X sc W x tk).i tg iter) ok'
          (fun σ s H C cl fp xb tk' => pg_tg (x.blkA hn scope s H C cl fp xb) hn h h2) hT
          (fun σ s H C cl fp xb tk' => (IH _ scope _ (x.blkA hn scope s H C cl fp xb) tk').e elt) (set_ok hs X.env)
        rw [snd_eq] at L
        refine PE.weak L ?_
        rintro σ H Q ⟨ρ, σd, S, env, st, q⟩
        rw [e0, h] at q
        simp only [h2] at q
        rw [if_neg (by rw [hc]; exact Bool.false_ne_true)] at q
        refine ⟨ρ, σd, S, env, st, (tO.bind (R1 := fun ρ H it J => ItR X.K cA it ρ H J) q).post ?_⟩
        rintro J H1 ⟨ρ1, it, S1, e1, st1, hJ, h1⟩
        exact comp_read (env.ext e1) st1 hJ (fun ρ H S d v P1 Nx env st r hm => turn_read (x.pin hn) h h2 hl P1 Nx env st r hm) h1

theorem tO_wish {α β : Type} {K : PySem.W.Frag} {σ : L2.St} {ρ : Pl} {H : Hp} {R : Pl → Hp → α → β → Prop} {r : Out α} {Q : β → Hp → Prop} (h : tO K cA W σ ρ H R r Q) : tO K cA (fun cls d _ H' => W cls d σ H') [] ρ H R r Q := by
  cases r <;> exact h
theorem blt_calm (x : XOk cA k c N X sc) {f : Str} {b : Blt} (hf : c.free f = true) (hb : bltOf f = some b) (ne : b ≠ .int) : X.calm = true := by
  refine x.calm (x.of_free hf (fun z => ?_) (fun z => ?_))
  · subst z
    have : bltOf "isinstance" = none := by decide +kernel
    rw [this] at hb; cases hb
  · subst z
    have : bltOf "int" = some .int := by kernel_rfl
    rw [this] at hb; cases hb
    exact ne rfl
/-- classes named one behind the other -/
theorem pa_kits (x : XOk cA k c N X sc) {y : Str} : ∀ {es : List Expr} {r : Bool}, kitAll c N sc y es = some r → ∃ (vs : List V) (us : List Value), PA X es (fun _ H Q => Q vs H) ∧ Paired ClsV vs us ∧ PySem.W.kitAny X.K (.ref (cA y)) us = some r ∧ vs.length = es.length
  | [], r, h => by
    cases h
    exact ⟨[], [], pa_nil, .nil, rfl, rfl⟩
  | e :: es, r, h => by
    cases e with
    | Name t tp =>
      simp only [kitAll] at h
      split at h
      · rename_i hc
        rw [Bool.and_eq_true] at hc
        obtain ⟨c0, c3⟩ := hc
        split at h
        · rename_i b r' hb hr
          cases h
          obtain ⟨vs, us, P, pr, ka, st⟩ := pa_kits x hr
          have hgt : nmOf sc N t = .glob := by
            cases q : nmOf sc N t with
            | glob => rfl
            | slot => rw [q] at c0; cases c0
            | no => rw [q] at c0; cases c0
          obtain ⟨q1, q2, q3⟩ := pn c3
          obtain ⟨v, u, hm, cl, ko, _, _⟩ := x.cfg.kit y t b hb
          have pe : PE X (.Name t tp) (tC v) := by
            rcases hm with ⟨m1, m2⟩ | ⟨m1, m2, m3⟩
            · exact pe_glob ((x.vis _ _ (nm_glob hgt)).2 rfl) m1 m2 q1
            · exact pe_bltn ((x.vis _ _ (nm_glob hgt)).2 rfl) m1 m2 m3 q3 q1
          refine ⟨v :: vs, u :: us, PA.weak (pa_cons pe P (star_one rfl _ _)) fun σ H Q q => q, .cons cl pr, kitAny_cons ko (fun z => by rw [z, Bool.false_or]; exact ka) (fun z => by rw [z, Bool.true_or]), by rw [List.length_cons, List.length_cons, st]⟩
        · cases h
      · cases h
    | _ => cases h
theorem c_held (x : XOk cA k c N X sc) {args : List Expr} {b : Bool} {p pos : Pos} (h : hotIs c N sc args = some b) (hgl : Gl X "isinstance") (hfr : c.free "isinstance" = true) (p1 : (("isinstance" : Str) == ("__debug__" : Str)) = false) :
    PE X (.Call (.Name "isinstance" p) args [] pos) (tE X.K cA W (fun _ S => .ok (.bl b) S)) := by
  have at_slot : ∀ {e : Str} {ep : Pos} {i : Nat}, ((nmOf sc N e).at_ i && plainName e) = true → PE X (.Name e ep) (tVar i) ∧ i < N.length := by
    intro e ep i hc
    rw [Bool.and_eq_true] at hc
    obtain ⟨c1, c2⟩ := hc
    obtain ⟨q1, q2, q3⟩ := pn c2
    cases hn : nmOf sc N e with
    | glob => rw [hn] at c1; cases c1
    | no => rw [hn] at c1; cases c1
    | slot j =>
      rw [hn] at c1
      have : i = j := beq_iff_eq.mp c1
      subst this
      obtain ⟨h1, kd, h2, h3⟩ := nm_slot hn
      exact ⟨pe_var (by rw [x.names]; exact h1) ((x.vis _ _ h2).1 h3) q1 q2, (List.getElem?_eq_some_iff.mp h1).1⟩
  unfold hotIs at h
  split at h
  · rename_i e ep t tp
    split at h
    · rename_i i y hh
      split at h
      · rename_i hc
        obtain ⟨a, hpin, r1, r2⟩ := (x.held i y hh (at_slot (ep := ep) hc).2).out
        obtain ⟨vs, us, P, pr, ka, sa⟩ := pa_kits x h
        cases pr with
        | nil => cases sa
        | cons cl pr =>
          cases pr with
          | cons _ _ => cases sa
          | nil =>
            rename_i v u
            have ko : PySem.W.kitOne X.K (.ref (cA y)) u = some b := by
              unfold PySem.W.kitAny at ka
              cases z : PySem.W.kitOne X.K (.ref (cA y)) u with
              | none => rw [z] at ka; cases ka
              | some t => rw [z] at ka; cases t <;> exact ka
            refine PE.weak (pe_callB r1 hgl (x.cfg.free _ hfr) (by decide +kernel) (pa_cons (at_slot hc).1 P (star_one rfl _ _)) (by decide) p1 (star_one rfl _ _) (star_any rfl)) ?_
            rintro σ H Q ⟨ρ, σd, S, env, st, q⟩
            refine ⟨.ref a, env.pin i a (st.pin.trans hpin), ?_⟩
            exact ⟨v, u, b, rfl, fun w r => cl.eq r, ko, q ρ H _ Ext.refl st (.bl b)⟩
      · cases h
    · cases h
  · rename_i e ep es ek tp
    split at h
    · rename_i i y hh
      split at h
      · rename_i hc
        rw [Bool.and_eq_true] at hc
        obtain ⟨hc, hlen⟩ := hc
        obtain ⟨a, hpin, r1, r2⟩ := (x.held i y hh (at_slot (ep := ep) hc).2).out
        have hlen := of_decide_eq_true hlen
        obtain ⟨vs, us, P, pr, ka, sa⟩ := pa_kits x h
        refine PE.weak (pe_callB r2 hgl (x.cfg.free _ hfr) (by decide +kernel) (pa_cons (at_slot hc).1 (pa_cons (pe_tup P) pa_nil (star_one rfl _ _)) (star_one rfl _ _)) (by decide) p1 (star_one rfl _ _) (star_any rfl)) ?_
        rintro σ H Q ⟨ρ, σd, S, env, st, q⟩
        refine ⟨.ref a, env.pin i a (st.pin.trans hpin), ?_⟩
        refine ⟨by rw [sa]; unfold sizeLine; omega, fun tp hp => ?_⟩
        obtain ⟨e1, s1⟩ := ext_new (u := .tup vs) st hp
        exact ⟨tp, vs, us, b, rfl, upd_same, pr, ka, q ρ _ _ e1 s1 (.bl b)⟩
      · cases h
    · cases h
  · cases h
/-- an instance is made -/
theorem make_of {φ : Fn} {C : Str} {xs : List D} {vs : List V} {ρ : Pl} {H : Hp} {S : Store} {Q : VK} {σ : L2.St} (st : StR X.K cA ρ H S) (r : Reps X.K ρ H xs vs) (q : tO X.K cA W σ ρ H (Rep X.K) (makeD C φ xs S) Q) {x dx : Addr} (hx : H x = none) (hd : H dx = none) (hn : dx ≠ x) :
    spOf X.K cA φ (.ref x :: vs) (upd (upd H dx (.own x)) x (.ins (cA C) dx [])) (fun v H2 => v = .non ∧ Q (.ref x) H2) (WE W σ) := by
  obtain ⟨e1, s1⟩ := ext_new (u := .own x) st hd
  have hx1 : upd H dx (.own x) x = none := by rw [upd_ne (Ne.symm hn)]; exact hx
  obtain ⟨e2, s2⟩ := ext_alloc (u := .ins (cA C) dx []) (o := .ins C []) s1 hx1 fun ρ' H' _ h => ⟨dx, [], h, .nil⟩
  have rx : Rep X.K (ρ.more x) (upd (upd H dx (.own x)) x (.ins (cA C) dx [])) (.ref S.length) (.ref x) := .ref (by
    show (ρ.l ++ [x])[S.length]? = some x
    rw [← st.len]; simp)
  have e12 := e1.trans e2
  refine ⟨ρ.more x, .ref S.length :: xs, S ++ [.ins C []], .cons rx (r.ext e12), s2, ?_⟩
  unfold makeD at q
  cases e : φ (.ref S.length :: xs) (S ++ [.ins C []]) with
  | bad => rw [e] at q; exact q.elim
  | exc y S' => rw [e] at q; exact fun ρ' H' e3 s3 => q ρ' H' (e12.trans e3) s3
  | ok d S' =>
    rw [e] at q
    cases d with
    | non =>
      intro ρ' H' v e3 s3 r3
      cases r3
      exact ⟨rfl, q ρ' H' (.ref x) (e12.trans e3) s3 (rx.ext e3)⟩
    | _ => exact q.elim
theorem evA_len {c : Cfg} {N : List Str} {sc : Scope} : ∀ (es : List Expr) (n : Nat) {σ : Env} {S S' : Store} {xs : List D}, evA c N n sc es σ S = .ok xs S' → xs.length = es.length
  | _, 0, _, _, _, _, h => by cases h
  | [], n + 1, _, _, _, _, h => by cases h; rfl
  | e :: es, n + 1, σ, S, S', xs, h => by
    have h : (if isStar e then .bad else (ev c N n sc e σ S).bind fun x S1 => (evA c N n sc es σ S1).bind fun ys S2 => .ok (x :: ys) S2) = Out.ok xs S' := h
    split at h
    · cases h
    · cases q : ev c N n sc e σ S with
      | ok x S1 =>
        rw [q] at h
        have h : ((evA c N n sc es σ S1).bind fun ys S2 => Out.ok (x :: ys) S2) = Out.ok xs S' := h
        cases q2 : evA c N n sc es σ S1 with
        | ok ys S2 =>
          rw [q2] at h
          cases h
          exact congrArg (· + 1) (evA_len es n q2)
        | exc => rw [q2] at h; cases h
        | bad => rw [q2] at h; cases h
      | exc => rw [q] at h; cases h
      | bad => rw [q] at h; cases h
theorem c_call (x : XOk cA k c N X sc) (IH : AllE cA c N n X sc W) (tk : TakesA X W) {f : Str} {p : Pos} {args : List Expr} {pos} :
    PE X (.Call (.Name f p) args [] pos) (tE X.K cA W (ev c N (n + 1) sc (.Call (.Name f p) args [] pos))) := by
  have e0 : ∀ σ S, ev c N (n + 1) sc (.Call (.Name f p) args [] pos) σ S = if plainName f && !args.any isStar then (match nmOf sc N f with
      | .glob => (match c.funs f with
        | some φ => (evA c N n sc args σ S).bind fun xs S1 => φ xs S1
        | none => (match c.mks f with
        | some φ => (evA c N n sc args σ S).bind fun xs S1 => makeD f φ xs S1
        | none => if c.free f then (if f == "isinstance" then (match hotIs c N sc args with
            | some b => .ok (.bl b) S
            | none => (match isArgs args with
              | some (a, t) => if (nmOf sc N t).isGlob && (c.free t && tyOk t && plainName t) then (ev c N n sc a σ S).bind fun x S1 => ofO S1 ((isTy S1 x t).map D.bl) else .bad
              | none => .bad))
          else if f == "dict" then (evA c N n sc args σ S).bind fun xs S1 => (match xs with
            | [x] => ofP (dictD S1 x)
            | _ => .bad)
          else (match (if f == "len" then lenSet? args else none) with
            | some (a, g) => if c.free g && (nmOf sc N g).isGlob then (ev c N n sc a σ S).bind fun x S1 => ofO S1 (lenSetD S1 x) else .bad
            | none => (match bltOf f with
              | some b => (evA c N n sc args σ S).bind fun xs S1 => blF c pos b xs S1
              | none => .bad)))
          else .bad))
      | _ => .bad) else .bad := fun _ _ => rfl
  have blts : nmOf sc N f = .glob → plainName f = true → args.any isStar = false → c.free f = true → PE X (.Call (.Name f p) args [] pos) (tE X.K cA W (fun σ S => (match bltOf f with
              | some b => (evA c N n sc args σ S).bind fun xs S1 => blF c pos b xs S1
              | none => .bad))) := by
    intro hg hp hs hf
    obtain ⟨p1, p2, p3⟩ := pn hp
    cases hb : bltOf f with
    | none => exact PE.none (tX_bad fun σ S => rfl)
    | some b =>
      obtain ⟨hv, hn⟩ := bltOf_cases hb
      cases args with
      | nil =>
        have bad : ∀ S, blF c pos b [] S = .bad := fun S => by
          unfold blF
          split
          · cases b <;> rfl
          · rfl
        refine PE.none ?_
        rintro σ H Q ⟨ρ, σd, S, env, st, q⟩
        cases n with
        | zero => exact q.elim
        | succ n =>
          have q : tO X.K cA W σ ρ H (Rep X.K) (blF c pos b [] S) Q := q
          rw [bad] at q
          exact q.elim
      | cons e es =>
        have hs' := hs
        rw [List.any_cons, Bool.or_eq_false_iff] at hs'
        have G : PE X (.Call (.Name f p) (e :: es) [] pos) (tCB (b.rule X.K) (tAs X.K cA W (evA c N n sc (e :: es)))) := by
          have ok := b.ok (fun ne => blt_calm x hf hb ne)
          have hm := x.cfg.free f hf
          have hgl := (x.vis _ _ (nm_glob hg)).2 rfl
          cases b with
          | len => exact pe_callB ok hgl hm hv (IH.a _) hn p1 (star_one hs'.1 _ _) (star_any hs'.2)
          | int => exact pe_callTy ok hgl hm hv (IH.a _) hn p1 (star_one hs'.1 _ _) (star_any hs'.2)
          | list => exact pe_callTy ok hgl hm hv (IH.a _) hn p1 (star_one hs'.1 _ _) (star_any hs'.2)
          | tuple => exact pe_callTy ok hgl hm hv (IH.a _) hn p1 (star_one hs'.1 _ _) (star_any hs'.2)
          | all => exact pe_callB ok hgl hm hv (IH.a _) hn p1 (star_one hs'.1 _ _) (star_any hs'.2)
          | abs => exact pe_callB ok hgl hm hv (IH.a _) hn p1 (star_one hs'.1 _ _) (star_any hs'.2)
          | min => exact pe_callB ok hgl hm hv (IH.a _) hn p1 (star_one hs'.1 _ _) (star_any hs'.2)
          | max => exact pe_callB ok hgl hm hv (IH.a _) hn p1 (star_one hs'.1 _ _) (star_any hs'.2)
          | str => exact pe_callTy ok hgl hm hv (IH.a _) hn p1 (star_one hs'.1 _ _) (star_any hs'.2)
          | any => exact pe_callB ok hgl hm hv (IH.a _) hn p1 (star_one hs'.1 _ _) (star_any hs'.2)
          | sum => exact pe_callB ok hgl hm hv (IH.a _) hn p1 (star_one hs'.1 _ _) (star_any hs'.2)
        refine PE.weak G ?_
        rintro σ H Q ⟨ρ, σd, S, env, st, q⟩
        refine ⟨ρ, σd, S, env, st, (tO.bind (R1 := Reps X.K) q).post ?_⟩
        rintro vs H1 ⟨ρ1, xs, S1, e1, st1, r1, h1⟩
        have h1 : tO X.K cA W σ ρ1 H1 (Rep X.K) (blF c pos b xs S1) Q := h1
        unfold blF at h1
        split at h1
        · split at h1
          · next y =>
            split at h1
            · next ys e2 =>
              obtain ⟨v, rfl, r⟩ := reps1 r1
              exact list_of st1 r e2 fun zs vs e3 rs => kon_ref st1 (by cases e3; exact h1) rs
            · exact h1.elim
          · exact h1.elim
        · obtain ⟨d, e2, kq⟩ := tO.ofO h1
          exact Blt.of st1 r1 e2 kq
  have lift : ∀ {g : Env → Store → Out D}, (∀ σ S, ev c N (n + 1) sc (.Call (.Name f p) args [] pos) σ S = g σ S) → PE X (.Call (.Name f p) args [] pos) (tE X.K cA W g) → PE X (.Call (.Name f p) args [] pos) (tE X.K cA W (ev c N (n + 1) sc (.Call (.Name f p) args [] pos))) := by
    intro g hg h
    refine PE.weak h ?_
    rintro σ H Q ⟨ρ, σd, S, env, st, q⟩
    rw [hg] at q
    exact ⟨ρ, σd, S, env, st, q⟩
  have none_ : (∀ σ S, ev c N (n + 1) sc (.Call (.Name f p) args [] pos) σ S = .bad) → PE X (.Call (.Name f p) args [] pos) (tE X.K cA W (ev c N (n + 1) sc (.Call (.Name f p) args [] pos))) := fun h => PE.none (tX_bad h)
  cases hp : plainName f with
  | false => exact none_ fun σ S => by rw [e0, hp]; rfl
  | true =>
    obtain ⟨p1, p2, p3⟩ := pn hp
    cases hs : args.any isStar with
    | true => exact none_ fun σ S => by rw [e0, hp, hs]; rfl
    | false =>
      have e1 : ∀ σ S, ev c N (n + 1) sc (.Call (.Name f p) args [] pos) σ S = (match nmOf sc N f with
      | .glob => (match c.funs f with
        | some φ => (evA c N n sc args σ S).bind fun xs S1 => φ xs S1
        | none => (match c.mks f with
        | some φ => (evA c N n sc args σ S).bind fun xs S1 => makeD f φ xs S1
        | none => if c.free f then (if f == "isinstance" then (match hotIs c N sc args with
            | some b => .ok (.bl b) S
            | none => (match isArgs args with
              | some (a, t) => if (nmOf sc N t).isGlob && (c.free t && tyOk t && plainName t) then (ev c N n sc a σ S).bind fun x S1 => ofO S1 ((isTy S1 x t).map D.bl) else .bad
              | none => .bad))
          else if f == "dict" then (evA c N n sc args σ S).bind fun xs S1 => (match xs with
            | [x] => ofP (dictD S1 x)
            | _ => .bad)
          else (match (if f == "len" then lenSet? args else none) with
            | some (a, g) => if c.free g && (nmOf sc N g).isGlob then (ev c N n sc a σ S).bind fun x S1 => ofO S1 (lenSetD S1 x) else .bad
            | none => (match bltOf f with
              | some b => (evA c N n sc args σ S).bind fun xs S1 => blF c pos b xs S1
              | none => .bad)))
          else .bad))
      | _ => .bad) := fun σ S => by rw [e0, hp, hs]; rfl
      cases hg : nmOf sc N f with
      | slot i => exact none_ fun σ S => by rw [e1, hg]
      | no => exact none_ fun σ S => by rw [e1, hg]
      | glob =>
        have hgl := (x.vis _ _ (nm_glob hg)).2 rfl
        cases hf : c.funs f with
        | some φ =>
          refine lift (g := fun σ S => (evA c N n sc args σ S).bind fun xs S1 => φ xs S1) (fun σ S => by rw [e1, hg]; simp only [hf]) ?_
          obtain ⟨fa, fd, ps, ds, dvs, dds, φ0, F, hm, hk, hb, hd, hr, hφ⟩ := x.cfg.fn f φ hf
          have main : ∀ (ds : List Value) (dvs : List V) (dds : List D), Binds X.K fd ps ds → Vals dvs ds → (∀ ρ H, Reps X.K ρ H dds dvs) → PE X (.Call (.Name f p) args [] pos) (tE X.K cA W (fun σ S => (evA c N n sc args σ S).bind fun xs S1 => φ0 (xs ++ dds) S1)) := by
            intro ds dvs dds hb hd hr
            cases args with
            | nil =>
              refine PE.weak (pe_call0S (E := WE W) F (x.room (x.of_fun hf)) hgl hm hk hb hd (passA tk) p1) ?_
              rintro σ H Q ⟨ρ, σd, S, env, st, q⟩
              cases n with
              | zero => exact q.elim
              | succ n => exact ⟨ρ, dds, S, by simpa using hr ρ H, st, tO_wish q⟩
            | cons e es =>
              have hs' := hs
              rw [List.any_cons, Bool.or_eq_false_iff] at hs'
              refine PE.weak (pe_callSD (E := WE W) F (x.room (x.of_fun hf)) hgl hm hk hb hd (passA tk) (IH.a (e :: es)) p1 (star_one hs'.1 _ _) (star_any hs'.2)) ?_
              rintro σ H Q ⟨ρ, σd, S, env, st, q⟩
              refine ⟨ρ, σd, S, env, st, (tO.bind (R1 := Reps X.K) q).post ?_⟩
              rintro vs H1 ⟨ρ1, xs, S1, e1, st1, r1, h1⟩
              exact ⟨ρ1, xs ++ dds, S1, r1.append (hr ρ1 H1), st1, tO_wish h1⟩
          rcases hφ with rfl | ⟨hb0, rfl⟩
          · exact main ds dvs dds hb hd hr
          · have put : ∀ {g g' : List D → Store → Out D}, (∀ xs S, xs.length = args.length → g xs S = g' xs S) → PE X (.Call (.Name f p) args [] pos) (tE X.K cA W (fun σ S => (evA c N n sc args σ S).bind g')) → PE X (.Call (.Name f p) args [] pos) (tE X.K cA W (fun σ S => (evA c N n sc args σ S).bind g)) := by
              intro g g' hg h
              refine PE.weak h ?_
              rintro σ H Q ⟨ρ, σd, S, env, st, q⟩
              refine ⟨ρ, σd, S, env, st, ?_⟩
              cases e : evA c N n sc args σd S with
              | ok xs S1 =>
                have q : tO X.K cA W σ ρ H (Rep X.K) ((evA c N n sc args σd S).bind g) Q := q
                rw [e] at q
                have q : tO X.K cA W σ ρ H (Rep X.K) (g xs S1) Q := q
                rw [hg xs S1 (evA_len args n e)] at q
                show tO X.K cA W σ ρ H (Rep X.K) ((evA c N n sc args σd S).bind g') Q
                rw [e]; exact q
              | exc y S1 =>
                have q : tO X.K cA W σ ρ H (Rep X.K) ((evA c N n sc args σd S).bind g) Q := q
                rw [e] at q
                show tO X.K cA W σ ρ H (Rep X.K) ((evA c N n sc args σd S).bind g') Q
                rw [e]; exact q
              | bad =>
                have q : tO X.K cA W σ ρ H (Rep X.K) ((evA c N n sc args σd S).bind g) Q := q
                rw [e] at q
                exact q.elim
            by_cases hl : args.length = ps.length
            · exact put (fun xs S h => by show (if xs.length = ps.length then φ0 xs S else φ0 (xs ++ dds) S) = _; rw [if_pos (h.trans hl), List.append_nil]) (main [] [] [] hb0 .nil fun _ _ => .nil)
            · exact put (fun xs S h => by show (if xs.length = ps.length then φ0 xs S else φ0 (xs ++ dds) S) = _; rw [if_neg fun z => hl (h.symm.trans z)]) (main ds dvs dds hb hd hr)
        | none =>
        cases hk : c.mks f with
        | some φ =>
          refine lift (g := fun σ S => (evA c N n sc args σ S).bind fun xs S1 => makeD f φ xs S1) (fun σ S => by rw [e1, hg]; simp only [hf, hk]) ?_
          obtain ⟨hm, j, fa, fd, ps, hj, M, F, hb⟩ := x.cfg.mkr f φ hk
          have rm := (x.room (x.of_mk hk)).mono hj
          cases args with
          | nil =>
            refine PE.weak (pe_makeS0 (E := WE W) M F rm hgl hm hb (passA tk) p1) ?_
            rintro σ H Q ⟨ρ, σd, S, env, st, q⟩
            cases n with
            | zero => exact q.elim
            | succ n => exact fun x dx a b c => make_of st .nil q a b c
          | cons e es =>
            have hs' := hs
            rw [List.any_cons, Bool.or_eq_false_iff] at hs'
            refine PE.weak (pe_makeS (E := WE W) M F rm hgl hm hb (passA tk) (IH.a (e :: es)) p1 (star_one hs'.1 _ _) (star_any hs'.2)) ?_
            rintro σ H Q ⟨ρ, σd, S, env, st, q⟩
            refine ⟨ρ, σd, S, env, st, (tO.bind (R1 := Reps X.K) q).post ?_⟩
            rintro vs H1 ⟨ρ1, xs, S1, e1, st1, r1, h1⟩
            exact fun x dx a b c => make_of st1 r1 h1 a b c
        | none =>
          cases hfr : c.free f with
          | false => exact none_ fun σ S => by rw [e1, hg]; simp only [hf, hk, hfr]; rfl
          | true =>
            have e2 : ∀ σ S, ev c N (n + 1) sc (.Call (.Name f p) args [] pos) σ S = (if f == "isinstance" then (match hotIs c N sc args with
                | some b => .ok (.bl b) S
                | none => (match isArgs args with
                  | some (a, t) => if (nmOf sc N t).isGlob && (c.free t && tyOk t && plainName t) then (ev c N n sc a σ S).bind fun x S1 => ofO S1 ((isTy S1 x t).map D.bl) else .bad
                  | none => .bad))
              else if f == "dict" then (evA c N n sc args σ S).bind fun xs S1 => (match xs with
                | [x] => ofP (dictD S1 x)
                | _ => .bad)
              else (match (if f == "len" then lenSet? args else none) with
                | some (a, g) => if c.free g && (nmOf sc N g).isGlob then (ev c N n sc a σ S).bind fun x S1 => ofO S1 (lenSetD S1 x) else .bad
                | none => (match bltOf f with
                  | some b => (evA c N n sc args σ S).bind fun xs S1 => blF c pos b xs S1
                  | none => .bad))) := fun σ S => by rw [e1, hg]; simp only [hf, hk, hfr, if_true]
            cases hi : (f == ("isinstance" : Str)) with
            | false =>
              have e4 : ∀ σ S, ev c N (n + 1) sc (.Call (.Name f p) args [] pos) σ S = (if f == "dict" then (evA c N n sc args σ S).bind fun xs S1 => (match xs with
                | [x] => ofP (dictD S1 x)
                | _ => .bad)
              else (match (if f == "len" then lenSet? args else none) with
                | some (a, g) => if c.free g && (nmOf sc N g).isGlob then (ev c N n sc a σ S).bind fun x S1 => ofO S1 (lenSetD S1 x) else .bad
                | none => (match bltOf f with
                  | some b => (evA c N n sc args σ S).bind fun xs S1 => blF c pos b xs S1
                  | none => .bad))) := fun σ S => by rw [e2, hi]; rfl
              cases hdi : (f == ("dict" : Str)) with
              | true =>
                have e5 : ∀ σ S, ev c N (n + 1) sc (.Call (.Name f p) args [] pos) σ S = (evA c N n sc args σ S).bind fun xs S1 => (match xs with
                | [x] => ofP (dictD S1 x)
                | _ => .bad) := fun σ S => by rw [e4, hdi]; rfl
                have hdi := beq_iff_eq.mp hdi
                subst hdi
                cases args with
                | nil =>
                  refine none_ fun σ S => ?_
                  rw [e5]
                  cases n <;> rfl
                | cons e es =>
                  have hs' := hs
                  rw [List.any_cons, Bool.or_eq_false_iff] at hs'
                  refine PE.weak (pe_callTy (CallR.or (call_dictP (x.calm (x.of_free hfr (by decide +kernel) (by decide +kernel)))) call_dictD) hgl (x.cfg.free _ hfr) (by decide +kernel) (IH.a (e :: es)) (by decide) p1 (star_one hs'.1 _ _) (star_any hs'.2)) ?_
                  rintro σ H Q ⟨ρ, σd, S, env, st, q⟩
                  rw [e5] at q
                  refine ⟨ρ, σd, S, env, st, (tO.bind (R1 := Reps X.K) q).post ?_⟩
                  rintro vs H1 ⟨ρ1, xs, S1, e1, st1, r1, h1⟩
                  rcases xs with _ | ⟨y, _ | ⟨y2, ys⟩⟩
                  · exact h1.elim
                  · obtain ⟨v, rfl, r⟩ := reps1 r1
                    obtain ⟨d, S', e6, kq⟩ := tO.ofP h1
                    exact dict_of st1 r e6 kq
                  · exact h1.elim
              | false =>
                have e5 : ∀ σ S, ev c N (n + 1) sc (.Call (.Name f p) args [] pos) σ S = (match (if f == "len" then lenSet? args else none) with
                | some (a, g) => if c.free g && (nmOf sc N g).isGlob then (ev c N n sc a σ S).bind fun x S1 => ofO S1 (lenSetD S1 x) else .bad
                | none => (match bltOf f with
                  | some b => (evA c N n sc args σ S).bind fun xs S1 => blF c pos b xs S1
                  | none => .bad)) := fun σ S => by rw [e4, hdi]; rfl
                cases hls : (if f == ("len" : Str) then lenSet? args else none) with
                | none => exact lift (g := fun σ S => (match bltOf f with
                  | some b => (evA c N n sc args σ S).bind fun xs S1 => blF c pos b xs S1
                  | none => .bad)) (fun σ S => by rw [e5, hls]) (blts hg hp hs hfr)
                | some ag =>
                  obtain ⟨a, g⟩ := ag
                  have e6 : ∀ σ S, ev c N (n + 1) sc (.Call (.Name f p) args [] pos) σ S = if c.free g && (nmOf sc N g).isGlob then (ev c N n sc a σ S).bind fun x S1 => ofO S1 (lenSetD S1 x) else .bad := fun σ S => by rw [e5, hls]
                  cases hc : (c.free g && (nmOf sc N g).isGlob) with
                  | false => exact none_ fun σ S => by rw [e6, hc]; rfl
                  | true =>
                    rw [Bool.and_eq_true] at hc
                    have hgg : nmOf sc N g = .glob := by
                      cases q : nmOf sc N g with
                      | glob => rfl
                      | slot => rw [q] at hc; cases hc.2
                      | no => rw [q] at hc; cases hc.2
                    have hf2 : f = "len" := by
                      cases q : (f == ("len" : Str)) with
                      | true => exact beq_iff_eq.mp q
                      | false => rw [q] at hls; cases hls
                    subst hf2
                    have hls : lenSet? args = some (a, g) := hls
                    have shape : ∃ p2 q2, args = [.Call (.Name "set" p2) [a] [] q2] ∧ g = "set" ∧ isStar' a = false := by
                      unfold lenSet? at hls
                      split at hls
                      · split at hls
                        · rename_i c2
                          cases hls
                          rw [Bool.and_eq_true] at c2
                          have hset : g = "set" := beq_iff_eq.mp c2.1
                          subst hset
                          exact ⟨_, _, rfl, rfl, by simpa using c2.2⟩
                        · cases hls
                      · cases hls
                    obtain ⟨p2, q2, rfl, rfl, hst⟩ := shape
                    have hst : isStar a = false := by cases a <;> first | rfl | cases hst
                    refine PE.weak (pe_lenSetS (x.calm (x.of_free hfr (by decide +kernel) (by decide +kernel))) hgl (x.cfg.free _ hfr) ((x.vis _ _ (nm_glob hgg)).2 rfl) (x.cfg.free _ hc.1) (IH.e a) (star_one hst _ _)) ?_
                    rintro σ H Q ⟨ρ, σd, S, env, st, q⟩
                    rw [e6, if_pos (by rw [Bool.and_eq_true]; exact hc)] at q
                    refine ⟨ρ, σd, S, env, st, (tO.bind (R1 := Rep X.K) q).post ?_⟩
                    rintro v H1 ⟨ρ1, d, S1, e1, st1, r1, h1⟩
                    obtain ⟨d2, e7, kq⟩ := tO.ofO h1
                    exact lenSet_of st1 r1 e7 kq
            | true =>
              have e3' : ∀ σ S, ev c N (n + 1) sc (.Call (.Name f p) args [] pos) σ S = (match hotIs c N sc args with
                | some b => .ok (.bl b) S
                | none => (match isArgs args with
                  | some (a, t) => if (nmOf sc N t).isGlob && (c.free t && tyOk t && plainName t) then (ev c N n sc a σ S).bind fun x S1 => ofO S1 ((isTy S1 x t).map D.bl) else .bad
                  | none => .bad)) := fun σ S => by rw [e2, hi]; rfl
              have hi := beq_iff_eq.mp hi
              cases hho : hotIs c N sc args with
              | some b =>
                subst hi
                exact lift (g := fun σ S => .ok (.bl b) S) (fun σ S => by rw [e3', hho]) (c_held x hho hgl hfr p1)
              | none =>
              have e3 : ∀ σ S, ev c N (n + 1) sc (.Call (.Name f p) args [] pos) σ S = (match isArgs args with
                | some (a, t) => if (nmOf sc N t).isGlob && (c.free t && tyOk t && plainName t) then (ev c N n sc a σ S).bind fun x S1 => ofO S1 ((isTy S1 x t).map D.bl) else .bad
                | none => .bad) := fun σ S => by rw [e3', hho]
              cases ha : isArgs args with
              | none => exact none_ fun σ S => by rw [e3, ha]
              | some at_ =>
                obtain ⟨a, t⟩ := at_
                have : ∃ tp, args = [a, .Name t tp] := by
                  unfold isArgs at ha
                  split at ha
                  · cases ha; exact ⟨_, rfl⟩
                  · cases ha
                obtain ⟨tp, rfl⟩ := this
                cases hc : ((nmOf sc N t).isGlob && (c.free t && tyOk t && plainName t)) with
                | false => exact none_ fun σ S => by rw [e3, ha]; simp only [hc]; rfl
                | true =>
                  refine lift (g := fun σ S => (ev c N n sc a σ S).bind fun x S1 => ofO S1 ((isTy S1 x t).map D.bl)) (fun σ S => by rw [e3, ha]; simp only [hc, if_true]) ?_
                  rw [Bool.and_eq_true, Bool.and_eq_true, Bool.and_eq_true] at hc
                  obtain ⟨c0, ⟨c1, c2⟩, c3⟩ := hc
                  have hgt : nmOf sc N t = .glob := by
                    cases q : nmOf sc N t with
                    | glob => rfl
                    | slot => rw [q] at c0; cases c0
                    | no => rw [q] at c0; cases c0
                  obtain ⟨q1, q2, q3⟩ := pn c3
                  have hs' := hs
                  rw [List.any_cons, Bool.or_eq_false_iff] at hs'
                  have ty : PE X (.Name t tp) (tC (.ty (tyNm t))) := pe_bltn ((x.vis _ _ (nm_glob hgt)).2 rfl) (x.cfg.free t c1) (boot_ty c2) rfl q3 q1
                  subst hi
                  refine PE.weak (pe_callB call_isi hgl (x.cfg.free _ hfr) (by decide +kernel) (pa_cons (IH.e a) (pa_cons ty pa_nil (star_one rfl _ _)) (star_one hs'.1 _ _)) (by decide) p1 (star_one hs'.1 _ _) (star_any hs'.2)) ?_
                  rintro σ H Q ⟨ρ, σd, S, env, st, q⟩
                  refine ⟨ρ, σd, S, env, st, (tO.bind (R1 := Rep X.K) q).post ?_⟩
                  rintro v H1 ⟨ρ1, d, S1, e1, st1, r1, h1⟩
                  obtain ⟨b, e4, kq⟩ := tO.ofO h1
                  cases e5 : isTy S1 d t with
                  | none => rw [e5] at e4; cases e4
                  | some bb =>
                    rw [e5] at e4; cases e4
                    obtain ⟨ta, t1, t2⟩ := tyx_rep st1 r1 c2 e5
                    exact ⟨v, .ty (tyNm t), .type ta, .type (tyNm t), bb, rfl, .ty _, t1, kit_ty t2, kon_here st1 kq (.bl _)⟩
theorem meth_split {r : Out D} {g : D → Store → Out D} {ρ : Pl} {H : Hp} {Q : VK} {σ : L2.St} (L R : V → Hp → Prop) (q : tO X.K cA W σ ρ H (Rep X.K) (r.bind g) Q)
    (h : ∀ d S1, tO X.K cA W σ ρ H (Rep X.K) (g d S1) Q → (∀ ρ1 H1 v, Ext ρ H ρ1 H1 → StR X.K cA ρ1 H1 S1 → Rep X.K ρ1 H1 d v → L v H1) ∨ (∀ ρ1 H1 v, Ext ρ H ρ1 H1 → StR X.K cA ρ1 H1 S1 → Rep X.K ρ1 H1 d v → R v H1)) :
    tO X.K cA W σ ρ H (Rep X.K) r L ∨ tO X.K cA W σ ρ H (Rep X.K) r R := by
  cases r with
  | bad => exact q.elim
  | exc y S1 => exact .inl q
  | ok d S1 => exact h d S1 q
theorem mtF_of {ρ : Pl} {H : Hp} {S : Store} {σ : L2.St} {pos : Pos} {i : MId} {x : D} {xs : List D} {v : V} {vs : List V} {Q : VK} (st : StR X.K cA ρ H S) (r : Rep X.K ρ H x v) (rs : Reps X.K ρ H xs vs) (h : tO X.K cA W σ ρ H (Rep X.K) (mtF c pos i x xs S) Q) : i.rule X.K v vs H Q := by
  unfold mtF at h
  split at h
  · unfold mtM at h
    split at h
    · next e => exact split_ref st r rs e h
    · exact h.elim
  · obtain ⟨y, S', e2, kq⟩ := tO.ofP h
    exact mth_of st r rs e2 kq
theorem c_meth (x : XOk cA k c N X sc) (IH : AllE cA c N n X sc W) (tk : TakesA X W) {o : Expr} {m : Str} {apos cpos : Pos} {args : List Expr} :
    PE X (.Call (.Attribute o m apos) args [] cpos) (tE X.K cA W (ev c N (n + 1) sc (.Call (.Attribute o m apos) args [] cpos))) := by
  have e0 : ∀ σ S, ev c N (n + 1) sc (.Call (.Attribute o m apos) args [] cpos) σ S = if apos.endLine == cpos.line && (okBase o && (!args.any isStar && decide (args.length < 20))) then (ev c N n sc o σ S).bind fun x S1 => (match mIdD S1 x m with
      | some i => (evA c N n sc args σ S1).bind fun xs S2 => mtF c cpos i x xs S2
      | none => (match methD (c.meths m) S1 x m with
        | some φ => (evA c N n sc args σ S1).bind fun xs S2 => φ (x :: xs) S2
        | none => .bad)) else .bad := fun _ _ => rfl
  cases hc : (apos.endLine == cpos.line && (okBase o && (!args.any isStar && decide (args.length < 20)))) with
  | false => exact PE.none (tX_bad fun σ S => by rw [e0, hc]; rfl)
  | true =>
    have hc' := hc
    rw [Bool.and_eq_true, Bool.and_eq_true, Bool.and_eq_true] at hc'
    obtain ⟨c1, c2, c3, c4⟩ := hc'
    have hs : args.any isStar = false := by simpa using c3
    have hl : args.length < 20 := of_decide_eq_true c4
    have own : ∀ {ρ : Pl} {H : Hp} {S : Store} {d : D} {v : V} {φ : Fn}, StR X.K cA ρ H S → Rep X.K ρ H d v → methD (c.meths m) S d m = some φ → ∃ a C dx fs, v = .ref a ∧ H a = some (.ins C dx fs) ∧ fs.lookup m = none ∧ MethOk X (L2.CX X.prog X.w) C m (spOf X.K cA φ) := by
      intro ρ H S d v φ st r h
      unfold methD at h
      split at h
      · next C fs hi =>
        split at h
        · next hn =>
          obtain ⟨l, a, dx, vs, rfl, rfl, g1, g2, g3, rs⟩ := ins_at st r hi
          obtain ⟨f, fd, ps, q1, q2, q3, q4⟩ := x.cfg.meth m C φ h
          exact ⟨a, _, dx, vs, rfl, g3, (rs.look (f := m)).1 (Option.isNone_iff_eq_none.mp hn), f, fd, ps, k, q1, q2, q3, x.room (x.of_meth h), q4⟩
        · cases h
      · cases h
    cases args with
    | nil =>
      refine PE.weak (PE.or (pe_mth0 (by have := x.un; omega) (IH.e o) c2 c1) (pe_methA0 (E := WE W) (CX := L2.CX X.prog X.w) (IH.e o) (base_ok c2 m X.env) c1 (passA tk))) ?_
      rintro σ H Q ⟨ρ, σd, S, env, st, q⟩
      rw [e0, if_pos hc] at q
      refine (meth_split _ _ q ?_).imp (fun z => ⟨ρ, σd, S, env, st, z⟩) fun z => ⟨ρ, σd, S, env, st, z⟩
      intro d S1 h0
      cases e : mIdD S1 d m with
      | some i =>
        left
        intro ρ1 H1 v e1 st1 r1
        have h1 := h0.ext e1
        rw [e] at h1
        obtain ⟨hm, ty⟩ := mId_of st1 r1 e
        refine ⟨i, hm, ty, ?_⟩
        cases n with
        | zero => exact h1.elim
        | succ n =>
          exact mtF_of st1 r1 .nil (show tO X.K cA W σ ρ1 H1 (Rep X.K) (mtF c cpos i d [] S1) Q from h1)
      | none =>
        rw [e] at h0
        cases em : methD (c.meths m) S1 d m with
        | none => simp only [em] at h0; exact h0.elim
        | some φ =>
          simp only [em] at h0
          right
          intro ρ1 H1 v e1 st1 r1
          have h1 := h0.ext e1
          obtain ⟨a, C, dx, fs, rfl, g1, g2, mo⟩ := own st1 r1 em
          refine ⟨a, C, dx, fs, _, rfl, g1, g2, mo, ?_⟩
          cases n with
          | zero => exact h1.elim
          | succ n => exact ⟨ρ1, [d], S1, .cons r1 .nil, st1, tO_wish h1⟩
    | cons a as =>
      have hs' := hs
      rw [List.any_cons, Bool.or_eq_false_iff] at hs'
      refine PE.weak (PE.or (pe_mth (by have := x.un; omega) (IH.e o) (IH.a (a :: as)) c2 c1 hs hl) (pe_methA (E := WE W) (CX := L2.CX X.prog X.w) (IH.e o) (base_ok c2 m X.env) ?few c1 (passA tk) (IH.a (a :: as)) (star_one hs'.1 _ _) (star_any hs'.2))) ?_
      case few =>
        have e1 : (backTo cpos (starEach (a :: as) X.env)).all (fun x => !x.1) = true := star_all hs
        have e2 : decide ((a :: as).length + ([] : List Keyword).length + (if ([] : List Keyword).isEmpty then 0 else 1) < 30) = true := by
          have e3 : (if ([] : List Keyword).isEmpty then 0 else 1) = 0 := rfl
          rw [e3]
          refine decide_eq_true ?_
          simp only [List.length_cons, List.length_nil] at hl ⊢
          omega
        rw [e1, e2]
        rfl
      rintro σ H Q ⟨ρ, σd, S, env, st, q⟩
      rw [e0, if_pos hc] at q
      refine (meth_split _ _ q ?_).imp (fun z => ⟨ρ, σd, S, env, st, z⟩) fun z => ⟨ρ, σd, S, env, st, z⟩
      intro d S1 h0
      cases e : mIdD S1 d m with
      | some i =>
        left
        intro ρ1 H1 v e1 st1 r1
        have h1 := h0.ext e1
        rw [e] at h1
        obtain ⟨hm, ty⟩ := mId_of st1 r1 e
        refine ⟨i, hm, ty, ρ1, σd, S1, env.ext e1, st1, (tO.bind (R1 := Reps X.K) h1).post ?_⟩
        rintro vs H2 ⟨ρ2, xs, S2, e2, st2, r2, h2⟩
        exact mtF_of st2 (r1.ext e2) r2 h2
      | none =>
        rw [e] at h0
        cases em : methD (c.meths m) S1 d m with
        | none => simp only [em] at h0; exact h0.elim
        | some φ =>
          simp only [em] at h0
          right
          intro ρ1 H1 v e1 st1 r1
          have h1 := h0.ext e1
          obtain ⟨a, C, dx, fs, rfl, g1, g2, mo⟩ := own st1 r1 em
          refine ⟨a, C, dx, fs, _, rfl, g1, g2, mo, ρ1, σd, S1, env.ext e1, st1, (tO.bind (R1 := Reps X.K) h1).post ?_⟩
          rintro vs H2 ⟨ρ2, xs, S2, e2, st2, r2, h2⟩
          exact ⟨ρ2, d :: xs, S2, .cons (r1.ext e2) r2, st2, tO_wish h2⟩
end

section
variable {X : Cx} {cA : CA} {k : Nat} {c : Cfg} {N : List Str} {sc : Scope} {W : WX} {n : Nat}
theorem c_fmt (ih : SE cA c N n X sc W) {a : Expr} {pos} : PE X (.FormattedValue a (-1) none pos) (tE X.K cA W (ev c N (n + 1) sc (.FormattedValue a (-1) none pos))) :=
  PE.weak (pe_fmt (ih a)) (one_w (r := fun v H Q => (∃ y : Str, v = .str y ∧ y.length ≤ sizeLine ∧ Q (.str y) H) ∨ ∃ i : Int, v = .int i ∧ i.natAbs.log2 < 1920 ∧ Q (.str (toString i)) H) (g := fun S x => ofO S (fmtD x)) fun σ ρ H S x v Q st rx h => by
    obtain ⟨d, e, k⟩ := tO.ofO h
    cases rx with
    | str y =>
      simp only [fmtD] at e
      split at e <;> cases e
      rename_i c
      exact .inl ⟨y, rfl, by rw [line_eq]; exact c, kon_here st k (.str _)⟩
    | int i =>
      simp only [fmtD] at e
      split at e <;> cases e
      rename_i c
      exact .inr ⟨i, rfl, c, kon_here st k (.str _)⟩
    | _ => cases e)
theorem tJs_of {σ : L2.St} {σd : Env} {Q : VK} : ∀ (es : List Expr) (acc : Str) {ρ : Pl} {H : Hp} {S : Store}, EnvR X.K ρ H σd σ → StR X.K cA ρ H S → tO X.K cA W σ ρ H (Rep X.K) (joinF (es.map fun e => ev c N n sc e) acc σd S) Q → tJs (es.map fun e => tE X.K cA W (ev c N n sc e)) acc σ H (fun out H1 => Q (.str out) H1)
  | [], acc, ρ, H, S, env, st, h => kon_here (d := .str acc) st h (.str _)
  | e :: es, acc, ρ, H, S, env, st, h => by
    refine ⟨ρ, σd, S, env, st, (tO.bind (R1 := Rep X.K) h).post ?_⟩
    rintro v H1 ⟨ρ1, x, S1, e1, st1, r1, h1⟩
    cases r1 with
    | str y =>
      by_cases c : (acc ++ y).length ≤ 16777216
      · simp only [if_pos c] at h1
        exact ⟨y, rfl, by rw [line_eq]; exact c, tJs_of es (acc ++ y) (env.ext e1) st1 h1⟩
      · simp only [if_neg c] at h1
        exact h1.elim
    | _ => exact h1.elim
theorem c_joined (ih : SE cA c N n X sc W) {es : List Expr} {pos} : PE X (.JoinedStr es pos) (tE X.K cA W (ev c N (n + 1) sc (.JoinedStr es pos))) := by
  have e0 : ∀ σ S, ev c N (n + 1) sc (.JoinedStr es pos) σ S = if 2 ≤ es.length then joinF (es.map fun e => ev c N n sc e) Str.empty σ S else .bad := fun _ _ => rfl
  by_cases h : 2 ≤ es.length
  · have pj : ∀ es : List Expr, PJ X es (es.map fun e => tE X.K cA W (ev c N n sc e)) := fun es => by
      induction es with
      | nil => exact .nil
      | cons e es i => exact .cons (ih e) i
    rcases es with _ | ⟨v1, _ | ⟨v2, rest⟩⟩
    · exact absurd h (by simp)
    · exact absurd h (by simp)
    refine PE.weak (pe_joined (pj (v1 :: v2 :: rest))) ?_
    rintro σ H Q ⟨ρ, σd, S, env, st, q⟩
    rw [e0, if_pos h] at q
    exact tJs_of _ _ env st q
  · exact PE.none (tX_bad fun σ S => by rw [e0, if_neg h])
end

/-- EVERY EXPRESSION IS READ -/
theorem all_e {cA : CA} {k : Nat} {c : Cfg} {N : List Str} : ∀ n, ∀ m, m ≤ n → ∀ X sc W, XOk cA k c N X sc → TakesA X W → AllE cA c N m X sc W
  | 0, m, hm, X, sc, W, x, tk => by
    cases Nat.le_zero.mp hm
    exact ⟨fun e => PE.none (tX_bad fun _ _ => rfl), fun e => PT.none (tX_bad fun _ _ => rfl), fun op es pos => PE.none (tX_bad fun _ _ => rfl), fun op es pos => ⟨fun _ pins s σ H Q I q => (tX_bad (fun σ S => rfl) σ H Q q).elim⟩,
      fun es => PA.none (tX_bad fun _ _ => rfl), fun e => ⟨fun pins s σ H Q I q => (tX_bad (fun σ S => rfl) σ H Q q).elim⟩, fun tg e => PI.none (tX_bad fun _ _ => rfl)⟩
  | n + 1, m, hm, X, sc, W, x, tk => by
    by_cases h : m ≤ n
    · exact all_e n m h X sc W x tk
    · have e : m = n + 1 := by omega
      subst e
      have IH := all_e (cA := cA) (k := k) (c := c) (N := N) n n (Nat.le_refl n)
      have I := IH X sc W x tk
      refine ⟨fun e => ?_, c_test x (fun m' h' => (all_e n m' (Nat.le_of_lt h') X sc W x tk).e) I.e I.t I.ts, c_boolV I.e I.b, c_tests I.t I.ts, c_args I.e I.a, c_part I.e, c_iter x I.e⟩
      have none_ : (∀ σ S, ev c N (n + 1) sc e σ S = .bad) → PE X e (tE X.K cA W (ev c N (n + 1) sc e)) := fun h => PE.none (tX_bad h)
      cases e with
      | Constant kk j pos => exact c_const
      | Name y pos => exact c_name x
      | BinOp a op b pos => exact c_bin I.e
      | UnaryOp op a pos =>
        cases op with
        | Not => exact c_not I.e
        | USub => exact c_neg I.e
        | _ => exact none_ fun _ _ => rfl
      | BoolOp op es pos => exact c_boolE I.b
      | Compare a ops bs pos =>
        rcases ops with _ | ⟨op, _ | ⟨op', _ | ⟨op'', ops⟩⟩⟩
        · exact none_ fun _ _ => rfl
        · rcases bs with _ | ⟨b, _ | ⟨b', bs⟩⟩
          · exact none_ fun _ _ => rfl
          · exact c_cmp x I.e
          · exact none_ fun _ _ => rfl
        · rcases bs with _ | ⟨b, _ | ⟨b', _ | ⟨b'', bs⟩⟩⟩
          · exact none_ fun _ _ => rfl
          · exact none_ fun _ _ => rfl
          · exact c_chain x I.e
          · exact none_ fun _ _ => rfl
        · rcases bs with _ | ⟨b, _ | ⟨b', _ | ⟨b'', bs⟩⟩⟩ <;> exact none_ fun _ _ => rfl
      | IfExp t a b pos => exact c_ite I.e I.t
      | List es pos => exact c_list I.a
      | Dict ks vs pos =>
        cases ks with
        | nil =>
          cases vs with
          | nil => exact c_dict0
          | cons _ _ => exact none_ fun _ _ => rfl
        | cons k1 ks => exact c_disp (fun m' h' => (all_e n m' h' X sc W x tk).e) (by simp)
      | Tuple es j pos => exact c_tup I.a
      | Subscript a i pos =>
        cases hs : isSlice i with
        | false => exact c_sub x I.e hs
        | true =>
          cases i with
          | Slice lo hi step p2 =>
            cases step with
            | none => exact c_slice I.e I.p
            | some stp =>
              cases lo with
              | some _ => exact none_ fun _ _ => by simp only [ev]; split <;> simp_all [isSlice]
              | none =>
                cases hi with
                | some _ => exact none_ fun _ _ => by simp only [ev]; split <;> simp_all [isSlice]
                | none =>
                  cases stp <;> try exact none_ fun _ _ => rfl
                  rename_i op a2 p4
                  cases op <;> try exact none_ fun _ _ => rfl
                  cases a2 <;> try exact none_ fun _ _ => rfl
                  rename_i kk j p3
                  cases kk <;> try exact none_ fun _ _ => rfl
                  rename_i i
                  by_cases hi : i = 1
                  · subst hi; exact c_rev I.e
                  · refine none_ fun σ S => ?_
                    have : ∀ (i : Int), i ≠ 1 → ev c N (n + 1) sc (.Subscript a (.Slice none none (some (.UnaryOp .USub (.Constant (.int i) j p3) p4)) p2) pos) σ S = .bad := by
                      intro i hi
                      simp only [ev]
                      split <;> (try simp_all [isSlice]) <;> (rename_i h9; obtain ⟨rfl, rfl, rfl⟩ := h9; rfl)
                    exact this i hi
          | _ => cases hs
      | JoinedStr es pos => exact c_joined I.e
      | Attribute o f pos => exact c_attr x I.e
      | FormattedValue a cv sp pos =>
        cases sp with
        | some _ =>
          cases cv with
          | ofNat z => exact none_ fun _ _ => rfl
          | negSucc z => cases z <;> exact none_ fun _ _ => rfl
        | none =>
          cases cv with
          | ofNat z => exact none_ fun _ _ => rfl
          | negSucc z =>
            cases z with
            | zero => exact c_fmt I.e
            | succ z => exact none_ fun _ _ => rfl
      | Call f args kws pos =>
        cases kws with
        | cons _ _ => cases f <;> exact none_ fun _ _ => rfl
        | nil =>
          cases f with
          | Name f p => exact c_call x I tk
          | Attribute o m apos => exact c_meth x I tk
          | _ => exact none_ fun _ _ => rfl
      | ListComp elt gs scope pos =>
        rcases gs with _ | ⟨⟨tg, iter, ifs, as⟩, _ | ⟨g2, gs⟩⟩
        · exact none_ fun _ _ => rfl
        · cases as with
          | ofNat z =>
            cases z with
            | zero => exact c_comp x IH tk
            | succ z => exact none_ fun _ _ => rfl
          | negSucc z => exact none_ fun _ _ => rfl
        · cases as with
          | ofNat z => cases z <;> exact none_ fun _ _ => rfl
          | negSucc z => exact none_ fun _ _ => rfl
      | _ => exact none_ fun _ _ => rfl
end Q
/-! Q10: statements. -/
namespace Q
open PySem PySem.Spec PyProof.Rows L2
section
variable (K : PySem.W.Frag) (cA : CA)
def tFl (W : WX) (ρ : Pl) (H : Hp) (r : Fl) (D : Ends) : Prop := match r with
  | .nx σ' S' => ∀ ρ' H' σv, Ext ρ H ρ' H' → StR K cA ρ' H' S' → EnvR K ρ' H' σ' σv → D.nx σv H'
  | .bk σ' S' => ∀ ρ' H' σv, Ext ρ H ρ' H' → StR K cA ρ' H' S' → EnvR K ρ' H' σ' σv → D.bk σv H'
  | .ct σ' S' => ∀ ρ' H' σv, Ext ρ H ρ' H' → StR K cA ρ' H' S' → EnvR K ρ' H' σ' σv → D.ct σv H'
  | .rt d S' => ∀ ρ' H' v, Ext ρ H ρ' H' → StR K cA ρ' H' S' → Rep K ρ' H' d v → D.rt v H'
  | .exc x σ' S' => ∀ ρ' H' σv, Ext ρ H ρ' H' → StR K cA ρ' H' S' → EnvR K ρ' H' σ' σv → W (.ref (cA x)) none σv H'
  | .bad => False
def tSt (W : WX) (f : Env → Store → Fl) : TS := fun D σ H => ∃ ρ σd S, EnvR K ρ H σd σ ∧ StR K cA ρ H S ∧ tFl K cA W ρ H (f σd S) D
end
section
variable {K : PySem.W.Frag} {cA : CA} {ρ ρ' : Pl} {H H' : Hp} {W : WX} {α β : Type} {σ : L2.St}
theorem tFl.ext {r : Fl} {D : Ends} (e : Ext ρ H ρ' H') (h : tFl K cA W ρ H r D) : tFl K cA W ρ' H' r D := by
  cases r with
  | bad => exact h
  | _ => exact fun ρ2 H2 v e2 => h ρ2 H2 v (e.trans e2)
theorem tFl.use {R : Pl → Hp → α → β → Prop} {r : Out α} {f : α → Store → Fl} {σd : Env} {D : Ends} (env : EnvR K ρ H σd σ) (h : tFl K cA W ρ H (r.use σd f) D) :
    tO K cA W σ ρ H R r fun v H1 => ∃ ρ1 d S1, Ext ρ H ρ1 H1 ∧ StR K cA ρ1 H1 S1 ∧ R ρ1 H1 d v ∧ tFl K cA W ρ1 H1 (f d S1) D := by
  cases r with
  | ok d S => exact fun ρ1 H1 v e s r => ⟨ρ1, d, S, e, s, r, h.ext e⟩
  | exc x S => exact fun ρ1 H1 e s => h ρ1 H1 σ e s (env.ext e)
  | bad => exact h
theorem tFl.ends {r : Fl} {D D' : Ends} (h : tFl K cA W ρ H r D) (h1 : ∀ σ H, D.nx σ H → D'.nx σ H) (h2 : ∀ v H, D.rt v H → D'.rt v H) (h3 : ∀ σ H, D.bk σ H → D'.bk σ H) (h4 : ∀ σ H, D.ct σ H → D'.ct σ H) : tFl K cA W ρ H r D' := by
  cases r with
  | nx => exact fun ρ1 H1 v e s r => h1 _ _ (h ρ1 H1 v e s r)
  | rt => exact fun ρ1 H1 v e s r => h2 _ _ (h ρ1 H1 v e s r)
  | bk => exact fun ρ1 H1 v e s r => h3 _ _ (h ρ1 H1 v e s r)
  | ct => exact fun ρ1 H1 v e s r => h4 _ _ (h ρ1 H1 v e s r)
  | exc => exact h
  | bad => exact h
end
section
variable {X : Cx}
theorem PS.weak {st : Stmt} {t t' : TS} (h : PS X st t) (w : ∀ D σ H, t' D σ H → t D σ H) : PS X st t' := ⟨fun pins s σ H D I q => h.run pins s σ H D I (w D σ H q)⟩
theorem PSs.weak {st : List Stmt} {t t' : TS} (h : PSs X st t) (w : ∀ D σ H, t' D σ H → t D σ H) : PSs X st t' := ⟨fun pins s σ H D I q => h.run pins s σ H D I (w D σ H q)⟩
theorem PS.none {st : Stmt} {t : TS} (w : ∀ D σ H, ¬ t D σ H) : PS X st t := ⟨fun pins s σ H D I q => (w D σ H q).elim⟩
theorem PSs.none {st : List Stmt} {t : TS} (w : ∀ D σ H, ¬ t D σ H) : PSs X st t := ⟨fun pins s σ H D I q => (w D σ H q).elim⟩
theorem tSt_bad {K : PySem.W.Frag} {cA : CA} {W : WX} {f : Env → Store → Fl} (h : ∀ σ S, f σ S = .bad) : ∀ D σ H, ¬ tSt K cA W f D σ H := by
  rintro D σ H ⟨ρ, σd, S, _, _, q⟩
  rw [h] at q; exact q
end
/-- where statements run -/
structure XSt (X : Cx) (sc : Scope) : Prop where
  scope : X.env.scope = sc
  kind : X.env.scope.kind = .function
  pass : PassesOwn (model X.prog X.w) X.A X.env X.xe
  stk : X.stack = X.env :: X.outer
  frm : X.env.frame = some X.env.locals
section
variable {X : Cx} {cA : CA} {k : Nat} {c : Cfg} {N : List Str} {sc : Scope} {W : WX} {n : Nat}
abbrev SS (cA : CA) (c : Cfg) (N : List Str) (n : Nat) (X : Cx) (sc : Scope) (W : WX) : Prop := ∀ st, PS X st (tSt X.K cA W (ex c N sc n st))
abbrev SSs (cA : CA) (c : Cfg) (N : List Str) (n : Nat) (X : Cx) (sc : Scope) (W : WX) : Prop := ∀ sts, PSs X sts (tSt X.K cA W (exs c N sc n sts))

theorem sw_no {e : Expr} (h : ∀ a b s p, e ≠ .ListComp a b s p) (h2 : ∀ a b s p, e ≠ .SetComp a b s p) (h3 : ∀ a b d s p, e ≠ .DictComp a b d s p) (t : Option Expr) (l : Nat) (env : PySem.Env) : swapsWith e t l env = pure false := by
  cases e <;> first | rfl | exact absurd rfl (h _ _ _ _) | exact absurd rfl (h2 _ _ _ _) | exact absurd rfl (h3 _ _ _ _ _)
theorem sw_cell {elt : Expr} {gs : List Comprehension} {scope : Scope} {pos py : Pos} {y : Str} {l : Nat} {env : PySem.Env} (hy : env.scope.names.lookup y = some .cell) : swapsWith (.ListComp elt gs scope pos) (some (.Name y py)) l env = pure false := by
  have ky : env.kindOf y = some .cell := hy
  unfold swapsWith
  simp only [ky]
  have : (some NameKind.cell == some NameKind.local) = false := by decide
  rw [this, Bool.and_false, Bool.false_and, Bool.false_and]
theorem s_ret (I : AllE cA c N n X sc W) {e : Option Expr} {pos} : PS X (.Return e pos) (tSt X.K cA W (ex c N sc (n + 1) (.Return e pos))) := by
  cases e with
  | none => exact PS.weak ps_retN fun D σ H ⟨ρ, σd, S, env, st, q⟩ => q ρ H .non Ext.refl st .non
  | some e =>
    refine PS.weak (ps_ret (I.e e)) ?_
    rintro D σ H ⟨ρ, σd, S, env, st, q⟩
    refine ⟨ρ, σd, S, env, st, (tFl.use (R := Rep X.K) env q).post ?_⟩
    rintro v H1 ⟨ρ1, d, S1, e1, st1, r1, h1⟩
    exact h1 ρ1 H1 v Ext.refl st1 r1
theorem s_expr (I : AllE cA c N n X sc W) {e : Expr} {pos} : PS X (.Expr e pos) (tSt X.K cA W (ex c N sc (n + 1) (.Expr e pos))) := by
  cases e with
  | Call f as ks p =>
    refine PS.weak (ps_expr (I.e (.Call f as ks p)) rfl) ?_
    rintro D σ H ⟨ρ, σd, S, env, st, q⟩
    refine ⟨ρ, σd, S, env, st, (tFl.use (R := Rep X.K) env q).post ?_⟩
    rintro v H1 ⟨ρ1, d, S1, e1, st1, r1, h1⟩
    exact h1 ρ1 H1 σ Ext.refl st1 (env.ext e1)
  | _ => exact PS.none (tSt_bad fun _ _ => rfl)
theorem s_if (I : AllE cA c N n X sc W) (IS : SSs cA c N n X sc W) {t : Expr} {a b : List Stmt} {pos} : PS X (.If t a b pos) (tSt X.K cA W (ex c N sc (n + 1) (.If t a b pos))) := by
  refine PS.weak (ps_if (I.t t) (IS a) (IS b)) ?_
  rintro D σ H ⟨ρ, σd, S, env, st, q⟩
  refine ⟨ρ, σd, S, env, st, (tFl.use (R := RB) env q).post ?_⟩
  rintro v H1 ⟨ρ1, bb, S1, e1, st1, rfl, h1⟩
  cases bb with
  | true => exact ⟨ρ1, σd, S1, env.ext e1, st1, h1⟩
  | false => exact ⟨ρ1, σd, S1, env.ext e1, st1, h1⟩
/-- a comprehension's reading out of the interpreter's -/
theorem comp_tLc (hp : cA.pin = none) (I : AllE cA c N n X sc W) {elt tg iter : Expr} {ifs : List Expr} {scope : Scope} {pos : Pos} {xs : List Str} {is : List Nat} (h : tgNames tg = some xs) (h2 : slotsOf scope N xs = some is) (hl : ifs.length < 2) :
    ∀ σ H Q, tX X.K cA (Rep X.K) W (fun σ S => (evI c N n (isTup tg) sc iter σ S).bind fun it S1 => (compF it (turnF c N n scope tg elt ifs is σ) loopMost 0 [] S1).bind fun ys S2 => newL c pos ys S2) σ H Q →
      tLcX (iX X.K cA W (evI c N n (isTup tg) sc iter)) (gTg X.K tg is) (fun σ => ttOf X.K cA (WA W σ) c N n scope ifs) (fun σ => tE X.K cA (WA W σ) (ev c N n scope elt)) is σ H Q := by
  rintro σ H Q ⟨ρ, σd, S, env, st, q⟩
  refine ⟨ρ, σd, S, env, st, (tO.bind (R1 := fun ρ H it J => ItR X.K cA it ρ H J) q).post ?_⟩
  rintro J H1 ⟨ρ1, it, S1, e1, st1, hJ, h1⟩
  exact comp_read (env.ext e1) st1 hJ (fun ρ H S d v P1 Nx env st r hm => turn_read hp h h2 hl P1 Nx env st r hm) h1
theorem s_set (x : XOk cA k c N X sc) (xs : XSt X sc) (tk : TakesA X W) (IH : ∀ m, m ≤ n → ∀ X sc W, XOk cA k c N X sc → TakesA X W → AllE cA c N m X sc W) {y : Str} {p : Pos} {e : Expr} {pos} :
    PS X (.Assign [.Name y p] e pos) (tSt X.K cA W (ex c N sc (n + 1) (.Assign [.Name y p] e pos))) := by
  have e0 : ∀ σ S, ex c N sc (n + 1) (.Assign [.Name y p] e pos) σ S = if okSet sc y p e then (match stOf sc N y with
      | some i => if c.hotAt i then .bad else (ev c N n sc e σ S).use σ fun d S1 => .nx (σ.set i (some d)) S1
      | none => .bad) else .bad := fun _ _ => rfl
  have I := IH n (Nat.le_refl n) X sc W x tk
  cases ho : okSet sc y p e with
  | false => exact PS.none (tSt_bad fun σ S => by rw [e0, ho]; rfl)
  | true =>
    cases hi : stOf sc N y with
    | none => exact PS.none (tSt_bad fun σ S => by rw [e0, hi]; simp)
    | some i =>
      cases hat : c.hotAt i with
      | true => exact PS.none (tSt_bad fun σ S => by rw [e0, hi]; simp [hat])
      | false =>
      obtain ⟨h1, kd, h2, h3⟩ := st_slot hi
      obtain ⟨l1, l2⟩ := x.loc _ _ h2 h3
      have nd : X.N.Nodup := by rw [x.names]; exact x.nd
      have hn : X.N[i]? = some y := by rw [x.names]; exact h1
      have fin : ∀ {te : TE}, (∀ σ H Q, tE X.K cA W (ev c N n sc e) σ H Q → te σ H Q) → ∀ D σ H, tSt X.K cA W (ex c N sc (n + 1) (.Assign [.Name y p] e pos)) D σ H → tAsg te (gName i) D σ H := by
        rintro te hte D σ H ⟨ρ, σd, S, env, st, q⟩
        rw [e0, ho, if_pos rfl] at q
        simp only [hi, hat, Bool.false_eq_true, if_false] at q
        refine hte σ H _ ⟨ρ, σd, S, env, st, (tFl.use (R := Rep X.K) env q).post ?_⟩
        rintro v H1 ⟨ρ1, d, S1, e1, st1, r1, h1⟩
        exact h1 ρ1 H1 _ Ext.refl st1 ((env.ext e1).set r1 fun a => by rw [st1.pin]; exact x.free_at hat a)
      by_cases hc : ∃ a b s q, e = .ListComp a b s q
      · obtain ⟨elt, gs, scope, q, rfl⟩ := hc
        by_cases hcell : sc.names.lookup y = some .cell
        · exact PS.weak (ps_set nd hn l1 (I.e _) (sw_cell (by rw [xs.scope]; exact hcell)) l2) (fin fun _ _ _ h => h)
        have ho2 : (decide (sc.names.lookup y = some .local) && (p.line == q.line && !(scope.names.any fun (n, k) => n == y && (k == .local || k == .cell)))) = true := by
          have ho : (decide (sc.names.lookup y = some .cell) || decide (sc.names.lookup y = some .local) && (p.line == q.line && !(scope.names.any fun (n, k) => n == y && (k == .local || k == .cell)))) = true := ho
          rwa [decide_eq_false hcell, Bool.false_or] at ho
        have hok : okSet sc y p (.ListComp elt gs scope q) = true := by
          show (decide (sc.names.lookup y = some .cell) || decide (sc.names.lookup y = some .local) && (p.line == q.line && !(scope.names.any fun (n, k) => n == y && (k == .local || k == .cell)))) = true
          rw [ho2, Bool.or_true]
        cases n with
        | zero => exact PS.none (tSt_bad fun σ S => by rw [e0, ho]; simp only [hi, if_true, hat]; rfl)
        | succ n =>
          have I0 := IH n (Nat.le_succ n) X sc W x tk
          have none_ : (∀ σ S, ev c N (n + 1) sc (.ListComp elt gs scope q) σ S = .bad) → PS X (.Assign [.Name y p] (.ListComp elt gs scope q) pos) (tSt X.K cA W (ex c N sc (n + 1 + 1) (.Assign [.Name y p] (.ListComp elt gs scope q) pos))) := fun h =>
            PS.none (tSt_bad fun σ S => by rw [e0, ho]; simp only [hi, if_true, hat, h]; rfl)
          rcases gs with _ | ⟨⟨tg, iter, ifs, as⟩, _ | ⟨g2, gs⟩⟩
          · exact none_ fun _ _ => rfl
          · cases as with
            | negSucc z => exact none_ fun _ _ => rfl
            | ofNat z =>
              cases z with
              | succ z => exact none_ fun _ _ => rfl
              | zero =>
                have e1 : ∀ σ S, ev c N (n + 1) sc (.ListComp elt [⟨tg, iter, ifs, 0⟩] scope q) σ S = (match tgNames tg with
                  | some xs => (match slotsOf scope N xs with
                    | some is => if !c.calm || (isSet iter || (!L2.blkC N sc scope (xs.zip is) || decide (2 ≤ ifs.length))) then .bad else (evI c N n (isTup tg) sc iter σ S).bind fun it S1 => (compF it (turnF c N n scope tg elt ifs is σ) loopMost 0 [] S1).bind fun ys S2 => newL c q ys S2
                    | none => .bad)
                  | none => .bad) := fun _ _ => rfl
                cases h : tgNames tg with
                | none => exact none_ fun σ S => by show ev c N (n + 1) sc (.ListComp elt [⟨tg, iter, ifs, 0⟩] scope q) σ S = _; rw [e1, h]
                | some xs' =>
                  cases h2' : slotsOf scope N xs' with
                  | none => exact none_ fun σ S => by show ev c N (n + 1) sc (.ListComp elt [⟨tg, iter, ifs, 0⟩] scope q) σ S = _; rw [e1, h]; simp only [h2']
                  | some is =>
                    cases hc : (!c.calm || (isSet iter || (!L2.blkC N sc scope (xs'.zip is) || decide (2 ≤ ifs.length)))) with
                    | true => exact none_ fun σ S => by show ev c N (n + 1) sc (.ListComp elt [⟨tg, iter, ifs, 0⟩] scope q) σ S = _; rw [e1, h]; simp only [h2']; rw [if_pos hc]
                    | false =>
                      obtain ⟨hcm, hc1⟩ := Bool.or_eq_false_iff.mp hc
                      have hno : c.hot = none := calm_none (by simpa using hcm)
                      obtain ⟨hs, hc2⟩ := Bool.or_eq_false_iff.mp hc1
                      obtain ⟨hb, hl⟩ := Bool.or_eq_false_iff.mp hc2
                      have hb : L2.blkC N sc scope (xs'.zip is) = true := by simpa using hb
                      have hl : ifs.length < 2 := by have := of_decide_eq_false hl; omega
                      have ok := blkOk_by hb
                      have ok' : BlkOk X.N X.env.scope scope (xs'.zip is) := by
                        rw [x.names]
                        exact ⟨ok.kind, ok.uniq, ok.ix, fun y hy z => x.cf _ (ok.free y hy z), ok.own⟩
                      have snd_eq : (xs'.zip is).map (·.2) = is := by
                        rw [List.map_snd_zip]
                        exact Nat.le_of_eq (slots_len h2')
                      have hT : ∀ σ, BlkT X (WE W σ) scope fun Y => PTs Y ifs (ttOf X.K cA (WA W σ) c N n scope ifs) := fun σ s H C cl fp xb tk' => by
                        rcases ifs with _ | ⟨t, _ | ⟨t2, ifs⟩⟩
                        · exact pts_nil
                        · exact pts_one ((IH n (Nat.le_succ n) _ scope _ (x.blkA hno scope s H C cl fp xb) tk').t t)
                        · exact absurd hl (by simp)
                      simp only [Bool.and_eq_true] at ho2
                      obtain ⟨o1, o2, o3⟩ := ho2
                      have hyl : X.env.scope.names.lookup y = some .local := by rw [xs.scope]; exact of_decide_eq_true o1
                      have o3 : (scope.names.any fun (n, k) => n == y && (k == .local || k == .cell)) = false := by simpa using o3
                      have L := ps_setLcX (X := X) (W := W) (ifs := ifs) (pos := q) (spos := pos) (py := p) (tt := fun σ => ttOf X.K cA (WA W σ) c N n scope ifs) (te := fun σ => tE X.K cA (WA W σ) (ev c N n scope elt)) (g := gTg X.K tg is) tk (x.calm hno) nd hn hyl
                        (sw_true xs.kind hyl o2 o3) (I0.i tg iter) ok'
                        (fun σ s H C cl fp xb tk' => pg_tg (x.blkA hno scope s H C cl fp xb) hno h h2') hT
                        (fun σ s H C cl fp xb tk' => (IH n (Nat.le_succ n) _ scope _ (x.blkA hno scope s H C cl fp xb) tk').e elt) (set_ok hs X.env)
                      rw [snd_eq] at L
                      refine PS.weak L (fin fun σ H Q hq => comp_tLc (pos := q) (x.pin hno) I0 h h2' hl σ H Q ?_)
                      obtain ⟨ρ, σd, S, env, st, hq⟩ := hq
                      have hq : tO X.K cA W σ ρ H (Rep X.K) (ev c N (n + 1) sc (.ListComp elt [⟨tg, iter, ifs, 0⟩] scope q) σd S) Q := hq
                      rw [e1, h] at hq
                      simp only [h2'] at hq
                      rw [if_neg (by rw [hc]; exact Bool.false_ne_true)] at hq
                      exact ⟨ρ, σd, S, env, st, hq⟩
          · cases as with
            | ofNat z => cases z <;> exact none_ fun _ _ => rfl
            | negSucc z => exact none_ fun _ _ => rfl
      · refine PS.weak (ps_set nd hn l1 (I.e e) (sw_no (fun a b s q z => hc ⟨a, b, s, q, z⟩) (fun a b s q z => ?_) (fun a b d s q z => ?_) _ _ _) l2) (fin fun _ _ _ h => h)
        · subst z; cases ho
        · subst z; cases ho
theorem sole_no {tg e : Expr} (ht : ∀ x p, tg ≠ .Name x p) (l : Nat) (env : PySem.Env) : swapsWithSole [tg] e l env = pure false := by
  show swapsWith e (some tg) l env = pure false
  cases e <;> first | rfl | (cases tg <;> first | rfl | exact absurd rfl (ht _ _))
theorem s_sub (x : XOk cA k c N X sc) (I : AllE cA c N n X sc W) {o i e : Expr} {p pos} : PS X (.Assign [.Subscript o i p] e pos) (tSt X.K cA W (ex c N sc (n + 1) (.Assign [.Subscript o i p] e pos))) := by
  have e0 : ∀ σ S, ex c N sc (n + 1) (.Assign [.Subscript o i p] e pos) σ S = if isSlice i then .bad else (ev c N n sc e σ S).use σ fun d S1 => (ev c N n sc o σ S1).use σ fun x S2 => (ev c N n sc i σ S2).use σ fun y S3 => (match setD S3 x y d with
      | some S4 => .nx σ S4
      | none => .bad) := fun _ _ => rfl
  cases hs : isSlice i with
  | true => exact PS.none (tSt_bad fun σ S => by rw [e0, hs]; rfl)
  | false =>
    refine PS.weak (ps_asg (I.e e) (pg_sub (I.e o) (I.e i) (set_all (by have := x.un; omega)) (by intro v; cases i <;> first | rfl | cases hs)) (sole_no (fun _ _ z => by cases z) _ _) (by cases e <;> rfl) rfl) ?_
    rintro D σ H ⟨ρ, σd, S, env, st, q⟩
    rw [e0, hs] at q
    have q : tFl X.K cA W ρ H ((ev c N n sc e σd S).use σd fun d S1 => (ev c N n sc o σd S1).use σd fun x S2 => (ev c N n sc i σd S2).use σd fun y S3 => (match setD S3 x y d with
      | some S4 => .nx σd S4
      | none => .bad)) D := q
    refine ⟨ρ, σd, S, env, st, (tFl.use (R := Rep X.K) env q).post ?_⟩
    rintro v H1 ⟨ρ1, d, S1, e1, st1, r1, h1⟩
    refine ⟨ρ1, σd, S1, env.ext e1, st1, (tFl.use (R := Rep X.K) (env.ext e1) h1).post ?_⟩
    rintro u H2 ⟨ρ2, d2, S2, e2, st2, r2, h2⟩
    have env2 := (env.ext e1).ext e2
    refine ⟨ρ2, σd, S2, env2, st2, (tFl.use (R := Rep X.K) env2 h2).post ?_⟩
    rintro w H3 ⟨ρ3, d3, S3, e3, st3, r3, h3⟩
    cases e4 : setD S3 d2 d3 d with
    | none => rw [e4] at h3; exact h3.elim
    | some S4 =>
      rw [e4] at h3
      exact set_of st3 (r2.ext e3) r3 ((r1.ext e2).ext e3) e4 fun ρ' H' e5 st5 => h3 ρ' H' σ e5 st5 ((env2.ext e3).ext e5)
theorem s_attr (x : XOk cA k c N X sc) (I : AllE cA c N n X sc W) {o e : Expr} {f : Str} {p pos} : PS X (.Assign [.Attribute o f p] e pos) (tSt X.K cA W (ex c N sc (n + 1) (.Assign [.Attribute o f p] e pos))) := by
  have e0 : ∀ σ S, ex c N sc (n + 1) (.Assign [.Attribute o f p] e pos) σ S = (ev c N n sc e σ S).use σ fun d S1 => (ev c N n sc o σ S1).use σ fun x S2 => (match fldS (c.flds f) S2 x d f with
      | some S3 => .nx σ S3
      | none => .bad) := fun _ _ => rfl
  refine PS.weak (ps_fld (I.e o) (I.e e) (by cases e <;> rfl)) ?_
  rintro D σ H ⟨ρ, σd, S, env, st, q⟩
  rw [e0] at q
  refine ⟨ρ, σd, S, env, st, (tFl.use (R := Rep X.K) env q).post ?_⟩
  rintro v H1 ⟨ρ1, d, S1, e1, st1, r1, h1⟩
  refine ⟨ρ1, σd, S1, env.ext e1, st1, (tFl.use (R := Rep X.K) (env.ext e1) h1).post ?_⟩
  rintro u H2 ⟨ρ2, d2, S2, e2, st2, r2, h2⟩
  have env2 := (env.ext e1).ext e2
  cases e4 : fldS (c.flds f) S2 d2 d f with
  | none => rw [e4] at h2; exact h2.elim
  | some S4 =>
    rw [e4] at h2
    unfold fldS at e4
    split at e4
    · next l =>
      split at e4
      · next C fs hi =>
        split at e4
        · next hc =>
          cases e4
          rw [Bool.and_eq_true, decide_eq_true_eq] at hc
          obtain ⟨l', a, dx, vs, q1, rfl, g1, g2, g3, rs⟩ := ins_at st2 r2 hi
          cases q1
          have rv := r1.ext e2
          obtain ⟨e5, st5⟩ := ext_write (u := .ins (cA C) dx (L2.putF f v vs)) (o := .ins C (putFD f d fs)) st2 g2 fun H' e' g' => ⟨dx, _, g', (FReps.putF rv rs).ext e'⟩
          exact ⟨a, _, dx, vs, rfl, g3, (x.cfg.fld C f hc.1).1, (x.cfg.fld C f hc.1).2, by rw [← rs.len]; exact hc.2, h2 ρ2 _ σ e5 st5 (env2.ext e5)⟩
        · cases e4
      · cases e4
    · cases e4
/-- targets of all sorts -/
theorem tFl.seq {K : PySem.W.Frag} {cA : CA} {ρ : Pl} {H : Hp} {r : Fl} {f : Env → Store → Fl} {D : Ends} (h : tFl K cA W ρ H (r.seq f) D) :
    tFl K cA W ρ H r ⟨fun σ1 H1 => ∃ ρ1 σd1 S1, EnvR K ρ1 H1 σd1 σ1 ∧ StR K cA ρ1 H1 S1 ∧ tFl K cA W ρ1 H1 (f σd1 S1) D ∧ Ext ρ H ρ1 H1, D.rt, D.bk, D.ct⟩ := by
  cases r with
  | nx σ S => exact fun ρ1 H1 σ1 e s r => ⟨ρ1, _, _, r, s, tFl.ext e h, e⟩
  | rt => exact h
  | bk => exact h
  | ct => exact h
  | exc => exact h
  | bad => exact h
theorem pg_at {o : Expr} {f : Str} {p : Pos} {ta : TE} (ha : PE X o ta) : PG X (.Attribute o f p) (fun v σ H Q => ta σ H fun x H1 => ∃ a C dx fs, x = .ref a ∧ H1 a = some (.ins C dx fs) ∧ Cls X.K C ∧ NoAttr X.K C f ∧ fs.length < 1000 ∧ Q σ (upd H1 a (.ins C dx (L2.putF f v fs)))) := by
  refine ⟨fun pins s σ H v u Q I r h => ?_⟩
  rw [PySem.arm_assign_Attribute]
  refine wpAny_bind (wpAny_holding (thn (ha.run pins s σ H _ I h) fun ov s1 hh => ?_))
  obtain ⟨x, H1, I1, r1, a, C, dx, fs, ex, ea, hc, hn, hl, q⟩ := hh
  subst ex
  obtain rfl : ov = Value.ref a := r1
  refine wpAny_bind (wpAny_standAt (wpAny_bind (wpAny_holding (setattr_ok I1 ea hc hn hl r fun s2 I2 => ?_))))
  exact wpAny_release ⟨σ, _, I2, q⟩
theorem PG.weak {tg : Expr} {t t' : TG} (h : PG X tg t) (w : ∀ v σ H Q, t' v σ H Q → t v σ H Q) : PG X tg t' := ⟨fun pins s σ H v u Q I r q => h.run pins s σ H v u Q I r (w v σ H Q q)⟩
theorem PGs.weak {tg : List Expr} {t t' : TGs} (h : PGs X tg t) (w : ∀ v σ H Q, t' v σ H Q → t v σ H Q) : PGs X tg t' := ⟨fun pins s σ H v u Q I r q => h.run pins s σ H v u Q I r (w v σ H Q q)⟩
abbrev gOne (K : PySem.W.Frag) (cA : CA) (W : WX) (f : D → Env → Store → Fl) : TG := fun v σ H Q => ∃ ρ σd S d, EnvR K ρ H σd σ ∧ StR K cA ρ H S ∧ Rep K ρ H d v ∧ tFl K cA W ρ H (f d σd S) ⟨fun σ H => Q σ H, fun _ _ => False, fun _ _ => False, fun _ _ => False⟩
abbrev gAll (K : PySem.W.Frag) (cA : CA) (W : WX) (f : List D → Env → Store → Fl) : TGs := fun vs σ H Q => ∃ ρ σd S ds, EnvR K ρ H σd σ ∧ StR K cA ρ H S ∧ Reps K ρ H ds vs ∧ tFl K cA W ρ H (f ds σd S) ⟨fun σ H => Q σ H, fun _ _ => False, fun _ _ => False, fun _ _ => False⟩
/-- a value for an attribute -/
theorem fld_of (x : XOk cA k c N X sc) {ρ : Pl} {H : Hp} {S S4 : Store} {d d2 : D} {v u : V} {f : Str} (st2 : StR X.K cA ρ H S) (r2 : Rep X.K ρ H d2 u) (rv : Rep X.K ρ H d v) (e4 : fldS (c.flds f) S d2 d f = some S4) {Q : Hp → Prop} (hQ : ∀ ρ' H', Ext ρ H ρ' H' → StR X.K cA ρ' H' S4 → Q H') :
    ∃ a C dx fs, u = .ref a ∧ H a = some (.ins C dx fs) ∧ Cls X.K C ∧ NoAttr X.K C f ∧ fs.length < 1000 ∧ Q (upd H a (.ins C dx (L2.putF f v fs))) := by
  unfold fldS at e4
  split at e4
  · next l =>
    split at e4
    · next C fs hi =>
      split at e4
      · next hc =>
        cases e4
        rw [Bool.and_eq_true, decide_eq_true_eq] at hc
        obtain ⟨l', a, dx, vs, q1, rfl, g1, g2, g3, rs⟩ := ins_at st2 r2 hi
        cases q1
        obtain ⟨e5, st5⟩ := ext_write (u := .ins (cA C) dx (L2.putF f v vs)) (o := .ins C (putFD f d fs)) st2 g2 fun H' e' g' => ⟨dx, _, g', (FReps.putF rv rs).ext e'⟩
        exact ⟨a, _, dx, vs, rfl, g3, (x.cfg.fld C f hc.1).1, (x.cfg.fld C f hc.1).2, by rw [← rs.len]; exact hc.2, hQ ρ _ e5 st5⟩
      · cases e4
    · cases e4
  · cases e4
theorem pg_one (x : XOk cA k c N X sc) (hno : c.hot = none) (I : AllE cA c N n X sc W) : ∀ tg : Expr, okTg tg = true → PG X tg (gOne X.K cA W (asg1 c N n sc tg)) := by
  intro tg hk
  cases tg with
  | Name y p =>
    cases e2 : stOf sc N y with
    | none =>
      refine ⟨fun pins s σ H v u Q _ _ ⟨ρ, σd, S, d, _, _, _, q⟩ => ?_⟩
      have q : tFl X.K cA W ρ H (match stOf sc N y with | some i => if c.hotAt i then .bad else .nx (σd.set i (some d)) S | none => .bad) _ := q
      rw [e2] at q; exact q.elim
    | some i =>
      refine PG.weak (pg_st x e2) ?_
      rintro v σ H Q ⟨ρ, σd, S, d, env, st, r, q⟩
      have q : tFl X.K cA W ρ H (match stOf sc N y with | some i => if c.hotAt i then .bad else .nx (σd.set i (some d)) S | none => .bad) _ := q
      rw [e2] at q
      have hh : c.hotAt i = false := by unfold Cfg.hotAt; rw [hno]
      have q : tFl X.K cA W ρ H (if c.hotAt i then .bad else .nx (σd.set i (some d)) S) _ := q
      rw [hh] at q
      have hp : ρ.pin = none := st.pin.trans (x.pin hno)
      exact q ρ H _ Ext.refl st (env.set r fun a z => by rw [hp] at z; cases z)
  | Attribute o f p =>
    refine PG.weak (pg_at (I.e o)) ?_
    rintro v σ H Q ⟨ρ, σd, S, d, env, st, r, q⟩
    have q : tFl X.K cA W ρ H ((ev c N n sc o σd S).use σd fun x S2 => (match fldS (c.flds f) S2 x d f with
      | some S3 => .nx σd S3
      | none => .bad)) _ := q
    refine ⟨ρ, σd, S, env, st, (tFl.use (R := Rep X.K) env q).post ?_⟩
    rintro u H2 ⟨ρ2, d2, S2, e2, st2, r2, h2⟩
    cases e4 : fldS (c.flds f) S2 d2 d f with
    | none => rw [e4] at h2; exact h2.elim
    | some S4 =>
      rw [e4] at h2
      exact fld_of x st2 r2 (r.ext e2) e4 fun ρ' H' e5 st5 => h2 ρ' H' σ e5 st5 ((env.ext e2).ext e5)
  | Subscript o i p =>
    cases hs : isSlice i with
    | true =>
      refine ⟨fun pins s σ H v u Q _ _ ⟨ρ, σd, S, d, _, _, _, q⟩ => ?_⟩
      have q : tFl X.K cA W ρ H (if isSlice i then .bad else (ev c N n sc o σd S).use σd fun x S2 => (ev c N n sc i σd S2).use σd fun y S3 => (match setD S3 x y d with
        | some S4 => .nx σd S4
        | none => .bad)) _ := q
      rw [hs] at q; exact q.elim
    | false =>
      refine PG.weak (pg_sub (I.e o) (I.e i) (set_all (by have := x.un; omega)) (by intro v; cases i <;> first | rfl | cases hs)) ?_
      rintro v σ H Q ⟨ρ, σd, S, d, env, st, r, q⟩
      have q : tFl X.K cA W ρ H (if isSlice i then .bad else (ev c N n sc o σd S).use σd fun x S2 => (ev c N n sc i σd S2).use σd fun y S3 => (match setD S3 x y d with
        | some S4 => .nx σd S4
        | none => .bad)) _ := q
      rw [hs] at q
      have q : tFl X.K cA W ρ H ((ev c N n sc o σd S).use σd fun x S2 => (ev c N n sc i σd S2).use σd fun y S3 => (match setD S3 x y d with
        | some S4 => .nx σd S4
        | none => .bad)) _ := q
      refine ⟨ρ, σd, S, env, st, (tFl.use (R := Rep X.K) env q).post ?_⟩
      rintro u H2 ⟨ρ2, d2, S2, e2, st2, r2, h2⟩
      have env2 := env.ext e2
      refine ⟨ρ2, σd, S2, env2, st2, (tFl.use (R := Rep X.K) env2 h2).post ?_⟩
      rintro w H3 ⟨ρ3, d3, S3, e3, st3, r3, h3⟩
      cases e4 : setD S3 d2 d3 d with
      | none => rw [e4] at h3; exact h3.elim
      | some S4 =>
        rw [e4] at h3
        exact set_of st3 (r2.ext e3) r3 ((r.ext e2).ext e3) e4 fun ρ' H' e5 st5 => h3 ρ' H' σ e5 st5 ((env2.ext e3).ext e5)
  | _ => cases hk
theorem okTg_each {e : Expr} {es : List Expr} (h : okTg e = true) (env : PySem.Env) : (assignEach (e :: es) env).map (·.2) = assign e env :: (assignEach es env).map (·.2) ∧ (assignEach (e :: es) env).length = (assignEach es env).length + 1 ∧ ((assignEach (e :: es) env).findIdx? (·.1) = none ↔ (assignEach es env).findIdx? (·.1) = none) := by
  cases e <;> first | cases h | skip
  all_goals
    refine ⟨rfl, rfl, ?_⟩
    show List.findIdx? _ ((false, _) :: assignEach es env) = none ↔ _
    rw [List.findIdx?_cons]
    simp
theorem pg_all (x : XOk cA k c N X sc) (hno : c.hot = none) (I : AllE cA c N n X sc W) : ∀ es : List Expr, es.all okTg = true → PGs X es (gAll X.K cA W (asgs c N n sc es)) ∧ (assignEach es X.env).length = es.length ∧ (assignEach es X.env).findIdx? (·.1) = none
  | [], _ => by
    refine ⟨PGs.weak pgs_nil ?_, rfl, rfl⟩
    rintro vs σ H Q ⟨ρ, σd, S, ds, env, st, r, q⟩
    cases r with
    | nil => exact ⟨rfl, q ρ H σ Ext.refl st env⟩
    | cons _ _ => exact q.elim
  | e :: es, h => by
    rw [List.all_cons, Bool.and_eq_true] at h
    obtain ⟨i1, i2, i3⟩ := pg_all x hno I es h.2
    obtain ⟨o1, o2, o3⟩ := okTg_each (es := es) h.1 X.env
    refine ⟨PGs.weak (pgs_cons (pg_one x hno I e h.1) i1 o1) ?_, by rw [o2, i2]; rfl, o3.mpr i3⟩
    rintro vs σ H Q ⟨ρ, σd, S, ds, env, st, r, q⟩
    cases r with
    | nil => exact q.elim
    | cons r rs =>
      have q := tFl.seq q
      refine ⟨_, _, rfl, ρ, σd, S, _, env, st, r, q.ends ?_ (fun _ _ z => z) (fun _ _ z => z) (fun _ _ z => z)⟩
      rintro σ1 H1 ⟨ρ1, σd1, S1, env1, st1, q1, e1⟩
      exact ⟨ρ1, σd1, S1, _, env1, st1, rs.ext e1, q1⟩
/-- neither handed back nor left -/
def Fl.plain : Fl → Prop
  | .rt .. => False
  | .bk .. => False
  | .ct .. => False
  | _ => True
theorem Fl.plain.ends {K : PySem.W.Frag} {ρ : Pl} {H : Hp} {r : Fl} {D : Ends} (p : r.plain) (h : tFl K cA W ρ H r D) : tFl K cA W ρ H r ⟨fun σ H => D.nx σ H, fun _ _ => False, fun _ _ => False, fun _ _ => False⟩ := by
  cases r with
  | rt => exact p.elim
  | bk => exact p.elim
  | ct => exact p.elim
  | nx => exact h
  | exc => exact h
  | bad => exact h
theorem use_plain {α : Type} {r : Out α} {σ : Env} {f : α → Store → Fl} (h : ∀ a S, (f a S).plain) : (r.use σ f).plain := by
  cases r with
  | ok a S => exact h a S
  | exc => trivial
  | bad => trivial
theorem asg1_plain (tg : Expr) (d : D) (σ : Env) (S : Store) : (asg1 c N n sc tg d σ S).plain := by
  unfold asg1
  split
  · split
    · split <;> trivial
    · trivial
  · exact use_plain fun a S => by split <;> trivial
  · split
    · trivial
    · exact use_plain fun a S => use_plain fun b S => by split <;> trivial
  · trivial
theorem asgs_plain : ∀ (es : List Expr) (ds : List D) (σ : Env) (S : Store), (asgs c N n sc es ds σ S).plain
  | [], [], _, _ => trivial
  | [], _ :: _, _, _ => trivial
  | _ :: _, [], _, _ => trivial
  | e :: es, d :: ds, σ, S => by
    have p := asg1_plain (c := c) (N := N) (n := n) (sc := sc) e d σ S
    show ((asg1 c N n sc e d σ S).seq (asgs c N n sc es ds)).plain
    cases q : asg1 c N n sc e d σ S with
    | nx σ1 S1 => exact asgs_plain es ds σ1 S1
    | rt => rw [q] at p; exact p.elim
    | bk => rw [q] at p; exact p.elim
    | ct => rw [q] at p; exact p.elim
    | exc => trivial
    | bad => trivial
theorem filt_lt (f : Expr → Option Str) (h : ∀ e, isNm e = false → f e = none) : ∀ es : List Expr, es.all isNm = false → (es.filterMap f).length ≠ es.length
  | [], q => by cases q
  | e :: es, q => by
    rw [List.all_cons] at q
    have le : (es.filterMap f).length ≤ es.length := List.length_filterMap_le f es
    cases c : f e with
    | none => rw [List.filterMap_cons_none c, List.length_cons]; omega
    | some y =>
      have : isNm e = true := by
        cases z : isNm e with
        | true => rfl
        | false => rw [h e z] at c; cases c
      rw [this, Bool.true_and] at q
      rw [List.filterMap_cons_some c, List.length_cons, List.length_cons]
      have := filt_lt f h es q
      omega
theorem swap_mix {es : List Expr} {vs : List Expr} {k1 k2 : Nat} {p1 p2 : Pos} {env : PySem.Env} (h : es.all isNm = false) : swappedStores [.Tuple es k1 p1] (.Tuple vs k2 p2) env = pure none := by
  unfold swappedStores
  simp only []
  split
  · rfl
  split
  · rfl
  rw [if_pos (by
    rw [Bool.or_eq_true, bne_iff_ne]
    exact .inl (filt_lt _ (fun e q => by cases e <;> first | rfl | cases q) es h))]
theorem locS_ok {sc : Scope} {x : Str} (h : locS sc x = true) : sc.names.lookup x = some .local := by
  unfold locS at h
  split at h
  · next q => exact q
  · cases h
theorem swap_par2 {x y : Str} {px py p1 p2 : Pos} {a b : Expr} {k1 k2 : Nat} {env : PySem.Env} (hk : env.scope.kind = .function) (h : parC env.scope [.Name x px, .Name y py] [a, b] = true) : swappedStores [.Tuple [.Name x px, .Name y py] k1 p1] (.Tuple [a, b] k2 p2) env = pure (some [x, y]) := by
  unfold parC at h
  simp only [Bool.and_eq_true, Bool.not_eq_true', beq_iff_eq, beq_eq_false_iff_ne] at h
  obtain ⟨⟨hx, hy, hl, hn⟩, ha, hb, hf, hc⟩ := h
  have kx : env.kindOf x = some .local := locS_ok hx
  have ky : env.kindOf y = some .local := locS_ok hy
  have bk : env.blockKind = .function := by unfold Env.blockKind; rw [hk]; rfl
  unfold swappedStores
  simp only []
  split
  · next z =>
    rw [bk] at z
    cases z
  split
  · next z =>
    exfalso
    rw [List.any_cons, List.any_cons, List.any_nil, Bool.or_false, Bool.or_eq_true] at z
    rcases z with z | z
    · cases a <;> first | (cases z; done) | (exact absurd (show true = false from ha) (by decide))
    · cases b <;> first | (cases z; done) | (exact absurd (show true = false from hb) (by decide))
  have hn' : (y == x) = false := by simpa using Ne.symm hn
  have lx : (px.line == (Expr.Name x px).pos.line) = true := beq_self_eq_true _
  have ed : [x, y].eraseDups = [x, y] := by simp [List.eraseDups_cons, hn']
  have f1 : [a, b].all (foldedForSure 8) = false := by rw [List.all_cons, List.all_cons, List.all_nil, Bool.and_true]; exact hf
  have f2 : [a, b].all (constantsAlone 8) = false := by rw [List.all_cons, List.all_cons, List.all_nil, Bool.and_true]; exact hc
  simp only [List.filterMap, kx, ky, hl, List.head?, Option.map, Option.getD, beq_self_eq_true, Bool.and_self, if_true, lx, Bool.true_and, ed, f1, f2]
  rfl
theorem swap_par3 {x y z : Str} {px py pz p1 p2 : Pos} {a b d : Expr} {k1 k2 : Nat} {env : PySem.Env} (hk : env.scope.kind = .function) (h : parC env.scope [.Name x px, .Name y py, .Name z pz] [a, b, d] = true) : swappedStores [.Tuple [.Name x px, .Name y py, .Name z pz] k1 p1] (.Tuple [a, b, d] k2 p2) env = pure (some [x, y, z]) := by
  unfold parC at h
  simp only [Bool.and_eq_true, Bool.not_eq_true', beq_iff_eq, beq_eq_false_iff_ne] at h
  obtain ⟨⟨hx, hy, hz, hl, hm, n1, n2, n3⟩, ha, hb, hd, hf, hc⟩ := h
  have kx : env.kindOf x = some .local := locS_ok hx
  have ky : env.kindOf y = some .local := locS_ok hy
  have kz : env.kindOf z = some .local := locS_ok hz
  have bk : env.blockKind = .function := by unfold Env.blockKind; rw [hk]; rfl
  unfold swappedStores
  simp only []
  split
  · next q =>
    rw [bk] at q
    cases q
  split
  · next q =>
    exfalso
    rw [List.any_cons, List.any_cons, List.any_cons, List.any_nil, Bool.or_false, Bool.or_eq_true, Bool.or_eq_true] at q
    rcases q with q | q | q
    · cases a <;> first | (cases q; done) | (exact absurd (show true = false from ha) (by decide))
    · cases b <;> first | (cases q; done) | (exact absurd (show true = false from hb) (by decide))
    · cases d <;> first | (cases q; done) | (exact absurd (show true = false from hd) (by decide))
  have q1 : (y == x) = false := by simpa using Ne.symm n1
  have q2 : (z == x) = false := by simpa using Ne.symm n2
  have q3 : (z == y) = false := by simpa using Ne.symm n3
  have lx : (px.line == (Expr.Name x px).pos.line) = true := beq_self_eq_true _
  have ed : [x, y, z].eraseDups = [x, y, z] := by simp [List.eraseDups_cons, q1, q2, q3]
  have f1 : [a, b, d].all (foldedForSure 8) = false := by rw [List.all_cons, List.all_cons, List.all_cons, List.all_nil, Bool.and_true]; exact hf
  have f2 : [a, b, d].all (constantsAlone 8) = false := by rw [List.all_cons, List.all_cons, List.all_cons, List.all_nil, Bool.and_true]; exact hc
  simp only [List.filterMap, kx, ky, kz, hl, hm, List.head?, Option.map, Option.getD, beq_self_eq_true, Bool.and_self, if_true, lx, Bool.true_and, ed, f1, f2]
  rfl
theorem parV_ok {sc : Scope} {es vs : List Expr} {e : Expr} (h : parV sc es e = some vs) : (∃ k p, e = .Tuple vs k p) ∧ parC sc es vs = true := by
  unfold parV at h
  split at h
  · next k p =>
    split at h
    · next q => cases h; exact ⟨⟨k, p, rfl⟩, q⟩
    · cases h
  · cases h
theorem par_len {sc : Scope} {es vs : List Expr} (h : parC sc es vs = true) : (∃ x px y py a b, es = [.Name x px, .Name y py] ∧ vs = [a, b]) ∨ ∃ x px y py z pz a b d, es = [.Name x px, .Name y py, .Name z pz] ∧ vs = [a, b, d] := by
  unfold parC at h
  split at h
  · exact .inl ⟨_, _, _, _, _, _, rfl, rfl⟩
  · exact .inr ⟨_, _, _, _, _, _, _, _, _, rfl, rfl⟩
  · cases h
theorem slots_cons {sc : Scope} {N : List Str} {x : Str} {xs : List Str} {is : List Nat} (h : slotsOf sc N (x :: xs) = some is) : ∃ i js, is = i :: js ∧ stOf sc N x = some i ∧ slotsOf sc N xs = some js := by
  simp only [slotsOf] at h
  cases e1 : stOf sc N x with
  | none => rw [e1] at h; cases h
  | some i =>
    cases e2 : slotsOf sc N xs with
    | none => rw [e1, e2] at h; cases h
    | some js => rw [e1, e2] at h; cases h; exact ⟨i, js, rfl, rfl, rfl⟩
theorem ix_ne {N : List Str} {i j : Nat} {x y : Str} (hi : N[i]? = some x) (hj : N[j]? = some y) (h : (x == y) = false) : i ≠ j := fun e => by
  subst e
  rw [hi] at hj
  cases hj
  simp at h
theorem s_par (x : XOk cA k c N X sc) (xs : XSt X sc) (hno : c.hot = none) (I : AllE cA c N n X sc W) {es vs : List Expr} {ys : List Str} {is : List Nat} {j k2 : Nat} {p p2 pos : Pos} (h : tgNames (.Tuple es j p) = some ys) (h2 : slotsOf sc N ys = some is) (hp : parC sc es vs = true) :
    PS X (.Assign [.Tuple es j p] (.Tuple vs k2 p2) pos) (tSt X.K cA W fun σ S => (evA c N n sc vs σ S).use σ fun ds S1 => if ds.length = is.length then .nx (setAll σ is ds) S1 else .bad) := by
  have hs := xs.scope
  have hk := xs.kind
  have nd : X.N.Nodup := by rw [x.names]; exact x.nd
  have hp' : parC X.env.scope es vs = true := by rw [hs]; exact hp
  have rd : ∀ {vs' : List V} {ρ1 : Pl} {H1 : Hp} {ds : List D} {S1 : Store} {σd : Env} {σ : L2.St} {D' : Ends}, EnvR X.K ρ1 H1 σd σ → StR X.K cA ρ1 H1 S1 → Reps X.K ρ1 H1 ds vs' → tFl X.K cA W ρ1 H1 (.nx (setAll σd is ds) S1) D' → D'.nx (setV σ is vs') H1 := fun env st r q =>
    q _ _ _ Ext.refl st (env_setAll (st.pin.trans (x.pin hno)) env r)
  rcases par_len hp with ⟨x1, px, y1, py, a, b, rfl, rfl⟩ | ⟨x1, px, y1, py, z1, pz, a, b, d, rfl, rfl⟩
  · cases h
    obtain ⟨i, js, rfl, s1, h3⟩ := slots_cons h2
    obtain ⟨i2, js2, rfl, s2, h4⟩ := slots_cons h3
    cases h4
    obtain ⟨n1, -⟩ := st_slot s1
    obtain ⟨n2, -⟩ := st_slot s2
    have hh := hp
    unfold parC at hh
    simp only [Bool.and_eq_true, Bool.not_eq_true'] at hh
    obtain ⟨⟨hx, hy, hl, hn⟩, -⟩ := hh
    refine PS.weak (ps_par (x.calm hno) nd (by rw [x.names]; exact n1) (by rw [x.names]; exact n2) (ix_ne n1 n2 hn) (by rw [hs]; exact locS_ok hx) (by rw [hs]; exact locS_ok hy) (I.a [a, b]) (swap_par2 hk hp') (sole_no (fun _ _ z => by cases z) _ _)) ?_
    rintro D' σ H ⟨ρ, σd, S, env, st, q⟩
    refine ⟨ρ, σd, S, env, st, (tFl.use (R := Reps X.K) env q).post ?_⟩
    rintro vs1 H1 ⟨ρ1, ds, S1, e1, st1, r1, h1⟩
    have h1 : tFl X.K cA W ρ1 H1 (if ds.length = 2 then .nx (setAll σd [i, i2] ds) S1 else .bad) D' := h1
    by_cases hl2 : ds.length = 2
    · rw [if_pos hl2] at h1
      rw [r1.length] at hl2
      match vs1, hl2, r1 with
      | [u, v], _, r1 => exact ⟨u, v, rfl, rd (env.ext e1) st1 r1 h1⟩
    · rw [if_neg hl2] at h1; exact h1.elim
  · cases h
    obtain ⟨i, js, rfl, s1, h3⟩ := slots_cons h2
    obtain ⟨i2, js2, rfl, s2, h4⟩ := slots_cons h3
    obtain ⟨i3, js3, rfl, s3, h5⟩ := slots_cons h4
    cases h5
    obtain ⟨n1, -⟩ := st_slot s1
    obtain ⟨n2, -⟩ := st_slot s2
    obtain ⟨n3, -⟩ := st_slot s3
    have hh := hp
    unfold parC at hh
    simp only [Bool.and_eq_true, Bool.not_eq_true'] at hh
    obtain ⟨⟨hx, hy, hz, -, -, m1, m2, m3⟩, -⟩ := hh
    refine PS.weak (ps_par3 (x.calm hno) nd (by rw [x.names]; exact n1) (by rw [x.names]; exact n2) (by rw [x.names]; exact n3) (ix_ne n1 n2 m1) (ix_ne n1 n3 m2) (ix_ne n2 n3 m3) (by rw [hs]; exact locS_ok hx) (by rw [hs]; exact locS_ok hy) (by rw [hs]; exact locS_ok hz) (I.a [a, b, d]) (swap_par3 hk hp') (sole_no (fun _ _ z => by cases z) _ _)) ?_
    rintro D' σ H ⟨ρ, σd, S, env, st, q⟩
    refine ⟨ρ, σd, S, env, st, (tFl.use (R := Reps X.K) env q).post ?_⟩
    rintro vs1 H1 ⟨ρ1, ds, S1, e1, st1, r1, h1⟩
    have h1 : tFl X.K cA W ρ1 H1 (if ds.length = 3 then .nx (setAll σd [i, i2, i3] ds) S1 else .bad) D' := h1
    by_cases hl2 : ds.length = 3
    · rw [if_pos hl2] at h1
      rw [r1.length] at hl2
      match vs1, hl2, r1 with
      | [u, v, w], _, r1 => exact ⟨u, v, w, rfl, rd (env.ext e1) st1 r1 h1⟩
    · rw [if_neg hl2] at h1; exact h1.elim
theorem s_tup (x : XOk cA k c N X sc) (xst : XSt X sc) (I : AllE cA c N n X sc W) {es : List Expr} {j : Nat} {e : Expr} {p pos} : PS X (.Assign [.Tuple es j p] e pos) (tSt X.K cA W (ex c N sc (n + 1) (.Assign [.Tuple es j p] e pos))) := by
  have e0 : ∀ σ S, ex c N sc (n + 1) (.Assign [.Tuple es j p] e pos) σ S = if !c.calm then .bad else (match tgNames (.Tuple es j p) with
      | some xs => (match slotsOf sc N xs with
        | some is => if isTup e then (match parV sc es e with
            | some vs => (evA c N n sc vs σ S).use σ fun ds S1 => if ds.length = is.length then .nx (setAll σ is ds) S1 else .bad
            | none => .bad)
          else (ev c N n sc e σ S).use σ fun d S1 => (match bindTg (.Tuple es j p) sc N σ d with
          | some σ1 => .nx σ1 S1
          | none => .bad)
        | none => .bad)
      | none => if mixT es then (ev c N n sc e σ S).use σ fun d S1 => (match seqT d with
          | some ds => if ds.length = es.length then asgs c N n sc es ds σ S1 else .bad
          | none => .bad) else .bad) := fun _ _ => rfl
  have lift : ∀ {g : Env → Store → Fl}, (∀ σ S, ex c N sc (n + 1) (.Assign [.Tuple es j p] e pos) σ S = g σ S) → PS X (.Assign [.Tuple es j p] e pos) (tSt X.K cA W g) → PS X (.Assign [.Tuple es j p] e pos) (tSt X.K cA W (ex c N sc (n + 1) (.Assign [.Tuple es j p] e pos))) := by
    intro g hg h
    refine PS.weak h ?_
    rintro D σ H ⟨ρ, σd, S, env, st, q⟩
    rw [hg] at q
    exact ⟨ρ, σd, S, env, st, q⟩
  cases ht' : !c.calm with
  | true => exact PS.none (tSt_bad fun σ S => by rw [e0, ht']; rfl)
  | false =>
    have hno : c.hot = none := calm_none (by simpa using ht')
    cases h : tgNames (.Tuple es j p) with
    | none =>
      cases hm : mixT es with
      | false => exact PS.none (tSt_bad fun σ S => by rw [e0, ht', h, hm]; rfl)
      | true =>
        refine lift (g := fun σ S => (ev c N n sc e σ S).use σ fun d S1 => (match seqT d with
          | some ds => if ds.length = es.length then asgs c N n sc es ds σ S1 else .bad
          | none => .bad)) (fun σ S => by rw [e0, ht', h, hm]; rfl) ?_
        unfold mixT at hm
        rw [Bool.and_eq_true, Bool.not_eq_true'] at hm
        obtain ⟨i1, i2, i3⟩ := pg_all x hno I es hm.1
        refine PS.weak (ps_asg (I.e e) (pg_tup (x.calm hno) i1 i2 i3) (sole_no (fun _ _ z => by cases z) _ _) (by cases e <;> first | rfl | exact swap_mix hm.2) rfl) ?_
        rintro D σ H ⟨ρ, σd, S, env, st, q⟩
        refine ⟨ρ, σd, S, env, st, (tFl.use (R := Rep X.K) env q).post ?_⟩
        rintro v H1 ⟨ρ1, d, S1, e1, st1, r1, h1⟩
        cases r1 with
        | tup at_ rs =>
          rename_i ds a vs
          have h1 : tFl X.K cA W ρ1 H1 (if ds.length = es.length then asgs c N n sc es ds σd S1 else .bad) D := h1
          by_cases hl : ds.length = es.length
          · rw [if_pos hl] at h1
            exact ⟨a, vs, rfl, at_.sq, by rw [← rs.length]; exact hl, ρ1, σd, S1, ds, env.ext e1, st1, rs, (asgs_plain es ds σd S1).ends h1⟩
          · rw [if_neg hl] at h1; exact h1.elim
        | _ => exact h1.elim
    | some xs =>
      cases h2 : slotsOf sc N xs with
      | none => exact PS.none (tSt_bad fun σ S => by rw [e0, ht', h]; simp [h2])
      | some is =>
        cases ht : isTup e with
        | true =>
          cases hv : parV sc es e with
          | none => exact PS.none (tSt_bad fun σ S => by rw [e0, ht', h]; simp [h2, ht, hv])
          | some vs =>
            obtain ⟨⟨k2, p2, rfl⟩, hp⟩ := parV_ok hv
            exact lift (fun σ S => by rw [e0, ht', h]; simp [h2, ht, hv]) (s_par x xst hno I h h2 hp)
        | false =>
        refine PS.weak (ps_asg (I.e e) (pg_tg x hno h h2) (sole_no (fun _ _ z => by cases z) _ _) (by cases e <;> first | rfl | cases ht) rfl) ?_
        rintro D σ H ⟨ρ, σd, S, env, st, q⟩
        rw [e0, ht', h] at q
        simp only [h2, ht, Bool.false_eq_true, if_false] at q
        refine ⟨ρ, σd, S, env, st, (tFl.use (R := Rep X.K) env q).post ?_⟩
        rintro v H1 ⟨ρ1, d, S1, e1, st1, r1, h1⟩
        cases hb : bindTg (.Tuple es j p) sc N σd d with
        | none => rw [hb] at h1; exact h1.elim
        | some σ1 =>
          rw [hb] at h1
          exact tg_of (st1.pin.trans (x.pin hno)) h h2 hb (env.ext e1) r1 fun vs hl env' => h1 ρ1 H1 _ Ext.refl st1 env'
theorem s_while (xs : XSt X sc) (I : AllE cA c N n X sc W) (IS : SSs cA c N n X sc W) {t : Expr} {body : List Stmt} {pos} : PS X (.While t body [] pos) (tSt X.K cA W (ex c N sc (n + 1) (.While t body [] pos))) := by
  refine PS.weak (ps_while xs.pass (I.t t) (IS body)) ?_
  rintro D σ H ⟨ρ, σd, S, env, st, q⟩
  have q : tFl X.K cA W ρ H (whileF (evT c N n sc t) (exs c N sc n body) loopMost σd S) D := q
  refine ⟨fun m σ' H' => ∃ ρ' σd' S', EnvR X.K ρ' H' σd' σ' ∧ StR X.K cA ρ' H' S' ∧ tFl X.K cA W ρ' H' (whileF (evT c N n sc t) (exs c N sc n body) m σd' S') D,
    ⟨loopMost, ρ, σd, S, env, st, q⟩, ?_⟩
  rintro m σ' H' ⟨ρ', σd', S', env', st', q'⟩
  cases m with
  | zero => exact q'.elim
  | succ m =>
    refine ⟨ρ', σd', S', env', st', (tFl.use (R := RB) env' q').post ?_⟩
    rintro b H1 ⟨ρ1, bb, S1, e1, st1, rfl, h1⟩
    cases bb with
    | false => exact h1 ρ1 H1 σ' Ext.refl st1 (env'.ext e1)
    | true =>
      refine ⟨_, fun σ2 H2 z => ⟨m, Nat.lt_succ_self m, z⟩, ρ1, σd', S1, env'.ext e1, st1, ?_⟩
      have h2 : tFl X.K cA W ρ1 H1 (match exs c N sc n body σd' S1 with
        | .nx σ1 S2 => whileF (evT c N n sc t) (exs c N sc n body) m σ1 S2
        | .ct σ1 S2 => whileF (evT c N n sc t) (exs c N sc n body) m σ1 S2
        | .bk σ1 S2 => .nx σ1 S2
        | r => r) D := h1
      cases hx : exs c N sc n body σd' S1 with
      | nx σ1 S2 => rw [hx] at h2; exact fun ρ3 H3 σ3 e3 st3 env3 => ⟨ρ3, σ1, S2, env3, st3, h2.ext e3⟩
      | ct σ1 S2 => rw [hx] at h2; exact fun ρ3 H3 σ3 e3 st3 env3 => ⟨ρ3, σ1, S2, env3, st3, h2.ext e3⟩
      | bk σ1 S2 => rw [hx] at h2; exact h2
      | rt d S2 => rw [hx] at h2; exact h2
      | exc y σ1 S2 => rw [hx] at h2; exact h2
      | bad => rw [hx] at h2; exact h2
def forB (c : Cfg) (N : List Str) (sc : Scope) (n : Nat) (tg : Expr) (body : List Stmt) : D → Env → Store → Fl := fun d σ1 S2 => match bindTg tg sc N σ1 d with
  | some σ2 => exs c N sc n body σ2 S2
  | none => .bad
theorem s_for (x : XOk cA k c N X sc) (xst : XSt X sc) (I : AllE cA c N n X sc W) (IS : SSs cA c N n X sc W) {tg iter : Expr} {body : List Stmt} {pos} : PS X (.For tg iter body [] pos) (tSt X.K cA W (ex c N sc (n + 1) (.For tg iter body [] pos))) := by
  have e0 : ∀ σ S, ex c N sc (n + 1) (.For tg iter body [] pos) σ S = if !c.calm || isSet iter then .bad else (match tgNames tg with
      | some xs => (match slotsOf sc N xs with
        | some _ => (evI c N n (isTup tg) sc iter σ S).use σ fun it S1 => forF it (forB c N sc n tg body) loopMost 0 σ S1
        | none => .bad)
      | none => .bad) := fun _ _ => rfl
  cases ht' : (!c.calm || isSet iter) with
  | true => exact PS.none (tSt_bad fun σ S => by rw [e0, ht']; rfl)
  | false =>
    obtain ⟨hcm, ht⟩ := Bool.or_eq_false_iff.mp ht'
    have hno : c.hot = none := calm_none (by simpa using hcm)
    cases h : tgNames tg with
    | none => exact PS.none (tSt_bad fun σ S => by rw [e0, ht', h]; rfl)
    | some xs =>
      cases h2 : slotsOf sc N xs with
      | none => exact PS.none (tSt_bad fun σ S => by rw [e0, ht', h]; simp [h2])
      | some is =>
        refine PS.weak (ps_for xst.pass (x.calm hno) (I.i tg iter) (pg_tg x hno h h2) (IS body) (set_ok ht X.env)) ?_
        rintro D σ H ⟨ρ, σd, S, env, st, q⟩
        rw [e0, ht', h] at q
        simp only [h2, Bool.false_eq_true, if_false] at q
        refine ⟨ρ, σd, S, env, st, (tFl.use (R := fun ρ H it J => ItR X.K cA it ρ H J) env q).post ?_⟩
        rintro J H1 ⟨ρ1, it, S1, e1, st1, hJ, h1⟩
        refine ⟨fun i m σ' H' => ∃ ρ' σd' S', Ext ρ1 H1 ρ' H' ∧ EnvR X.K ρ' H' σd' σ' ∧ StR X.K cA ρ' H' S' ∧ tFl X.K cA W ρ' H' (forF it (forB c N sc n tg body) m i σd' S') D,
          ⟨loopMost, ρ1, σd, S1, Ext.refl, env.ext e1, st1, h1⟩, ?_⟩
        rintro i m σ' H' ⟨ρ', σd', S', e, env', st', q'⟩
        cases m with
        | zero => exact q'.elim
        | succ m =>
          obtain ⟨j1, j2⟩ := hJ ρ' H' S' i e st'
          have q' : tFl X.K cA W ρ' H' (match it.get S' i with
            | none => .bad
            | some none => .nx σd' S'
            | some (some d) => (match forB c N sc n tg body d σd' S' with
              | .nx σ1 S1 => forF it (forB c N sc n tg body) m (i + 1) σ1 S1
              | .ct σ1 S1 => forF it (forB c N sc n tg body) m (i + 1) σ1 S1
              | .bk σ1 S1 => .nx σ1 S1
              | r => r)) D := q'
          cases g0 : it.get S' i with
          | none => rw [g0] at q'; exact q'.elim
          | some o =>
            rw [g0] at q'
            cases o with
            | none => exact .inl ⟨j1 g0, q' ρ' H' σ' Ext.refl st' env'⟩
            | some d =>
              obtain ⟨j3, j4⟩ := j2 d g0
              refine .inr ⟨j3, _, fun σ2 H2 z => ⟨m, Nat.lt_succ_self m, z⟩, fun v H2 y => ?_⟩
              obtain ⟨ρ2, e2, st2, r2⟩ := j4 v H2 y
              have h3 : tFl X.K cA W ρ2 H2 (match forB c N sc n tg body d σd' S' with
                | .nx σ1 S1 => forF it (forB c N sc n tg body) m (i + 1) σ1 S1
                | .ct σ1 S1 => forF it (forB c N sc n tg body) m (i + 1) σ1 S1
                | .bk σ1 S1 => .nx σ1 S1
                | r => r) D := tFl.ext e2 q'
              unfold forB at h3
              cases hb : bindTg tg sc N σd' d with
              | none => rw [hb] at h3; exact h3.elim
              | some σ2 =>
                rw [hb] at h3
                refine tg_of (st2.pin.trans (x.pin hno)) h h2 hb (env'.ext e2) r2 fun vs hl env2 => ?_
                refine ⟨ρ2, σ2, S', env2, st2, ?_⟩
                have h3 : tFl X.K cA W ρ2 H2 (match exs c N sc n body σ2 S' with
                  | .nx σ1 S1 => forF it (forB c N sc n tg body) m (i + 1) σ1 S1
                  | .ct σ1 S1 => forF it (forB c N sc n tg body) m (i + 1) σ1 S1
                  | .bk σ1 S1 => .nx σ1 S1
                  | r => r) D := h3
                cases hx : exs c N sc n body σ2 S' with
                | nx σ1 S2 => rw [hx] at h3; exact fun ρ3 H3 σ3 e3 st3 env3 => ⟨ρ3, σ1, S2, (e.trans e2).trans e3, env3, st3, h3.ext e3⟩
                | ct σ1 S2 => rw [hx] at h3; exact fun ρ3 H3 σ3 e3 st3 env3 => ⟨ρ3, σ1, S2, (e.trans e2).trans e3, env3, st3, h3.ext e3⟩
                | bk σ1 S2 => rw [hx] at h3; exact h3
                | rt d S2 => rw [hx] at h3; exact h3
                | exc y σ1 S2 => rw [hx] at h3; exact h3
                | bad => rw [hx] at h3; exact h3
theorem s_raise (x : XOk cA k c N X sc) (tk : Takes X W) {y m : Str} {j : Nat} {p p2 p3 pos : Pos} : PS X (.Raise (some (.Call (.Name y p) [.Constant (.str m) j p2] [] p3)) none pos) (tSt X.K cA W (ex c N sc (n + 1) (.Raise (some (.Call (.Name y p) [.Constant (.str m) j p2] [] p3)) none pos))) := by
  have e0 : ∀ σ S, ex c N sc (n + 1) (.Raise (some (.Call (.Name y p) [.Constant (.str m) j p2] [] p3)) none pos) σ S = if plainName y && c.excs y && (nmOf sc N y).isGlob then .exc y σ S else .bad := fun _ _ => rfl
  cases hc : (plainName y && c.excs y && (nmOf sc N y).isGlob) with
  | false => exact PS.none (tSt_bad fun σ S => by rw [e0, hc]; rfl)
  | true =>
    have hc' := hc
    rw [Bool.and_eq_true, Bool.and_eq_true] at hc'
    obtain ⟨⟨c1, c2⟩, c3⟩ := hc'
    obtain ⟨q1, q2, q3⟩ := pn c1
    have hg : nmOf sc N y = .glob := by
      cases q : nmOf sc N y with
      | glob => rfl
      | slot => rw [q] at c3; cases c3
      | no => rw [q] at c3; cases c3
    obtain ⟨m1, m2, m3, m4, m5⟩ := x.cfg.exc y c2
    refine PS.weak (ps_raise (x.calm (x.of_exc c2)) tk (pmk_own PySem.F.excBase_ValueError m2 m1 m3 (raises_own m4 m5) ((x.vis _ _ (nm_glob hg)).2 rfl) q1)) ?_
    rintro D σ H ⟨ρ, σd, S, env, st, q⟩
    rw [e0, if_pos hc] at q
    exact q ρ H σ Ext.refl st env
/-- the pinned slot -/
def Pl.pinned (ρ : Pl) (p : Option (Nat × Addr)) : Pl := ⟨ρ.l, ρ.b, p⟩
theorem Rep.pinned {K : PySem.W.Frag} {ρ : Pl} {H : Hp} {p : Option (Nat × Addr)} {d : D} {v : V} (r : Rep K ρ H d v) : Rep K (ρ.pinned p) H d v := Rep.pl (ρ := ρ) (σ := ρ.pinned p) (fun _ _ h => h) (fun _ h => .inl h) r
theorem StR.pinned {K : PySem.W.Frag} {ρ : Pl} {H : Hp} {S : Store} {p : Option (Nat × Addr)} (s : StR K cA ρ H S) : StR K ⟨cA.ad, p⟩ (ρ.pinned p) H S := by
  refine ⟨s.len, s.nd, fun l o h => ?_, s.bl, rfl⟩
  obtain ⟨a, h1, h2⟩ := s.ob l o h
  refine ⟨a, h1, ?_⟩
  have h3 : ObR K cA (ρ.pinned p) H a o := ObR.pl (ρ := ρ) (σ := ρ.pinned p) (fun _ _ h => h) (fun _ h => .inl h) h2
  cases o <;> exact h3
theorem Ext.pinned {ρ ρ' : Pl} {H H' : Hp} {p q : Option (Nat × Addr)} (e : Ext (ρ.pinned q) H ρ' H') (h : ρ.pin = p) : Ext ρ H (ρ'.pinned p) H' := ⟨e.pre, e.lo, e.hi, e.keep, e.tr, h.symm⟩
theorem EnvR.pinNone {K : PySem.W.Frag} {ρ : Pl} {H : Hp} {σd : Env} {σ : L2.St} (r : EnvR K ρ H σd σ) : EnvR K (ρ.pinned none) H σd σ :=
  ⟨r.len, fun i d h => let ⟨v, h1, h2⟩ := r.get i d h; ⟨v, h1, h2.pinned⟩, fun _ _ h => by cases h⟩
theorem EnvR.pinAt {K : PySem.W.Frag} {ρ : Pl} {H : Hp} {σd : Env} {σ : L2.St} (r : EnvR K ρ H σd σ) {i : Nat} (hi : i < σ.length) (a : Addr) : EnvR K (ρ.pinned (some (i, a))) H (σd.set i none) (σ.set i (some (.ref a))) := by
  refine ⟨by simp [r.len], fun j d h => ?_, fun j b h => ?_⟩
  · by_cases hj : i = j
    · subst hj
      rw [List.getElem?_set_self (by rw [r.len]; exact hi)] at h
      cases h
    · rw [List.getElem?_set_ne hj] at h
      obtain ⟨v, h1, h2⟩ := r.get j d h
      exact ⟨v, by rw [List.getElem?_set_ne hj]; exact h1, h2.pinned⟩
  · cases h
    rw [List.getElem?_set_self hi]
theorem EnvR.forget {K : PySem.W.Frag} {ρ : Pl} {H : Hp} {σd : Env} {σ : L2.St} (r : EnvR K ρ H σd σ) (i : Nat) : EnvR K ρ H (σd.set i none) σ := by
  refine ⟨by simp [r.len], fun j d h => ?_, r.pin⟩
  by_cases hj : i = j
  · subst hj
    by_cases hl : i < σd.length
    · rw [List.getElem?_set_self hl] at h
      cases h
    · rw [List.getElem?_eq_none (by rw [List.length_set]; omega)] at h
      cases h
  · rw [List.getElem?_set_ne hj] at h
    exact r.get j d h
/-- a suite that holds an error -/
theorem XOk.suite (x : XOk cA k c N X sc) {y : Str} {i : Nat} {a : Addr} {oe : Obj} {pn : List (Addr × Obj)} {p : Option (Nat × Addr)} (hp : p = none ∧ i = N.length ∨ p = some (i, a)) (hx : ExcC X.K (cA y)) (hz : Zc (.ref (cA y)) none oe) (hf : ∃ vs, oe.data = .fields vs) : XOk ⟨cA.ad, p⟩ k (c.hotC i y) N (X.suite a ((a, oe) :: pn)) sc where
  cfg := ⟨(fun _ _ h => by cases h), x.cfg.var, fun f h => x.cfg.free f (by
      have h : (c.free f && (f == "isinstance" || f == "int")) = true := h
      rw [Bool.and_eq_true] at h; exact h.1), (fun _ h => by cases h), x.cfg.fld, x.cfg.dk, (fun _ _ _ h => by cases h), (fun _ _ h => by cases h), x.cfg.kit⟩
  calm := fun h => by cases h
  room := fun h => by cases h
  un := x.un
  pinAt := fun j b h => by
    rcases hp with ⟨rfl, _⟩ | rfl
    · cases h
    · cases h; exact ⟨y, rfl⟩
  tame := .inr ⟨fun _ => rfl, fun f h => by
      have h : (c.free f && (f == "isinstance" || f == "int")) = true := h
      rw [Bool.and_eq_true, Bool.or_eq_true, beq_iff_eq, beq_iff_eq] at h; exact h.2, fun _ => rfl, fun _ => rfl, fun _ => rfl⟩
  held := fun j z h lt => by
    cases h
    rcases hp with ⟨_, rfl⟩ | rfl
    · omega
    · exact ⟨a, rfl, call_isE hx hz hf, call_isET hx hz hf⟩
  names := x.names
  nd := x.nd
  vis := x.vis
  loc := x.loc
  cf := x.cf
theorem s_try (x : XOk cA k c N X sc) (xst : XSt X sc) (tk : Takes X W) (IB : ∀ cA c X sc W, XOk cA k c N X sc → XSt X sc → Takes X W → SSs cA c N n X sc W) {body suite : List Stmt} {y : Str} {np hpos pos : Pos} {nm : Option Str} {b0 : Stmt} :
    PS X (.Try body [.ExceptHandler (some (.Name y np)) nm (b0 :: suite) hpos] [] [] pos) (tSt X.K cA W (ex c N sc (n + 1) (.Try body [.ExceptHandler (some (.Name y np)) nm (b0 :: suite) hpos] [] [] pos))) := by
  have e0 : ∀ σ S, ex c N sc (n + 1) (.Try body [.ExceptHandler (some (.Name y np)) nm (b0 :: suite) hpos] [] [] pos) σ S = if c.calm && (plainName y && ((nmOf sc N y).isGlob && (c.kits y y).isSome)) then (match heldAt sc N nm with
      | some i => (match exs c N sc n body σ S with
        | .exc x σ1 S1 => (match c.kits x y with
          | some true => if nm.isSome && decide (σ1.length ≤ i) then .bad else hotEnd i (exs (c.hotC i x) N sc n (b0 :: suite) (σ1.set i none) S1)
          | some false => .exc x σ1 S1
          | none => .bad)
        | r => r)
      | none => .bad) else .bad := fun _ _ => rfl
  cases hc : (c.calm && (plainName y && ((nmOf sc N y).isGlob && (c.kits y y).isSome))) with
  | false => exact PS.none (tSt_bad fun σ S => by rw [e0, hc]; rfl)
  | true =>
    have hc' := hc
    rw [Bool.and_eq_true, Bool.and_eq_true, Bool.and_eq_true] at hc'
    obtain ⟨c1, c2, c3, c4⟩ := hc'
    have hno := calm_none c1
    have hpin : cA.pin = none := x.pin hno
    obtain ⟨q1, q2, q3⟩ := pn c2
    have hg : nmOf sc N y = .glob := by
      cases q : nmOf sc N y with
      | glob => rfl
      | slot => rw [q] at c3; cases c3
      | no => rw [q] at c3; cases c3
    obtain ⟨by_, hby⟩ := Option.isSome_iff_exists.mp c4
    obtain ⟨v0, u, hm0, cl0, _, _, _⟩ := x.cfg.kit y y by_ hby
    have hN : Names X y u := ⟨(x.vis _ _ (nm_glob hg)).2 rfl, q1, hm0.imp (fun z => z.1) (fun z => ⟨z.1, z.2.1, q3⟩)⟩
    have same : ∀ {z : Str} {b : Bool}, c.kits z y = some b → PySem.W.exmOne X.K (.ref (cA z)) u = some b ∧ ExcC X.K (cA z) := by
      intro z b hz
      obtain ⟨v1, u1, hm1, _, _, em, ec⟩ := x.cfg.kit z y b hz
      refine ⟨?_, ec⟩
      have : u1 = u := by
        rcases hm0 with ⟨m1, _⟩ | ⟨m1, m2, _⟩ <;> rcases hm1 with ⟨n1, _⟩ | ⟨n1, n2, _⟩
        · rw [m1] at n1; cases n1; rfl
        · rw [m1] at n1; cases n1
        · rw [m1] at n1; cases n1
        · rw [m2] at n2; cases n2; rfl
      rw [← this]; exact em
    cases hi : heldAt sc N nm with
    | none => exact PS.none (tSt_bad fun σ S => by rw [e0, hc, hi]; rfl)
    | some i =>
      have body_ok : ∀ (W : WX) (pn : List (Addr × Obj)) (xe : Value → Shared → Prop), Takes (X.tr pn xe) W → PassesOwn (model X.prog X.w) X.A X.env xe → PSs (X.tr pn xe) body (tSt X.K cA W (exs c N sc n body)) := by
        intro W' pn xe tk' ps
        have xo : XOk cA k c N (X.tr pn xe) sc := ⟨x.cfg, x.calm, x.room, x.un, x.pinAt, x.tame, (fun j z h => by rw [hno] at h; cases h), x.names, x.nd, x.vis, x.loc, x.cf⟩
        exact IB cA c (X.tr pn xe) sc W' xo ⟨xst.scope, xst.kind, ps, xst.stk, xst.frm⟩ tk' body
      have suite_ok : ∀ (p : Addr → Option (Nat × Addr)), (∀ a, p a = none ∧ i = N.length ∨ p a = some (i, a)) → ∀ (a : Addr) (oe : Obj) (cls : Value) (d : Option Addr) (pn : List (Addr × Obj)), Zc cls d oe → (∃ vs, oe.data = .fields vs) →
          PSs (X.suite a ((a, oe) :: pn)) (b0 :: suite) (fun D σ H => ∃ z, cls = .ref (cA z) ∧ d = none ∧ c.kits z y = some true ∧ tSt X.K ⟨cA.ad, p a⟩ (fun _ _ _ _ => False) (exs (c.hotC i z) N sc n (b0 :: suite)) D σ H) := by
        intro p hp a oe cls d pn hz hf
        refine ⟨fun pins s σ H D I ⟨z, e1, e2, hk, t⟩ => ?_⟩
        subst e1 e2
        have xo := x.suite (pn := pn) (hp a) (same hk).2 hz hf
        have xs : XSt (X.suite a ((a, oe) :: pn)) sc := ⟨xst.scope, xst.kind, fun _ _ h => h.elim, xst.stk, xst.frm⟩
        exact (IB ⟨cA.ad, p a⟩ (c.hotC i z) (X.suite a ((a, oe) :: pn)) sc (fun _ _ _ _ => False) xo xs (fun u s' h => by
          obtain ⟨_, _, _, _, _, _, _, _, _, _, _, _, _, _, _, _, w⟩ := h
          exact w.elim) (b0 :: suite)).run pins s σ H D I t
      have eA : (⟨cA.ad, none⟩ : CA) = cA := by rw [← hpin]
      cases nm with
      | none =>
        have hi' : N.length = i := Option.some.inj hi
        refine PS.weak (ps_try_only xst.stk xst.frm hN tk (tb := fun W => tSt X.K cA W (exs c N sc n body)) body_ok (suite_ok (fun _ => none) fun _ => .inl ⟨rfl, hi'.symm⟩)) ?_
        rintro D σ H ⟨ρ, σd, S, env, st, q⟩
        rw [e0, if_pos hc] at q
        simp only [hi] at q
        refine ⟨ρ, σd, S, env, st, ?_⟩
        cases hx : exs c N sc n body σd S with
        | nx σ1 S1 => rw [hx] at q; exact q
        | bk σ1 S1 => rw [hx] at q; exact q
        | ct σ1 S1 => rw [hx] at q; exact q
        | rt d S1 => rw [hx] at q; exact q
        | bad => rw [hx] at q; exact q
        | exc z σ1 S1 =>
          rw [hx] at q
          intro ρ1 H1 σv e1 st1 env1
          cases hk : c.kits z y with
          | none => simp only [hk] at q; exact q.elim
          | some b =>
            obtain ⟨em, _⟩ := same hk
            refine ⟨b, em, fun hb a ha => ?_, fun hb => ?_⟩
            · subst hb
              simp only [hk, Option.isSome_none, Bool.false_and, Bool.false_eq_true, if_false] at q
              refine ⟨z, rfl, rfl, hk, ρ1.pinned none, σ1.set i none, S1, (env1.pinNone).forget i, st1.pinned, ?_⟩
              have hp1 : ρ1.pin = none := st1.pin.trans hpin
              have e2 : Ext ρ H (ρ1.pinned none) H1 := by
                have z : ρ1.pinned none = ρ1 := by
                  show Pl.mk ρ1.l ρ1.b none = ρ1
                  rw [← hp1]
                rw [z]; exact e1
              cases hs : exs (c.hotC i z) N sc n (b0 :: suite) (σ1.set i none) S1 with
              | nx σ2 S2 => rw [hs] at q; exact fun ρ3 H3 σw e3 st3 env3 => q ρ3 H3 σw (e2.trans e3) (eA ▸ st3) (env3.forget i)
              | bk σ2 S2 => rw [hs] at q; exact fun ρ3 H3 σw e3 st3 env3 => q ρ3 H3 σw (e2.trans e3) (eA ▸ st3) (env3.forget i)
              | ct σ2 S2 => rw [hs] at q; exact fun ρ3 H3 σw e3 st3 env3 => q ρ3 H3 σw (e2.trans e3) (eA ▸ st3) (env3.forget i)
              | rt d S2 => rw [hs] at q; exact fun ρ3 H3 v e3 st3 r3 => q ρ3 H3 v (e2.trans e3) (eA ▸ st3) r3
              | exc w σ2 S2 => rw [hs] at q; exact q.elim
              | bad => rw [hs] at q; exact q
            · subst hb
              simp only [hk] at q
              exact q ρ1 H1 σv e1 st1 env1
      | some nm =>
        have hl : sc.names.lookup nm = some .local ∧ N.idxOf? nm = some i := by
          unfold heldAt at hi
          simp only at hi
          split at hi
          · next h => exact ⟨h, hi⟩
          · cases hi
        have hsl : nmOf sc N nm = .slot i := by
          unfold nmOf
          rw [hl.1]
          simp only [hl.2]
        have hni : X.N[i]? = some nm := by rw [x.names]; exact (nm_slot hsl).1
        have hkd : X.env.kindOf nm = some .local := by
          show X.env.scope.names.lookup nm = _
          rw [xst.scope]; exact hl.1
        refine PS.weak (ps_try_as xst.stk xst.frm (by rw [x.names]; exact x.nd) hni hkd hN tk (tb := fun W => tSt X.K cA W (exs c N sc n body)) body_ok (suite_ok (fun a => some (i, a)) fun _ => .inr rfl)) ?_
        rintro D σ H ⟨ρ, σd, S, env, st, q⟩
        rw [e0, if_pos hc] at q
        simp only [hi] at q
        refine ⟨ρ, σd, S, env, st, ?_⟩
        cases hx : exs c N sc n body σd S with
        | nx σ1 S1 => rw [hx] at q; exact q
        | bk σ1 S1 => rw [hx] at q; exact q
        | ct σ1 S1 => rw [hx] at q; exact q
        | rt d S1 => rw [hx] at q; exact q
        | bad => rw [hx] at q; exact q
        | exc z σ1 S1 =>
          rw [hx] at q
          intro ρ1 H1 σv e1 st1 env1
          cases hk : c.kits z y with
          | none => simp only [hk] at q; exact q.elim
          | some b =>
            obtain ⟨em, _⟩ := same hk
            refine ⟨b, em, fun hb a ha => ?_, fun hb => ?_⟩
            · subst hb
              simp only [hk, Option.isSome_some, Bool.true_and] at q
              by_cases lt : σ1.length ≤ i
              · rw [if_pos (decide_eq_true lt)] at q; exact q.elim
              rw [if_neg (by rw [decide_eq_false lt]; exact Bool.false_ne_true)] at q
              refine ⟨z, rfl, rfl, hk, ρ1.pinned (some (i, a)), σ1.set i none, S1, env1.pinAt (by rw [← env1.len]; omega) a, st1.pinned, ?_⟩
              have hp1 : ρ1.pin = none := st1.pin.trans hpin
              have np : ∀ {ρ3 : Pl} (b : Addr), (ρ3.pinned none).pin ≠ some (i, b) := fun b h => by cases h
              have s3 : ∀ {ρ3 : Pl} {H3 : Hp} {S3 : Store}, StR X.K ⟨cA.ad, some (i, a)⟩ ρ3 H3 S3 → StR X.K cA (ρ3.pinned none) H3 S3 := fun h => by
                have h := h.pinned (p := none)
                have e : (⟨(⟨cA.ad, some (i, a)⟩ : CA).ad, none⟩ : CA) = cA := eA
                rw [e] at h; exact h
              have x3 : ∀ {ρ3 : Pl} {H3 : Hp}, Ext (ρ1.pinned (some (i, a))) H1 ρ3 H3 → Ext ρ H (ρ3.pinned none) H3 := fun h => e1.trans (h.pinned hp1)
              cases hs : exs (c.hotC i z) N sc n (b0 :: suite) (σ1.set i none) S1 with
              | nx σ2 S2 => rw [hs] at q; exact fun ρ3 H3 σw e3 st3 env3 => q (ρ3.pinned none) H3 (σw.set i none) (x3 e3) (s3 st3) (env3.pinNone.setN np)
              | bk σ2 S2 => rw [hs] at q; exact fun ρ3 H3 σw e3 st3 env3 => q (ρ3.pinned none) H3 (σw.set i none) (x3 e3) (s3 st3) (env3.pinNone.setN np)
              | ct σ2 S2 => rw [hs] at q; exact fun ρ3 H3 σw e3 st3 env3 => q (ρ3.pinned none) H3 (σw.set i none) (x3 e3) (s3 st3) (env3.pinNone.setN np)
              | rt d S2 => rw [hs] at q; exact fun ρ3 H3 v e3 st3 r3 => q (ρ3.pinned none) H3 v (x3 e3) (s3 st3) r3.pinned
              | exc w σ2 S2 => rw [hs] at q; exact q.elim
              | bad => rw [hs] at q; exact q
            · subst hb
              simp only [hk] at q
              exact q ρ1 H1 σv e1 st1 env1
end
/-- EVERY STATEMENT IS READ -/
theorem all_s {k : Nat} {N : List Str} : ∀ n, ∀ cA c X sc W, XOk cA k c N X sc → XSt X sc → Takes X W → SS cA c N n X sc W ∧ SSs cA c N n X sc W
  | 0, cA, c, X, sc, W, x, xs, tk => ⟨fun st => PS.none (tSt_bad fun _ _ => rfl), fun st => PSs.none (tSt_bad fun _ _ => rfl)⟩
  | n + 1, cA, c, X, sc, W, x, xs, tk => by
    obtain ⟨I1, I2⟩ := all_s n cA c X sc W x xs tk
    have IE := all_e (cA := cA) (k := k) (c := c) (N := N) n
    have tA := takesA_of tk xs.stk xs.frm
    have I := IE n (Nat.le_refl n) X sc W x tA
    refine ⟨fun st => ?_, fun sts => ?_⟩
    · have none_ : (∀ σ S, ex c N sc (n + 1) st σ S = .bad) → PS X st (tSt X.K cA W (ex c N sc (n + 1) st)) := fun h => PS.none (tSt_bad h)
      cases st with
      | Pass pos => exact PS.weak ps_pass fun D σ H ⟨ρ, σd, S, env, st, q⟩ => q ρ H σ Ext.refl st env
      | Break pos => exact PS.weak ps_break fun D σ H ⟨ρ, σd, S, env, st, q⟩ => q ρ H σ Ext.refl st env
      | Continue pos => exact PS.weak ps_continue fun D σ H ⟨ρ, σd, S, env, st, q⟩ => q ρ H σ Ext.refl st env
      | Return e pos => exact s_ret I
      | Expr e pos => exact s_expr I
      | If t a b pos => exact s_if I I2
      | While t b o pos =>
        cases o with
        | nil => exact s_while xs I I2
        | cons _ _ => exact none_ fun _ _ => rfl
      | For tg it b o pos =>
        cases o with
        | nil => exact s_for x xs I I2
        | cons _ _ => exact none_ fun _ _ => rfl
      | Assign ts e pos =>
        rcases ts with _ | ⟨t, _ | ⟨t2, ts⟩⟩
        · exact none_ fun _ _ => rfl
        · cases t with
          | Name y p => exact s_set x xs tA IE
          | Subscript o i p => exact s_sub x I
          | Attribute o f p => exact s_attr x I
          | Tuple es j p => exact s_tup x xs I
          | _ => exact none_ fun _ _ => rfl
        · cases t <;> exact none_ fun _ _ => rfl
      | Raise e ca pos =>
        cases ca with
        | some _ => 
          cases e with
          | none => exact none_ fun _ _ => rfl
          | some e =>
            refine none_ fun _ _ => ?_
            cases e <;> try rfl
            rename_i f as ks p
            cases f <;> try rfl
            rcases as with _ | ⟨a, _ | ⟨b, as⟩⟩ <;> try rfl
            · cases a <;> try rfl
              rename_i kk j p2
              cases kk <;> try rfl
              cases ks <;> rfl
            · cases a <;> try rfl
              rename_i kk j p2
              cases kk <;> rfl
        | none =>
          cases e with
          | none => exact none_ fun _ _ => rfl
          | some e =>
            cases e <;> try exact none_ fun _ _ => rfl
            rename_i f as ks p
            cases f <;> try exact none_ fun _ _ => rfl
            rcases as with _ | ⟨a, _ | ⟨b, as⟩⟩ <;> try exact none_ fun _ _ => rfl
            · cases a <;> try exact none_ fun _ _ => rfl
              rename_i kk j p2
              cases kk <;> try exact none_ fun _ _ => rfl
              cases ks <;> try exact none_ fun _ _ => rfl
              exact s_raise x tk
            · cases a <;> try exact none_ fun _ _ => rfl
              rename_i kk j p2
              cases kk <;> exact none_ fun _ _ => rfl
      | Try body hs orelse fin pos =>
        cases orelse with
        | cons _ _ =>
          refine none_ fun _ _ => ?_
          rcases hs with _ | ⟨⟨t, nm, su, hp⟩, _ | ⟨h2, hs⟩⟩
          · rfl
          · cases t <;> try rfl
            rename_i t
            cases t <;> try rfl
            cases su <;> rfl
          · cases t <;> try rfl
            rename_i t
            cases t <;> try rfl
            cases su <;> rfl
        | nil =>
          cases fin with
          | cons _ _ =>
            refine none_ fun _ _ => ?_
            rcases hs with _ | ⟨⟨t, nm, su, hp⟩, _ | ⟨h2, hs⟩⟩
            · rfl
            · cases t <;> try rfl
              rename_i t
              cases t <;> try rfl
              cases su <;> rfl
            · cases t <;> try rfl
              rename_i t
              cases t <;> try rfl
              cases su <;> rfl
          | nil =>
            rcases hs with _ | ⟨⟨t, nm, su, hp⟩, _ | ⟨h2, hs⟩⟩
            · exact none_ fun _ _ => rfl
            · cases t with
              | none => exact none_ fun _ _ => rfl
              | some t =>
                cases t <;> try exact none_ fun _ _ => rfl
                cases su with
                | nil => exact none_ fun _ _ => rfl
                | cons b0 su => exact s_try x xs tk (fun cA c X sc W x xs tk => (all_s n cA c X sc W x xs tk).2)
            · refine none_ fun _ _ => ?_
              cases t <;> try rfl
              rename_i t
              cases t <;> try rfl
              cases su <;> rfl
      | _ => exact none_ fun _ _ => rfl
    · rcases sts with _ | ⟨s1, _ | ⟨s2, rest⟩⟩
      · exact PSs.weak pss_nil fun D σ H ⟨ρ, σd, S, env, st, q⟩ => q ρ H σ Ext.refl st env
      · exact PSs.weak (pss_one (I1 s1)) fun D σ H ⟨ρ, σd, S, env, st, q⟩ => ⟨ρ, σd, S, env, st, q⟩
      · refine PSs.weak (pss_cons (I1 s1) (I2 (s2 :: rest))) ?_
        rintro D σ H ⟨ρ, σd, S, env, st, q⟩
        refine ⟨ρ, σd, S, env, st, ?_⟩
        have q : tFl X.K cA W ρ H ((ex c N sc n s1 σd S).seq (exs c N sc n (s2 :: rest))) D := q
        cases h : ex c N sc n s1 σd S with
        | nx σ1 S1 =>
          rw [h] at q
          exact fun ρ1 H1 σv e1 st1 env1 => ⟨ρ1, σ1, S1, env1, st1, tFl.ext e1 q⟩
        | rt => rw [h] at q; exact q
        | bk => rw [h] at q; exact q
        | ct => rw [h] at q; exact q
        | exc => rw [h] at q; exact q
        | bad => rw [h] at q; exact q
end Q
/-! Q11: a def keeps its promise. -/
namespace Q
open PySem PySem.Spec PyProof.Rows L2
section
variable {K : PySem.W.Frag} {cA : CA} {ρ ρ' : Pl} {H H' : Hp}
/-- fewer places, for what names none of the dropped ones -/
theorem Rep.cutl {σ : Pl} {n : Nat} (hl : ∀ (i : Nat), i < n → σ.l[i]? = ρ.l[i]?) (hs : ∀ a, σ.has a → ρ.has a) : ∀ {d : D} {v : V}, Rep K ρ H d v → _root_.Q.below n d = true → Rep K σ H d v := by
  intro d v r
  refine Rep.rec (motive_1 := fun d v _ => _root_.Q.below n d = true → Rep K σ H d v) (motive_2 := fun ds vs _ => _root_.Q.belows n ds = true → Reps K σ H ds vs) ?_ ?_ ?_ ?_ ?_ ?_ ?_ ?_ ?_ r
  · exact fun _ => .non
  · exact fun b _ => .bl b
  · exact fun i _ => .int i
  · exact fun x _ => .str x
  · exact fun {ds a vs} ha _ ih hb => .tup (ha.imp (fun h => ⟨h.1, fun z => h.2 (hs _ z)⟩) id) (ih hb)
  · exact fun {ds a vs} ha _ ih hb => .lst (ha.imp (fun h => ⟨h.1, fun z => h.2 (hs _ z)⟩) id) (ih hb)
  · exact fun {l a} ha hb => .ref ((hl l (of_decide_eq_true hb)).trans ha)
  · exact fun _ => .nil
  · intro d v ds vs _ _ ih ihs hb
    have hb : (_root_.Q.below n d && _root_.Q.belows n ds) = true := hb
    rw [Bool.and_eq_true] at hb
    exact .cons (ih hb.1) (ihs hb.2)
theorem Reps.cutl {σ : Pl} {n : Nat} (hl : ∀ (i : Nat), i < n → σ.l[i]? = ρ.l[i]?) (hs : ∀ a, σ.has a → ρ.has a) : ∀ {ds : List D} {vs : List V}, Reps K ρ H ds vs → _root_.Q.belows n ds = true → Reps K σ H ds vs
  | _, _, .nil, _ => .nil
  | d :: ds, _, .cons r t, hb => by
    have hb : (_root_.Q.below n d && _root_.Q.belows n ds) = true := hb
    rw [Bool.and_eq_true] at hb
    exact .cons (r.cutl hl hs hb.1) (t.cutl hl hs hb.2)
theorem FReps.cutl {κ : Type} {σ : Pl} {n : Nat} (hl : ∀ (i : Nat), i < n → σ.l[i]? = ρ.l[i]?) (hs : ∀ a, σ.has a → ρ.has a) : ∀ {ds : List (κ × D)} {vs : List (κ × V)}, FReps K ρ H ds vs → _root_.Q.belows n (ds.map (·.2)) = true → FReps K σ H ds vs
  | _, _, .nil, _ => .nil
  | (k, d) :: ds, _, .cons r t, hb => by
    have hb : (_root_.Q.below n d && _root_.Q.belows n (ds.map (·.2))) = true := hb
    rw [Bool.and_eq_true] at hb
    exact .cons (r.cutl hl hs hb.1) (t.cutl hl hs hb.2)
theorem ObR.cutl {σ : Pl} {n : Nat} (hl : ∀ (i : Nat), i < n → σ.l[i]? = ρ.l[i]?) (hs : ∀ a, σ.has a → ρ.has a) {a : Addr} {o : Ob} (h : ObR K cA ρ H a o) (hb : _root_.Q.obBelow n o = true) : ObR K cA σ H a o := by
  cases o with
  | lst ds => obtain ⟨vs, h1, h2⟩ := h; exact ⟨vs, h1, h2.cutl hl hs hb⟩
  | ins C fs => obtain ⟨dx, vs, h1, h2⟩ := h; exact ⟨dx, vs, h1, h2.cutl hl hs hb⟩
  | dic kvs => obtain ⟨vs, h1, h2⟩ := h; exact ⟨vs, h1, h2.cutl hl hs hb⟩
  | dead => exact h
theorem StR.cutl {S S' : Store} (s : StR K cA ρ H S) (e : Ext ρ H ρ' H') (s' : StR K cA ρ' H' S') (hb : (S'.take S.length).all (obBelow S.length) = true) :
    ∃ σ : Pl, Ext ρ H σ H' ∧ StR K cA σ H' (S'.take S.length) ∧ (∀ (i : Nat), i < S.length → σ.l[i]? = ρ'.l[i]?) ∧ (∀ a, σ.has a → ρ'.has a) ∧ σ.b = ρ'.b ∧ σ.l = ρ'.l.take S.length := by
  obtain ⟨τ, hτ, hn⟩ := e.pre
  have hl : ∀ (i : Nat), i < S.length → ρ.l[i]? = ρ'.l[i]? := fun i hi => by
    rw [hτ, List.getElem?_append_left (by rw [s.len]; exact hi)]
  have hh : ∀ a, (Pl.mk ρ.l ρ'.b ρ.pin).has a → ρ'.has a := fun a z => z.imp (fun z => by rw [hτ]; exact List.mem_append_left _ z) id
  have le : S.length ≤ S'.length := by
    rw [← s.len, ← s'.len, hτ]; simp
  refine ⟨⟨ρ.l, ρ'.b, ρ.pin⟩, ⟨⟨[], by simp, by simp⟩, e.lo, e.hi, e.keep, e.tr, rfl⟩, ⟨?_, s.nd, ?_, ?_, s.pin⟩, hl, hh, rfl, ?_⟩
  · show ρ.l.length = _
    rw [List.length_take, s.len, Nat.min_eq_left le]
  · intro l o ho
    have lt : l < S.length := by
      rcases Nat.lt_or_ge l S.length with h | h
      · exact h
      · rw [List.getElem?_eq_none (by rw [List.length_take]; omega)] at ho; cases ho
    have ho' : S'[l]? = some o := by rw [← ho, List.getElem?_take, if_pos lt]
    obtain ⟨a, h1, h2⟩ := s'.ob l o ho'
    refine ⟨a, (hl l lt).trans h1, ObR.cutl (σ := ⟨ρ.l, ρ'.b, ρ.pin⟩) hl hh h2 ?_⟩
    exact List.all_eq_true.mp hb o (List.mem_of_getElem? ho)
  · exact fun a ha => ⟨(s'.bl a ha).1, fun z => (s'.bl a ha).2 (by rw [hτ]; exact List.mem_append_left _ z)⟩
  · show ρ.l = _
    rw [hτ, ← s.len]; simp
def fz (frz : Bool) (n : Nat) (d : D) (S : Store) : D := if frz then (match d with
  | .ref l => if l < n then d else (match S[l]? with
    | some (.lst xs) => .lst xs
    | _ => d)
  | d => d) else d
theorem fin_eq {frz : Bool} {n : Nat} {d : D} {S : Store} : fin frz n d S = if S.length = n ∧ frz = false then .ok (fz frz n d S) S else if below n (fz frz n d S) && (S.take n).all (obBelow n) then .ok (fz frz n d S) (S.take n) else .ok d S := rfl
theorem fin_ok {W : WX} {τ : L2.St} {S S' : Store} {frz : Bool} {d : D} {v : V} {Q : V → Hp → Prop} (s : StR K cA ρ H S) (e : Ext ρ H ρ' H') (s' : StR K cA ρ' H' S') (r : Rep K ρ' H' d v)
    (h : tO K cA W τ ρ H (Rep K) (fin frz S.length d S') Q) : Q v H' := by
  rw [fin_eq] at h
  split at h
  · next c =>
    rw [c.2] at h
    exact h ρ' H' v e s' r
  · split at h
    · next _ c =>
      rw [Bool.and_eq_true] at c
      obtain ⟨σ, e2, s2, hl, hs, hb, hτ⟩ := s.cutl e s' c.2
      refine h σ H' v e2 s2 ?_
      have c1 := c.1
      clear h
      revert c1
      unfold fz
      cases frz with
      | false => exact fun c1 => r.cutl hl hs c1
      | true =>
        rw [if_pos rfl]
        cases r with
        | ref ra =>
          rename_i l a
          simp only
          split
          · exact fun c1 => (Rep.ref ra).cutl hl hs c1
          · next lt =>
            split
            · next _ xs hx =>
              intro c1
              obtain ⟨vs, h1, h2⟩ := s'.at hx ra
              have na : ¬ σ.has a := by
                rintro (z | z)
                · rw [hτ] at z
                  obtain ⟨i, hi⟩ := List.mem_iff_getElem?.mp z
                  have hi2 : i < S.length := by
                    rcases Nat.lt_or_ge i S.length with h | h
                    · exact h
                    · rw [List.getElem?_eq_none (by rw [List.length_take]; omega)] at hi; cases hi
                  rw [List.getElem?_take, if_pos hi2] at hi
                  obtain ⟨p1, p2⟩ := List.getElem?_eq_some_iff.mp hi
                  obtain ⟨q1, q2⟩ := List.getElem?_eq_some_iff.mp ra
                  exact List.pairwise_iff_getElem.mp s'.nd i l p1 q1 (by omega) (p2.trans q2.symm)
                · rw [hb] at z
                  exact (s'.bl a z).2 (List.mem_of_getElem? ra)
              exact .lst (.inl ⟨.inl h1, na⟩) (h2.cutl hl hs c1)
            · exact fun c1 => (Rep.ref ra).cutl hl hs c1
        | non => exact fun c1 => Rep.cutl hl hs .non c1
        | bl b => exact fun c1 => Rep.cutl hl hs (.bl b) c1
        | int b => exact fun c1 => Rep.cutl hl hs (.int b) c1
        | str b => exact fun c1 => Rep.cutl hl hs (.str b) c1
        | tup h1 h2 => exact fun c1 => Rep.cutl hl hs (.tup h1 h2) c1
        | lst h1 h2 => exact fun c1 => Rep.cutl hl hs (.lst h1 h2) c1
    · exact h ρ' H' v e s' r
theorem finX_ok {W : WX} {τ : L2.St} {S S' : Store} {x : Str} {Q : V → Hp → Prop} (s : StR K cA ρ H S) (e : Ext ρ H ρ' H') (s' : StR K cA ρ' H' S') 
    (h : tO K cA W τ ρ H (Rep K) (finX S.length x S') Q) : W (.ref (cA x)) none τ H' := by
  unfold finX at h
  split at h
  · exact h ρ' H' e s'
  · split at h
    · next _ c =>
      obtain ⟨σ, e2, s2, _⟩ := s.cutl e s' c
      exact h σ H' e2 s2
    · exact h ρ' H' e s'
theorem env_start {N : List Str} {ds : List D} {vs : List V} (hp : ρ.pin = none) (r : Reps K ρ H ds vs) : EnvR K ρ H (ds.map some ++ List.replicate (N.length - ds.length) none) (L2.start N vs) := by
  refine ⟨by simp [L2.start, r.length], fun i d h => ?_, fun i a h => by rw [hp] at h; cases h⟩
  rcases Nat.lt_or_ge i ds.length with lt | ge
  · rw [List.getElem?_append_left (by simpa using lt), List.getElem?_map] at h
    cases e : ds[i]? with
    | none => rw [e] at h; cases h
    | some d' =>
      rw [e] at h
      cases h
      obtain ⟨v, h1, h2⟩ := r.get e
      refine ⟨v, ?_, h2⟩
      unfold L2.start
      rw [List.getElem?_append_left (by rw [List.length_map, ← r.length]; exact lt), List.getElem?_map, h1]
      rfl
  · rw [List.getElem?_append_right (by simpa using ge), List.getElem?_replicate] at h
    split at h <;> cases h
end
section
variable {P : Program} {w : World} {K : PySem.W.Frag} {mg : Str → Option Value} {base : Heap} {cA : CA}
theorem fn_ok {x qual : Str} {params : Arguments} {body : List Stmt} {scope : Scope} {dvs : List V} {f : Addr} {fd : FuncData} {N ps : List Str} {k fuel : Nat} {c : Cfg} {frz : Bool}
    (F : FunD K x qual params body scope dvs [] f fd) (sc : FnScope N ps scope) (C : CfgOk P w K mg base cA k c) (hot : c.hot = none) (hp : cA.pin = none) :
    FnOk P w K mg base (L2.CX P w) (k + 1) f fd ps (spOf K cA (runF c frz ps N scope fuel body)) := by
  have key : ∀ {vs : List V} {H : Hp} {Qv : VK} {E : XK}, spOf K cA (runF c frz ps N scope fuel body) vs H Qv E → ∃ ρ ds S, Reps K ρ H ds vs ∧ StR K cA ρ H S ∧ ds.length = ps.length ∧
      tO K cA (fun cls d _ H' => E cls d H') [] ρ H (Rep K) (match exs c N scope fuel body (ds.map some ++ List.replicate (N.length - ds.length) none) S with
        | .nx _ S' => fin frz S.length .non S'
        | .rt d S' => fin frz S.length d S'
        | .exc x _ S' => finX S.length x S'
        | _ => .bad) Qv := by
    rintro vs H Qv E ⟨ρ, ds, S, r, s, h⟩
    unfold runF at h
    split at h
    · next hl => exact ⟨ρ, ds, S, r, s, hl, h⟩
    · exact h.elim
  refine F.ok sc (fun vs H Qv E h => ?_) fun cdv A outer s H vs Qv E hr h => ?_
  · obtain ⟨ρ, ds, S, r, _, hl, _⟩ := key h
    rw [← r.length, hl]
  · obtain ⟨ρ, ds, S, r, st, hl, h⟩ := key h
    have xo : XOk cA k c N (cxOf (L2.CX P w) P w K mg base N qual scope f cdv A outer s H E) scope := ⟨C, (fun _ => rfl), (fun _ => hr), Nat.lt_of_le_of_lt (Nat.add_le_add_right (Nat.le_add_right _ _) _) hr.un, (fun i a h => by rw [hp] at h; cases h), .inl hot, (fun i z h => by rw [hot] at h; cases h), rfl, sc.nd, fun x kd hx => ⟨fun hk => by
        rcases hk with rfl | rfl | rfl
        · exact .inl hx
        · exact .inr (.inl hx)
        · exact .inr (.inr hx), fun hk => by subst hk; exact hx⟩,
      fun x kd hx hk => ⟨by
        rcases hk with rfl | rfl
        · exact .inl hx
        · exact .inr hx, .inl rfl⟩, fun x hx => hx⟩
    have xs : XSt (cxOf (L2.CX P w) P w K mg base N qual scope f cdv A outer s H E) scope := ⟨rfl, sc.kind, passes_of rfl, rfl, rfl⟩
    have tk : Takes (cxOf (L2.CX P w) P w K mg base N qual scope f cdv A outer s H E) (fun cls d _ H' => E cls d H') := takes_of rfl rfl rfl rfl
    refine ⟨_, (all_s fuel _ _ _ scope _ xo xs tk).2 body, ρ, _, S, env_start (st.pin.trans hp) r, st, ?_⟩
    show tFl K cA _ ρ H (exs c N scope fuel body _ S) _
    revert h
    cases exs c N scope fuel body (ds.map some ++ List.replicate (N.length - ds.length) none) S with
    | nx σ' S' => exact fun h ρ' H' σv e s' env => fin_ok st e s' .non h
    | rt d S' => exact fun h ρ' H' v e s' r' => fin_ok st e s' r' h
    | exc x σ' S' => exact fun h ρ' H' σv e s' env => finX_ok st e s' h
    | bad => exact fun h => h.elim
    | bk _ _ => exact fun h => h.elim
    | ct _ _ => exact fun h => h.elim
end
end Q
/-! Q12: the interpreter's steps as combinators (what a def comes to once its text is read), and the chain of a program's defs. -/
namespace Q
open PySem PySem.Spec PyProof.Rows L2
/-! ### expressions -/
abbrev XE := Env → Store → Out D
abbrev XT := Env → Store → Out Bool
abbrev XA := Env → Store → Out (List D)
abbrev XO := Env → Store → Out (Option Int)
abbrev XI := Env → Store → Out Items
def kk (d : D) : XE := fun _ S => .ok d S
def vv (i : Nat) : XE := fun σ S => match σ[i]? with
  | some (some d) => .ok d S
  | _ => .bad
def bi (op : Operator) (a b : XE) : XE := fun σ S => (a σ S).bind fun x S1 => (b σ S1).bind fun y S2 => ofO S2 (binD S2 op x y)
def biM (op : Operator) (a b : XE) : XE := fun σ S => (a σ S).bind fun x S1 => (b σ S1).bind fun y S2 => (match catD S2 op x y with
  | some (.lst xs) => .ok (.ref S2.length) (S2 ++ [.lst xs])
  | _ => .bad)
def liM (a : XA) : XE := fun σ S => (a σ S).bind fun xs S1 => (match Blt.list, xs with
  | .list, [x] => (match listD S1 x with
    | some (.lst ys) => .ok (.ref S1.length) (S1 ++ [.lst ys])
    | _ => .bad)
  | _, _ => .bad)
def dkc (ks : List Str) (a : XE) : XE := fun σ S => (a σ S).bind fun x S1 => dkIn ks x S1
def nt (a : XE) : XE := fun σ S => (a σ S).bind fun x S1 => ofO S1 ((truth S1 x).map fun b => .bl (!b))
def ng (a : XE) : XE := fun σ S => (a σ S).bind fun x S1 => (match x with
  | .int i => .ok (.int (-i)) S1
  | _ => .bad)
def cm (op : CmpOp) (a b : XE) : XE := fun σ S => (a σ S).bind fun x S1 => (b σ S1).bind fun y S2 => ofO S2 ((cmpD S2 op x y).map D.bl)
def cm2 (op op' : CmpOp) (a b b' : XE) : XE := fun σ S => (a σ S).bind fun x S1 => (b σ S1).bind fun y S2 => (match cmpD S2 op x y with
  | some true => (b' σ S2).bind fun z S3 => ofO S3 ((cmpD S3 op' y z).map D.bl)
  | some false => .ok (.bl false) S2
  | none => .bad)
def ie (t : XT) (a b : XE) : XE := fun σ S => (t σ S).bind fun k S1 => if k = true then a σ S1 else b σ S1
def lsv (as : XA) : XE := fun σ S => (as σ S).bind fun xs S1 => if xs.length ≤ 16777216 then .ok (.lst xs) S1 else .bad
def lsm (as : XA) : XE := fun σ S => (as σ S).bind fun xs S1 => if xs.length ≤ 16777216 then .ok (.ref S1.length) (S1 ++ [.lst xs]) else .bad
def tu (as : XA) : XE := fun σ S => (as σ S).bind fun xs S1 => if xs.length ≤ 16777216 then .ok (.tup xs) S1 else .bad
def di0 : XE := fun _ S => .ok (.ref S.length) (S ++ [.dic []])
/-- {k: v, ..} -/
abbrev XK := Env → Store → Out (List (L2.Key × D))
def k0 : XK := fun _ S => .ok [] S
def k1 (k v : XE) (r : XK) : XK := fun σ S => (k σ S).bind fun x S1 => (v σ S1).bind fun y S2 => (r σ S2).bind fun r S3 => (match keyD x with
  | some k => .ok ((k, y) :: r) S3
  | none => .bad)
def dis (r : XK) : XE := fun σ S => (r σ S).bind fun kvs S1 => .ok (.ref S1.length) (S1 ++ [.dic (mergeG [] kvs)])
def rvs (a : XE) : XE := fun σ S => (a σ S).bind fun x S1 => ofO S1 (revD S1 x)
def dct (as : XA) : XE := fun σ S => (as σ S).bind fun xs S1 => (match xs with
  | [x] => ofP (dictD S1 x)
  | _ => .bad)
def lset (a : XE) : XE := fun σ S => (a σ S).bind fun x S1 => ofO S1 (lenSetD S1 x)
def slm (a : XE) (lo hi : XO) : XE := fun σ S => (a σ S).bind fun x S1 => (lo σ S1).bind fun l S2 => (hi σ S2).bind fun h S3 => (match slD S3 x l h with
  | some (.lst xs) => .ok (.ref S3.length) (S3 ++ [.lst xs])
  | _ => .bad)
def fmv (a : XE) : XE := fun σ S => (a σ S).bind fun x S1 => ofO S1 (fmtD x)
def fst (ts : List XE) : XE := joinF ts Str.empty
def sl (a : XE) (lo hi : XO) : XE := fun σ S => (a σ S).bind fun x S1 => (lo σ S1).bind fun l S2 => (hi σ S2).bind fun h S3 => ofO S3 (slD S3 x l h)
def ix (a i : XE) : XE := fun σ S => (a σ S).bind fun x S1 => (i σ S1).bind fun y S2 => ofO S2 (ixD S2 x y)
def ca (φ : Fn) (as : XA) : XE := fun σ S => (as σ S).bind fun xs S1 => φ xs S1
def bl (b : Blt) (as : XA) : XE := fun σ S => (as σ S).bind fun xs S1 => ofO S1 (b.sem S1 xs)
def isn (a : XE) (t : Str) : XE := fun σ S => (a σ S).bind fun x S1 => ofO S1 ((isTy S1 x t).map D.bl)
def meT (ts : List (Str × Fn)) (m : Str) (o : XE) (as : XA) : XE := fun σ S => (o σ S).bind fun x S1 => (match mIdD S1 x m with
  | some i => (as σ S1).bind fun xs S2 => ofP (mthD S2 i x xs)
  | none => (match methD ts S1 x m with
    | some φ => (as σ S1).bind fun xs S2 => φ (x :: xs) S2
    | none => .bad))
def me (m : Str) (o : XE) (as : XA) : XE := meT [] m o as
/-- .. its new list into the store -/
def meM (m : Str) (o : XE) (as : XA) : XE := fun σ S => (o σ S).bind fun x S1 => (match mIdD S1 x m with
  | some i => (as σ S1).bind fun xs S2 => mtM S2 i x xs
  | none => (match methD ([] : List (Str × Fn)) S1 x m with
    | some φ => (as σ S1).bind fun xs S2 => φ (x :: xs) S2
    | none => .bad))
/-- x.f, x.f = v, C(..) -/
def fl (cs : List Str) (f : Str) (o : XE) : XE := fun σ S => (o σ S).bind fun x S1 => ofO S1 (fldD cs S1 x f)
def mkI (C : Str) (φ : Fn) (as : XA) : XE := fun σ S => (as σ S).bind fun xs S1 => makeD C φ xs S1
def lcv (is : List Nat) (it : XI) (bd : Env → D → Option Env) (elt : XE) : XE := fun σ S => (it σ S).bind fun it S1 => (compF it (fun d S2 => match bd (wipeE σ is) d with
  | some σ2 => (elt σ2 S2).bind fun y S3 => .ok (some y) S3
  | none => .bad) loopMost 0 [] S1).bind fun ys S2 => .ok (.lst ys) S2
def lcv1 (is : List Nat) (it : XI) (bd : Env → D → Option Env) (t : XT) (elt : XE) : XE := fun σ S => (it σ S).bind fun it S1 => (compF it (fun d S2 => match bd (wipeE σ is) d with
  | some σ2 => (t σ2 S2).bind fun k S3 => if k = true then (elt σ2 S3).bind fun y S4 => .ok (some y) S4 else .ok none S3
  | none => .bad) loopMost 0 [] S1).bind fun ys S2 => .ok (.lst ys) S2
def lcm (is : List Nat) (it : XI) (bd : Env → D → Option Env) (elt : XE) : XE := fun σ S => (it σ S).bind fun it S1 => (compF it (fun d S2 => match bd (wipeE σ is) d with
  | some σ2 => (elt σ2 S2).bind fun y S3 => .ok (some y) S3
  | none => .bad) loopMost 0 [] S1).bind fun ys S2 => .ok (.ref S2.length) (S2 ++ [.lst ys])
def lcm1 (is : List Nat) (it : XI) (bd : Env → D → Option Env) (t : XT) (elt : XE) : XE := fun σ S => (it σ S).bind fun it S1 => (compF it (fun d S2 => match bd (wipeE σ is) d with
  | some σ2 => (t σ2 S2).bind fun k S3 => if k = true then (elt σ2 S3).bind fun y S4 => .ok (some y) S4 else .ok none S3
  | none => .bad) loopMost 0 [] S1).bind fun ys S2 => .ok (.ref S2.length) (S2 ++ [.lst ys])
/-- binding one name, a tuple of names -/
def b1 (i : Nat) : Env → D → Option Env := fun σ d => some (σ.set i (some d))
/-! and, or: as values -/
def andE (a b : XE) : XE := fun σ S => (a σ S).bind fun x S1 => (match truth S1 x with
  | some k => if k = true then b σ S1 else .ok x S1
  | none => .bad)
def orE (a b : XE) : XE := fun σ S => (a σ S).bind fun x S1 => (match truth S1 x with
  | some k => if k = true then .ok x S1 else b σ S1
  | none => .bad)
/-! ### tests -/
def tNot (a : XT) : XT := fun σ S => (a σ S).bind fun k S1 => .ok (!k) S1
def tAnd (a b : XT) : XT := fun σ S => (a σ S).bind fun k S1 => if k = true then b σ S1 else .ok false S1
def tOr (a b : XT) : XT := fun σ S => (a σ S).bind fun k S1 => if k = true then .ok true S1 else b σ S1
def tCm (e : XE) : XT := fun σ S => (e σ S).bind fun x S1 => (match x with
  | .bl k => .ok k S1
  | _ => .bad)
def tTr (e : XE) : XT := fun σ S => (e σ S).bind fun x S1 => ofO S1 (truth S1 x)
/-! ### arguments, bounds, items -/
def a0 : XA := fun _ S => .ok [] S
def a1 (a : XE) (as : XA) : XA := fun σ S => (a σ S).bind fun x S1 => (as σ S1).bind fun xs S2 => .ok (x :: xs) S2
def p0 : XO := fun _ S => .ok none S
def p1 (a : XE) : XO := fun σ S => (a σ S).bind fun x S1 => (match x with
  | .int i => .ok (some i) S1
  | _ => .bad)
def iv (e : XE) : XI := fun σ S => (e σ S).bind fun x S1 => ofO S1 (itersD S1 x)
def r1 (a : XE) : XI := fun σ S => (a σ S).bind fun x S1 => (match x with
  | .int j => if small62 j then .ok (rangeD 0 j) S1 else .bad
  | _ => .bad)
def r2 (a b : XE) : XI := fun σ S => (a σ S).bind fun x S1 => (b σ S1).bind fun y S2 => (match x, y with
  | .int i, .int j => if small62 i && small62 j then .ok (rangeD i j) S2 else .bad
  | _, _ => .bad)
def zen (a : XE) : XI := fun σ S => (a σ S).bind fun x S1 => ofO S1 (enumD S1 x)
def zzp (a b : XE) : XI := fun σ S => (a σ S).bind fun x S1 => (b σ S1).bind fun y S2 => ofO S2 (zipD x y)
/-! ### statements -/
abbrev XS := Env → Store → Fl
def zPass : XS := fun σ S => .nx σ S
def zBrk : XS := fun σ S => .bk σ S
def zCnt : XS := fun σ S => .ct σ S
def zRet0 : XS := fun σ S => .rt .non S
def zRet (e : XE) : XS := fun σ S => (e σ S).use σ fun x S1 => .rt x S1
def zExp (e : XE) : XS := fun σ S => (e σ S).use σ fun _ S1 => .nx σ S1
def zIf (t : XT) (a b : XS) : XS := fun σ S => (t σ S).use σ fun k S1 => if k = true then a σ S1 else b σ S1
def zSet (i : Nat) (e : XE) : XS := fun σ S => (e σ S).use σ fun d S1 => .nx (σ.set i (some d)) S1
def zTup (is : List Nat) (e : XE) : XS := fun σ S => (e σ S).use σ fun d S1 => (match bT is σ d with
  | some σ1 => .nx σ1 S1
  | none => .bad)
def zSub (o i e : XE) : XS := fun σ S => (e σ S).use σ fun d S1 => (o σ S1).use σ fun x S2 => (i σ S2).use σ fun y S3 => (match setD S3 x y d with
  | some S4 => .nx σ S4
  | none => .bad)
def zFld (cs : List Str) (f : Str) (o e : XE) : XS := fun σ S => (e σ S).use σ fun d S1 => (o σ S1).use σ fun x S2 => (match fldS cs S2 x d f with
  | some S3 => .nx σ S3
  | none => .bad)
/-- a, b = x, y -/
def zPar (is : List Nat) (as : XA) : XS := fun σ S => (as σ S).use σ fun ds S1 => if ds.length = is.length then .nx (setAll σ is ds) S1 else .bad
/-- targets of all sorts -/
def tgN (i : Nat) : D → Env → Store → Fl := fun d σ S => .nx (σ.set i (some d)) S
def tgA (cs : List Str) (f : Str) (o : XE) : D → Env → Store → Fl := fun d σ S => (o σ S).use σ fun x S2 => (match fldS cs S2 x d f with
  | some S3 => .nx σ S3
  | none => .bad)
def tgI (o i : XE) : D → Env → Store → Fl := fun d σ S => (o σ S).use σ fun x S2 => (i σ S2).use σ fun y S3 => (match setD S3 x y d with
  | some S4 => .nx σ S4
  | none => .bad)
def zMix (gs : List (D → Env → Store → Fl)) (a : XE) : XS := fun σ S => (a σ S).use σ fun d S1 => (match seqT d with
  | some ds => if ds.length = gs.length then runT gs ds σ S1 else .bad
  | none => .bad)
/-- a statement that is not served -/
def zBad : XS := fun _ _ => .bad
def xBad : XE := fun _ _ => .bad
def zWhile (t : XT) (b : XS) : XS := fun σ S => whileF t b loopMost σ S
def zFor (bd : Env → D → Option Env) (it : XI) (b : XS) : XS := fun σ S => (it σ S).use σ fun it S1 => forF it (fun d σ1 S2 => match bd σ1 d with
  | some σ2 => b σ2 S2
  | none => .bad) loopMost 0 σ S1
def zRaise (x : Str) : XS := fun σ S => .exc x σ S
/-- isinstance of the error that is held -/
def kitS (kt : Str → Str → Option Bool) (x : Str) : List Str → Option Bool
  | [] => some false
  | t :: ts => (match kt x t, kitS kt x ts with
    | some b, some r => some (b || r)
    | _, _ => none)
def isE (kt : Str → Str → Option Bool) (x : Str) (ts : List Str) : XE := fun _ S => match kitS kt x ts with
  | some b => .ok (.bl b) S
  | none => .bad
/-- try: b except y as the name of slot i: h -/
def zTry (i : Nat) (nd : Bool) (kt : Str → Str → Option Bool) (y : Str) (b : XS) (h : Str → XS) : XS := fun σ S => match b σ S with
  | .exc x σ1 S1 => (match kt x y with
    | some true => if nd && decide (σ1.length ≤ i) then .bad else hotEnd i (h x (σ1.set i none) S1)
    | some false => .exc x σ1 S1
    | none => .bad)
  | r => r
def zSeq (a b : XS) : XS := fun σ S => (a σ S).seq b
/-- a def -/
def dF (frz : Bool) (np nn : Nat) (b : XS) : Fn := fun args S =>
  if args.length = np then (match b (args.map some ++ List.replicate (nn - args.length) none) S with
    | .nx _ S' => fin frz S.length .non S'
    | .rt d S' => fin frz S.length d S'
    | .exc x _ S' => finX S.length x S'
    | _ => .bad) else .bad

/-! ### the chain -/
def Cfg.add (c : Cfg) (x : Str) (φ : Fn) : Cfg := { c with funs := fun y => if y == x then some φ else c.funs y }
structure DefR where
  nm : Str
  st : Stmt
  ps : List Str
  N : List Str
  frz : Bool
  φ : Fn
  dfl : List Int
  cl : Option Str
  fn : Str
  qual : Str
def Cfg.addM (c : Cfg) (C m : Str) (φ : Fn) : Cfg := { c with meths := fun x => if x == m then (C, φ) :: c.meths x else c.meths x }
def Cfg.addK (c : Cfg) (C : Str) (φ : Fn) : Cfg := { c with mks := fun y => if y == C then some φ else c.mks y }
def argsOf : Stmt → Arguments
  | .FunctionDef _ a _ _ _ _ _ _ _ _ => a
  | _ => ⟨[], [], none, [], [], none, []⟩
def bodyOf : Stmt → List Stmt
  | .FunctionDef _ _ b _ _ _ _ _ _ _ => b
  | _ => []
def scopeOf : Stmt → Scope
  | .FunctionDef _ _ _ _ _ _ s _ _ _ => s
  | _ => ⟨.module, [], false, false, []⟩
def DefR.pl (r : DefR) : Str × Option Str := match r.cl with
  | none => (r.nm, none)
  | some C => (C, some r.nm)
def DefR.d (r : DefR) : He.DefD := ⟨r.pl, r.fn, r.qual, argsOf r.st, bodyOf r.st, scopeOf r.st, r.dfl.map He.Dv.int, []⟩
/-- called without the parameters that have defaults -/
def DefR.ψ (r : DefR) : Fn := match r.dfl with
  | [] => r.φ
  | ds => fun xs S => if xs.length = r.ps.length then r.φ xs S else r.φ (xs ++ ds.map D.int) S
/-- what is looked at in the text of a def -/
structure DefR.Ok (r : DefR) : Prop where
  sc : C8.scC r.N r.ps (scopeOf r.st) = true
  bind : r.dfl = [] → ∀ (kV doc pm : Value) (an : Option Addr) (cdv ct : Value) (us : List Value), us.length = r.ps.length → bindArgs (PySem.W.fnOf r.fn r.qual (argsOf r.st) (bodyOf r.st) (scopeOf r.st) .none kV doc pm an cdv ct) ⟨us, []⟩ = pure (r.ps.zip us)
  bindD : r.dfl ≠ [] → r.dfl.length ≤ r.ps.length ∧ ∀ (T : Addr) (kV doc pm : Value) (an : Option Addr) (cdv ct : Value) (us its : List Value), us.length = r.ps.length - r.dfl.length → its.length = r.dfl.length →
    ∃ k, bindArgs (PySem.W.fnOf r.fn r.qual (argsOf r.st) (bodyOf r.st) (scopeOf r.st) (.ref T) kV doc pm an cdv ct) ⟨us, []⟩ = seqItems? (.ref T) >>= k ∧ k (some its.toArray) = pure (r.ps.zip (us ++ its.drop 0))
  bindF : r.dfl ≠ [] → ∀ (T : Addr) (kV doc pm : Value) (an : Option Addr) (cdv ct : Value) (us its : List Value), us.length = r.ps.length → its.length = r.dfl.length →
    ∃ k, bindArgs (PySem.W.fnOf r.fn r.qual (argsOf r.st) (bodyOf r.st) (scopeOf r.st) (.ref T) kV doc pm an cdv ct) ⟨us, []⟩ = seqItems? (.ref T) >>= k ∧ k (some its.toArray) = pure (r.ps.zip (us ++ its.drop r.dfl.length))
/-- what a def adds -/
def DefR.put (r : DefR) (c : Cfg) : Cfg := match r.cl with
  | none => c.add r.nm r.ψ
  | some C => if r.nm == "__init__" then c.addK C r.φ else c.addM C r.nm r.φ
def DefR.lev (r : DefR) : Nat := match r.cl with
  | none => 1
  | some _ => 2
def levs : List DefR → Nat
  | [] => 0
  | r :: rs => r.lev + levs rs
/-- where a def stands -/
def DefR.AtK (r : DefR) (K : PySem.W.Frag) (mg : Str → Option Value) : Prop := match r.cl with
  | none => mg r.nm = some (.ref (He.ga K r.nm))
  | some C => r.dfl = [] ∧ if r.nm == "__init__" then mg C = some (.ref (He.ga K C)) ∧ Mk K (He.ga K C) (He.ma K (He.ga K C) "__init__") else Cls K (He.ga K C) ∧ Meth K (He.ga K C) r.nm (He.ma K (He.ga K C) r.nm)
/-- def behind def: each is what the interpreter makes of its text -/
def Steps (fuel : Nat) (c : Cfg) : List DefR → Prop
  | [] => True
  | r :: rs => (r.Ok ∧ runF c r.frz r.ps r.N (scopeOf r.st) fuel (bodyOf r.st) = r.φ) ∧ Steps fuel (r.put c) rs
def allC (c : Cfg) : List DefR → Cfg
  | [] => c
  | r :: rs => allC (r.put c) rs
theorem put_hot {r : DefR} {c : Cfg} (h : c.hot = none) : (r.put c).hot = none := by
  unfold DefR.put
  split
  · exact h
  · split <;> exact h
section
variable {P : Program} {w : World} {K : PySem.W.Frag} {mg : Str → Option Value} {base : Heap} {cA : CA} {k : Nat} {c : Cfg}
/-- the same, at a greater height -/
theorem CfgOk.up {j : Nat} (C : CfgOk P w K mg base cA k c) (h : k ≤ j) : CfgOk P w K mg base cA j c :=
  ⟨fun x φ q => by
    obtain ⟨f, fd, ps, ds, dvs, dds, φ0, h1, h2⟩ := C.fn x φ q
    exact ⟨f, fd, ps, ds, dvs, dds, φ0, h1.mono h, h2⟩, C.var, C.free, C.exc, C.fld, C.dk, fun m D φ q => by
    obtain ⟨f, fd, ps, h1, h2, h3, h4⟩ := C.meth m D φ q
    exact ⟨f, fd, ps, h1, h2, h3.mono h, h4⟩, fun D φ q => by
    obtain ⟨h0, i, f, fd, ps, h1, h2⟩ := C.mkr D φ q
    exact ⟨h0, i, f, fd, ps, Nat.le_trans h1 h, h2⟩, C.kit⟩
theorem CfgOk.add {x : Str} {φ : Fn} {f : Addr} {fd : FuncData} {ps : List Str} (C : CfgOk P w K mg base cA k c) (F : FnOk P w K mg base (L2.CX P w) (k + 1) f fd ps (spOf K cA φ)) (hm : mg x = some (.ref f)) (hk : PySem.W.keepIn K (.ref f) = true) (hb : Binds K fd ps []) :
    CfgOk P w K mg base cA (k + 1) (c.add x φ) := by
  have U := C.up (Nat.le_succ k)
  refine ⟨fun y ψ h => ?_, U.var, U.free, U.exc, U.fld, U.dk, U.meth, U.mkr, U.kit⟩
  have h : (if (y == x) = true then some φ else c.funs y) = some ψ := h
  split at h
  · next e =>
    cases h
    have e : y = x := eq_of_beq e
    subst e
    exact ⟨f, fd, ps, [], [], [], φ, F, hm, hk, hb, .nil, fun _ _ => .nil, .inl (by simp)⟩
  · obtain ⟨f, fd, ps, ds, dvs, dds, φ0, h1, h2⟩ := C.fn y ψ h
    exact ⟨f, fd, ps, ds, dvs, dds, φ0, h1.mono (Nat.le_succ k), h2⟩
theorem allC_hot : ∀ {rs : List DefR} {c : Cfg}, c.hot = none → (allC c rs).hot = none
  | [], _, h => h
  | r :: rs, c, h => allC_hot (rs := rs) (c := r.put c) (put_hot h)
theorem CfgOk.addM {D m : Str} {φ : Fn} {f : Addr} {fd : FuncData} {ps : List Str} (C : CfgOk P w K mg base cA k c) (F : FnOk P w K mg base (L2.CX P w) k f fd ps (spOf K cA φ)) (c1 : Cls K (cA D)) (c2 : Meth K (cA D) m f) (hb : Binds K fd ps []) :
    CfgOk P w K mg base cA k (c.addM D m φ) := by
  refine ⟨C.fn, C.var, C.free, C.exc, C.fld, C.dk, fun y E ψ h => ?_, C.mkr, C.kit⟩
  replace h : (if (y == m) = true then (D, φ) :: c.meths y else c.meths y).lookup E = some ψ := h
  by_cases e : (y == m) = true
  · rw [if_pos e] at h
    have e : y = m := eq_of_beq e
    subst e
    rw [List.lookup_cons] at h
    cases q : E == D with
    | true =>
      rw [q] at h
      cases h
      rw [beq_iff_eq.mp q]
      exact ⟨f, fd, ps, c1, c2, F, hb⟩
    | false =>
      rw [q] at h
      exact C.meth _ E ψ h
  · rw [if_neg e] at h
    exact C.meth y E ψ h
theorem CfgOk.addK {D : Str} {φ : Fn} {f : Addr} {fd : FuncData} {ps : List Str} {j : Nat} (C : CfgOk P w K mg base cA k c) (F : FnOk P w K mg base (L2.CX P w) j f fd ps (spOf K cA φ)) (hj : j + 1 ≤ k) (c1 : mg D = some (.ref (cA D))) (c2 : Mk K (cA D) f) (hb : Binds K fd ps []) :
    CfgOk P w K mg base cA k (c.addK D φ) := by
  refine ⟨C.fn, C.var, C.free, C.exc, C.fld, C.dk, C.meth, fun E ψ h => ?_, C.kit⟩
  have h : (if (E == D) = true then some φ else c.mks E) = some ψ := h
  split at h
  · next e =>
    cases h
    have e : E = D := eq_of_beq e
    subst e
    exact ⟨c1, j, f, fd, ps, hj, c2, F, hb⟩
  · exact C.mkr E ψ h
theorem CfgOk.addD {x : Str} {φ ψ : Fn} {f : Addr} {fd : FuncData} {ps : List Str} {ds : List Value} {is : List Int} (C : CfgOk P w K mg base cA k c) (F : FnOk P w K mg base (L2.CX P w) (k + 1) f fd ps (spOf K cA φ)) (hm : mg x = some (.ref f)) (hk : PySem.W.keepIn K (.ref f) = true) (hb : Binds K fd ps ds) (hd : Vals (is.map V.int) ds) (hb0 : Binds K fd ps [])
    (hψ : ψ = fun xs S => if xs.length = ps.length then φ xs S else φ (xs ++ is.map D.int) S) : CfgOk P w K mg base cA (k + 1) (c.add x ψ) := by
  have U := C.up (Nat.le_succ k)
  refine ⟨fun y χ h => ?_, U.var, U.free, U.exc, U.fld, U.dk, U.meth, U.mkr, U.kit⟩
  have h : (if (y == x) = true then some ψ else c.funs y) = some χ := h
  split at h
  · next e =>
    cases h
    have e : y = x := eq_of_beq e
    subst e
    refine ⟨f, fd, ps, ds, is.map V.int, is.map D.int, φ, F, hm, hk, hb, hd, fun ρ H => ?_, .inr ⟨hb0, hψ⟩⟩
    clear hψ hd
    induction is with
    | nil => exact .nil
    | cons i is ih => exact .cons (.int i) ih
  · obtain ⟨f, fd, ps, ds, dvs, dds, φ0, h1, h2⟩ := C.fn y χ h
    exact ⟨f, fd, ps, ds, dvs, dds, φ0, h1.mono (Nat.le_succ k), h2⟩
/-- one def more -/
theorem CfgOk.step {r : DefR} {fd : FuncData} (hA : ∀ C, cA C = He.ga K C) (C : CfgOk P w K mg base cA k c) (ok : r.Ok) (F : FunD K r.fn r.qual (argsOf r.st) (bodyOf r.st) (scopeOf r.st) (r.dfl.map V.int) [] (He.fAd K r.pl) fd) (FO : FnOk P w K mg base (L2.CX P w) (k + 1) (He.fAd K r.pl) fd r.ps (spOf K cA r.φ)) (hm : r.AtK K mg) :
    CfgOk P w K mg base cA (k + r.lev) (r.put c) := by
  unfold DefR.AtK at hm
  unfold DefR.put DefR.lev
  unfold DefR.pl at F FO
  cases hc : r.cl with
  | none =>
    rw [hc] at hm
    simp only [hc] at F FO hm ⊢
    have F : FunD K r.fn r.qual (argsOf r.st) (bodyOf r.st) (scopeOf r.st) (r.dfl.map V.int) [] (He.ga K r.nm) fd := F
    have FO : FnOk P w K mg base (L2.CX P w) (k + 1) (He.ga K r.nm) fd r.ps (spOf K cA r.φ) := FO
    by_cases h : r.dfl = []
    · have e : r.ψ = r.φ := by unfold DefR.ψ; rw [h]
      rw [e]
      have F' := F
      rw [h] at F'
      exact C.add FO hm F.kp (F'.bindsN (ok.bind h))
    · have e : r.ψ = fun xs S => if xs.length = r.ps.length then r.φ xs S else r.φ (xs ++ r.dfl.map D.int) S := by
        unfold DefR.ψ
        split
        · next q => exact absurd q h
        · rfl
      obtain ⟨hl, hb⟩ := ok.bindD h
      obtain ⟨ds, hd, bs⟩ := F.binds1 (r.ps.length - r.dfl.length) 0 (fun z => h (List.map_eq_nil_iff.mp z)) (by rw [List.length_map]; omega)
        (fun T kV doc pm an cdv ct us its h1 h2 => hb T kV doc pm an cdv ct us its h1 (by rw [List.length_map] at h2; exact h2))
      obtain ⟨ds0, hd0, bs0⟩ := F.binds1 r.ps.length r.dfl.length (fun z => h (List.map_eq_nil_iff.mp z)) (by rw [List.length_map]; omega)
        (fun T kV doc pm an cdv ct us its h1 h2 => ok.bindF h T kV doc pm an cdv ct us its h1 (by rw [List.length_map] at h2; exact h2))
      have hd0 : Vals ((r.dfl.map V.int).drop r.dfl.length) ds0 := hd0
      rw [List.drop_of_length_le (by rw [List.length_map]; exact Nat.le_refl _)] at hd0
      cases hd0
      exact C.addD FO hm F.kp bs hd bs0 e
  | some D =>
    rw [hc] at hm
    simp only [hc] at F FO hm ⊢
    obtain ⟨hd, hm⟩ := hm
    have F' := F
    rw [hd] at F'
    have B := F'.bindsN (ok.bind hd)
    have U := C.up (show k ≤ k + 2 by omega)
    split
    · next e =>
      rw [if_pos e] at hm
      have e : r.nm = "__init__" := eq_of_beq e
      rw [e] at FO
      exact U.addK (j := k + 1) FO (Nat.le_refl _) (by rw [hA]; exact hm.1) (by rw [hA]; exact hm.2) B
    · next e =>
      rw [if_neg e] at hm
      exact U.addM (FO.mono (by omega)) (by rw [hA]; exact hm.1) (by rw [hA]; exact hm.2) B
theorem chain {fuel : Nat} (hA : ∀ C, cA C = He.ga K C) (hp : cA.pin = none) : ∀ {rs : List DefR} {k : Nat} {c : Cfg}, c.hot = none → Steps fuel c rs → CfgOk P w K mg base cA k c →
    (∀ r ∈ rs, r.AtK K mg ∧ ∃ fd, FunD K r.fn r.qual (argsOf r.st) (bodyOf r.st) (scopeOf r.st) (r.dfl.map V.int) [] (He.fAd K r.pl) fd) →
    CfgOk P w K mg base cA (k + levs rs) (allC c rs)
  | [], k, c, _, _, C, _ => C
  | r :: rs, k, c, hot, st, C, h => by
    obtain ⟨⟨ok, e⟩, st⟩ := st
    obtain ⟨hm, fd, F⟩ := h r (List.mem_cons_self ..)
    have FO := fn_ok (cA := cA) (fuel := fuel) (frz := r.frz) F (C8.fnScope_by ok.sc) C hot hp
    rw [e] at FO
    have := chain hA hp (c := r.put c) (put_hot hot) st (C.step hA ok F FO hm) fun r' hr => h r' (List.mem_cons_of_mem _ hr)
    have e2 : k + levs (r :: rs) = k + r.lev + levs rs := by show k + (r.lev + levs rs) = _; omega
    rw [e2]
    exact this
end
end Q
/-! Q13: the end: from the interpreter's answer to the row. -/
namespace Q
open PySem PySem.Spec PyProof.Rows L2
/-! ### what stands behind the top -/
abbrev KitT := List (Str × List (Str × Bool))
def kitOf (kt : KitT) (x y : Str) : Option Bool := match kt.lookup x with
  | some ys => ys.lookup y
  | none => none
abbrev FldT := List (Str × List Str)
/-- results of operators that go into the store: where -/
abbrev MutB := List (Nat × Nat × Nat × Nat)
/-- dicts of the top, by their keys -/
abbrev DkT := List (Str × List Str)
def cfg0 (cs : List (Str × D)) (frees excs : List Str) (muts : List (Nat × Nat)) (kt : KitT) (ft : FldT) (mb : MutB) (ts : DkT) : Cfg where
  flds := fun f => (ft.lookup f).getD []
  funs := fun _ => none
  vars := fun x => cs.lookup x
  free := fun x => frees.contains x
  mutl := fun p => muts.contains (p.line, p.col)
  excs := fun x => excs.contains x
  kits := kitOf kt
  mutb := fun p => mb.contains (p.line, p.col, p.endLine, p.endCol)
  dks := fun g => ts.lookup g
mutual
/-- a written value -/
def repB (K : PySem.W.Frag) : D → Value → Bool
  | .non, .none => true
  | .bl b, .bool c => b == c
  | .int i, .int j _ => decide (i = j)
  | .str x, .str y _ => decide (x = y)
  | .tup ds, .ref a => (match K.lookup a with
    | some ⟨.type c, _, .seq its _, _⟩ => decide (c = "tuple") && (decide (its.size ≤ sizeLine) && repsB K ds its.toList)
    | _ => false)
  | .lst ds, .ref a => (match K.lookup a with
    | some ⟨.type c, none, .seq its _, _⟩ => decide (c = "list") && (decide (its.size ≤ sizeLine) && repsB K ds its.toList)
    | _ => false)
  | _, _ => false
def repsB (K : PySem.W.Frag) : List D → List Value → Bool
  | [], [] => true
  | d :: ds, u :: us => repB K d u && repsB K ds us
  | _, _ => false
end
mutual
theorem repB_ok {K : PySem.W.Frag} : ∀ (d : D) (u : Value), repB K d u = true → ∃ v, RelV v u ∧ ∀ ρ H, Rep K ρ H d v
  | .non, .none, _ => ⟨.non, rfl, fun _ _ => .non⟩
  | .bl b, .bool c, h => by
    have e : b = c := eq_of_beq (by simpa [repB] using h)
    subst e
    exact ⟨.bl b, rfl, fun _ _ => .bl b⟩
  | .int i, .int j t, h => by
    have e : i = j := of_decide_eq_true (by simpa [repB] using h)
    subst e
    exact ⟨.int i, ⟨t, rfl⟩, fun _ _ => .int i⟩
  | .str i, .str j t, h => by
    have e : i = j := of_decide_eq_true (by simpa [repB] using h)
    subst e
    exact ⟨.str i, ⟨t, rfl⟩, fun _ _ => .str i⟩
  | .tup ds, .ref a, h => by
    unfold repB at h
    split at h
    · next c od its n sl q =>
      simp only [Bool.and_eq_true, decide_eq_true_eq] at h
      obtain ⟨hc, hz, hr⟩ := h
      obtain ⟨vs, h1, h2⟩ := repsB_ok ds its.toList hr
      exact ⟨.ref a, rfl, fun ρ H => .tup (.inr ⟨_, its, n, q, by rw [hc], rfl, hz, h1⟩) (h2 ρ H)⟩
    · cases h
  | .lst ds, .ref a, h => by
    unfold repB at h
    split at h
    · next c its n sl q =>
      simp only [Bool.and_eq_true, decide_eq_true_eq] at h
      obtain ⟨hc, hz, hr⟩ := h
      obtain ⟨vs, h1, h2⟩ := repsB_ok ds its.toList hr
      exact ⟨.ref a, rfl, fun ρ H => .lst (.inr ⟨_, its, n, q, by rw [hc], rfl, rfl, hz, h1⟩) (h2 ρ H)⟩
    · cases h
  | .ref _, _, h => by simp [repB] at h
  | .non, .ellipsis, h | .non, .notImplemented, h | .non, .bool _, h | .non, .int _ _, h | .non, .float _ _, h | .non, .str _ _, h | .non, .bytes _ _, h | .non, .type _, h | .non, .builtin _, h | .non, .ref _, h => by simp [repB] at h
  | .bl _, .none, h | .bl _, .ellipsis, h | .bl _, .notImplemented, h | .bl _, .int _ _, h | .bl _, .float _ _, h | .bl _, .str _ _, h | .bl _, .bytes _ _, h | .bl _, .type _, h | .bl _, .builtin _, h | .bl _, .ref _, h => by simp [repB] at h
  | .int _, .none, h | .int _, .ellipsis, h | .int _, .notImplemented, h | .int _, .bool _, h | .int _, .float _ _, h | .int _, .str _ _, h | .int _, .bytes _ _, h | .int _, .type _, h | .int _, .builtin _, h | .int _, .ref _, h => by simp [repB] at h
  | .str _, .none, h | .str _, .ellipsis, h | .str _, .notImplemented, h | .str _, .bool _, h | .str _, .int _ _, h | .str _, .float _ _, h | .str _, .bytes _ _, h | .str _, .type _, h | .str _, .builtin _, h | .str _, .ref _, h => by simp [repB] at h
  | .tup _, .none, h | .tup _, .ellipsis, h | .tup _, .notImplemented, h | .tup _, .bool _, h | .tup _, .int _ _, h | .tup _, .float _ _, h | .tup _, .str _ _, h | .tup _, .bytes _ _, h | .tup _, .type _, h | .tup _, .builtin _, h => by simp [repB] at h
  | .lst _, .none, h | .lst _, .ellipsis, h | .lst _, .notImplemented, h | .lst _, .bool _, h | .lst _, .int _ _, h | .lst _, .float _ _, h | .lst _, .str _ _, h | .lst _, .bytes _ _, h | .lst _, .type _, h | .lst _, .builtin _, h => by simp [repB] at h
theorem repsB_ok {K : PySem.W.Frag} : ∀ (ds : List D) (us : List Value), repsB K ds us = true → ∃ vs, Vals vs us ∧ ∀ ρ H, Reps K ρ H ds vs
  | [], [], _ => ⟨[], .nil, fun _ _ => .nil⟩
  | d :: ds, u :: us, h => by
    have h : (repB K d u && repsB K ds us) = true := by simpa [repsB] using h
    rw [Bool.and_eq_true] at h
    obtain ⟨v, h1, h2⟩ := repB_ok d u h.1
    obtain ⟨vs, h3, h4⟩ := repsB_ok ds us h.2
    exact ⟨v :: vs, .cons h1 h3, fun ρ H => .cons (h2 ρ H) (h4 ρ H)⟩
  | [], _ :: _, h => by simp [repsB] at h
  | _ :: _, [], h => by simp [repsB] at h
end
def conB (cs : List (Str × D)) (K : PySem.W.Frag) : Bool := cs.all fun q => match PySem.W.nsIn K mainGlobals q.1 with
  | some (some u) => repB K q.2 u
  | _ => false
/-- an exception class of the program that isinstance asks -/
def excCB (K : PySem.W.Frag) (D : Addr) : Bool :=
  (PySem.W.findIn K (.ref D) "__getattribute__" == some (some (.builtin "BaseException.__getattribute__"))) && ((PySem.W.findIn K (.ref D) "__getattr__" == some none) && ((PySem.W.subIn K (.ref D) (.type "BaseException") == some true) && (PySem.W.hasDictIn K D &&
  ((PySem.W.findIn K (.ref D) "__class__" == some (some (.builtin "object.__class__"))) && ((PySem.W.specialIn K (.builtin "object.__class__") "__get__" == some (some (.builtin "getset_descriptor.__get__"))) && ((PySem.W.takesIn K (.builtin "object.__class__") == some true) && (PySem.W.mroIn K D (.type "object") == some true)))))))
theorem excCB_ok {K : PySem.W.Frag} {D : Addr} (h : excCB K D = true) : ExcC K D := by
  unfold excCB at h
  simp only [Bool.and_eq_true, beq_iff_eq] at h
  obtain ⟨h1, h2, h3, h4, h5, h6, h7, h8⟩ := h
  exact ⟨h1, h2, h3, h4, h5, h6, h7, h8⟩
def kitB1 (frees : List Str) (K : PySem.W.Frag) (x y : Str) (b : Bool) : Bool := match PySem.W.nsIn K mainGlobals y with
  | some (some (.ref a)) => (PySem.W.kitOne K (.ref (He.ga K x)) (.ref a) == some b) && (PySem.W.exmOne K (.ref (He.ga K x)) (.ref a) == some b)
  | _ => frees.contains y && (match bootBuiltins y with
    | some (.type n) => (PySem.W.kitOne K (.ref (He.ga K x)) (.type n) == some b) && (PySem.W.exmOne K (.ref (He.ga K x)) (.type n) == some b)
    | _ => false)
def kitB (kt : KitT) (frees : List Str) (K : PySem.W.Frag) : Bool := kt.all fun q => excCB K (He.ga K q.1) && q.2.all fun r => kitB1 frees K q.1 r.1 r.2
/-! ### the Hook: the defs, the facts, the constants -/
def refsQ (g : Addr → Option Obj) (a : Addr) : List Addr := match g a with
  | some o => He.refsD o
  | none => []
/-- addresses not met yet; those met are bits of a number -/
def newQ : List Addr → Nat → List Addr → (Nat → List Addr → List Addr) → List Addr
  | [], s, r, k => k s r
  | a :: as, s, r, k => match Nat.beq (Nat.mod (Nat.shiftRight s a) 2) 1 with
    | true => newQ as s r k
    | false => newQ as (Nat.add s (Nat.pow 2 a)) (a :: r) k
def bfsQ (g : Addr → Option Obj) : Nat → Nat → List Addr → List Addr → List Addr
  | 0, _, _, acc => acc
  | n + 1, s, fr, acc => newQ (fr.flatMap (refsQ g)) s [] fun s' r => bfsQ g n s' r (acc ++ r)
/-- what the module's names reach in n steps -/
def asQ (g : Addr → Option Obj) (n : Nat) : List Addr := bfsQ g n (Nat.pow 2 mainGlobals) [mainGlobals] [mainGlobals]
/-- a dict of the top: its keys, with their hashes -/
abbrev DkO := List (Option (List (Option (Str × Int))))
def dkW (K : PySem.W.Frag) (x : Str) : Option (List (Option (Str × Int))) := match PySem.W.nsIn K mainGlobals x with
  | some (some (.ref a)) => He.dicW K a
  | _ => none
def dkO (K : PySem.W.Frag) (ts : DkT) : DkO := ts.map fun t => dkW K t.1
def dkV (w : World) (ts : DkT) : DkO := ts.map fun t => some (He.keysIn w.params t.2)
abbrev AlQ := (He.AlD × Bool) × DkO
def obsK (fa : List He.Fa) (fn : List He.DefD) (cs : List (Str × D)) (kt : KitT) (frees : List Str) (ts : DkT) (K : PySem.W.Frag) : AlQ := ((He.obsD fa fn K, conB cs K && kitB kt frees K), dkO K ts)
def obsE (n : Nat) (fa : List He.Fa) (fn : List He.DefD) (cs : List (Str × D)) (kt : KitT) (frees : List Str) (ts : DkT) (g : Addr → Option Obj) : AlQ := obsK fa fn cs kt frees ts (He.frG g (asQ g n))
def SaysQ (fa : List He.Fa) (fn : List He.DefD) (cs : List (Str × D)) (kt : KitT) (frees : List Str) (ts : DkT) (w : World) (K : PySem.W.Frag) : Prop := He.SaysD fa fn K ∧ (conB cs K && kitB kt frees K) = true ∧ dkO K ts = dkV w ts
def hookE (n : Nat) (fa : List He.Fa) (fn : List He.DefD) (cs : List (Str × D)) (kt : KitT) (frees : List Str) (ts : DkT) : PySem.W.Hook where
  α := AlQ
  obs := fun s => obsE n fa fn cs kt frees ts s.heap.get?
  val := fun w => ((He.valD fn, true), dkV w ts)
  says := fun w h => ∃ K : PySem.W.Frag, K.In h ∧ SaysQ fa fn cs kt frees ts w K
  of := fun _ _ e => ⟨_, He.frG_in, congrArg (fun z : AlQ => z.1.1) e, congrArg (fun z : AlQ => z.1.2) e, congrArg (fun z : AlQ => z.2) e⟩
  keeps := fun _ _ _ ⟨K, hK, c⟩ k => ⟨K, PySem.W.Frag.In.keeps hK k, c⟩
theorem keys_any {P : Params} : ∀ {l : List DictEntry} {ks : List Str}, l.map He.keyOf = He.keysIn P ks → ∀ z : Str, (∃ r, (match l.find? (·.key.isStr z) with
      | some e => some (some e.val)
      | none => if l.any (·.refKey) then none else some none) = some r ∧ r.isSome = ks.contains z)
  | [], [], _, z => ⟨none, rfl, rfl⟩
  | [], _ :: _, h, _ => by cases h
  | _ :: _, [], h, _ => by cases h
  | e :: l, k :: ks, h, z => by
    have h1 : He.keyOf e :: l.map He.keyOf = some (k, PyData.keyHash P k) :: He.keysIn P ks := h
    injection h1 with h2 h3
    obtain ⟨r, q1, q2⟩ := keys_any h3 z
    unfold He.keyOf at h2
    split at h2
    · rename_i x t q
      have h4 := Option.some.inj h2
      obtain ⟨h5, -⟩ := Prod.mk.inj h4
      subst h5
      have rk : e.refKey = false := by unfold DictEntry.refKey; rw [q]
      by_cases c : x = z
      · refine ⟨some e.val, ?_, ?_⟩
        · have : e.key.isStr z = true := by rw [q, c]; simp [Value.isStr]
          rw [List.find?_cons, this]
        · rw [List.contains_cons, c]; simp
      · refine ⟨r, ?_, ?_⟩
        · have : e.key.isStr z = false := by rw [q]; simp [Value.isStr, c]
          rw [List.find?_cons, this, List.any_cons, rk, Bool.false_or]
          exact q1
        · rw [q2, List.contains_cons]
          have : (z == x) = false := by simpa using fun e => c e.symm
          rw [this, Bool.false_or]
    · cases h2
theorem dk_says {w : World} {K : PySem.W.Frag} {ts : DkT} (h : dkO K ts = dkV w ts) {g : Str} {ks : List Str} (hg : (g, ks) ∈ ts) : ∃ a es n, PySem.W.nsIn K mainGlobals g = some (some (.ref a)) ∧ KDict K w a es n ∧ ∀ z, ∃ r, PySem.W.nsIn K a z = some r ∧ r.isSome = ks.contains z := by
  have e : dkW K g = some (He.keysIn w.params ks) := (List.map_inj_left.mp h) (g, ks) hg
  unfold dkW at e
  split at e
  · next a q =>
    obtain ⟨es, n, kd⟩ := He.dicW_ok e
    refine ⟨a, es, n, q, kd, fun z => ?_⟩
    have e2 : es.toList.map He.keyOf = He.keysIn w.params ks := by
      unfold He.dicW at e
      rw [kd.at_] at e
      simp only at e
      split at e
      · exact Option.some.inj e
      · cases e
    have := keys_any e2 z
    unfold PySem.W.nsIn
    rw [kd.at_]
    exact this
  · cases e
theorem obsE_eq {n : Nat} {fa : List He.Fa} {fn : List He.DefD} {cs : List (Str × D)} {kt : KitT} {frees : List Str} {ts : DkT} {g : Addr → Option Obj} {s : Shared} (h : ∀ a, g a = s.heap.get? a) : obsE n fa fn cs kt frees ts g = (hookE n fa fn cs kt frees ts).obs s := by
  have e : g = s.heap.get? := funext h
  rw [e] <;> rfl
def DefR.fas (r : DefR) : List He.Fa := match r.cl with
  | none => [.glo r.nm]
  | some C => if r.nm == "__init__" then [.glo C, .mkr C] else [.cls C, .meth C r.nm]
def factsF (ft : FldT) : List He.Fa := ft.flatMap fun q => q.2.flatMap fun C => [.cls C, .noat C q.1]
def facts (rs : List DefR) (frees excs : List Str) (ft : FldT) : List He.Fa := rs.flatMap DefR.fas ++ (frees.map .free ++ (excs.map .glo ++ (excs.map .exc ++ factsF ft)))
theorem at_of {r : DefR} {K : PySem.W.Frag} {mg : Str → Option Value} {h : Heap} (X : K.In h) (G : h.Ns mainGlobals mg) (hd : r.cl = none ∨ r.dfl = []) (c : ∀ f ∈ r.fas, f.ok K = true) : r.AtK K mg := by
  unfold DefR.fas at c
  unfold DefR.AtK
  cases e : r.cl with
  | none =>
    rw [e] at c
    exact He.glo_ok X G (c _ (List.mem_cons_self ..))
  | some C =>
    rw [e] at c
    refine ⟨hd.resolve_left (by rw [e]; simp), ?_⟩
    simp only at c
    split
    · next z =>
      rw [if_pos z] at c
      exact ⟨He.glo_ok X G (c _ (List.mem_cons_self ..)), He.mkr_ok (c _ (List.mem_cons_of_mem _ (List.mem_cons_self ..)))⟩
    · next z =>
      rw [if_neg z] at c
      exact ⟨He.cls_ok (c _ (List.mem_cons_self ..)), He.meth_ok (c _ (List.mem_cons_of_mem _ (List.mem_cons_self ..)))⟩
theorem lookup_mem' {β : Type} {x : Str} {d : β} : ∀ {l : List (Str × β)}, l.lookup x = some d → (x, d) ∈ l
  | [], h => by cases h
  | (b, u) :: r, h => by
    rw [List.lookup_cons] at h
    split at h
    · next q =>
      cases h
      rw [beq_iff_eq.mp q]
      exact List.mem_cons_self ..
    · exact List.mem_cons_of_mem _ (lookup_mem' h)
section
variable {P : Program} {w : World} {K : PySem.W.Frag} {mg : Str → Option Value} {base h : Heap}
theorem cfg_start {fa : List He.Fa} {fn : List He.DefD} {cs : List (Str × D)} {frees excs : List Str} {muts : List (Nat × Nat)} {kt : KitT} {ft : FldT} {mb : MutB} {ts : DkT} (X : K.In h) (G : h.Ns mainGlobals mg) (c : He.SaysD fa fn K) (cc : conB cs K = true) (ck : kitB kt frees K = true) (cd : dkO K ts = dkV w ts)
    (hf : ∀ x ∈ frees, He.Fa.free x ∈ fa) (he : ∀ x ∈ excs, He.Fa.glo x ∈ fa ∧ He.Fa.exc x ∈ fa) (hft : ∀ f ∈ factsF ft, f ∈ fa) : CfgOk P w K mg base ⟨He.ga K, none⟩ 0 (cfg0 cs frees excs muts kt ft mb ts) where
  fn := fun x φ h => by cases h
  var := fun x d h => by
    have h : cs.lookup x = some d := h
    have hm : (x, d) ∈ cs := lookup_mem' h
    have := List.all_eq_true.mp cc _ hm
    split at this
    · next u q =>
      obtain ⟨v, h1, h2⟩ := repB_ok d u this
      exact ⟨u, v, PySem.W.mg_of X G q, h1, h2⟩
    · cases this
  free := fun x h => by
    have h : x ∈ frees := List.contains_iff_mem.mp h
    exact He.free_ok X G (c.facts (hf x h))
  exc := fun x h => by
    have h : x ∈ excs := List.contains_iff_mem.mp h
    obtain ⟨h1, h2⟩ := he x h
    obtain ⟨q1, q2, q3, q4⟩ := He.exc_ok (c.facts h2)
    exact ⟨He.glo_ok X G (c.facts h1), q1, q2, q3, q4⟩
  fld := fun C f h => by
    have h : ((ft.lookup f).getD []).contains C = true := h
    cases q : ft.lookup f with
    | none => rw [q] at h; cases h
    | some Cs =>
      rw [q] at h
      have h : C ∈ Cs := List.contains_iff_mem.mp h
      have m : ∀ z ∈ [He.Fa.cls C, He.Fa.noat C f], z ∈ fa := fun z hz => hft z (List.mem_flatMap.mpr ⟨(f, Cs), lookup_mem' q, List.mem_flatMap.mpr ⟨C, h, hz⟩⟩)
      exact ⟨He.cls_ok (c.facts (m _ (List.mem_cons_self ..))), He.noat_ok (c.facts (m _ (List.mem_cons_of_mem _ (List.mem_cons_self ..))))⟩
  dk := fun g ks h => by
    obtain ⟨a, es, n, q1, q2, q3⟩ := dk_says cd (lookup_mem' h)
    exact ⟨a, es, n, PySem.W.mg_of X G q1, q2, q3⟩
  meth := fun _ _ _ h => by cases h
  mkr := fun _ _ h => by cases h
  kit := fun x y b h => by
    have h : kitOf kt x y = some b := h
    unfold kitOf at h
    split at h
    · next ys q =>
      have h1 := List.all_eq_true.mp ck _ (lookup_mem' q)
      simp only [Bool.and_eq_true] at h1
      have h2 := List.all_eq_true.mp h1.2 _ (lookup_mem' h)
      unfold kitB1 at h2
      split at h2
      · next a z =>
        rw [Bool.and_eq_true, beq_iff_eq, beq_iff_eq] at h2
        exact ⟨.ref a, .ref a, .inl ⟨PySem.W.mg_of X G z, rfl⟩, .own a, h2.1, h2.2, excCB_ok h1.1⟩
      · rw [Bool.and_eq_true] at h2
        obtain ⟨h3, h4⟩ := h2
        split at h4
        · next n z =>
          rw [Bool.and_eq_true, beq_iff_eq, beq_iff_eq] at h4
          exact ⟨.ty n, .type n, .inr ⟨He.free_ok X G (c.facts (hf y (List.contains_iff_mem.mp h3))), z, rfl⟩, .ty n, h4.1, h4.2, excCB_ok h1.1⟩
        · cases h4
    · cases h
theorem all_ok {rs : List DefR} {r : DefR} {cs : List (Str × D)} {frees excs : List Str} {muts : List (Nat × Nat)} {kt : KitT} {ft : FldT} {mb : MutB} {ts : DkT} {fuel : Nat} (X : K.In h) (G : h.Ns mainGlobals mg) (c : He.SaysD (facts (rs ++ [r]) frees excs ft) ((rs ++ [r]).map DefR.d) K) (cc : conB cs K = true) (ck : kitB kt frees K = true) (cd : dkO K ts = dkV w ts)
    (st : Steps fuel (cfg0 cs frees excs muts kt ft mb ts) rs) (ok : r.Ok) (hD : r.dfl = []) (hC : r.cl = none) (hcl : rs.all (fun q => q.cl.isNone || q.dfl.isEmpty) = true) (e : runF (allC (cfg0 cs frees excs muts kt ft mb ts) rs) r.frz r.ps r.N (scopeOf r.st) fuel (bodyOf r.st) = r.φ) :
    mg r.nm = some (.ref (He.ga K r.nm)) ∧ ∃ fd, (∀ (s : Shared) (us : List Value), us.length = r.ps.length → BindsTo s fd ⟨us, []⟩ (r.ps.zip us)) ∧
      ∀ base : Heap, FnOk P w K mg base (L2.CX P w) (levs rs + 1) (He.ga K r.nm) fd r.ps (spOf K ⟨He.ga K, none⟩ r.φ) := by
  have fa : ∀ q ∈ rs ++ [r], ∀ f ∈ q.fas, f ∈ facts (rs ++ [r]) frees excs ft := fun q hq f hf => List.mem_append_left _ (List.mem_flatMap.mpr ⟨q, hq, hf⟩)
  have cl : ∀ q ∈ rs ++ [r], q.cl = none ∨ q.dfl = [] := fun q hq => by
    rcases List.mem_append.mp hq with h | h
    · have := List.all_eq_true.mp hcl q h
      rw [Bool.or_eq_true] at this
      exact this.imp Option.isNone_iff_eq_none.mp List.isEmpty_iff.mp
    · exact .inl (by rw [List.mem_singleton.mp h]; exact hC)
  have df : ∀ q ∈ rs ++ [r], q.AtK K mg ∧ ∃ fd, FunD K q.fn q.qual (argsOf q.st) (bodyOf q.st) (scopeOf q.st) (q.dfl.map V.int) [] (He.fAd K q.pl) fd := fun q hq => by
    obtain ⟨fd, F⟩ := c.defs (List.mem_map_of_mem (f := DefR.d) hq)
    have e : He.DefD.dvs K q.d = q.dfl.map V.int := by
      show (q.dfl.map He.Dv.int).map (He.Dv.v K) = _
      rw [List.map_map]; rfl
    have F' : FunD K q.fn q.qual (argsOf q.st) (bodyOf q.st) (scopeOf q.st) (He.DefD.dvs K q.d) [] (He.fAd K q.pl) fd := F
    rw [e] at F'
    exact ⟨at_of X G (cl q hq) fun f hf => c.facts (fa q hq f hf), fd, F'⟩
  obtain ⟨hm, fd, F⟩ := df r (by simp)
  have hm : mg r.nm = some (.ref (He.ga K r.nm)) := by
    unfold DefR.AtK at hm
    rw [hC] at hm
    exact hm
  have ea : He.fAd K r.pl = He.ga K r.nm := by
    unfold DefR.pl
    rw [hC]
    rfl
  rw [hD, ea] at F
  refine ⟨hm, fd, fun s us hl => F.bindsA (ok.bind hD) s us hl, fun base => ?_⟩
  have C0 : CfgOk P w K mg base ⟨He.ga K, none⟩ 0 (cfg0 cs frees excs muts kt ft mb ts) := cfg_start X G c cc ck cd
    (fun x hx => List.mem_append_right _ (List.mem_append_left _ (List.mem_map_of_mem hx)))
    (fun x hx => ⟨List.mem_append_right _ (List.mem_append_right _ (List.mem_append_left _ (List.mem_map_of_mem hx))), List.mem_append_right _ (List.mem_append_right _ (List.mem_append_right _ (List.mem_append_left _ (List.mem_map_of_mem hx))))⟩)
    (fun f hf => List.mem_append_right _ (List.mem_append_right _ (List.mem_append_right _ (List.mem_append_right _ hf))))
  have C := chain (fun _ => rfl) rfl (c := cfg0 cs frees excs muts kt ft mb ts) rfl st C0 fun q hq => df q (List.mem_append_left _ hq)
  rw [Nat.zero_add] at C
  have FO := fn_ok (cA := ⟨He.ga K, none⟩) (fuel := fuel) (frz := r.frz) F (C8.fnScope_by ok.sc) C (allC_hot rfl) rfl
  rw [e] at FO
  exact FO
theorem reps_ints {ρ : Pl} {H : Hp} : ∀ ns : List Int, Reps K ρ H (ns.map D.int) (ns.map V.int)
  | [] => .nil
  | n :: ns => .cons (.int n) (reps_ints ns)
/-- the promise at the law's own list -/
theorem at_law {cA : CA} {φ : Fn} {H : Hp} {a : Addr} {ns : List Int} (hO : Only H) (hS : SqL K H a (ns.map V.int)) (hφ : ∃ S, φ [.lst (ns.map D.int)] [] = .ok (.bl true) S) :
    spOf K cA φ [.ref a] H (fun v _ => v = .bl true) fun _ _ _ => False := by
  obtain ⟨S, e⟩ := hφ
  refine ⟨⟨[], [], cA.pin⟩, [.lst (ns.map D.int)], [], .cons (.lst ?_ (reps_ints ns)) .nil, ⟨rfl, List.nodup_nil, by intro l o h; simp at h, by simp, rfl⟩, ?_⟩
  · rcases hS with h | ⟨o, its, n, h⟩
    · exact .inl ⟨h, by rintro (z | z) <;> simp at z⟩
    · exact .inr ⟨o, its, n, h⟩
  · rw [e]
    intro ρ' H' v _ _ r
    cases r
    rfl
end
def CXA (P : Program) : CXT := fun o H s E e s' => ∃ w, L2.CX P w o H s E e s'
theorem FnOk.wide {P : Program} {w : World} {K : PySem.W.Frag} {mg : Str → Option Value} {base : Heap} {k : Nat} {f : Addr} {fd : FuncData} {ps : List Str} {sp : Sp} (F : L2.FnOk P w K mg base (L2.CX P w) k f fd ps sp) : L2.FnOk P w K mg base (CXA P) k f fd ps sp :=
  ⟨F.len, fun A outer s H args us vs Q E hr he hb hv hs => codeAny_mono (F.run A outer s H args us vs Q E hr he hb hv hs) fun r s' h => by
    cases r with
    | error e => exact ⟨w, h⟩
    | ok fl => cases fl <;> exact h⟩
/-- THE END: a law whose text the interpreter answers with True -/
theorem law_walk {l : PySem.W.OpenLaw} {q : Program} {loose : List Str} {XP : (Str → Option Value) → Heap → Prop} {d : DefRec} {rs : List DefR} {r : DefR} {cs : List (Str × D)} {frees excs : List Str} {muts : List (Nat × Nat)} {kt : KitT} {ft : FldT} {mb : MutB} {ts : DkT} {fuel n k : Nat} {x : Str}
    (hn : l.most = some n) (hn2 : n ≤ sizeLine) (hdf : d.params.defaults = []) (hr : Room (levs rs + 1) callerA) (hnm : d.name = r.nm) (hp : r.ps = [x])
    (st : Steps fuel (cfg0 cs frees excs muts kt ft mb ts) rs) (ok : r.Ok) (hD : r.dfl = []) (hC : r.cl = none) (hcl : rs.all (fun q => q.cl.isNone || q.dfl.isEmpty) = true) (e : runF (allC (cfg0 cs frees excs muts kt ft mb ts) rs) r.frz r.ps r.N (scopeOf r.st) fuel (bodyOf r.st) = r.φ)
    (hφ : ∀ ns : List Int, ns.length ≤ n → ∃ S, r.φ [.lst (ns.map D.int)] [] = .ok (.bl true) S) :
    PySem.W.WalkO q loose XP (hookE k (facts (rs ++ [r]) frees excs ft) ((rs ++ [r]).map DefR.d) cs kt frees ts).says l.row.toRowW d [] (fun f vs => PySem.call f vs) := by
  refine L2.walk_ofE (CX := CXA l.prog) (x := x) hn hn2 hdf hr ?_ ?_
  · intro w mg fa h Y G hmg
    obtain ⟨K, KX, c, cq, cd⟩ := Y
    rw [Bool.and_eq_true] at cq
    obtain ⟨cc, ck⟩ := cq
    obtain ⟨hm, fd, hb, hF⟩ := all_ok (P := l.prog) (w := w) KX G c cc ck cd st ok hD hC hcl e
    rw [hnm, hm] at hmg
    cases hmg
    refine ⟨K, fd, spOf K ⟨He.ga K, none⟩ r.φ, KX, fun s u => ?_, fun H a ns hl hO hS => at_law hO hS (hφ ns hl), fun base _ _ => ?_⟩
    · have := hb s [u] (by rw [hp]; rfl)
      rw [hp] at this
      exact this
    · have := FnOk.wide (hF base)
      rw [hp] at this
      exact this
  · rintro H s e s' ⟨w, a, B, H', cls, d, _, _, _, _, _, _, _, z⟩
    exact z
end Q
/-! Q14: how the combinators are walked: rules, each for one head. -/
namespace Q
open PySem L2
abbrev EX := Str → Store → Prop
abbrev noX : EX := fun _ _ => False
/-- what a piece of work gives -/
structure W {α : Type} (r : Out α) (Q : α → Store → Prop) (E : EX) : Prop where
  out : match r with
    | .ok a S => Q a S
    | .exc c S => E c S
    | .bad => False
structure G {α : Type} (f : Env → Store → Out α) (σ : Env) (S : Store) (Q : α → Store → Prop) (E : EX) : Prop where
  out : W (f σ S) Q E
structure Bn (S : Store) (op : Operator) (x y : D) (Q : D → Prop) : Prop where
  out : ∃ d, binD S op x y = some d ∧ Q d
structure Cp (S : Store) (op : CmpOp) (x y : D) (Q : Bool → Prop) : Prop where
  out : ∃ b, cmpD S op x y = some b ∧ Q b
structure Tr (S : Store) (x : D) (Q : Bool → Prop) : Prop where
  out : ∃ b, truth S x = some b ∧ Q b
structure Bl (x : D) (Q : Bool → Prop) : Prop where
  out : ∃ b, x = .bl b ∧ Q b
structure IxP (S : Store) (x i : D) (Q : D → Prop) : Prop where
  out : ∃ d, ixD S x i = some d ∧ Q d
structure SlP (S : Store) (x : D) (l h : Option Int) (Q : D → Prop) : Prop where
  out : ∃ d, slD S x l h = some d ∧ Q d
structure IsP (S : Store) (x : D) (t : Str) (Q : Bool → Prop) : Prop where
  out : ∃ b, isTy S x t = some b ∧ Q b
structure BsP (S : Store) (b : Blt) (xs : List D) (Q : D → Prop) : Prop where
  out : ∃ d, b.sem S xs = some d ∧ Q d
structure FlP (cs : List Str) (S : Store) (x : D) (f : Str) (Q : D → Prop) : Prop where
  out : ∃ d, fldD cs S x f = some d ∧ Q d
structure FsP (cs : List Str) (S : Store) (x v : D) (f : Str) (Q : Store → Prop) : Prop where
  out : ∃ S', fldS cs S x v f = some S' ∧ Q S'
structure MeP (ts : List (Str × Fn)) (S : Store) (x : D) (m : Str) (A : MId → Prop) (B : Fn → Prop) : Prop where
  out : (∃ i, mIdD S x m = some i ∧ A i) ∨ (mIdD S x m = none ∧ ∃ φ, methD ts S x m = some φ ∧ B φ)
structure MdP (S : Store) (x : D) (m : Str) (Q : MId → Prop) : Prop where
  out : ∃ i, mIdD S x m = some i ∧ Q i
structure MtP (S : Store) (i : MId) (x : D) (xs : List D) (Q : D → Store → Prop) : Prop where
  out : ∃ d S', mthD S i x xs = some (d, S') ∧ Q d S'
structure LnP (n : Nat) (Q : Prop) : Prop where
  out : n ≤ 16777216 ∧ Q
structure IoP (x : D) (Q : Int → Prop) : Prop where
  out : ∃ i, x = .int i ∧ Q i
structure R1P (j : Int) (Q : Prop) : Prop where
  out : small62 j = true ∧ Q
structure ItP (S : Store) (x : D) (Q : Items → Prop) : Prop where
  out : ∃ it, itersD S x = some it ∧ Q it
structure EnP (S : Store) (x : D) (Q : Items → Prop) : Prop where
  out : ∃ it, enumD S x = some it ∧ Q it
structure ZpP (x y : D) (Q : Items → Prop) : Prop where
  out : ∃ it, zipD x y = some it ∧ Q it
structure RvP (S : Store) (x : D) (Q : D → Prop) : Prop where
  out : ∃ d, revD S x = some d ∧ Q d
structure LsP (S : Store) (x : D) (Q : D → Prop) : Prop where
  out : ∃ d, lenSetD S x = some d ∧ Q d
structure DcP (S : Store) (xs : List D) (Q : D → Store → Prop) : Prop where
  out : ∃ x d S', xs = [x] ∧ dictD S x = some (d, S') ∧ Q d S'
structure KyP (x : D) (Q : L2.Key → Prop) : Prop where
  out : ∃ k, keyD x = some k ∧ Q k
structure Br (k : Bool) (A B : Prop) : Prop where
  out : (k = true → A) ∧ (k = false → B)
structure StP (σ : Env) (i : Nat) (d : D) (Q : Env → Prop) : Prop where
  out : Q (σ.set i (some d))
structure BdP (bd : Env → D → Option Env) (σ : Env) (d : D) (Q : Env → Prop) : Prop where
  out : ∃ σ', bd σ d = some σ' ∧ Q σ'
structure TsP (σ : Env) (is : List Nat) (xs : List D) (Q : Env → Prop) : Prop where
  out : Q (setAll σ is xs)
structure SdP (S : Store) (o i v : D) (Q : Store → Prop) : Prop where
  out : ∃ S', setD S o i v = some S' ∧ Q S'
structure CtP (S : Store) (op : Operator) (x y : D) (Q : List D → Prop) : Prop where
  out : ∃ xs, catD S op x y = some (.lst xs) ∧ Q xs
structure LiP (S : Store) (xs : List D) (Q : List D → Prop) : Prop where
  out : ∃ x ys, xs = [x] ∧ listD S x = some (.lst ys) ∧ Q ys
structure DkP (ks : List Str) (x : D) (Q : Bool → Prop) : Prop where
  out : ∃ z, x = .str z ∧ Q (ks.contains z)
structure EqL (n m : Nat) (Q : Prop) : Prop where
  out : n = m ∧ Q
/-- a comprehension's turns -/
structure CfP (it : Items) (f : D → Store → Out (Option D)) (S : Store) (Q : List D → Store → Prop) : Prop where
  out : W (compF it f loopMost 0 [] S) Q noX
structure CfX (it : Items) (f : D → Store → Out (Option D)) (S : Store) (Q : List D → Store → Prop) (E : EX) : Prop where
  out : W (compF it f loopMost 0 [] S) Q E
/-- how a statement may end -/
structure Ks where
  nx : Env → Store → Prop
  rt : D → Store → Prop
  bk : Env → Store → Prop
  ct : Env → Store → Prop
  ex : Str → Env → Store → Prop
def kOf (K : Ks) : Fl → Prop
  | .nx σ S => K.nx σ S
  | .rt d S => K.rt d S
  | .bk σ S => K.bk σ S
  | .ct σ S => K.ct σ S
  | .exc x σ S => K.ex x σ S
  | .bad => False
structure Z (z : XS) (σ : Env) (S : Store) (K : Ks) : Prop where
  out : kOf K (z σ S)
structure SnP (σ : Env) (i : Nat) (q : Env → Prop) : Prop where
  out : q (σ.set i none)
/-- an error that a try meets -/
structure TyP (i : Nat) (nd : Bool) (kt : Str → Str → Option Bool) (y : Str) (h : Str → XS) (x : Str) (σ : Env) (S : Store) (K : Ks) : Prop where
  out : kOf K (match kt x y with
    | some true => if nd && decide (σ.length ≤ i) then .bad else hotEnd i (h x (σ.set i none) S)
    | some false => .exc x σ S
    | none => .bad)
structure LpP (it : Items) (f : D → Env → Store → Fl) (σ : Env) (S : Store) (K : Ks) : Prop where
  out : kOf K (forF it f loopMost 0 σ S)
structure WhP (t : XT) (b : XS) (σ : Env) (S : Store) (K : Ks) : Prop where
  out : kOf K (whileF t b loopMost σ S)
section
variable {α β : Type} {S : Store} {σ : Env} {E : EX} {QD : D → Store → Prop} {QB : Bool → Store → Prop} {QA : List D → Store → Prop} {QO : Option Int → Store → Prop} {QI : Items → Store → Prop} {a b c d : XE} {t : XT} {as : XA} {op op' : CmpOp} {bo : Operator} {x y : D} {i j : Nat} {P : D → Prop} {PB : Bool → Prop}
theorem W.bind {r : Out α} {f : α → Store → Out β} {Q : β → Store → Prop} (h : W r (fun x S1 => W (f x S1) Q E) E) : W (r.bind f) Q E := by
  obtain ⟨h⟩ := h
  cases r with
  | ok x S => exact h
  | exc x S => exact ⟨h⟩
  | bad => exact h.elim
theorem W.ofO {o : Option α} {Q : α → Store → Prop} (h : ∃ d, o = some d ∧ Q d S) : W (_root_.Q.ofO S o) Q E := by
  obtain ⟨d, rfl, h⟩ := h
  exact ⟨h⟩
theorem W.post {r : Out α} {Q Q' : α → Store → Prop} (h : W r Q E) (hq : ∀ x S, Q x S → Q' x S) : W r Q' E := by
  obtain ⟨h⟩ := h
  refine ⟨?_⟩
  cases r with
  | ok x S => exact hq _ _ h
  | exc x S => exact h
  | bad => exact h.elim
theorem G_isE {kt : Str → Str → Option Bool} {x : Str} {ts : List Str} {k : Bool} (e : kitS kt x ts = some k) (h : QD (.bl k) S) : G (isE kt x ts) σ S QD E := by
  refine ⟨?_⟩
  unfold isE
  rw [e]
  exact ⟨h⟩
theorem G_kk (h : QD x S) : G (kk x) σ S QD E := ⟨⟨h⟩⟩
theorem G_vv0 (h : QD x S) : G (vv 0) (some x :: σ) S QD E := ⟨⟨h⟩⟩
theorem G_vvs {o : Option D} (h : G (vv i) σ S QD E) : G (vv (i + 1)) (o :: σ) S QD E := by
  obtain ⟨⟨h⟩⟩ := h
  exact ⟨⟨h⟩⟩
theorem G_vv (e : σ[i]? = some (some x)) (h : QD x S) : G (vv i) σ S QD E := by
  refine ⟨⟨?_⟩⟩
  unfold vv
  rw [e]
  exact h
theorem G_bi (h : G a σ S (fun x S1 => G b σ S1 (fun y S2 => Bn S2 bo x y fun d => QD d S2) E) E) : G (bi bo a b) σ S QD E :=
  ⟨.bind (h.out.post fun _ _ h => .bind (h.out.post fun _ _ h => .ofO h.out))⟩
theorem map_ex {o : Option α} {f : α → D} (h : ∃ b, o = some b ∧ P (f b)) : ∃ d, o.map f = some d ∧ P d := by
  obtain ⟨b, rfl, h⟩ := h
  exact ⟨_, rfl, h⟩
theorem G_biM (h : G a σ S (fun x S1 => G b σ S1 (fun y S2 => CtP S2 bo x y fun xs => QD (.ref S2.length) (S2 ++ [.lst xs])) E) E) : G (biM bo a b) σ S QD E :=
  ⟨.bind (h.out.post fun _ _ h => .bind (h.out.post fun _ _ h => by
    obtain ⟨xs, e, h⟩ := h.out
    simp only [e]
    exact ⟨h⟩))⟩
theorem G_liM (h : G as σ S (fun xs S1 => LiP S1 xs fun ys => QD (.ref S1.length) (S1 ++ [.lst ys])) E) : G (liM as) σ S QD E :=
  ⟨.bind (h.out.post fun _ _ h => by
    obtain ⟨x, ys, rfl, e, h⟩ := h.out
    simp only [e]
    exact ⟨h⟩)⟩
theorem G_dkc {ks : List Str} (h : G a σ S (fun x S1 => DkP ks x fun k => QD (.bl k) S1) E) : G (dkc ks a) σ S QD E :=
  ⟨.bind (h.out.post fun _ _ h => by
    obtain ⟨z, rfl, h2⟩ := h.out
    exact ⟨h2⟩)⟩
theorem G_nt (h : G a σ S (fun x S1 => Tr S1 x fun b => QD (.bl (!b)) S1) E) : G (nt a) σ S QD E :=
  ⟨.bind (h.out.post fun _ _ h => .ofO (map_ex (P := fun d => QD d _) h.out))⟩
theorem G_ng (h : G a σ S (fun x S1 => IoP x fun i => QD (.int (-i)) S1) E) : G (ng a) σ S QD E :=
  ⟨.bind (h.out.post fun _ _ h => by obtain ⟨i, rfl, h'⟩ := h.out; exact ⟨h'⟩)⟩
theorem G_cm (h : G a σ S (fun x S1 => G b σ S1 (fun y S2 => Cp S2 op x y fun k => QD (.bl k) S2) E) E) : G (cm op a b) σ S QD E :=
  ⟨.bind (h.out.post fun _ _ h => .bind (h.out.post fun _ _ h => .ofO (map_ex (P := fun d => QD d _) h.out)))⟩
theorem G_cm2 (h : G a σ S (fun x S1 => G b σ S1 (fun y S2 => Cp S2 op x y fun k => Br k (G d σ S2 (fun z S3 => Cp S3 op' y z fun k => QD (.bl k) S3) E) (QD (.bl false) S2)) E) E) : G (cm2 op op' a b d) σ S QD E :=
  ⟨.bind (h.out.post fun _ _ h => .bind (h.out.post fun _ _ h => by
    obtain ⟨k, e, h⟩ := h.out
    rw [e]
    cases k with
    | true => exact .bind ((h.out.1 rfl).out.post fun _ _ h => .ofO (map_ex (P := fun d => QD d _) h.out))
    | false => exact ⟨h.out.2 rfl⟩))⟩
theorem Br.w {k : Bool} {r r' : Out α} {Q : α → Store → Prop} (h : Br k (W r Q E) (W r' Q E)) : W (if k = true then r else r') Q E := by
  cases k with
  | true => exact h.out.1 rfl
  | false => exact h.out.2 rfl
theorem Br.imp {k : Bool} {A B A' B' : Prop} (h : Br k A B) (f : A → A') (g : B → B') : Br k A' B' := ⟨⟨fun e => f (h.out.1 e), fun e => g (h.out.2 e)⟩⟩
theorem G_ie (h : G t σ S (fun k S1 => Br k (G a σ S1 QD E) (G b σ S1 QD E)) E) : G (ie t a b) σ S QD E :=
  ⟨.bind (h.out.post fun _ _ h => (h.imp (fun h => h.out) fun h => h.out).w)⟩
theorem LnP.w {n : Nat} {r : Out α} {Q : α → Store → Prop} (h : LnP n (W r Q E)) : W (if n ≤ 16777216 then r else .bad) Q E := by
  rw [if_pos h.out.1]
  exact h.out.2
theorem G_lsv (h : G as σ S (fun xs S1 => LnP xs.length (QD (.lst xs) S1)) E) : G (lsv as) σ S QD E :=
  ⟨.bind (h.out.post fun _ _ h => LnP.w ⟨h.out.1, ⟨h.out.2⟩⟩)⟩
theorem G_lsm (h : G as σ S (fun xs S1 => LnP xs.length (QD (.ref S1.length) (S1 ++ [.lst xs]))) E) : G (lsm as) σ S QD E :=
  ⟨.bind (h.out.post fun _ _ h => LnP.w ⟨h.out.1, ⟨h.out.2⟩⟩)⟩
theorem G_tu (h : G as σ S (fun xs S1 => LnP xs.length (QD (.tup xs) S1)) E) : G (tu as) σ S QD E :=
  ⟨.bind (h.out.post fun _ _ h => LnP.w ⟨h.out.1, ⟨h.out.2⟩⟩)⟩
theorem G_di0 (h : QD (.ref S.length) (S ++ [.dic []])) : G di0 σ S QD E := ⟨⟨h⟩⟩
theorem G_sl {lo hi : XO} (h : G a σ S (fun x S1 => G lo σ S1 (fun l S2 => G hi σ S2 (fun u S3 => SlP S3 x l u fun d => QD d S3) E) E) E) : G (sl a lo hi) σ S QD E :=
  ⟨.bind (h.out.post fun _ _ h => .bind (h.out.post fun _ _ h => .bind (h.out.post fun _ _ h => .ofO h.out)))⟩
structure SmP (S : Store) (x : D) (l h : Option Int) (Q : D → Store → Prop) : Prop where
  out : ∃ xs, slD S x l h = some (.lst xs) ∧ Q (.ref S.length) (S ++ [.lst xs])
theorem G_slm {lo hi : XO} (h : G a σ S (fun x S1 => G lo σ S1 (fun l S2 => G hi σ S2 (fun u S3 => SmP S3 x l u QD) E) E) E) : G (slm a lo hi) σ S QD E :=
  ⟨.bind (h.out.post fun _ _ h => .bind (h.out.post fun _ _ h => .bind (h.out.post fun _ _ h => by
    obtain ⟨xs, e, h⟩ := h.out
    rw [e]
    exact ⟨h⟩)))⟩
structure FmP (x : D) (Q : D → Prop) : Prop where
  out : ∃ d, fmtD x = some d ∧ Q d
theorem G_fmv (h : G a σ S (fun x S1 => FmP x fun d => QD d S1) E) : G (fmv a) σ S QD E :=
  ⟨.bind (h.out.post fun _ _ h => .ofO h.out)⟩
structure JnP (x : D) (acc : Str) (Q : Str → Prop) : Prop where
  out : ∃ y, x = .str y ∧ (acc ++ y).length ≤ 16777216 ∧ Q (acc ++ y)
theorem G_j0 {acc : Str} (h : QD (.str acc) S) : G (joinF [] acc) σ S QD E := ⟨⟨h⟩⟩
theorem G_j1 {acc : Str} {ts : List XE} (h : G a σ S (fun x S1 => JnP x acc fun acc' => G (joinF ts acc') σ S1 QD E) E) : G (joinF (a :: ts) acc) σ S QD E :=
  ⟨.bind (h.out.post fun _ _ h => by
    obtain ⟨y, rfl, hy, h⟩ := h.out
    show W (if (acc ++ y).length ≤ 16777216 then _ else _) _ _
    rw [if_pos hy]
    exact h.out)⟩
theorem G_fst {ts : List XE} (h : G (joinF ts Str.empty) σ S QD E) : G (fst ts) σ S QD E := ⟨h.out⟩
theorem G_ix (h : G a σ S (fun x S1 => G b σ S1 (fun y S2 => IxP S2 x y fun d => QD d S2) E) E) : G (ix a b) σ S QD E :=
  ⟨.bind (h.out.post fun _ _ h => .bind (h.out.post fun _ _ h => .ofO h.out))⟩
theorem G_ca {φ : Fn} (h : G as σ S (fun xs S1 => W (φ xs S1) QD E) E) : G (ca φ as) σ S QD E := ⟨.bind h.out⟩
theorem G_bl {bt : Blt} (h : G as σ S (fun xs S1 => BsP S1 bt xs fun d => QD d S1) E) : G (bl bt as) σ S QD E :=
  ⟨.bind (h.out.post fun _ _ h => .ofO h.out)⟩
theorem G_isn {ty : Str} (h : G a σ S (fun x S1 => IsP S1 x ty fun k => QD (.bl k) S1) E) : G (isn a ty) σ S QD E :=
  ⟨.bind (h.out.post fun _ _ h => .ofO (map_ex (P := fun d => QD d _) h.out))⟩
theorem G_me {m : Str} (h : G a σ S (fun x S1 => MdP S1 x m fun i => G as σ S1 (fun xs S2 => MtP S2 i x xs QD) E) E) : G (me m a as) σ S QD E :=
  ⟨.bind (h.out.post fun _ _ h => by
    obtain ⟨i, e, h⟩ := h.out
    rw [e]
    exact .bind (h.out.post fun _ _ h => by
      obtain ⟨d, S', e, h⟩ := h.out
      rw [e]
      exact ⟨h⟩))⟩
structure MmP (S : Store) (x : D) (xs : List D) (Q : List D → Prop) : Prop where
  out : ∃ ys, mthD S .split x xs = some (.lst ys, S) ∧ Q ys
theorem G_meM {m : Str} (h : G a σ S (fun x S1 => MdP S1 x m fun i => i = .split ∧ G as σ S1 (fun xs S2 => MmP S2 x xs fun ys => QD (.ref S2.length) (S2 ++ [.lst ys])) E) E) : G (meM m a as) σ S QD E :=
  ⟨.bind (h.out.post fun _ _ h => by
    obtain ⟨i, e, rfl, h⟩ := h.out
    rw [e]
    exact .bind (h.out.post fun _ _ h => by
      obtain ⟨ys, e, h⟩ := h.out
      unfold mtM
      rw [e]
      exact ⟨h⟩))⟩
theorem G_meT {ts : List (Str × Fn)} {m : Str} (h : G a σ S (fun x S1 => MeP ts S1 x m (fun i => G as σ S1 (fun xs S2 => MtP S2 i x xs QD) E) (fun φ => G as σ S1 (fun xs S2 => W (φ (x :: xs) S2) QD E) E)) E) : G (meT ts m a as) σ S QD E :=
  ⟨.bind (h.out.post fun _ _ h => by
    rcases h.out with ⟨i, e, h⟩ | ⟨e, φ, e2, h⟩
    · rw [e]
      exact .bind (h.out.post fun _ _ h => by
        obtain ⟨d, S', e, h⟩ := h.out
        rw [e]
        exact ⟨h⟩)
    · rw [e]
      simp only [e2]
      exact .bind h.out)⟩
theorem G_fl {cs : List Str} {f : Str} (h : G a σ S (fun x S1 => FlP cs S1 x f fun d => QD d S1) E) : G (fl cs f a) σ S QD E :=
  ⟨.bind (h.out.post fun _ _ h => .ofO h.out)⟩
theorem G_mkI {C : Str} {φ : Fn} (h : G as σ S (fun xs S1 => W (φ (.ref S1.length :: xs) (S1 ++ [.ins C []])) (fun d S2 => d = .non ∧ QD (.ref S1.length) S2) E) E) : G (mkI C φ as) σ S QD E :=
  ⟨.bind (h.out.post fun xs S1 h => by
    obtain ⟨h⟩ := h
    refine ⟨?_⟩
    unfold makeD
    cases e : φ (.ref S1.length :: xs) (S1 ++ [.ins C []]) with
    | bad => rw [e] at h; exact h
    | exc y S' => rw [e] at h; exact h
    | ok d S' =>
      rw [e] at h
      obtain ⟨rfl, h⟩ := h
      exact h)⟩
theorem G_andE (h : G a σ S (fun x S1 => Tr S1 x fun k => Br k (G b σ S1 QD E) (QD x S1)) E) : G (andE a b) σ S QD E :=
  ⟨.bind (h.out.post fun _ _ h => by
    obtain ⟨k, e, h⟩ := h.out
    rw [e]
    exact (h.imp (fun h => h.out) fun h => ⟨h⟩).w)⟩
theorem G_orE (h : G a σ S (fun x S1 => Tr S1 x fun k => Br k (QD x S1) (G b σ S1 QD E)) E) : G (orE a b) σ S QD E :=
  ⟨.bind (h.out.post fun _ _ h => by
    obtain ⟨k, e, h⟩ := h.out
    rw [e]
    exact (h.imp (fun h => (⟨h⟩ : W (.ok _ _) QD E)) fun h => h.out).w)⟩
theorem G_tNot (h : G t σ S (fun k S1 => QB (!k) S1) E) : G (tNot t) σ S QB E := ⟨.bind (h.out.post fun _ _ h => ⟨h⟩)⟩
theorem G_tAnd {u : XT} (h : G t σ S (fun k S1 => Br k (G u σ S1 QB E) (QB false S1)) E) : G (tAnd t u) σ S QB E :=
  ⟨.bind (h.out.post fun _ _ h => (h.imp (fun h => h.out) fun h => ⟨h⟩).w)⟩
theorem G_tOr {u : XT} (h : G t σ S (fun k S1 => Br k (QB true S1) (G u σ S1 QB E)) E) : G (tOr t u) σ S QB E :=
  ⟨.bind (h.out.post fun _ _ h => (h.imp (fun h => (⟨h⟩ : W (.ok _ _) QB E)) fun h => h.out).w)⟩
theorem G_tCm (h : G a σ S (fun x S1 => Bl x fun k => QB k S1) E) : G (tCm a) σ S QB E :=
  ⟨.bind (h.out.post fun _ _ h => by obtain ⟨k, rfl, h'⟩ := h.out; exact ⟨h'⟩)⟩
theorem G_tTr (h : G a σ S (fun x S1 => Tr S1 x fun k => QB k S1) E) : G (tTr a) σ S QB E :=
  ⟨.bind (h.out.post fun _ _ h => .ofO h.out)⟩
theorem G_a0 (h : QA [] S) : G a0 σ S QA E := ⟨⟨h⟩⟩
theorem G_a1 (h : G a σ S (fun x S1 => G as σ S1 (fun xs S2 => QA (x :: xs) S2) E) E) : G (a1 a as) σ S QA E :=
  ⟨.bind (h.out.post fun _ _ h => .bind (h.out.post fun _ _ h => ⟨h⟩))⟩
theorem G_p0 (h : QO none S) : G p0 σ S QO E := ⟨⟨h⟩⟩
theorem G_p1 (h : G a σ S (fun x S1 => IoP x fun i => QO (some i) S1) E) : G (p1 a) σ S QO E :=
  ⟨.bind (h.out.post fun _ _ h => by obtain ⟨i, rfl, h'⟩ := h.out; exact ⟨h'⟩)⟩
theorem G_iv (h : G a σ S (fun x S1 => ItP S1 x fun it => QI it S1) E) : G (iv a) σ S QI E :=
  ⟨.bind (h.out.post fun _ _ h => .ofO h.out)⟩
theorem G_zen (h : G a σ S (fun x S1 => EnP S1 x fun it => QI it S1) E) : G (zen a) σ S QI E :=
  ⟨.bind (h.out.post fun _ _ h => .ofO h.out)⟩
theorem G_zzp (h : G a σ S (fun x S1 => G b σ S1 (fun y S2 => ZpP x y fun it => QI it S2) E) E) : G (zzp a b) σ S QI E :=
  ⟨.bind (h.out.post fun _ _ h => .bind (h.out.post fun _ _ h => .ofO h.out))⟩
theorem G_rvs (h : G a σ S (fun x S1 => RvP S1 x fun d => QD d S1) E) : G (rvs a) σ S QD E :=
  ⟨.bind (h.out.post fun _ _ h => .ofO h.out)⟩
theorem G_lset (h : G a σ S (fun x S1 => LsP S1 x fun d => QD d S1) E) : G (lset a) σ S QD E :=
  ⟨.bind (h.out.post fun _ _ h => .ofO h.out)⟩
theorem G_dct (h : G as σ S (fun xs S1 => DcP S1 xs QD) E) : G (dct as) σ S QD E :=
  ⟨.bind (h.out.post fun _ _ h => by
    obtain ⟨x, d, S', rfl, e, h⟩ := h.out
    show W (ofP (dictD _ x)) _ _
    rw [e]
    exact ⟨h⟩)⟩
theorem G_k0 {QK : List (L2.Key × D) → Store → Prop} (h : QK [] S) : G k0 σ S QK E := ⟨⟨h⟩⟩
theorem G_k1 {r : XK} {QK : List (L2.Key × D) → Store → Prop} (h : G a σ S (fun x S1 => G b σ S1 (fun y S2 => G r σ S2 (fun r S3 => KyP x fun k => QK ((k, y) :: r) S3) E) E) E) : G (k1 a b r) σ S QK E :=
  ⟨.bind (h.out.post fun _ _ h => .bind (h.out.post fun _ _ h => .bind (h.out.post fun _ _ h => by
    obtain ⟨k, e, h⟩ := h.out
    rw [e]
    exact ⟨h⟩)))⟩
theorem G_dis {r : XK} (h : G r σ S (fun kvs S1 => QD (.ref S1.length) (S1 ++ [.dic (mergeG [] kvs)])) E) : G (dis r) σ S QD E :=
  ⟨.bind (h.out.post fun _ _ h => ⟨h⟩)⟩
theorem G_r1 (h : G a σ S (fun x S1 => IoP x fun i => R1P i (QI (rangeD 0 i) S1)) E) : G (r1 a) σ S QI E :=
  ⟨.bind (h.out.post fun _ _ h => by
    obtain ⟨i, rfl, h'⟩ := h.out
    show W (if small62 i = true then _ else _) _ _
    rw [if_pos h'.out.1]
    exact ⟨h'.out.2⟩)⟩
theorem G_r2 (h : G a σ S (fun x S1 => G b σ S1 (fun y S2 => IoP x fun i => IoP y fun j => R1P i (R1P j (QI (rangeD i j) S2))) E) E) : G (r2 a b) σ S QI E :=
  ⟨.bind (h.out.post fun _ _ h => .bind (h.out.post fun _ _ h => by
    obtain ⟨i, rfl, h1⟩ := h.out
    obtain ⟨j, rfl, h2⟩ := h1.out
    show W (if (small62 i && small62 j) = true then _ else _) _ _
    rw [if_pos (by rw [h2.out.1, h2.out.2.out.1]; rfl)]
    exact ⟨h2.out.2.out.2⟩))⟩
theorem W.anyE {r : Out α} {Q : α → Store → Prop} (h : W r Q noX) : W r Q E := by
  obtain ⟨h⟩ := h
  refine ⟨?_⟩
  cases r with
  | ok x S => exact h
  | exc x S => exact h.elim
  | bad => exact h.elim
theorem G_lcv {is : List Nat} {it : XI} {bd : Env → D → Option Env} (h : G it σ S (fun it S1 => CfP it (fun d S2 => match bd (wipeE σ is) d with
    | some σ2 => (a σ2 S2).bind fun y S3 => .ok (some y) S3
    | none => .bad) S1 fun ys S2 => QD (.lst ys) S2) E) : G (lcv is it bd a) σ S QD E :=
  ⟨.bind (h.out.post fun _ _ h => .bind (h.out.anyE.post fun _ _ h => ⟨h⟩))⟩
theorem G_lcv1 {is : List Nat} {it : XI} {bd : Env → D → Option Env} (h : G it σ S (fun it S1 => CfP it (fun d S2 => match bd (wipeE σ is) d with
    | some σ2 => (t σ2 S2).bind fun k S3 => if k = true then (a σ2 S3).bind fun y S4 => .ok (some y) S4 else .ok none S3
    | none => .bad) S1 fun ys S2 => QD (.lst ys) S2) E) : G (lcv1 is it bd t a) σ S QD E :=
  ⟨.bind (h.out.post fun _ _ h => .bind (h.out.anyE.post fun _ _ h => ⟨h⟩))⟩
theorem G_lcm {is : List Nat} {it : XI} {bd : Env → D → Option Env} (h : G it σ S (fun it S1 => CfP it (fun d S2 => match bd (wipeE σ is) d with
    | some σ2 => (a σ2 S2).bind fun y S3 => .ok (some y) S3
    | none => .bad) S1 fun ys S2 => QD (.ref S2.length) (S2 ++ [.lst ys])) E) : G (lcm is it bd a) σ S QD E :=
  ⟨.bind (h.out.post fun _ _ h => .bind (h.out.anyE.post fun _ _ h => ⟨h⟩))⟩
theorem G_lcm1 {is : List Nat} {it : XI} {bd : Env → D → Option Env} (h : G it σ S (fun it S1 => CfP it (fun d S2 => match bd (wipeE σ is) d with
    | some σ2 => (t σ2 S2).bind fun k S3 => if k = true then (a σ2 S3).bind fun y S4 => .ok (some y) S4 else .ok none S3
    | none => .bad) S1 fun ys S2 => QD (.ref S2.length) (S2 ++ [.lst ys])) E) : G (lcm1 is it bd t a) σ S QD E :=
  ⟨.bind (h.out.post fun _ _ h => .bind (h.out.anyE.post fun _ _ h => ⟨h⟩))⟩
theorem GX_lcv {is : List Nat} {it : XI} {bd : Env → D → Option Env} (h : G it σ S (fun it S1 => CfX it (fun d S2 => match bd (wipeE σ is) d with
    | some σ2 => (a σ2 S2).bind fun y S3 => .ok (some y) S3
    | none => .bad) S1 (fun ys S2 => QD (.lst ys) S2) E) E) : G (lcv is it bd a) σ S QD E :=
  ⟨.bind (h.out.post fun _ _ h => .bind (h.out.post fun _ _ h => ⟨h⟩))⟩
theorem GX_lcm {is : List Nat} {it : XI} {bd : Env → D → Option Env} (h : G it σ S (fun it S1 => CfX it (fun d S2 => match bd (wipeE σ is) d with
    | some σ2 => (a σ2 S2).bind fun y S3 => .ok (some y) S3
    | none => .bad) S1 (fun ys S2 => QD (.ref S2.length) (S2 ++ [.lst ys])) E) E) : G (lcm is it bd a) σ S QD E :=
  ⟨.bind (h.out.post fun _ _ h => .bind (h.out.post fun _ _ h => ⟨h⟩))⟩
/-! statements -/
variable {nx bk ct : Env → Store → Prop} {rt : D → Store → Prop} {ex : Str → Env → Store → Prop} {z z' : XS}
abbrev oX (ex : Str → Env → Store → Prop) (σ : Env) : EX := fun x S => ex x σ S
theorem use_k {r : Out α} {f : α → Store → Fl} (h : W r (fun x S1 => kOf ⟨nx, rt, bk, ct, ex⟩ (f x S1)) (oX ex σ)) : kOf ⟨nx, rt, bk, ct, ex⟩ (r.use σ f) := by
  obtain ⟨h⟩ := h
  cases r with
  | ok x S => exact h
  | exc x S => exact h
  | bad => exact h.elim
theorem Z_pass (h : nx σ S) : Z zPass σ S ⟨nx, rt, bk, ct, ex⟩ := ⟨h⟩
theorem Z_brk (h : bk σ S) : Z zBrk σ S ⟨nx, rt, bk, ct, ex⟩ := ⟨h⟩
theorem Z_cnt (h : ct σ S) : Z zCnt σ S ⟨nx, rt, bk, ct, ex⟩ := ⟨h⟩
theorem Z_ret0 (h : rt .non S) : Z zRet0 σ S ⟨nx, rt, bk, ct, ex⟩ := ⟨h⟩
theorem Z_ret (h : G a σ S rt (oX ex σ)) : Z (zRet a) σ S ⟨nx, rt, bk, ct, ex⟩ := ⟨use_k h.out⟩
theorem Z_exp (h : G a σ S (fun _ S1 => nx σ S1) (oX ex σ)) : Z (zExp a) σ S ⟨nx, rt, bk, ct, ex⟩ := ⟨use_k h.out⟩
theorem Z_if (h : G t σ S (fun k S1 => Br k (Z z σ S1 ⟨nx, rt, bk, ct, ex⟩) (Z z' σ S1 ⟨nx, rt, bk, ct, ex⟩)) (oX ex σ)) : Z (zIf t z z') σ S ⟨nx, rt, bk, ct, ex⟩ :=
  ⟨use_k (h.out.post fun k S1 h => by
    cases k with
    | true => exact (h.out.1 rfl).out
    | false => exact (h.out.2 rfl).out)⟩
theorem Z_set (h : G a σ S (fun d S1 => StP σ i d fun σ1 => nx σ1 S1) (oX ex σ)) : Z (zSet i a) σ S ⟨nx, rt, bk, ct, ex⟩ :=
  ⟨use_k (h.out.post fun _ _ h => h.out)⟩
theorem Z_tup {is : List Nat} (h : G a σ S (fun d S1 => BdP (bT is) σ d fun σ1 => nx σ1 S1) (oX ex σ)) : Z (zTup is a) σ S ⟨nx, rt, bk, ct, ex⟩ :=
  ⟨use_k (h.out.post fun _ _ h => by
    obtain ⟨σ1, e, h⟩ := h.out
    rw [e]
    exact h)⟩
theorem Z_par {is : List Nat} (h : G as σ S (fun ds S1 => EqL ds.length is.length (TsP σ is ds fun σ1 => nx σ1 S1)) (oX ex σ)) : Z (zPar is as) σ S ⟨nx, rt, bk, ct, ex⟩ :=
  ⟨use_k (h.out.post fun _ _ h => by
    rw [if_pos h.out.1]
    exact h.out.2.out)⟩
/-- targets of all sorts, one behind the other -/
structure RnP (gs : List (D → Env → Store → Fl)) (ds : List D) (σ : Env) (S : Store) (K : Ks) : Prop where
  out : kOf K (runT gs ds σ S)
structure TgP (g : D → Env → Store → Fl) (d : D) (σ : Env) (S : Store) (K : Ks) : Prop where
  out : kOf K (g d σ S)
theorem Rn_0 (h : nx σ S) : RnP [] [] σ S ⟨nx, rt, bk, ct, ex⟩ := ⟨h⟩
theorem Rn_s {g : D → Env → Store → Fl} {gs : List (D → Env → Store → Fl)} {d : D} {ds : List D} (h : TgP g d σ S ⟨fun σ1 S1 => RnP gs ds σ1 S1 ⟨nx, rt, bk, ct, ex⟩, rt, bk, ct, ex⟩) : RnP (g :: gs) (d :: ds) σ S ⟨nx, rt, bk, ct, ex⟩ := by
  obtain ⟨h⟩ := h
  refine ⟨?_⟩
  show kOf ⟨nx, rt, bk, ct, ex⟩ ((g d σ S).seq (runT gs ds))
  cases e : g d σ S with
  | nx σ1 S1 => rw [e] at h; exact h.out
  | _ => rw [e] at h; exact h
theorem Tg_N {d : D} (h : StP σ i d fun σ1 => nx σ1 S) : TgP (tgN i) d σ S ⟨nx, rt, bk, ct, ex⟩ := ⟨h.out⟩
theorem Tg_A {cs : List Str} {f : Str} {d : D} (h : G a σ S (fun x S2 => FsP cs S2 x d f fun S3 => nx σ S3) (oX ex σ)) : TgP (tgA cs f a) d σ S ⟨nx, rt, bk, ct, ex⟩ :=
  ⟨use_k (h.out.post fun _ _ h => by
    obtain ⟨S4, e, h⟩ := h.out
    rw [e]
    exact h)⟩
theorem Tg_I {d : D} (h : G a σ S (fun x S2 => G b σ S2 (fun y S3 => SdP S3 x y d fun S4 => nx σ S4) (oX ex σ)) (oX ex σ)) : TgP (tgI a b) d σ S ⟨nx, rt, bk, ct, ex⟩ :=
  ⟨use_k (h.out.post fun _ _ h => use_k (h.out.post fun _ _ h => by
    obtain ⟨S4, e, h⟩ := h.out
    rw [e]
    exact h))⟩
structure MxP (gs : List (D → Env → Store → Fl)) (d : D) (σ : Env) (S : Store) (K : Ks) : Prop where
  out : ∃ ds, d = .tup ds ∧ ds.length = gs.length ∧ RnP gs ds σ S K
theorem Mx_t {gs : List (D → Env → Store → Fl)} {ds : List D} {K : Ks} (hl : ds.length = gs.length) (h : RnP gs ds σ S K) : MxP gs (.tup ds) σ S K := ⟨⟨ds, rfl, hl, h⟩⟩
theorem Z_mix {gs : List (D → Env → Store → Fl)} (h : G a σ S (fun d S1 => MxP gs d σ S1 ⟨nx, rt, bk, ct, ex⟩) (oX ex σ)) : Z (zMix gs a) σ S ⟨nx, rt, bk, ct, ex⟩ :=
  ⟨use_k (h.out.post fun _ _ h => by
    obtain ⟨ds, rfl, hl, h⟩ := h.out
    show kOf _ (if ds.length = gs.length then _ else _)
    rw [if_pos hl]
    exact h.out)⟩
theorem Z_sub (h : G c σ S (fun d S1 => G a σ S1 (fun x S2 => G b σ S2 (fun y S3 => SdP S3 x y d fun S4 => nx σ S4) (oX ex σ)) (oX ex σ)) (oX ex σ)) : Z (zSub a b c) σ S ⟨nx, rt, bk, ct, ex⟩ :=
  ⟨use_k (h.out.post fun _ _ h => use_k (h.out.post fun _ _ h => use_k (h.out.post fun _ _ h => by
    obtain ⟨S4, e, h⟩ := h.out
    rw [e]
    exact h)))⟩
theorem Z_fld {cs : List Str} {f : Str} (h : G b σ S (fun d S1 => G a σ S1 (fun x S2 => FsP cs S2 x d f fun S3 => nx σ S3) (oX ex σ)) (oX ex σ)) : Z (zFld cs f a b) σ S ⟨nx, rt, bk, ct, ex⟩ :=
  ⟨use_k (h.out.post fun _ _ h => use_k (h.out.post fun _ _ h => by
    obtain ⟨S4, e, h⟩ := h.out
    rw [e]
    exact h))⟩
theorem Z_seq (h : Z z σ S ⟨fun σ1 S1 => Z z' σ1 S1 ⟨nx, rt, bk, ct, ex⟩, rt, bk, ct, ex⟩) : Z (zSeq z z') σ S ⟨nx, rt, bk, ct, ex⟩ := by
  obtain ⟨h⟩ := h
  refine ⟨?_⟩
  show kOf ⟨nx, rt, bk, ct, ex⟩ ((z σ S).seq z')
  cases e : z σ S with
  | nx σ1 S1 => rw [e] at h; exact h.out
  | _ => rw [e] at h; exact h
/-- what holds behind an if -/
theorem Z_ifm {z1 z2 : XS} (J : Env → Store → Prop) (h : Z (zIf t z1 z2) σ S ⟨J, rt, bk, ct, ex⟩) (h2 : ∀ σ1 S1, J σ1 S1 → Z z' σ1 S1 ⟨nx, rt, bk, ct, ex⟩) : Z (zSeq (zIf t z1 z2) z') σ S ⟨nx, rt, bk, ct, ex⟩ := by
  obtain ⟨h⟩ := h
  refine ⟨?_⟩
  show kOf ⟨nx, rt, bk, ct, ex⟩ ((zIf t z1 z2 σ S).seq z')
  cases e : zIf t z1 z2 σ S with
  | nx σ1 S1 => rw [e] at h; exact (h2 _ _ h).out
  | _ => rw [e] at h; exact h
/-- try: what comes of the body; what comes of the suite -/
theorem Z_try {i : Nat} {nd : Bool} {kt : Str → Str → Option Bool} {y : Str} {b : XS} {h : Str → XS} (hb : Z b σ S ⟨nx, rt, bk, ct, fun x σ1 S1 => TyP i nd kt y h x σ1 S1 ⟨nx, rt, bk, ct, ex⟩⟩) : Z (zTry i nd kt y b h) σ S ⟨nx, rt, bk, ct, ex⟩ := by
  obtain ⟨hb⟩ := hb
  refine ⟨?_⟩
  unfold zTry
  cases e : b σ S with
  | nx σ1 S1 => rw [e] at hb; exact hb
  | rt d S1 => rw [e] at hb; exact hb
  | bk σ1 S1 => rw [e] at hb; exact hb
  | ct σ1 S1 => rw [e] at hb; exact hb
  | bad => rw [e] at hb; exact hb
  | exc x σ1 S1 => rw [e] at hb; exact hb.out
theorem Ty_yes {i : Nat} {nd : Bool} {kt : Str → Str → Option Bool} {x y : Str} {h : Str → XS} (e : kt x y = some true) (l : (nd && decide (σ.length ≤ i)) = false)
    (hh : SnP σ i fun σ0 => Z (h x) σ0 S ⟨fun σ S => SnP σ i fun σ1 => nx σ1 S, rt, fun σ S => SnP σ i fun σ1 => bk σ1 S, fun σ S => SnP σ i fun σ1 => ct σ1 S, fun _ _ _ => False⟩) : TyP i nd kt y h x σ S ⟨nx, rt, bk, ct, ex⟩ := by
  refine ⟨?_⟩
  simp only [e, l, Bool.false_eq_true, if_false]
  obtain ⟨hh⟩ := hh.out
  cases z : h x (σ.set i none) S with
  | nx σ1 S1 => rw [z] at hh; exact hh.out
  | rt d S1 => rw [z] at hh; exact hh
  | bk σ1 S1 => rw [z] at hh; exact hh.out
  | ct σ1 S1 => rw [z] at hh; exact hh.out
  | bad => rw [z] at hh; exact hh
  | exc x σ1 S1 => rw [z] at hh; exact hh.elim
theorem Ty_no {i : Nat} {nd : Bool} {kt : Str → Str → Option Bool} {x y : Str} {h : Str → XS} (e : kt x y = some false) (hh : ex x σ S) : TyP i nd kt y h x σ S ⟨nx, rt, bk, ct, ex⟩ := by
  refine ⟨?_⟩
  simp only [e]
  exact hh
theorem Z_mid (J : Env → Store → Prop) (h : Z z σ S ⟨J, rt, bk, ct, ex⟩) (h2 : ∀ σ1 S1, J σ1 S1 → Z z' σ1 S1 ⟨nx, rt, bk, ct, ex⟩) : Z (zSeq z z') σ S ⟨nx, rt, bk, ct, ex⟩ := by
  obtain ⟨h⟩ := h
  refine ⟨?_⟩
  show kOf ⟨nx, rt, bk, ct, ex⟩ ((z σ S).seq z')
  cases e : z σ S with
  | nx σ1 S1 => rw [e] at h; exact (h2 _ _ h).out
  | _ => rw [e] at h; exact h
theorem Z_while (h : WhP t z σ S ⟨nx, rt, bk, ct, ex⟩) : Z (zWhile t z) σ S ⟨nx, rt, bk, ct, ex⟩ := ⟨h.out⟩
theorem Z_for {bd : Env → D → Option Env} {it : XI} (h : G it σ S (fun it S1 => LpP it (fun d σ1 S2 => match bd σ1 d with
    | some σ2 => z σ2 S2
    | none => .bad) σ S1 ⟨nx, rt, bk, ct, ex⟩) (oX ex σ)) : Z (zFor bd it z) σ S ⟨nx, rt, bk, ct, ex⟩ := ⟨use_k (h.out.post fun _ _ h => h.out)⟩
theorem Z_raise {x : Str} (h : ex x σ S) : Z (zRaise x) σ S ⟨nx, rt, bk, ct, ex⟩ := ⟨h⟩
/-! a def -/
structure FnP (frz : Bool) (n : Nat) (d : D) (S : Store) (Q : D → Store → Prop) (E : EX) : Prop where
  out : W (fin frz n d S) Q E
abbrev kF (frz : Bool) (n : Nat) (Q : D → Store → Prop) (E : EX) : Ks where
  nx := fun _ S' => FnP frz n .non S' Q E
  rt := fun d S' => FnP frz n d S' Q E
  bk := fun _ _ => False
  ct := fun _ _ => False
  ex := fun x _ S' => W (finX n x S') Q E
theorem W_dF {frz : Bool} {np nn : Nat} {args : List D} {σ : Env} (h : Z z σ S (kF frz S.length QD E)) (hl : args.length = np := by rfl) (e : args.map some ++ List.replicate (nn - args.length) none = σ := by rfl) : W (dF frz np nn z args S) QD E := by
  subst e
  unfold dF
  rw [if_pos hl]
  obtain ⟨h⟩ := h
  cases e : z (args.map some ++ List.replicate (nn - args.length) none) S with
  | nx σ1 S1 => rw [e] at h; exact h.out
  | rt d S1 => rw [e] at h; exact h.out
  | exc x σ1 S1 => rw [e] at h; exact h
  | bk σ1 S1 => rw [e] at h; exact h.elim
  | ct σ1 S1 => rw [e] at h; exact h.elim
  | bad => rw [e] at h; exact h.elim
theorem FnP_same {n : Nat} {S' : Store} (hl : S'.length = n) (h : QD x S') : FnP false n x S' QD E := by
  refine ⟨?_⟩
  unfold fin
  simp only [hl, and_self, ↓reduceIte]
  exact ⟨h⟩
theorem FnP_self (h : QD x S) : FnP false S.length x S QD E := FnP_same rfl h
/-! ### values -/
variable {n m : Int} {Q : D → Prop} {xs ys : List D}
theorem Bn_add (h : Q (.int (n + m))) : Bn S .Add (.int n) (.int m) Q := ⟨⟨_, rfl, h⟩⟩
theorem Bn_sub (h : Q (.int (n - m))) : Bn S .Sub (.int n) (.int m) Q := ⟨⟨_, rfl, h⟩⟩
theorem Bn_mul (hb : n.natAbs.log2 + m.natAbs.log2 < 1000000) (h : Q (.int (n * m))) : Bn S .Mult (.int n) (.int m) Q := ⟨⟨_, by simp only [binD, arith, if_pos hb, Option.map_some], h⟩⟩
theorem Bn_fdiv (hb : 0 < m ∧ m.natAbs.log2 < 9000) (h : Q (.int (n / m))) : Bn S .FloorDiv (.int n) (.int m) Q := ⟨⟨_, by simp only [binD, arith, if_pos hb, Option.map_some], h⟩⟩
theorem Bn_mod (hb : 0 < m) (h : Q (.int (n % m))) : Bn S .Mod (.int n) (.int m) Q := ⟨⟨_, by simp only [binD, arith, if_pos hb, Option.map_some], h⟩⟩
theorem Bn_pow (hb : 0 ≤ m ∧ m ≤ 1000000 ∧ n.natAbs < 2 ^ 64) (h : Q (.int (n ^ m.toNat))) : Bn S .Pow (.int n) (.int m) Q := ⟨⟨_, by simp only [binD, arith, if_pos hb, Option.map_some], h⟩⟩
theorem Bn_shl (hb : 0 ≤ m ∧ (Builtin.Int.intBits n : Int) + m ≤ 2 ^ 27) (h : Q (.int (n * 2 ^ m.toNat))) : Bn S .LShift (.int n) (.int m) Q := ⟨⟨_, by simp only [binD, arith, if_pos hb, Option.map_some], h⟩⟩
theorem Bn_shr (hb : 0 ≤ m) (h : Q (.int (n / 2 ^ m.toNat))) : Bn S .RShift (.int n) (.int m) Q := ⟨⟨_, by simp only [binD, arith, if_pos hb, Option.map_some], h⟩⟩
theorem Bn_and (h : Q (.int (Builtin.bitAnd n m))) : Bn S .BitAnd (.int n) (.int m) Q := ⟨⟨_, rfl, h⟩⟩
theorem Bn_str {u v : Str} (hb : u.length + v.length ≤ 16777216) (h : Q (.str (u ++ v))) : Bn S .Add (.str u) (.str v) Q := ⟨⟨_, by simp only [binD, if_pos hb], h⟩⟩
theorem Bn_strN {u : Str} (hb : -1000000 ≤ n ∧ n ≤ 1000000 ∧ u.length * n.toNat ≤ 1000000) (h : Q (.str (timesS u n))) : Bn S .Mult (.str u) (.int n) Q := ⟨⟨_, by simp only [binD, if_pos hb], h⟩⟩
theorem Bn_tupN (hb : -1000000 ≤ n ∧ n ≤ 1000000 ∧ xs.length * n.toNat ≤ 1000000) (h : Q (.tup (List.replicate n.toNat xs).flatten)) : Bn S .Mult (.tup xs) (.int n) Q := ⟨⟨_, by simp only [binD, if_pos hb], h⟩⟩
theorem Bn_lstN (hb : -1000000 ≤ n ∧ n ≤ 1000000 ∧ xs.length * n.toNat ≤ 1000000) (h : Q (.lst (List.replicate n.toNat xs).flatten)) : Bn S .Mult (.lst xs) (.int n) Q := ⟨⟨_, by simp only [binD, catD, seqL, if_pos hb], h⟩⟩
theorem Bn_tup (hb : xs.length + ys.length ≤ 16777216) (h : Q (.tup (xs ++ ys))) : Bn S .Add (.tup xs) (.tup ys) Q := ⟨⟨_, by simp only [binD, if_pos hb], h⟩⟩
theorem Bn_lst (hb : xs.length + ys.length ≤ 16777216) (h : Q (.lst (xs ++ ys))) : Bn S .Add (.lst xs) (.lst ys) Q := ⟨⟨_, by
  have h1 : xs.length ≤ 16777216 := by omega
  have h2 : ys.length ≤ 16777216 := by omega
  simp only [binD, catD, seqL, if_pos (And.intro h1 (And.intro h2 hb))], h⟩⟩
theorem Cp_lt (h : PB (decide (n < m))) : Cp S .Lt (.int n) (.int m) PB := ⟨⟨_, rfl, h⟩⟩
theorem Cp_le (h : PB (decide (n ≤ m))) : Cp S .LtE (.int n) (.int m) PB := ⟨⟨_, rfl, h⟩⟩
theorem Cp_gt (h : PB (decide (m < n))) : Cp S .Gt (.int n) (.int m) PB := ⟨⟨_, rfl, h⟩⟩
theorem Cp_ge (h : PB (decide (m ≤ n))) : Cp S .GtE (.int n) (.int m) PB := ⟨⟨_, rfl, h⟩⟩
theorem eqD_int : eqD S (.int n) (.int m) = some (decide (n = m)) := by
  have : eqD S (.int n) (.int m) = some (PyData.eqv (.int n) (.int m)) := rfl
  rw [this, PyData.eqv]
  rfl
theorem Cp_eqi (h : PB (decide (n = m))) : Cp S .Eq (.int n) (.int m) PB := ⟨⟨_, eqD_int (S := S), h⟩⟩
theorem Cp_nei (h : PB (!decide (n = m))) : Cp S .NotEq (.int n) (.int m) PB := ⟨⟨_, (congrArg (Option.map (! ·)) (eqD_int (S := S) (n := n) (m := m)) : _), h⟩⟩
theorem Cp_is {k l : Bool} (h : PB (decide (k = l))) : Cp S .Is (.bl k) (.bl l) PB := ⟨⟨_, rfl, h⟩⟩
theorem Cp_isn {k l : Bool} (h : PB (!decide (k = l))) : Cp S .IsNot (.bl k) (.bl l) PB := ⟨⟨_, rfl, h⟩⟩
theorem Cp_eqb {k l : Bool} (h : PB (k == l)) : Cp S .Eq (.bl k) (.bl l) PB := ⟨⟨_, by cases k <;> cases l <;> rfl, h⟩⟩
theorem Cp_neb {k l : Bool} (h : PB (k != l)) : Cp S .NotEq (.bl k) (.bl l) PB := ⟨⟨_, by cases k <;> cases l <;> rfl, h⟩⟩
/-- by computing -/
theorem Cp_by {k : Bool} (e : cmpD S op x y = some k) (h : PB k) : Cp S op x y PB := ⟨⟨_, e, h⟩⟩
theorem Tr_bl {k : Bool} (h : PB k) : Tr S (.bl k) PB := ⟨⟨_, rfl, h⟩⟩
theorem Tr_int (h : PB (n != 0)) : Tr S (.int n) PB := ⟨⟨_, rfl, h⟩⟩
theorem Tr_non (h : PB false) : Tr S .non PB := ⟨⟨_, rfl, h⟩⟩
theorem Tr_lst (h : PB (!xs.isEmpty)) : Tr S (.lst xs) PB := ⟨⟨_, rfl, h⟩⟩
theorem Tr_tup (h : PB (!xs.isEmpty)) : Tr S (.tup xs) PB := ⟨⟨_, rfl, h⟩⟩
theorem Bl_bl {k : Bool} (h : PB k) : Bl (.bl k) PB := ⟨⟨_, rfl, h⟩⟩
theorem Io_int {q : Int → Prop} (h : q n) : IoP (.int n) q := ⟨⟨_, rfl, h⟩⟩
theorem R1_mk {q : Prop} (hb : -(2 ^ 62) ≤ n ∧ n < 2 ^ 62) (h : q) : R1P n q := ⟨⟨by unfold small62; simp only [Bool.and_eq_true, decide_eq_true_eq]; exact hb, h⟩⟩
theorem Ix_by (e : ixD S x y = some (x' : D)) (h : Q x') : IxP S x y Q := ⟨⟨_, e, h⟩⟩
theorem atI_nat {xs : List D} {k : Int} (h0 : 0 ≤ k) (h1 : k < xs.length) : ∃ d, L2.atI xs k = some d ∧ xs[k.toNat]? = some d := by
  unfold L2.atI L2.ixN
  rw [if_pos h0, if_pos h1]
  have : k.toNat < xs.length := by omega
  exact ⟨xs[k.toNat], by simp [this], by simp [this]⟩
theorem Ix_lst {k : Int} (h0 : 0 ≤ k) (h1 : k < xs.length) (h : ∀ d, xs[k.toNat]? = some d → Q d) : IxP S (.lst xs) (.int k) Q := by
  obtain ⟨d, e1, e2⟩ := atI_nat h0 h1
  exact ⟨⟨d, e1, h d e2⟩⟩
theorem Ix_tup {k : Int} (h0 : 0 ≤ k) (h1 : k < xs.length) (h : ∀ d, xs[k.toNat]? = some d → Q d) : IxP S (.tup xs) (.int k) Q := by
  obtain ⟨d, e1, e2⟩ := atI_nat h0 h1
  exact ⟨⟨d, e1, h d e2⟩⟩
theorem Is_by {ty : Str} {k : Bool} (e : isTy S x ty = some k) (h : PB k) : IsP S x ty PB := ⟨⟨_, e, h⟩⟩
theorem Bs_by {bt : Blt} (e : bt.sem S xs = some x) (h : Q x) : BsP S bt xs Q := ⟨⟨_, e, h⟩⟩
theorem Bs_int (h : Q (.int n)) : BsP S .int [.int n] Q := ⟨⟨_, rfl, h⟩⟩
theorem Bs_intb {k : Bool} (h : Q (.int (if k then 1 else 0))) : BsP S .int [.bl k] Q := ⟨⟨_, rfl, h⟩⟩
theorem Bs_len (h : Q (.int ys.length)) : BsP S .len [.lst ys] Q := ⟨⟨_, rfl, h⟩⟩
theorem Bs_lent (h : Q (.int ys.length)) : BsP S .len [.tup ys] Q := ⟨⟨_, rfl, h⟩⟩
theorem Bs_min (h : Q (.int (if m < n then m else n))) : BsP S .min [.int n, .int m] Q := ⟨⟨_, rfl, h⟩⟩
theorem Bs_max (h : Q (.int (if m > n then m else n))) : BsP S .max [.int n, .int m] Q := ⟨⟨_, rfl, h⟩⟩
theorem Bs_abs (h : Q (.int (if n < 0 then -n else n))) : BsP S .abs [.int n] Q := ⟨⟨_, rfl, h⟩⟩
theorem Md_bits {q : MId → Prop} (h : q .bitLength) : MdP S (.int n) "bit_length" q := ⟨⟨_, rfl, h⟩⟩
theorem Mt_bits (h : QD (.int (Builtin.Int.intBits n : Nat)) S) : MtP S .bitLength (.int n) [] QD := ⟨⟨_, _, rfl, h⟩⟩
theorem Ln_mk {l : Nat} {q : Prop} (hb : l ≤ 16777216) (h : q) : LnP l q := ⟨⟨hb, h⟩⟩
theorem It_lst {q : Items → Prop} (h : q ⟨xs, none, false⟩) : ItP S (.lst xs) q := ⟨⟨_, rfl, h⟩⟩
theorem En_lst {q : Items → Prop} (h : q ⟨xs, none, true⟩) : EnP S (.lst xs) q := ⟨⟨_, rfl, h⟩⟩
theorem Zp_tup {q : Items → Prop} (h : q ⟨pairUp xs ys, none, false⟩) : ZpP (.tup xs) (.tup ys) q := ⟨⟨_, rfl, h⟩⟩
theorem Zp_lst {q : Items → Prop} (h : q ⟨pairUp xs ys, none, false⟩) : ZpP (.lst xs) (.lst ys) q := ⟨⟨_, rfl, h⟩⟩
theorem Rv_lst (h : Q (.lst xs.reverse)) : RvP S (.lst xs) Q := ⟨⟨_, rfl, h⟩⟩
theorem Dc_mk {QD : D → Store → Prop} {S' : Store} (e : dictD S y = some (x, S')) (h : QD x S') : DcP S [y] QD := ⟨⟨_, _, _, rfl, e, h⟩⟩
theorem Ky_str {z : Str} {q : L2.Key → Prop} (h : q (.inr z)) : KyP (.str z) q := ⟨⟨_, rfl, h⟩⟩
theorem Ky_int {q : L2.Key → Prop} (h : q (.inl n)) : KyP (.int n) q := ⟨⟨_, rfl, h⟩⟩
theorem It_tup {q : Items → Prop} (h : q ⟨xs, none, false⟩) : ItP S (.tup xs) q := ⟨⟨_, rfl, h⟩⟩
theorem Br_t {k : Bool} {A B : Prop} (e : k = true) (h : A) : Br k A B := ⟨⟨fun _ => h, fun z => absurd (e.symm.trans z) (by decide)⟩⟩
theorem Br_f {k : Bool} {A B : Prop} (e : k = false) (h : B) : Br k A B := ⟨⟨fun z => absurd (e.symm.trans z) (by decide), fun _ => h⟩⟩
theorem Br_dec {p : Prop} [Decidable p] {A B : Prop} (h1 : p → A) (h2 : ¬ p → B) : Br (decide p) A B := ⟨⟨fun z => h1 (of_decide_eq_true z), fun z => h2 (of_decide_eq_false z)⟩⟩
theorem Br_not {k : Bool} {A B : Prop} (h : Br k B A) : Br (!k) A B := by
  obtain ⟨h1, h2⟩ := h.out
  exact ⟨⟨fun z => h2 (by simpa using z), fun z => h1 (by simpa using z)⟩⟩
theorem St_0 {o : Option D} {q : Env → Prop} (h : q (some x :: σ)) : StP (o :: σ) 0 x q := ⟨h⟩
theorem St_s {o : Option D} {q : Env → Prop} (h : StP σ i x fun σ1 => q (o :: σ1)) : StP (o :: σ) (i + 1) x q := ⟨h.out⟩
theorem Bd_b1 {q : Env → Prop} (h : StP σ i x q) : BdP (b1 i) σ x q := ⟨⟨_, rfl, h.out⟩⟩
theorem Bd_bT {is : List Nat} {q : Env → Prop} (hl : xs.length = is.length) (h : TsP σ is xs q) : BdP (bT is) σ (.tup xs) q := ⟨⟨_, by unfold bT; simp only [seqT, if_pos hl], h.out⟩⟩
theorem Ts_0 {q : Env → Prop} (h : q σ) : TsP σ [] [] q := ⟨h⟩
theorem Ts_s {is : List Nat} {q : Env → Prop} (h : StP σ i x fun σ1 => TsP σ1 is xs q) : TsP σ (i :: is) (x :: xs) q := ⟨h.out.out⟩
end
/-! ### loops -/
section
variable {S : Store} {σ : Env} {nx bk ct : Env → Store → Prop} {rt : D → Store → Prop} {ex : Str → Env → Store → Prop} {it : Items}
/-- one turn of a for -/
structure TnP (f : D → Env → Store → Fl) (d : D) (σ : Env) (S : Store) (K0 : Ks) : Prop where
  out : kOf K0 (f d σ S)
theorem Tn_mk {bd : Env → D → Option Env} {z : XS} {d : D} (h : BdP bd σ d fun σ1 => Z z σ1 S ⟨nx, rt, bk, ct, ex⟩) : TnP (fun d σ1 S2 => match bd σ1 d with
    | some σ2 => z σ2 S2
    | none => .bad) d σ S ⟨nx, rt, bk, ct, ex⟩ := by
  obtain ⟨σ1, e, h⟩ := h.out
  refine ⟨?_⟩
  show kOf ⟨nx, rt, bk, ct, ex⟩ (match bd σ d with | some σ2 => z σ2 S | none => .bad)
  rw [e]
  exact h.out
theorem forF_inv {f : D → Env → Store → Fl} (I : Nat → Env → Store → Prop) {xs : List D} {w : Nat → D → D} (hg : ∀ i σ S, I i σ S → it.get S i = some (xs[i]?.map (w i))) (step : ∀ i d σ S, xs[i]? = some d → I i σ S → TnP f (w i d) σ S ⟨I (i + 1), rt, nx, I (i + 1), ex⟩)
    (stop : ∀ σ S, I xs.length σ S → nx σ S) : ∀ (m i : Nat) (σ : Env) (S : Store), xs.length < i + m → i ≤ xs.length → I i σ S → kOf ⟨nx, rt, bk, ct, ex⟩ (forF it f m i σ S)
  | 0, i, σ, S, h1, h2, _ => absurd h1 (by omega)
  | m + 1, i, σ, S, h1, h2, hI => by
    have hg' := hg i σ S hI
    unfold forF
    rw [hg']
    cases e : xs[i]? with
    | none =>
      have : xs.length ≤ i := List.getElem?_eq_none_iff.mp e
      have e2 : i = xs.length := by omega
      subst e2
      exact stop _ _ hI
    | some d =>
      have lt : i < xs.length := (List.getElem?_eq_some_iff.mp e).1
      have st := (step i d σ S e hI).out
      show kOf ⟨nx, rt, bk, ct, ex⟩ (match f (w i d) σ S with
        | .nx σ1 S1 => forF it f m (i + 1) σ1 S1
        | .ct σ1 S1 => forF it f m (i + 1) σ1 S1
        | .bk σ1 S1 => .nx σ1 S1
        | r => r)
      cases q : f (w i d) σ S with
      | nx σ1 S1 => rw [q] at st; exact forF_inv I hg step stop m (i + 1) σ1 S1 (by omega) (by omega) st
      | ct σ1 S1 => rw [q] at st; exact forF_inv I hg step stop m (i + 1) σ1 S1 (by omega) (by omega) st
      | bk σ1 S1 => rw [q] at st; exact st
      | rt d S1 => rw [q] at st; exact st
      | exc x σ1 S1 => rw [q] at st; exact st
      | bad => rw [q] at st; exact st.elim
/-- any walk: what stands at each turn -/
theorem Lp_invG {f : D → Env → Store → Fl} {xs : List D} (w : Nat → D → D) (I : Nat → Env → Store → Prop) (hg : ∀ i σ S, I i σ S → it.get S i = some (xs[i]?.map (w i))) (h0 : I 0 σ S) (step : ∀ i d σ S, xs[i]? = some d → I i σ S → TnP f (w i d) σ S ⟨I (i + 1), rt, nx, I (i + 1), ex⟩)
    (stop : ∀ σ S, I xs.length σ S → nx σ S) (hl : xs.length < 100000) : LpP it f σ S ⟨nx, rt, bk, ct, ex⟩ :=
  ⟨forF_inv I hg step stop 100000 0 σ S (by omega) (Nat.zero_le _) h0⟩
/-- a list of the store, walked -/
theorem Lp_invR {f : D → Env → Store → Fl} {xs ys : List D} {l : Nat} (I : Nat → Env → Store → Prop) (hg : ∀ i σ S, I i σ S → S[l]? = some (.lst xs)) (h0 : I 0 σ S) (step : ∀ i d σ S, xs[i]? = some d → I i σ S → TnP f d σ S ⟨I (i + 1), rt, nx, I (i + 1), ex⟩)
    (stop : ∀ σ S, I xs.length σ S → nx σ S) (hl : xs.length < 100000) : LpP ⟨ys, some l, false⟩ f σ S ⟨nx, rt, bk, ct, ex⟩ :=
  Lp_invG (fun _ d => d) I (fun i σ S h => by show (match S[l]? with | some (.lst xs) => some (xs[i]?.map (wrapI false i)) | _ => none) = _; rw [hg i σ S h]; rfl) h0 step stop hl
theorem Lp_invW {f : D → Env → Store → Fl} (I : Nat → Env → Store → Prop) (h0 : I 0 σ S) (step : ∀ i d σ S, it.xs[i]? = some d → I i σ S → TnP f (wrapI it.enum i d) σ S ⟨I (i + 1), rt, nx, I (i + 1), ex⟩)
    (stop : ∀ σ S, I it.xs.length σ S → nx σ S) (hl : it.xs.length < 100000) (ha : it.at_ = none := by rfl) : LpP it f σ S ⟨nx, rt, bk, ct, ex⟩ :=
  Lp_invG (wrapI it.enum) I (fun i σ S _ => by unfold Items.get; rw [ha]) h0 step stop hl
theorem Lp_inv {f : D → Env → Store → Fl} (I : Nat → Env → Store → Prop) (h0 : I 0 σ S) (step : ∀ i d σ S, it.xs[i]? = some d → I i σ S → TnP f d σ S ⟨I (i + 1), rt, nx, I (i + 1), ex⟩)
    (stop : ∀ σ S, I it.xs.length σ S → nx σ S) (hl : it.xs.length < 100000) (ha : it.at_ = none := by rfl) (he : it.enum = false := by rfl) : LpP it f σ S ⟨nx, rt, bk, ct, ex⟩ :=
  Lp_invW I h0 (fun i d σ S h hI => by rw [he]; exact step i d σ S h hI) stop hl ha
theorem Lp_invE {f : D → Env → Store → Fl} {xs : List D} (I : Nat → Env → Store → Prop) (h0 : I 0 σ S) (step : ∀ i d σ S, xs[i]? = some d → I i σ S → TnP f (.tup [.int (i : Nat), d]) σ S ⟨I (i + 1), rt, nx, I (i + 1), ex⟩)
    (stop : ∀ σ S, I xs.length σ S → nx σ S) (hl : xs.length < 100000) : LpP ⟨xs, none, true⟩ f σ S ⟨nx, rt, bk, ct, ex⟩ := Lp_invW (it := ⟨xs, none, true⟩) I h0 step stop hl
theorem whileF_inv {t : XT} {z : XS} (I : Nat → Env → Store → Prop) (step : ∀ n σ S, I n σ S → G t σ S (fun k S1 => Br k (Z z σ S1 ⟨fun σ S => ∃ m, m < n ∧ I m σ S, rt, nx, fun σ S => ∃ m, m < n ∧ I m σ S, ex⟩) (nx σ S1)) (oX ex σ)) :
    ∀ (m n : Nat) (σ : Env) (S : Store), n < m → I n σ S → kOf ⟨nx, rt, bk, ct, ex⟩ (whileF t z m σ S)
  | 0, n, σ, S, h, _ => absurd h (by omega)
  | m + 1, n, σ, S, h, hI => by
    unfold whileF
    refine use_k ((step n σ S hI).out.post fun k S1 h1 => ?_)
    cases k with
    | false => exact h1.out.2 rfl
    | true =>
      have st := (h1.out.1 rfl).out
      rw [if_pos rfl]
      cases q : z σ S1 with
      | nx σ1 S2 =>
        rw [q] at st
        obtain ⟨n', hn, hI'⟩ := st
        exact whileF_inv I step m n' σ1 S2 (by omega) hI'
      | ct σ1 S2 =>
        rw [q] at st
        obtain ⟨n', hn, hI'⟩ := st
        exact whileF_inv I step m n' σ1 S2 (by omega) hI'
      | bk σ1 S1 => rw [q] at st; exact st
      | rt d S1 => rw [q] at st; exact st
      | exc x σ1 S1 => rw [q] at st; exact st
      | bad => rw [q] at st; exact st.elim
theorem Wh_inv {t : XT} {z : XS} (I : Nat → Env → Store → Prop) (n : Nat) (hn : n < 100000) (h0 : I n σ S)
    (step : ∀ n σ S, I n σ S → G t σ S (fun k S1 => Br k (Z z σ S1 ⟨fun σ S => ∃ m, m < n ∧ I m σ S, rt, nx, fun σ S => ∃ m, m < n ∧ I m σ S, ex⟩) (nx σ S1)) (oX ex σ)) : WhP t z σ S ⟨nx, rt, bk, ct, ex⟩ :=
  ⟨whileF_inv I step 100000 n σ S hn h0⟩
/-- a comprehension with an invariant: what has been made, how far -/
theorem compF_inv {f : D → Store → Out (Option D)} {E : EX} {Q : List D → Store → Prop} (I : Nat → List D → Store → Prop) {xs : List D} {w : Nat → D → D} (hg : ∀ i acc S, I i acc S → it.get S i = some (xs[i]?.map (w i))) (hl : xs.length < 100000)
    (step : ∀ i d acc S, xs[i]? = some d → I i acc S → acc.length ≤ i → W (f (w i d) S) (fun o S1 => match o with
      | some y => I (i + 1) (acc ++ [y]) S1
      | none => I (i + 1) acc S1) E) (stop : ∀ acc S, I xs.length acc S → Q acc S) :
    ∀ (m i : Nat) (acc : List D) (S : Store), xs.length < i + m → i ≤ xs.length → acc.length ≤ i → I i acc S → W (compF it f m i acc S) Q E
  | 0, i, acc, S, h1, h2, _, _ => absurd h1 (by omega)
  | m + 1, i, acc, S, h1, h2, h3, hI => by
    have hg' := hg i acc S hI
    unfold compF
    rw [hg']
    cases e : xs[i]? with
    | none =>
      have : xs.length ≤ i := List.getElem?_eq_none_iff.mp e
      have e2 : i = xs.length := by omega
      subst e2
      exact ⟨stop _ _ hI⟩
    | some d =>
      have lt : i < xs.length := (List.getElem?_eq_some_iff.mp e).1
      have st := (step i d acc S e hI h3).out
      show W (match f (w i d) S with
        | .ok (some y) S1 => if acc.length < 16777216 then compF it f m (i + 1) (acc ++ [y]) S1 else .bad
        | .ok none S1 => compF it f m (i + 1) acc S1
        | .exc c S1 => .exc c S1
        | .bad => .bad) Q E
      cases q : f (w i d) S with
      | ok o S1 =>
        rw [q] at st
        cases o with
        | some y =>
          show W (if acc.length < 16777216 then _ else _) _ _
          rw [if_pos (by omega)]
          exact compF_inv I hg hl step stop m (i + 1) (acc ++ [y]) S1 (by omega) (by omega) (by rw [List.length_append, List.length_singleton]; omega) st
        | none => exact compF_inv I hg hl step stop m (i + 1) acc S1 (by omega) (by omega) (by omega) st
      | exc x S1 => rw [q] at st; exact ⟨st⟩
      | bad => rw [q] at st; exact st.elim
theorem Cf_invG {f : D → Store → Out (Option D)} {QL : List D → Store → Prop} {xs : List D} (w : Nat → D → D) (I : Nat → List D → Store → Prop) (hg : ∀ i acc S, I i acc S → it.get S i = some (xs[i]?.map (w i))) (hl : xs.length < 100000) (h0 : I 0 [] S)
    (step : ∀ i d acc S, xs[i]? = some d → I i acc S → acc.length ≤ i → W (f (w i d) S) (fun o S1 => match o with
      | some y => I (i + 1) (acc ++ [y]) S1
      | none => I (i + 1) acc S1) noX) (stop : ∀ acc S, I xs.length acc S → QL acc S) : CfP it f S QL :=
  ⟨compF_inv I hg hl step stop 100000 0 [] S (by omega) (Nat.zero_le _) (Nat.zero_le _) h0⟩
theorem Cf_invR {f : D → Store → Out (Option D)} {QL : List D → Store → Prop} {xs ys : List D} {l : Nat} (I : Nat → List D → Store → Prop) (hg : ∀ i acc S, I i acc S → S[l]? = some (.lst xs)) (hl : xs.length < 100000) (h0 : I 0 [] S)
    (step : ∀ i d acc S, xs[i]? = some d → I i acc S → acc.length ≤ i → W (f d S) (fun o S1 => match o with
      | some y => I (i + 1) (acc ++ [y]) S1
      | none => I (i + 1) acc S1) noX) (stop : ∀ acc S, I xs.length acc S → QL acc S) : CfP ⟨ys, some l, false⟩ f S QL :=
  Cf_invG (fun _ d => d) I (fun i acc S h => by show (match S[l]? with | some (.lst xs) => some (xs[i]?.map (wrapI false i)) | _ => none) = _; rw [hg i acc S h]; rfl) hl h0 step stop
theorem Cf_invRE {f : D → Store → Out (Option D)} {QL : List D → Store → Prop} {xs ys : List D} {l : Nat} (I : Nat → List D → Store → Prop) (hg : ∀ i acc S, I i acc S → S[l]? = some (.lst xs)) (hl : xs.length < 100000) (h0 : I 0 [] S)
    (step : ∀ i d acc S, xs[i]? = some d → I i acc S → acc.length ≤ i → W (f (.tup [.int (i : Nat), d]) S) (fun o S1 => match o with
      | some y => I (i + 1) (acc ++ [y]) S1
      | none => I (i + 1) acc S1) noX) (stop : ∀ acc S, I xs.length acc S → QL acc S) : CfP ⟨ys, some l, true⟩ f S QL :=
  Cf_invG (wrapI true) I (fun i acc S h => by show (match S[l]? with | some (.lst xs) => some (xs[i]?.map (wrapI true i)) | _ => none) = _; rw [hg i acc S h]) hl h0 step stop
theorem Cf_invW {f : D → Store → Out (Option D)} {QL : List D → Store → Prop} (I : Nat → List D → Store → Prop) (hl : it.xs.length < 100000) (h0 : I 0 [] S)
    (step : ∀ i d acc S, it.xs[i]? = some d → I i acc S → acc.length ≤ i → W (f (wrapI it.enum i d) S) (fun o S1 => match o with
      | some y => I (i + 1) (acc ++ [y]) S1
      | none => I (i + 1) acc S1) noX) (stop : ∀ acc S, I it.xs.length acc S → QL acc S) (ha : it.at_ = none := by rfl) : CfP it f S QL :=
  Cf_invG (wrapI it.enum) I (fun i acc S _ => by unfold Items.get; rw [ha]) hl h0 step stop
theorem Cf_inv {f : D → Store → Out (Option D)} {QL : List D → Store → Prop} (I : Nat → List D → Store → Prop) (hl : it.xs.length < 100000) (h0 : I 0 [] S)
    (step : ∀ i d acc S, it.xs[i]? = some d → I i acc S → acc.length ≤ i → W (f d S) (fun o S1 => match o with
      | some y => I (i + 1) (acc ++ [y]) S1
      | none => I (i + 1) acc S1) noX) (stop : ∀ acc S, I it.xs.length acc S → QL acc S) (ha : it.at_ = none := by rfl) (he : it.enum = false := by rfl) : CfP it f S QL :=
  Cf_invW I hl h0 (fun i d acc S h hI ha => by rw [he]; exact step i d acc S h hI ha) stop ha
theorem Cf_invE {f : D → Store → Out (Option D)} {QL : List D → Store → Prop} {xs : List D} (I : Nat → List D → Store → Prop) (hl : xs.length < 100000) (h0 : I 0 [] S)
    (step : ∀ i d acc S, xs[i]? = some d → I i acc S → acc.length ≤ i → W (f (.tup [.int (i : Nat), d]) S) (fun o S1 => match o with
      | some y => I (i + 1) (acc ++ [y]) S1
      | none => I (i + 1) acc S1) noX) (stop : ∀ acc S, I xs.length acc S → QL acc S) : CfP ⟨xs, none, true⟩ f S QL := Cf_invW (it := ⟨xs, none, true⟩) I hl h0 step stop
/-- .. errors let out -/
theorem Cx_inv {f : D → Store → Out (Option D)} {E : EX} {QL : List D → Store → Prop} (I : Nat → List D → Store → Prop) (hl : it.xs.length < 100000) (h0 : I 0 [] S)
    (step : ∀ i d acc S, it.xs[i]? = some d → I i acc S → acc.length ≤ i → W (f d S) (fun o S1 => match o with
      | some y => I (i + 1) (acc ++ [y]) S1
      | none => I (i + 1) acc S1) E) (stop : ∀ acc S, I it.xs.length acc S → QL acc S) (ha : it.at_ = none := by rfl) (he : it.enum = false := by rfl) : CfX it f S QL E :=
  ⟨compF_inv (w := fun _ d => d) I (fun i acc S _ => by unfold Items.get; rw [ha, he]; rfl) hl step stop 100000 0 [] S (by omega) (Nat.zero_le _) (Nat.zero_le _) h0⟩
/-- names forgotten ahead of a comprehension's turn -/
structure WpP (σ : Env) (is : List Nat) (q : Env → Prop) : Prop where
  out : q (wipeE σ is)
theorem Wp_0 {q : Env → Prop} (h : q σ) : WpP σ [] q := ⟨h⟩
theorem Wp_s {i : Nat} {is : List Nat} {q : Env → Prop} (h : WpP σ is fun σ1 => SnP σ1 i q) : WpP σ (i :: is) q := ⟨h.out.out⟩
theorem Sn_0 {o : Option D} {q : Env → Prop} (h : q (none :: σ)) : SnP (o :: σ) 0 q := ⟨h⟩
theorem Sn_s {i : Nat} {o : Option D} {q : Env → Prop} (h : SnP σ i fun σ1 => q (o :: σ1)) : SnP (o :: σ) (i + 1) q := ⟨h.out⟩
theorem CtX_mk {bd : Env → D → Option Env} {a : XE} {is : List Nat} {d : D} {Q : Option D → Store → Prop} {E : EX} (h : WpP σ is fun σ0 => BdP bd σ0 d fun σ1 => G a σ1 S (fun y S1 => Q (some y) S1) E) : W (match bd (wipeE σ is) d with
    | some σ2 => (a σ2 S).bind fun y S3 => .ok (some y) S3
    | none => .bad) Q E := by
  obtain ⟨σ1, e, h⟩ := h.out.out
  rw [e]
  exact .bind (h.out.post fun _ _ h => ⟨h⟩)
/-- one turn of a comprehension -/
theorem Ct_mk {bd : Env → D → Option Env} {a : XE} {is : List Nat} {d : D} {Q : Option D → Store → Prop} (h : WpP σ is fun σ0 => BdP bd σ0 d fun σ1 => G a σ1 S (fun y S1 => Q (some y) S1) noX) : W (match bd (wipeE σ is) d with
    | some σ2 => (a σ2 S).bind fun y S3 => .ok (some y) S3
    | none => .bad) Q noX := by
  obtain ⟨σ1, e, h⟩ := h.out.out
  rw [e]
  exact .bind (h.out.post fun _ _ h => ⟨h⟩)
theorem Ct_mk1 {bd : Env → D → Option Env} {a : XE} {t : XT} {is : List Nat} {d : D} {Q : Option D → Store → Prop} (h : WpP σ is fun σ0 => BdP bd σ0 d fun σ1 => G t σ1 S (fun k S1 => Br k (G a σ1 S1 (fun y S2 => Q (some y) S2) noX) (Q none S1)) noX) : W (match bd (wipeE σ is) d with
    | some σ2 => (t σ2 S).bind fun k S3 => if k = true then (a σ2 S3).bind fun y S4 => .ok (some y) S4 else .ok none S3
    | none => .bad) Q noX := by
  obtain ⟨σ1, e, h⟩ := h.out.out
  rw [e]
  exact .bind (h.out.post fun _ _ h => (h.imp (fun h => W.bind (f := fun y S4 => Out.ok (some y) S4) (Q := Q) (h.out.post fun _ _ h => ⟨h⟩)) fun h => (⟨h⟩ : W (.ok none _) Q noX)).w)
end
/-! ### equality of plain data -/
mutual
def pln : D → Bool
  | .non => true
  | .int _ => true
  | .str _ => true
  | .tup xs => plns xs
  | .lst xs => plns xs
  | _ => false
def plns : List D → Bool
  | [] => true
  | x :: xs => pln x && plns xs
end
mutual
theorem eqv_pln : ∀ (x y : D) (a b : PyData), pln x = true → pln y = true → toPy x = some a → toPy y = some b → (PyData.eqv a b = true ↔ x = y)
  | x, y, a, b, hx, hy, ha, hb => by
    cases x with
    | bl => simp [pln] at hx
    | ref => simp [pln] at hx
    | non =>
      simp only [toPy, Option.some.injEq] at ha; subst ha
      cases y with
      | bl => simp [pln] at hy
      | ref => simp [pln] at hy
      | non => simp only [toPy, Option.some.injEq] at hb; subst hb; simp [PyData.eqv]
      | int => simp only [toPy, Option.some.injEq] at hb; subst hb; simp [PyData.eqv]
      | str => simp only [toPy, Option.some.injEq] at hb; subst hb; simp [PyData.eqv]
      | tup ys => simp only [toPy] at hb; split at hb <;> cases hb; simp [PyData.eqv]
      | lst ys => simp only [toPy] at hb; split at hb <;> cases hb; simp [PyData.eqv]
    | int i =>
      simp only [toPy, Option.some.injEq] at ha; subst ha
      cases y with
      | bl => simp [pln] at hy
      | ref => simp [pln] at hy
      | non => simp only [toPy, Option.some.injEq] at hb; subst hb; simp [PyData.eqv]
      | int => simp only [toPy, Option.some.injEq] at hb; subst hb; simp [PyData.eqv]
      | str => simp only [toPy, Option.some.injEq] at hb; subst hb; simp [PyData.eqv]
      | tup ys => simp only [toPy] at hb; split at hb <;> cases hb; simp [PyData.eqv]
      | lst ys => simp only [toPy] at hb; split at hb <;> cases hb; simp [PyData.eqv]
    | str i =>
      simp only [toPy, Option.some.injEq] at ha; subst ha
      cases y with
      | bl => simp [pln] at hy
      | ref => simp [pln] at hy
      | non => simp only [toPy, Option.some.injEq] at hb; subst hb; simp [PyData.eqv]
      | int => simp only [toPy, Option.some.injEq] at hb; subst hb; simp [PyData.eqv]
      | str => simp only [toPy, Option.some.injEq] at hb; subst hb; simp [PyData.eqv]
      | tup ys => simp only [toPy] at hb; split at hb <;> cases hb; simp [PyData.eqv]
      | lst ys => simp only [toPy] at hb; split at hb <;> cases hb; simp [PyData.eqv]
    | tup xs =>
      simp only [toPy] at ha; split at ha <;> cases ha
      rename_i as ea
      cases y with
      | bl => simp [pln] at hy
      | ref => simp [pln] at hy
      | non => simp only [toPy, Option.some.injEq] at hb; subst hb; simp [PyData.eqv]
      | int => simp only [toPy, Option.some.injEq] at hb; subst hb; simp [PyData.eqv]
      | str => simp only [toPy, Option.some.injEq] at hb; subst hb; simp [PyData.eqv]
      | tup ys =>
        simp only [toPy] at hb; split at hb <;> cases hb
        rename_i bs eb
        rw [PyData.eqv, eqvs_pln xs ys as bs (by simpa [pln] using hx) (by simpa [pln] using hy) ea eb]
        simp
      | lst ys => simp only [toPy] at hb; split at hb <;> cases hb; simp [PyData.eqv]
    | lst xs =>
      simp only [toPy] at ha; split at ha <;> cases ha
      rename_i as ea
      cases y with
      | bl => simp [pln] at hy
      | ref => simp [pln] at hy
      | non => simp only [toPy, Option.some.injEq] at hb; subst hb; simp [PyData.eqv]
      | int => simp only [toPy, Option.some.injEq] at hb; subst hb; simp [PyData.eqv]
      | str => simp only [toPy, Option.some.injEq] at hb; subst hb; simp [PyData.eqv]
      | lst ys =>
        simp only [toPy] at hb; split at hb <;> cases hb
        rename_i bs eb
        rw [PyData.eqv, eqvs_pln xs ys as bs (by simpa [pln] using hx) (by simpa [pln] using hy) ea eb]
        simp
      | tup ys => simp only [toPy] at hb; split at hb <;> cases hb; simp [PyData.eqv]
theorem eqvs_pln : ∀ (xs ys : List D) (as bs : List PyData), plns xs = true → plns ys = true → toPys xs = some as → toPys ys = some bs → (PyData.eqvAll as bs = true ↔ xs = ys)
  | [], [], as, bs, _, _, ha, hb => by
    simp only [toPys, Option.some.injEq] at ha hb
    subst ha hb
    simp [PyData.eqvAll]
  | [], y :: ys, as, bs, _, _, ha, hb => by
    simp only [toPys] at ha hb
    split at hb <;> cases hb
    cases ha
    simp [PyData.eqvAll]
  | x :: xs, [], as, bs, _, _, ha, hb => by
    simp only [toPys] at ha hb
    split at ha <;> cases ha
    cases hb
    simp [PyData.eqvAll]
  | x :: xs, y :: ys, as, bs, hx, hy, ha, hb => by
    simp only [toPys] at ha hb
    split at ha <;> cases ha
    split at hb <;> cases hb
    rename_i _ _ a as ea eas _ _ b bs eb ebs
    simp only [plns, Bool.and_eq_true] at hx hy
    rw [PyData.eqvAll, Bool.and_eq_true, eqv_pln x y a b hx.1 hy.1 ea eb, eqvs_pln xs ys as bs hx.2 hy.2 eas ebs]
    simp
end
/-- may be compared -/
def EqOk (S : Store) (x : D) : Prop := pln x = true ∧ ∃ a, toPy x = some a ∧ SeqAt.shaped a = true
mutual
/-- plain data of so much depth at most -/
def fine : Nat → D → Bool
  | _, .non => true
  | _, .int _ => true
  | _, .str x => PyData.strOk x
  | n + 1, .tup xs => fines n xs
  | n + 1, .lst xs => fines n xs
  | _, _ => false
def fines : Nat → List D → Bool
  | _, [] => true
  | n, x :: xs => fine n x && fines n xs
end
mutual
theorem fine_ok : ∀ (n : Nat) (x : D), fine n x = true → pln x = true ∧ ∃ a, toPy x = some a ∧ a.canLay0 = true ∧ a.depth ≤ n
  | n, .non, _ => ⟨rfl, _, rfl, rfl, Nat.zero_le _⟩
  | n, .int _, _ => ⟨rfl, _, rfl, rfl, Nat.zero_le _⟩
  | n, .str x, h => ⟨rfl, _, rfl, by simpa [fine, PyData.canLay0] using h, Nat.zero_le _⟩
  | n, .bl _, h => by cases n <;> simp [fine] at h
  | n, .ref _, h => by cases n <;> simp [fine] at h
  | 0, .tup _, h => by simp [fine] at h
  | 0, .lst _, h => by simp [fine] at h
  | n + 1, .tup xs, h => by
    obtain ⟨h1, as, h2, h3, h4⟩ := fines_ok n xs (by simpa [fine] using h)
    exact ⟨by simpa [pln] using h1, .tuple as, by simp [toPy, h2], by simpa [PyData.canLay0] using h3, by simp only [PyData.depth]; omega⟩
  | n + 1, .lst xs, h => by
    obtain ⟨h1, as, h2, h3, h4⟩ := fines_ok n xs (by simpa [fine] using h)
    exact ⟨by simpa [pln] using h1, .list as, by simp [toPy, h2], by simpa [PyData.canLay0] using h3, by simp only [PyData.depth]; omega⟩
theorem fines_ok : ∀ (n : Nat) (xs : List D), fines n xs = true → plns xs = true ∧ ∃ as, toPys xs = some as ∧ PyData.canLayAll0 as = true ∧ PyData.depthAll as ≤ n
  | n, [], _ => ⟨rfl, [], rfl, rfl, Nat.zero_le _⟩
  | n, x :: xs, h => by
    rw [fines, Bool.and_eq_true] at h
    obtain ⟨p1, a, p2, p3, p4⟩ := fine_ok n x h.1
    obtain ⟨q1, as, q2, q3, q4⟩ := fines_ok n xs h.2
    exact ⟨by simp [plns, p1, q1], a :: as, by simp [toPys, p2, q2], by simp [PyData.canLayAll0, p3, q3], by simp only [PyData.depthAll]; omega⟩
end
theorem fines_all {n : Nat} : ∀ {xs : List D}, (∀ x ∈ xs, fine n x = true) → fines n xs = true
  | [], _ => rfl
  | x :: xs, h => by rw [fines, h x (List.mem_cons_self ..), fines_all fun y hy => h y (List.mem_cons_of_mem _ hy)]; rfl
theorem EqOk.of {S : Store} {x : D} {n : Nat} (h : fine n x = true) (hn : n ≤ 64) : EqOk S x := by
  obtain ⟨h1, a, h2, h3, h4⟩ := fine_ok n x h
  refine ⟨h1, a, h2, ?_⟩
  unfold SeqAt.shaped
  rw [h3, decide_eq_true (by omega)]; rfl
theorem res_pln {S : Store} : ∀ (n : Nat) (x : D), pln x = true → res n S x = x
  | 0, _, _ => rfl
  | n + 1, .non, _ => rfl
  | n + 1, .int _, _ => rfl
  | n + 1, .str _, _ => rfl
  | n + 1, .bl _, _ => rfl
  | n + 1, .ref _, h => by simp [pln] at h
  | n + 1, .tup xs, h => by
    have h' : plns xs = true := by simpa [pln] using h
    clear h
    rw [res]
    congr 1
    induction xs with
    | nil => rfl
    | cons x xs ih =>
      rw [plns, Bool.and_eq_true] at h'
      rw [List.map_cons, res_pln n x h'.1, ih h'.2]
  | n + 1, .lst xs, h => by
    have h' : plns xs = true := by simpa [pln] using h
    clear h
    rw [res]
    congr 1
    induction xs with
    | nil => rfl
    | cons x xs ih =>
      rw [plns, Bool.and_eq_true] at h'
      rw [List.map_cons, res_pln n x h'.1, ih h'.2]
theorem toPyS_pln {S : Store} {x : D} (h : pln x = true) : toPyS S x = toPy x := by
  unfold toPyS
  rw [res_pln 8 x h]
theorem eqD_pln {S : Store} {x y : D} (hx : EqOk S x) (hy : EqOk S y) : ∃ b, eqD S x y = some b ∧ (b = true ↔ x = y) := by
  obtain ⟨p1, a, e1, s1⟩ := hx
  obtain ⟨p2, b, e2, s2⟩ := hy
  refine ⟨PyData.eqv a b, ?_, eqv_pln x y a b p1 p2 e1 e2⟩
  unfold eqD
  rw [toPyS_pln p1, toPyS_pln p2, e1, e2]
  simp only [s1, s2, and_self, ↓reduceIte]
theorem Cp_eq {S : Store} {x y : D} {PB : Bool → Prop} (hx : EqOk S x) (hy : EqOk S y) (h1 : x = y → PB true) (h2 : x ≠ y → PB false) : Cp S .Eq x y PB := by
  obtain ⟨b, e, h⟩ := eqD_pln hx hy
  refine ⟨⟨b, e, ?_⟩⟩
  cases b with
  | true => exact h1 (h.mp rfl)
  | false => exact h2 fun z => by cases h.mpr z
theorem Cp_ne {S : Store} {x y : D} {PB : Bool → Prop} (hx : EqOk S x) (hy : EqOk S y) (h1 : x = y → PB false) (h2 : x ≠ y → PB true) : Cp S .NotEq x y PB := by
  obtain ⟨b, e, h⟩ := eqD_pln hx hy
  refine ⟨⟨!b, by show (eqD S x y).map _ = _; rw [e]; rfl, ?_⟩⟩
  cases b with
  | true => exact h1 (h.mp rfl)
  | false => exact h2 fun z => by cases h.mpr z
section
variable {S : Store} {Q : D → Prop} {xs : List D} {l : Nat} {k : Int} {x : D}
theorem seqO_ref (e : S[l]? = some (.lst xs)) : seqO S (.ref l) = some xs := by
  show (match S[l]? with | some (.lst xs) => some xs | _ => none) = _
  rw [e]
theorem Ix_ref (e : S[l]? = some (.lst xs)) (e2 : L2.atI xs k = some x) (h : Q x) : IxP S (.ref l) (.int k) Q :=
  ⟨⟨x, by
    have e3 : dicOf S (.ref l) = none := by
      show (match S[l]? with | some (.dic kvs) => some kvs | _ => none) = _
      rw [e]
    unfold ixD
    rw [e3]
    show (match seqO S (.ref l) with | some xs => L2.atI xs k | none => none) = _
    rw [seqO_ref e]; exact e2, h⟩⟩
theorem dicOf_ref {kvs : List (L2.Key × D)} (e : S[l]? = some (.dic kvs)) : dicOf S (.ref l) = some kvs := by
  show (match S[l]? with | some (.dic kvs) => some kvs | _ => none) = _
  rw [e]
theorem dicOf_lst (e : S[l]? = some (.lst xs)) : dicOf S (.ref l) = none := by
  show (match S[l]? with | some (.dic kvs) => some kvs | _ => none) = _
  rw [e]
theorem Ix_key {kvs : List (L2.Key × D)} {y : D} {kk : L2.Key} (e : S[l]? = some (.dic kvs)) (ek : keyD y = some kk) (e2 : valG kvs kk = some x) (h : Q x) : IxP S (.ref l) y Q :=
  ⟨⟨x, by unfold ixD; rw [dicOf_ref e, ek]; exact e2, h⟩⟩
theorem Sd_key {kvs : List (L2.Key × D)} {y v : D} {kk : L2.Key} {q : Store → Prop} (e : S[l]? = some (.dic kvs)) (ek : keyD y = some kk) (hl : kvs.length < 16777216) (h : q (S.set l (.dic (putG kvs kk v)))) : SdP S (.ref l) y v q :=
  ⟨⟨_, by unfold setD; rw [dicOf_ref e, ek]; exact if_pos hl, h⟩⟩
theorem Sd_ref {j : Nat} {v : D} {q : Store → Prop} (e : S[l]? = some (.lst xs)) (e2 : L2.ixN xs.length k = some j) (h : ∀ S', S'[l]? = some (.lst (xs.set j v)) → S'.length = S.length → (∀ i, i ≠ l → S'[i]? = S[i]?) → q S') : SdP S (.ref l) (.int k) v q := by
  refine ⟨⟨S.set l (.lst (xs.set j v)), ?_, h _ ?_ (by simp) fun i hi => by rw [List.getElem?_set_ne (Ne.symm hi)]⟩⟩
  · have e3 : dicOf S (.ref l) = none := by
      show (match S[l]? with | some (.dic kvs) => some kvs | _ => none) = _
      rw [e]
    unfold setD
    rw [e3]
    show (match S[l]? with | some (.lst xs) => (match L2.ixN xs.length k with | some j => some (S.set l (.lst (xs.set j v))) | none => none) | _ => none) = _
    rw [e]
    show (match L2.ixN xs.length k with | some j => some (S.set l (.lst (xs.set j v))) | none => none) = _
    rw [e2]
  · rw [List.getElem?_set_self (List.getElem?_eq_some_iff.mp e).1]
theorem Mt_app {y : D} {QD : D → Store → Prop} (e : S[l]? = some (.lst xs)) (hl : xs.length < 16777216) (h : ∀ S', S'[l]? = some (.lst (xs ++ [y])) → S'.length = S.length → (∀ i, i ≠ l → S'[i]? = S[i]?) → QD .non S') : MtP S .append (.ref l) [y] QD := by
  refine ⟨⟨.non, S.set l (.lst (xs ++ [y])), ?_, h _ ?_ (by simp) fun i hi => by rw [List.getElem?_set_ne (Ne.symm hi)]⟩⟩
  · show (match S[l]? with | some (.lst ys) => if ys.length < 16777216 then some (D.non, S.set l (.lst (ys ++ [y]))) else none | _ => none) = _
    rw [e]
    exact if_pos hl
  · rw [List.getElem?_set_self (List.getElem?_eq_some_iff.mp e).1]
theorem seqL_ref (e : S[l]? = some (.lst xs)) : seqL S (.ref l) = some xs := by
  show (match S[l]? with | some (.lst xs) => some xs | _ => none) = _
  rw [e]
theorem seqL_dic {kvs : List (L2.Key × D)} (e : S[l]? = some (.dic kvs)) : seqL S (.ref l) = none := by
  show (match S[l]? with | some (.lst xs) => some xs | _ => none) = _
  rw [e]
theorem Md_app {q : MId → Prop} (e : S[l]? = some (.lst xs)) (h : q .append) : MdP S (.ref l) "append" q :=
  ⟨⟨.append, by simp only [mIdD, seqL_ref e]; rfl, h⟩⟩
theorem Md_pop {q : MId → Prop} (e : S[l]? = some (.lst xs)) (h : q .pop) : MdP S (.ref l) "pop" q :=
  ⟨⟨.pop, by simp only [mIdD, seqL_ref e]; rfl, h⟩⟩
theorem Md_get {kvs : List (L2.Key × D)} {q : MId → Prop} (e : S[l]? = some (.dic kvs)) (h : q .get) : MdP S (.ref l) "get" q :=
  ⟨⟨.get, by simp only [mIdD, seqL_dic e, dicOf_ref e]; rfl, h⟩⟩
theorem Fl_ref {cs : List Str} {C f : Str} {fs : List (Str × D)} {d : D} {q : D → Prop} (e : S[l]? = some (.ins C fs)) (hc : cs.contains C = true) (hl : fs.lookup f = some d) (h : q d) : FlP cs S (.ref l) f q :=
  ⟨⟨d, by
    have e1 : insOf S (.ref l) = some (C, fs) := by unfold insOf; simp only [e]
    unfold fldD
    rw [e1]
    simp only [hc, if_true, hl], h⟩⟩
theorem Fs_ref {cs : List Str} {C f : Str} {fs : List (Str × D)} {v : D} {q : Store → Prop} (e : S[l]? = some (.ins C fs)) (hc : cs.contains C = true) (hl : fs.length < 1000) (h : q (S.set l (.ins C (putFD f v fs)))) : FsP cs S (.ref l) v f q :=
  ⟨⟨_, by
    have e1 : insOf S (.ref l) = some (C, fs) := by unfold insOf; simp only [e]
    unfold fldS
    simp only [e1, hc, hl, decide_true, Bool.and_self, if_true], h⟩⟩
theorem Me_own {ts : List (Str × Fn)} {C m : Str} {fs : List (Str × D)} {φ : Fn} {A : MId → Prop} {B : Fn → Prop} (e : S[l]? = some (.ins C fs)) (hm : fs.lookup m = none) (hl : ts.lookup C = some φ) (h : B φ) : MeP ts S (.ref l) m A B :=
  ⟨.inr ⟨by unfold mIdD seqL dicOf; simp only [e], φ, by
    have e1 : insOf S (.ref l) = some (C, fs) := by unfold insOf; simp only [e]
    unfold methD
    rw [e1]
    simp only [hm, Option.isNone_none, if_true, hl], h⟩⟩
theorem Me_in {ts : List (Str × Fn)} {m : Str} {x : D} {A : MId → Prop} {B : Fn → Prop} (h : MdP S x m A) : MeP ts S x m A B := ⟨.inl h.out⟩
theorem Md_split {z : Str} {q : MId → Prop} (h : q .split) : MdP S (.str z) "split" q := ⟨⟨_, rfl, h⟩⟩
theorem Md_join {z : Str} {q : MId → Prop} (h : q .join) : MdP S (.str z) "join" q := ⟨⟨_, rfl, h⟩⟩
theorem Md_idx {q : MId → Prop} (h : q .index) : MdP S (.lst xs) "index" q := ⟨⟨_, rfl, h⟩⟩
theorem Mt_split {a b : Str} {QD : D → Store → Prop} (hb : (b.length == 0) = false ∧ a.length + 2 ≤ 16777216) (h : QD (.lst ((Txt.split a b).map D.str)) S) : MtP S .split (.str a) [.str b] QD :=
  ⟨⟨_, _, by simp only [mthD, if_pos hb], h⟩⟩
theorem strs_map : ∀ zs : List Str, strsOf (zs.map D.str) = some zs
  | [] => rfl
  | z :: zs => by simp only [List.map_cons, strsOf, strs_map zs]
theorem Mt_join {a : Str} {zs : List Str} {QD : D → Store → Prop} (hb : (zs.map (·.length)).sum + zs.length * a.length ≤ 16777216) (h : QD (.str (Txt.join a zs)) S) : MtP S .join (.str a) [.lst (zs.map D.str)] QD :=
  ⟨⟨_, _, by simp only [mthD, seqO, seqL, strs_map, if_pos hb], h⟩⟩
theorem Is_ref {t : Str} {PB : Bool → Prop} (e : S[l]? = some (.lst xs)) (h : PB (t == "list")) : IsP S (.ref l) t PB :=
  ⟨⟨_, by show (match S[l]? with | some (.lst _) => some (t == "list") | some (.dic _) => some (t == "dict") | _ => none) = _; rw [e], h⟩⟩
theorem Bs_lenr (e : S[l]? = some (.lst xs)) (h : Q (.int xs.length)) : BsP S .len [.ref l] Q :=
  ⟨⟨_, by show (match seqO S (.ref l) with | some xs => some (D.int xs.length) | none => none) = _; rw [seqO_ref e], h⟩⟩
theorem Bs_tupr (e : S[l]? = some (.lst xs)) (h : Q (.tup xs)) : BsP S .tuple [.ref l] Q :=
  ⟨⟨_, by show (match seqO S (.ref l) with | some ys => some (D.tup ys) | none => none) = _; rw [seqO_ref e], h⟩⟩
theorem Bs_lsr (e : S[l]? = some (.lst xs)) (h : Q (.lst xs)) : BsP S .list [.ref l] Q :=
  ⟨⟨_, by show (match seqO S (.ref l) with | some ys => some (D.lst ys) | none => none) = _; rw [seqO_ref e], h⟩⟩
theorem Sl_lst {lo hi : Option Int} (h : Q (.lst (cut xs lo hi))) : SlP S (.lst xs) lo hi Q := ⟨⟨_, rfl, h⟩⟩
theorem Sl_tup {lo hi : Option Int} (h : Q (.tup (cut xs lo hi))) : SlP S (.tup xs) lo hi Q := ⟨⟨_, rfl, h⟩⟩
/-- what a def hands back of its own store -/
theorem Fn_own {n : Nat} {d : D} {S' : Store} {QD : D → Store → Prop} {E : EX} (hl : n < S'.length) (hb : (S'.take n).all (obBelow n) = true) (h1 : below n d = true → QD d (S'.take n)) (h2 : below n d = false → QD d S') : FnP false n d S' QD E := by
  refine ⟨?_⟩
  rw [fin_eq, if_neg (by omega)]
  show W (if (below n d && (S'.take n).all (obBelow n)) = true then .ok d (S'.take n) else .ok d S') QD E
  rw [hb, Bool.and_true]
  cases e : below n d with
  | true => exact ⟨h1 e⟩
  | false => exact ⟨h2 e⟩
end
theorem log_lt {n : Int} {k : Nat} (hk : 0 < k) (h : n.natAbs < 2 ^ k) : n.natAbs.log2 < k := by
  by_cases h0 : n.natAbs = 0
  · rw [h0]; simpa using hk
  · exact (Nat.log2_lt h0).mpr h
theorem mul_ok {n m : Int} {i j : Nat} (h1 : n.natAbs < 2 ^ i) (h2 : m.natAbs < 2 ^ j) (h3 : 0 < i ∧ 0 < j ∧ i + j ≤ 1000000) : n.natAbs.log2 + m.natAbs.log2 < 1000000 := by
  have := log_lt h3.1 h1
  have := log_lt h3.2.1 h2
  omega
section
variable {S : Store} {Q : D → Prop} {n m : Int}
theorem Bn_mulS (h1 : -1000000000000000000000000000000 < n ∧ n < 1000000000000000000000000000000) (h2 : -1000000000000000000000000000000 < m ∧ m < 1000000000000000000000000000000) (h : Q (.int (n * m))) : Bn S .Mult (.int n) (.int m) Q :=
  Bn_mul (mul_ok (i := 100) (j := 100) (by omega) (by omega) (by decide)) h
theorem Bn_fdivS (h1 : 0 < m) (h2 : m < 1000000000000000000000000000000) (h : Q (.int (n / m))) : Bn S .FloorDiv (.int n) (.int m) Q :=
  Bn_fdiv ⟨h1, Nat.lt_trans (log_lt (k := 100) (by decide) (by omega)) (by decide)⟩ h
end
section
variable {S : Store} {Q : D → Prop} {xs : List D} {k n m : Int}
/-- one of these, by a number that is not known -/
theorem Ix_pick (P : D → Prop) (h0 : 0 ≤ k) (h1 : k < xs.length) (ha : ∀ d ∈ xs, P d) (h : ∀ d, P d → Q d) : IxP S (.lst xs) (.int k) Q :=
  Ix_lst h0 h1 fun d e => h d (ha d (List.mem_of_getElem? e))
theorem Ix_pickT (P : D → Prop) (h0 : 0 ≤ k) (h1 : k < xs.length) (ha : ∀ d ∈ xs, P d) (h : ∀ d, P d → Q d) : IxP S (.tup xs) (.int k) Q :=
  Ix_tup h0 h1 fun d e => h d (ha d (List.mem_of_getElem? e))
theorem Bn_powC {v : Int} (hb : 0 ≤ m ∧ m ≤ 1000000 ∧ n.natAbs < 2 ^ 64) (e : n ^ m.toNat = v) (h : Q (.int v)) : Bn S .Pow (.int n) (.int m) Q := Bn_pow hb (by rw [e]; exact h)
theorem Fn_ref {l i : Nat} {S' : Store} {QD : D → Store → Prop} {E : EX} (h1 : i ≤ l) (h2 : i < S'.length) (h : QD (.ref l) S') : FnP false i (.ref l) S' QD E := by
  refine ⟨?_⟩
  rw [fin_eq, if_neg (by omega)]
  show W (if (below i (.ref l) && (S'.take i).all (obBelow i)) = true then .ok (.ref l) (S'.take i) else .ok (.ref l) S') QD E
  have : below i (.ref l) = false := decide_eq_false (by omega)
  rw [this, Bool.false_and]
  exact ⟨h⟩
theorem Fn_law {b : Bool} {S' : Store} {QD : D → Store → Prop} {E : EX} (h : ∀ S, QD (.bl b) S) : FnP false 0 (.bl b) S' QD E := by
  refine ⟨?_⟩
  rw [fin_eq]
  split
  · exact ⟨h _⟩
  · split <;> exact ⟨h _⟩
theorem law_true {φ : Fn} {ns : List Int} (h : W (φ [.lst (ns.map D.int)] []) (fun d _ => d = .bl true) noX) : ∃ S, φ [.lst (ns.map D.int)] [] = .ok (.bl true) S := by
  obtain ⟨h⟩ := h
  cases e : φ [.lst (ns.map D.int)] [] with
  | ok d S => rw [e] at h; exact ⟨S, by rw [show d = .bl true from h]⟩
  | exc => rw [e] at h; exact h.elim
  | bad => rw [e] at h; exact h.elim
theorem cut_mem {α : Type} {xs : List α} {lo hi : Option Int} {d : α} (h : d ∈ cut xs lo hi) : d ∈ xs := List.mem_of_mem_drop (List.mem_of_mem_take h)
theorem cut_len {α : Type} {xs : List α} {lo hi : Option Int} : (cut xs lo hi).length ≤ xs.length := by
  unfold cut
  rw [List.length_take, List.length_drop]
  omega
end
/-! ### lists, wherever they stand -/
section
variable {S : Store} {d x : D} {xs : List D} {Q : D → Prop} {PB : Bool → Prop} {k : Int}
theorem seqL_two (e : seqL S d = some xs) : d = .lst xs ∨ ∃ l, d = .ref l ∧ S[l]? = some (.lst xs) := by
  cases d with
  | lst ys => cases e; exact .inl rfl
  | ref l =>
    refine .inr ⟨l, rfl, ?_⟩
    have e : (match S[l]? with | some (.lst xs) => some xs | _ => none) = some xs := e
    cases q : S[l]? with
    | none => rw [q] at e; cases e
    | some o =>
      rw [q] at e
      cases o with
      | lst ys => cases e; rfl
      | _ => cases e
  | _ => cases e
theorem seqL_seqO (e : seqL S d = some xs) : seqO S d = some xs := by
  rcases seqL_two e with rfl | ⟨l, rfl, h⟩
  · rfl
  · exact seqO_ref h
theorem Bs_lenq (e : seqL S d = some xs) (h : Q (.int xs.length)) : BsP S .len [d] Q := by
  rcases seqL_two e with rfl | ⟨l, rfl, z⟩
  · exact Bs_len h
  · exact Bs_lenr z h
theorem Bs_lstq (e : seqL S d = some xs) (h : Q (.lst xs)) : BsP S .list [d] Q := by
  rcases seqL_two e with rfl | ⟨l, rfl, z⟩
  · exact Bs_by (x := .lst xs) rfl h
  · exact ⟨⟨.lst xs, by show listD S (.ref l) = _; simp only [listD, seqO_ref z], h⟩⟩
theorem Is_lstq {t : Str} (e : seqL S d = some xs) (h : PB (t == "list")) : IsP S d t PB := by
  rcases seqL_two e with rfl | ⟨l, rfl, z⟩
  · exact Is_by rfl h
  · exact Is_ref z h
theorem Rv_tup (h : Q (.tup xs.reverse)) : RvP S (.tup xs) Q := ⟨⟨_, rfl, h⟩⟩
theorem Rv_q (e : seqL S d = some xs) (h : Q (.lst xs.reverse)) : RvP S d Q := ⟨⟨_, by unfold revD; rw [e], h⟩⟩
theorem Sl_q {lo hi : Option Int} (e : seqL S d = some xs) (h : Q (.lst (cut xs lo hi))) : SlP S d lo hi Q := by
  rcases seqL_two e with rfl | ⟨l, rfl, z⟩
  · exact Sl_lst h
  · refine ⟨⟨_, ?_, h⟩⟩
    show (match seqL S (.ref l) with | some xs => some (D.lst (cut xs lo hi)) | none => none) = _
    rw [e]
theorem Ix_q (h0 : 0 ≤ k) (h1 : k < xs.length) (e : seqL S d = some xs) (h : ∀ y, xs[k.toNat]? = some y → Q y) : IxP S d (.int k) Q := by
  rcases seqL_two e with rfl | ⟨l, rfl, z⟩
  · exact Ix_lst h0 h1 h
  · obtain ⟨y, e1, e2⟩ := atI_nat h0 h1
    exact Ix_ref z e1 (h y e2)
theorem Tr_q (e : seqL S d = some xs) (h : PB (!xs.isEmpty)) : Tr S d PB := by
  rcases seqL_two e with rfl | ⟨l, rfl, z⟩
  · exact Tr_lst h
  · exact ⟨⟨_, by show (match seqO S (.ref l) with | some xs => some (!xs.isEmpty) | none => none) = _; rw [seqO_ref z], h⟩⟩
theorem res_q {n : Nat} (e : seqL S d = some xs) : res (n + 1) S d = .lst (xs.map (res n S)) := by
  rcases seqL_two e with rfl | ⟨l, rfl, z⟩
  · rfl
  · rw [res, z]
theorem map_res {n : Nat} : ∀ {xs : List D}, plns xs = true → xs.map (res n S) = xs
  | [], _ => rfl
  | x :: xs, h => by
    rw [plns, Bool.and_eq_true] at h
    rw [List.map_cons, res_pln n x h.1, map_res h.2]
/-- fine data in a list, wherever it stands: x in d -/
theorem any_mem {a : PyData} : ∀ {xs : List D} {as : List PyData}, plns xs = true → pln x = true → toPy x = some a → toPys xs = some as → (as.any (fun z => PyData.eqv z a) = true ↔ x ∈ xs)
  | [], as, _, _, _, h => by cases h; simp
  | y :: ys, as, hp, hx, ha, h => by
    rw [plns, Bool.and_eq_true] at hp
    simp only [toPys] at h
    cases e1 : toPy y with
    | none => rw [e1] at h; cases h
    | some b =>
      cases e2 : toPys ys with
      | none => rw [e1, e2] at h; cases h
      | some bs =>
        rw [e1, e2] at h; cases h
        rw [List.any_cons, Bool.or_eq_true, any_mem hp.2 hx ha e2, eqv_pln y x b a hp.1 hx e1 ha, List.mem_cons]
        constructor
        · rintro (h | h)
          · exact .inl h.symm
          · exact .inr h
        · rintro (h | h)
          · exact .inl h.symm
          · exact .inr h
theorem dicOf_q (e : seqL S d = some xs) : dicOf S d = none := by
  rcases seqL_two e with rfl | ⟨l, rfl, z⟩
  · rfl
  · exact dicOf_lst z
theorem inD_q {n m : Nat} (e : seqL S d = some xs) (hx : fine n x = true) (hn : n ≤ 64) (hs : fines m xs = true) (hm : m ≤ 63) : ∃ b, inD S x d = some b ∧ (b = true ↔ x ∈ xs) := by
  obtain ⟨p1, a, a1, a2, a3⟩ := fine_ok n x hx
  obtain ⟨q1, as, b1, b2, b3⟩ := fines_ok m xs hs
  have e1 : toPyS S x = some a := by rw [toPyS_pln p1]; exact a1
  have e2 : toPyS S d = some (.list as) := by
    unfold toPyS
    rw [res_q e, map_res q1, toPy, b1]
  have s1 : SeqAt.shaped a = true := by unfold SeqAt.shaped; rw [a2, decide_eq_true (by omega)]; rfl
  have s2 : SeqAt.shaped (.list as) = true := by
    unfold SeqAt.shaped
    rw [PyData.canLay0, b2, decide_eq_true (by simp only [PyData.depth]; omega)]; rfl
  refine ⟨as.any fun z => PyData.eqv z a, ?_, any_mem q1 p1 a1 b1⟩
  have e3 : inObj S x d = some (as.any fun z => PyData.eqv z a) := by
    unfold inObj
    rw [dicOf_q e]
    show inSeq S x d = _
    unfold inSeq
    rw [e1, e2]
    exact if_pos ⟨s1, s2⟩
  unfold inD
  rcases seqL_two e with rfl | ⟨l, rfl, z⟩ <;> cases x <;> exact e3
/-- == [] of what can't be laid out -/
theorem eqD_nil (e : seqL S d = some xs) (hn : xs ≠ [] → toPyS S d = none) : eqD S d (.lst []) = some xs.isEmpty := by
  unfold eqD
  cases xs with
  | nil =>
    have e1 : toPyS S d = some (.list []) := by
      unfold toPyS
      rcases seqL_two e with rfl | ⟨l, rfl, z⟩
      · rfl
      · show toPy (match S[l]? with | some (.lst xs) => D.lst (xs.map (res 7 S)) | _ => D.ref l) = _
        rw [z]; rfl
    have e2 : toPyS S (.lst []) = some (.list []) := rfl
    rw [e1, e2]
    rfl
  | cons x t =>
    rw [hn (by simp)]
    show (match seqL S d, seqL S (.lst []) with | some xs, some ys => if xs.length = ys.length then none else some false | _, _ => none) = _
    rw [e]
    rfl
theorem Cp_eqnil (e : seqL S d = some xs) (hn : xs ≠ [] → toPyS S d = none) (h : PB xs.isEmpty) : Cp S .Eq d (.lst []) PB := ⟨⟨_, eqD_nil e hn, h⟩⟩
theorem Cp_nenil (e : seqL S d = some xs) (hn : xs ≠ [] → toPyS S d = none) (h : PB (!xs.isEmpty)) : Cp S .NotEq d (.lst []) PB := ⟨⟨_, by show (eqD S d (.lst [])).map _ = _; rw [eqD_nil e hn]; rfl, h⟩⟩
theorem toPyS_recs {l : Nat} {t : List D} {kvs : List (L2.Key × D)} (e : seqL S d = some (.ref l :: t)) (g : S[l]? = some (.dic kvs)) : toPyS S d = none := by
  unfold toPyS
  rw [show (8 : Nat) = 7 + 1 from rfl]
  have r : res (7 + 1) S d = .lst ((D.ref l :: t).map (res 7 S)) := by
    rcases seqL_two e with rfl | ⟨j, rfl, z⟩
    · rfl
    · show (match S[j]? with | some (.lst xs) => D.lst (xs.map (res 7 S)) | _ => D.ref j) = _
      rw [z]
  have r2 : res 7 S (.ref l) = .ref l := by
    show (match S[l]? with | some (.lst xs) => D.lst (xs.map (res 6 S)) | _ => D.ref l) = _
    rw [g]
  rw [r, List.map_cons, r2]
  rfl
theorem Bn_catq {y : D} {ys : List D} (e1 : seqL S d = some xs) (e2 : seqL S y = some ys) (hb : xs.length + ys.length ≤ 16777216) (h : Q (.lst (xs ++ ys))) : Bn S .Add d y Q := by
  refine ⟨⟨.lst (xs ++ ys), ?_, h⟩⟩
  have c : catD S .Add d y = some (.lst (xs ++ ys)) := by
    unfold catD
    simp only [e1, e2]
    rw [if_pos ⟨by omega, by omega, hb⟩]
  rcases seqL_two e1 with rfl | ⟨l, rfl, _⟩ <;> exact c
theorem Ct_q {y : D} {ys : List D} {q : List D → Prop} (e1 : seqL S d = some xs) (e2 : seqL S y = some ys) (hb : xs.length + ys.length ≤ 16777216) (h : q (xs ++ ys)) : CtP S .Add d y q := by
  refine ⟨⟨xs ++ ys, ?_, h⟩⟩
  simp only [catD, e1, e2]
  rw [if_pos ⟨by omega, by omega, hb⟩]
theorem Ct_m {k : Int} {q : List D → Prop} (e1 : seqL S d = some xs) (hb : -1000000 ≤ k ∧ k ≤ 1000000 ∧ xs.length * k.toNat ≤ 1000000) (h : q (List.replicate k.toNat xs).flatten) : CtP S .Mult d (.int k) q := by
  refine ⟨⟨_, ?_, h⟩⟩
  simp only [catD, e1]
  rw [if_pos hb]
theorem Li_q {q : List D → Prop} (e : seqL S d = some xs) (h : q xs) : LiP S [d] q := by
  refine ⟨⟨d, xs, rfl, ?_, h⟩⟩
  have e2 := seqL_seqO e
  rcases seqL_two e with rfl | ⟨l, rfl, z⟩
  · rfl
  · show (match seqO S (.ref l) with | some ys => some (D.lst ys) | none => none) = _
    rw [e2]
theorem Li_t {ys : List D} {q : List D → Prop} (h : q ys) : LiP S [.tup ys] q := ⟨⟨_, ys, rfl, rfl, h⟩⟩
theorem Dk_s {ks : List Str} {z : Str} {q : Bool → Prop} (h : q (ks.contains z)) : DkP ks (.str z) q := ⟨⟨z, rfl, h⟩⟩
theorem El_mk {n m : Nat} {q : Prop} (e : n = m) (h : q) : EqL n m q := ⟨⟨e, h⟩⟩
theorem Cp_inq {n m : Nat} (e : seqL S d = some xs) (hx : fine n x = true) (hn : n ≤ 64) (hs : fines m xs = true) (hm : m ≤ 63) (h1 : x ∈ xs → PB true) (h2 : x ∉ xs → PB false) : Cp S .In x d PB := by
  obtain ⟨b, e1, h⟩ := inD_q e hx hn hs hm
  refine ⟨⟨b, e1, ?_⟩⟩
  cases b with
  | true => exact h1 (h.mp rfl)
  | false => exact h2 fun z => by cases h.mpr z
theorem Cp_ninq {n m : Nat} (e : seqL S d = some xs) (hx : fine n x = true) (hn : n ≤ 64) (hs : fines m xs = true) (hm : m ≤ 63) (h1 : x ∈ xs → PB false) (h2 : x ∉ xs → PB true) : Cp S .NotIn x d PB := by
  obtain ⟨b, e1, h⟩ := inD_q e hx hn hs hm
  refine ⟨⟨!b, by show (inD S x d).map _ = _; rw [e1]; rfl, ?_⟩⟩
  cases b with
  | true => exact h1 (h.mp rfl)
  | false => exact h2 fun z => by cases h.mpr z
end
end Q

local macro_rules | `(tactic| fail "q1") => `(tactic| (with_reducible (first | apply Q.G_vvs | apply Q.G_vv0 | apply Q.G_kk | apply Q.G_bi | apply Q.G_ca | apply Q.G_a1 | apply Q.G_a0 | apply Q.Z_seq | apply Q.Z_set | apply Q.St_s | apply Q.St_0 | apply Q.G_ix | apply Q.G_cm | apply Q.G_tCm | apply Q.Bl_bl | apply Q.Z_if | apply Q.Z_ret | apply Q.G_bl | apply Q.G_tTr | apply Q.G_tNot | apply Q.G_tAnd | apply Q.G_tOr | apply Q.G_isn | apply Q.G_me | apply Q.G_lsv | apply Q.G_tu | apply Q.G_lsm | apply Q.G_nt | apply Q.G_ng | apply Q.G_cm2 | apply Q.G_ie | apply Q.G_sl | apply Q.G_andE | apply Q.G_orE | apply Q.G_p0 | apply Q.G_p1 | apply Q.G_iv | apply Q.G_r1 | apply Q.G_r2 | apply Q.G_lcv | apply Q.G_lcv1 | apply Q.G_lcm | apply Q.G_lcm1 | apply Q.Z_exp | apply Q.Z_pass | apply Q.Z_brk | apply Q.Z_cnt | apply Q.Z_ret0 | apply Q.Z_tup | apply Q.Z_sub | apply Q.Z_while | apply Q.Z_for | apply Q.Z_raise | apply Q.FnP_self | apply Q.Bn_add | apply Q.Bn_sub | apply Q.Bn_and | apply Q.Cp_lt | apply Q.Cp_le | apply Q.Cp_gt | apply Q.Cp_ge | apply Q.Cp_eqi | apply Q.Cp_nei | apply Q.Cp_is | apply Q.Cp_isn | apply Q.Tr_bl | apply Q.Tr_int | apply Q.Tr_lst | apply Q.Tr_tup | apply Q.Tr_non | apply Q.Io_int | apply Q.Bs_int | apply Q.Bs_intb | apply Q.Bs_len | apply Q.Bs_lent | apply Q.Bs_min | apply Q.Bs_max | apply Q.Bs_abs | apply Q.Md_bits | apply Q.Mt_bits | apply Q.It_lst | apply Q.It_tup | apply Q.Br_not | apply Q.Bd_b1 | apply Q.G_di0 | apply Q.Sl_lst | apply Q.Sl_tup | apply Q.Wp_0 | apply Q.Wp_s | apply Q.Sn_0 | apply Q.Sn_s | apply Q.Ct_mk1 | apply Q.Ct_mk | apply Q.Tn_mk | apply Q.G_zen | apply Q.G_zzp | apply Q.G_rvs | apply Q.G_lset | apply Q.G_dct | apply Q.G_k0 | apply Q.G_k1 | apply Q.G_dis | apply Q.En_lst | apply Q.Zp_tup | apply Q.Zp_lst | apply Q.Rv_lst | apply Q.Rv_tup | apply Q.Ky_str | apply Q.Ky_int | apply Q.Md_split | apply Q.Md_join | apply Q.Md_idx | apply Q.Ts_0 | apply Q.Ts_s | apply Q.Cp_eqb | apply Q.Cp_neb | apply Q.Z_try | apply Q.G_slm | apply Q.G_fmv | apply Q.G_fst | apply Q.G_j0 | apply Q.G_j1 | apply Q.G_biM | apply Q.G_liM | apply Q.G_dkc | apply Q.Z_par | apply Q.Z_mix | apply Q.Rn_0 | apply Q.Rn_s | apply Q.Tg_N | apply Q.Tg_A | apply Q.Tg_I | apply Q.Dk_s | apply Q.Z_fld | apply Q.G_fl | apply Q.G_meT | apply Q.G_mkI | apply Q.Li_t)))
local macro_rules | `(tactic| fail "q2") => `(tactic| (first | refine Q.El_mk rfl ?_ | refine Q.Mx_t rfl ?_ | refine Q.Ln_mk (Nat.le_of_ble_eq_true rfl) ?_ | refine Q.Bn_mod (by first | decide | omega) ?_ | refine Q.Bd_bT rfl ?_ | refine Q.Ix_by rfl ?_ | refine Q.Is_by (k := true) rfl ?_ | refine Q.Is_by (k := false) rfl ?_ | refine Q.R1_mk (by first | decide | omega) ?_ | refine Q.Bn_mulS (by omega) (by omega) ?_ | refine Q.Bn_fdivS (by omega) (by omega) ?_ | (apply Q.Ix_ref; assumption; exact rfl) | (apply Q.Sd_ref; assumption; exact rfl; intro _ _ _ _) | (apply Q.Bs_lenr; assumption) | (apply Q.Md_app; assumption)))
local macro_rules | `(tactic| fail "q3") => `(tactic| (first | refine Q.Br_t rfl ?_ | refine Q.Br_f rfl ?_ | refine Q.Br_t (decide_eq_true (by omega)) ?_ | refine Q.Br_f (decide_eq_false (by omega)) ?_ | (with_reducible refine Q.Br_dec (fun _ => ?_) (fun _ => ?_))))
local macro_rules | `(tactic| fail "q4") => `(tactic| (first | refine Q.Br_t rfl ?_ | refine Q.Br_f rfl ?_ | refine Q.Br_t (decide_eq_true (by omega)) ?_ | refine Q.Br_f (decide_eq_false (by omega)) ?_))
/-! Q15: plain helpers that lean on no law: texts, names, works, lists wherever they stand. -/
namespace Q
open PySem L2
theorem range_get {j : Int} {i : Nat} {d : D} (h : (rangeD 0 j).xs[i]? = some d) : d = .int i ∧ (i : Int) < j := by
  unfold rangeD at h
  simp only [List.getElem?_map] at h
  cases e : (List.range (j - 0).toNat)[i]? with
  | none => rw [e] at h; cases h
  | some k =>
    rw [e] at h
    obtain ⟨h1, h2⟩ := List.getElem?_eq_some_iff.mp e
    rw [List.getElem_range] at h2
    simp at h1
    cases h
    refine ⟨by subst h2; simp, by omega⟩
theorem range_len {j : Int} : (rangeD 0 j).xs.length = j.toNat := by
  unfold rangeD
  simp
/-- no object names another -/
def Flat (S : Store) : Prop := ∀ (i : Nat) (o : Ob), S[i]? = some o → ∀ n : Nat, obBelow n o = true
theorem Flat.all {S : Store} (h : Flat S) (n : Nat) : (S.take n).all (obBelow n) = true := by
  rw [List.all_eq_true]
  intro o ho
  obtain ⟨i, hi⟩ := List.mem_iff_getElem?.mp (List.mem_of_mem_take ho)
  exact h i o hi n
theorem Flat.take {S : Store} (h : Flat S) (n : Nat) : Flat (S.take n) := fun i o e => by
  rw [List.getElem?_take] at e
  split at e
  · exact h i o e
  · cases e
theorem take_get {S : Store} {i n : Nat} (h : i < n) : (S.take n)[i]? = S[i]? := by rw [List.getElem?_take, if_pos h]
/-- what a def of its own objects hands back: nothing of them -/
theorem Fn_val {n : Nat} {d : D} {S' : Store} {QD : D → Store → Prop} {E : EX} (hl : n < S'.length) (hb : (S'.take n).all (obBelow n) = true) (hd : below n d = true) (h : QD d (S'.take n)) : FnP false n d S' QD E :=
  Fn_own hl hb (fun _ => h) (fun z => by rw [hd] at z; cases z)
mutual
theorem below_fine : ∀ (n : Nat) (x : D) (m : Nat), fine n x = true → below m x = true
  | _, .non, _, _ => rfl
  | _, .int _, _, _ => rfl
  | _, .str _, _, _ => rfl
  | n, .bl _, _, h => rfl
  | n, .ref _, _, h => by cases n <;> simp [fine] at h
  | 0, .tup _, _, h => by simp [fine] at h
  | 0, .lst _, _, h => by simp [fine] at h
  | n + 1, .tup xs, m, h => below_fines n xs m (by simpa [fine] using h)
  | n + 1, .lst xs, m, h => below_fines n xs m (by simpa [fine] using h)
theorem below_fines : ∀ (n : Nat) (xs : List D) (m : Nat), fines n xs = true → belows m xs = true
  | _, [], _, _ => rfl
  | n, x :: xs, m, h => by
    rw [fines, Bool.and_eq_true] at h
    rw [belows, below_fine n x m h.1, below_fines n xs m h.2]; rfl
end
def low26 (c : Nat) : Bool := decide (97 ≤ c) && decide (c ≤ 122)
theorem letters_mem (c : Nat) : decide (c ∈ (Str.ofString "abcdefghijklmnopqrstuvwxyz").cps.toList) = low26 c := by
  have e : (Str.ofString "abcdefghijklmnopqrstuvwxyz").cps.toList = (List.range 26).map (97 + ·) := by decide +kernel
  rw [e]
  unfold low26
  rw [Bool.eq_iff_iff, decide_eq_true_eq, Bool.and_eq_true, decide_eq_true_eq, decide_eq_true_eq, List.mem_map]
  constructor
  · rintro ⟨k, hk, rfl⟩
    rw [List.mem_range] at hk
    omega
  · intro h
    exact ⟨c - 97, List.mem_range.mpr (by omega), by omega⟩
theorem Cp_sign {S : Store} {c : Nat} {Q : Bool → Prop} (h : Q (low26 c)) : Cp S .In (.str ⟨#[c]⟩) (.str "abcdefghijklmnopqrstuvwxyz") Q := by
  refine ⟨⟨low26 c, ?_, h⟩⟩
  show some (!(Builtin.Str.occurrences (Str.ofString "abcdefghijklmnopqrstuvwxyz") ⟨#[c]⟩ 0 (Str.ofString "abcdefghijklmnopqrstuvwxyz").length 1).isEmpty) = _
  rw [StrLaws.found_one, letters_mem]
theorem Bs_lenS {S : Store} {a : List Nat} {Q : D → Prop} (hl : a.length ≤ 16777216) (h : Q (.int a.length)) : BsP S .len [.str (SX.S a)] Q := by
  refine ⟨⟨.int a.length, ?_, h⟩⟩
  show (if (SX.S a).length ≤ 16777216 then some (D.int (SX.S a).length) else none) = _
  rw [SX.S_len, if_pos hl]
theorem It_str {S : Store} {a : List Nat} {q : Items → Prop} (h : q ⟨a.map fun c => .str ⟨#[c]⟩, none, false⟩) : ItP S (.str (SX.S a)) q := ⟨⟨_, rfl, h⟩⟩
theorem bls_map : ∀ bs : List Bool, blsOf (bs.map D.bl) = some bs
  | [] => rfl
  | b :: bs => by simp only [List.map_cons, blsOf, bls_map bs]
theorem Bs_all {S : Store} {bs : List Bool} {Q : D → Prop} (h : Q (.bl (bs.all id))) : BsP S .all [.lst (bs.map D.bl)] Q :=
  ⟨⟨.bl (bs.all id), by show allD S (.lst (bs.map D.bl)) = _; simp only [allD, seqL, bls_map], h⟩⟩
def okName (a : List Nat) : Bool := decide (1 ≤ a.length) && (decide (a.length ≤ 8) && a.all low26)
/-- what is no text -/
inductive NoS (S : Store) : D → Prop
  | non : NoS S .non
  | bl (b : Bool) : NoS S (.bl b)
  | int (i : Int) : NoS S (.int i)
  | tup (xs : List D) : NoS S (.tup xs)
  | lst (xs : List D) : NoS S (.lst xs)
  | ref (l : Nat) (xs : List D) (h : S[l]? = some (.lst xs)) : NoS S (.ref l)
  | dic (l : Nat) (kvs : List (L2.Key × D)) (h : S[l]? = some (.dic kvs)) : NoS S (.ref l)
theorem Is_dic {S : Store} {l : Nat} {kvs : List (L2.Key × D)} {t : Str} {PB : Bool → Prop} (e : S[l]? = some (.dic kvs)) (h : PB (t == "dict")) : IsP S (.ref l) t PB :=
  ⟨⟨_, by show (match S[l]? with | some (.lst _) => some (t == "list") | some (.dic _) => some (t == "dict") | _ => none) = _; rw [e], h⟩⟩
theorem joinL_nil : ∀ ys : List (List Nat), TL.joinL [] ys = ys.flatten
  | [] => rfl
  | [p] => by simp [TL.joinL]
  | p :: q :: r => by rw [TL.joinL, joinL_nil (q :: r)]; rfl
theorem flat_one : ∀ a : List Nat, (a.map fun c => [c]).flatten = a
  | [] => rfl
  | c :: a => by rw [List.map_cons, List.flatten_cons, flat_one a]; rfl
theorem Mt_join1 {S : Store} {a : List Nat} {QD : D → Store → Prop} (hl : a.length ≤ 1000000) (h : QD (.str (SX.S a)) S) : MtP S .join (.str "") [.lst (a.map fun c => .str ⟨#[c]⟩)] QD := by
  have e : (a.map fun c => D.str ⟨#[c]⟩) = ((a.map fun c => [c]).map SX.S).map D.str := by
    rw [List.map_map, List.map_map]; rfl
  rw [e]
  refine Mt_join ?_ ?_
  · rw [SX.lens]
    have : ((a.map fun c => [c]).map (·.length)).sum = a.length := by
      clear h e hl
      induction a with
      | nil => rfl
      | cons c a ih => rw [List.map_cons, List.map_cons, List.sum_cons, ih, List.length_cons]; simp; omega
    rw [this]
    have z : (Str.ofString "").length = 0 := by decide +kernel
    rw [z]
    omega
  · have z : Str.ofString "" = SX.S [] := by decide +kernel
    rw [z, SX.join_S, joinL_nil, flat_one]
    exact h
theorem atI_S {a : List Nat} {n : Int} (h0 : 0 ≤ n) (h1 : n < a.length) : ∃ c, a[n.toNat]? = some c ∧ L2.atI a n = some c := by
  have lt : n.toNat < a.length := by omega
  refine ⟨a[n.toNat], List.getElem?_eq_getElem lt, ?_⟩
  unfold L2.atI L2.ixN
  rw [if_pos h0, if_pos h1]
  simp [lt]
theorem Ix_strS {S : Store} {a : List Nat} {n : Int} {Q : D → Prop} (hl : a.length ≤ 1000000) (h0 : 0 ≤ n) (h1 : n < a.length) (h : ∀ c ∈ a, Q (.str ⟨#[c]⟩)) : IxP S (.str (SX.S a)) (.int n) Q := by
  obtain ⟨c, e1, e2⟩ := atI_S h0 h1
  refine ⟨⟨.str ⟨#[c]⟩, ?_, h c (List.mem_of_getElem? e1)⟩⟩
  show (if (SX.S a).length ≤ 16777216 then (match L2.atI a n with | some c => some (D.str ⟨#[c]⟩) | none => none) else none) = _
  rw [SX.S_len, if_pos (by omega), e2]
theorem Sl_to {S : Store} {a : List Nat} {n : Int} {Q : D → Prop} (hl : a.length ≤ 1000000) (h0 : 0 ≤ n) (h : Q (.str (SX.S (a.take n.toNat)))) : SlP S (.str (SX.S a)) none (some n) Q :=
  ⟨⟨_, by show (if (SX.S a).length ≤ 16777216 then some (D.str (Txt.slice (SX.S a) none (some n))) else none) = _; rw [SX.S_len, if_pos (by omega), SX.slice_to h0], h⟩⟩
theorem Sl_from {S : Store} {a : List Nat} {n : Int} {Q : D → Prop} (hl : a.length ≤ 1000000) (h0 : 0 ≤ n) (h : Q (.str (SX.S (a.drop n.toNat)))) : SlP S (.str (SX.S a)) (some n) none Q :=
  ⟨⟨_, by show (if (SX.S a).length ≤ 16777216 then some (D.str (Txt.slice (SX.S a) (some n) none)) else none) = _; rw [SX.S_len, if_pos (by omega), SX.slice_from h0], h⟩⟩
theorem Bn_catS {S : Store} {a b : List Nat} {Q : D → Prop} (hb : a.length + b.length ≤ 1000000) (h : Q (.str (SX.S (a ++ b)))) : Bn S .Add (.str (SX.S a)) (.str (SX.S b)) Q := by
  refine Bn_str (by rw [SX.S_len, SX.S_len]; omega) ?_
  rw [SX.S_cat]; exact h
theorem alpha : Str.ofString "abcdefghijklmnopqrstuvwxyz" = SX.S ((List.range 26).map (97 + ·)) := by decide +kernel
abbrev dS (a : List Nat) : D := .str (SX.S a)
def sOk (a : List Nat) : Bool := a.all fun c => decide (c < 1114112)
theorem strOk_S {a : List Nat} (h : sOk a = true) : PyData.strOk (SX.S a) = true := by
  unfold sOk at h
  show a.toArray.all (fun c => decide (c < 0x110000)) = true
  rw [List.all_toArray]
  exact h
theorem fine_S {a : List Nat} {n : Nat} (h : sOk a = true) : fine n (dS a) = true := by cases n <;> exact strOk_S h
theorem okName_s {a : List Nat} (h : okName a = true) : sOk a = true := by
  unfold okName at h
  rw [Bool.and_eq_true, Bool.and_eq_true] at h
  unfold sOk
  rw [List.all_eq_true]
  intro c hc
  have := List.all_eq_true.mp h.2.2 c hc
  unfold low26 at this
  rw [Bool.and_eq_true, decide_eq_true_eq, decide_eq_true_eq] at this
  exact decide_eq_true (by omega)
theorem okName_len {a : List Nat} (h : okName a = true) : 1 ≤ a.length ∧ a.length ≤ 8 := by
  unfold okName at h
  rw [Bool.and_eq_true, Bool.and_eq_true, decide_eq_true_eq, decide_eq_true_eq] at h
  exact ⟨h.1, h.2.1⟩
theorem dS_inj {a b : List Nat} (h : dS a = dS b) : a = b := by
  injection h with h
  exact SX.S_inj h
theorem Cp_eqS {S : Store} {a b : List Nat} {PB : Bool → Prop} (ha : sOk a = true) (hb : sOk b = true) (h : PB (decide (a = b))) : Cp S .Eq (dS a) (dS b) PB := by
  refine Cp_eq (EqOk.of (n := 0) (fine_S ha) (by decide)) (EqOk.of (n := 0) (fine_S hb) (by decide)) (fun e => ?_) (fun e => ?_)
  · rw [decide_eq_true (dS_inj e)] at h; exact h
  · rw [decide_eq_false (fun z => e (by rw [z]))] at h; exact h
theorem fines_S {ns : List (List Nat)} {n : Nat} (h : ∀ a ∈ ns, sOk a = true) : fines n (ns.map dS) = true := by
  refine fines_all fun x hx => ?_
  obtain ⟨a, ha, rfl⟩ := List.mem_map.mp hx
  exact fine_S (h a ha)
theorem mem_dS {ns : List (List Nat)} {a : List Nat} : dS a ∈ ns.map dS ↔ a ∈ ns := by
  constructor
  · intro h
    obtain ⟨b, hb, e⟩ := List.mem_map.mp h
    rw [← dS_inj e]; exact hb
  · exact fun h => List.mem_map_of_mem h
theorem Cp_inS {S : Store} {d : D} {ns : List (List Nat)} {a : List Nat} {PB : Bool → Prop} (e : seqL S d = some (ns.map dS)) (ha : sOk a = true) (hs : ∀ b ∈ ns, sOk b = true) (h : PB (decide (a ∈ ns))) : Cp S .In (dS a) d PB :=
  Cp_inq (n := 0) (m := 0) e (fine_S ha) (by decide) (fines_S hs) (by decide) (fun z => by rw [decide_eq_true (mem_dS.mp z)] at h; exact h) (fun z => by rw [decide_eq_false (fun q => z (mem_dS.mpr q))] at h; exact h)
theorem Cp_ninS {S : Store} {d : D} {ns : List (List Nat)} {a : List Nat} {PB : Bool → Prop} (e : seqL S d = some (ns.map dS)) (ha : sOk a = true) (hs : ∀ b ∈ ns, sOk b = true) (h : PB (!decide (a ∈ ns))) : Cp S .NotIn (dS a) d PB :=
  Cp_ninq (n := 0) (m := 0) e (fine_S ha) (by decide) (fines_S hs) (by decide) (fun z => by rw [decide_eq_true (mem_dS.mp z)] at h; exact h) (fun z => by rw [decide_eq_false (fun q => z (mem_dS.mpr q))] at h; exact h)
/-- a text in a tuple of two texts -/
theorem Cp_in2 {S : Store} {a b c : List Nat} {PB : Bool → Prop} (ha : sOk a = true) (hb : sOk b = true) (hc : sOk c = true) (h : PB (decide (a = b) || decide (a = c))) : Cp S .In (dS a) (.tup [dS b, dS c]) PB := by
  obtain ⟨p1, x, a1, a2, a3⟩ := fine_ok 0 (dS a) (fine_S ha)
  have hs : fines 0 [dS b, dS c] = true := fines_S (ns := [b, c]) (by simp [hb, hc])
  obtain ⟨q1, as, b1, b2, b3⟩ := fines_ok 0 [dS b, dS c] hs
  have e1 : toPyS S (dS a) = some x := by rw [toPyS_pln p1]; exact a1
  have e2 : toPyS S (.tup [dS b, dS c]) = some (.tuple as) := by
    rw [toPyS_pln (by simpa [pln] using q1), toPy, b1]
  have s1 : SeqAt.shaped x = true := by unfold SeqAt.shaped; rw [a2, decide_eq_true (by omega)]; rfl
  have s2 : SeqAt.shaped (.tuple as) = true := by
    unfold SeqAt.shaped
    rw [PyData.canLay0, b2, decide_eq_true (by simp only [PyData.depth]; omega)]; rfl
  have m := any_mem q1 p1 a1 b1
  refine ⟨⟨as.any fun z => PyData.eqv z x, ?_, ?_⟩⟩
  · show inSeq S (dS a) (.tup [dS b, dS c]) = _
    unfold inSeq
    rw [e1, e2]
    exact if_pos ⟨s1, s2⟩
  · have : (as.any fun z => PyData.eqv z x) = (decide (a = b) || decide (a = c)) := by
      rw [Bool.eq_iff_iff, m, Bool.or_eq_true, decide_eq_true_eq, decide_eq_true_eq]
      have := mem_dS (ns := [b, c]) (a := a)
      simp only [List.map_cons, List.map_nil, List.mem_cons, List.not_mem_nil, or_false] at this
      simp only [List.mem_cons, List.not_mem_nil, or_false]
      exact this
    rw [this]
    exact h
theorem ItCf_q {S : Store} {d : D} {xs : List D} {f : D → Store → Out (Option D)} {QL : List D → Store → Prop} (I : Nat → List D → Store → Prop) (hI : ∀ i acc S', I i acc S' → seqL S' d = some xs) (hl : xs.length < 100000) (h0 : I 0 [] S)
    (step : ∀ i x acc S', xs[i]? = some x → I i acc S' → acc.length ≤ i → W (f x S') (fun o S1 => match o with
      | some y => I (i + 1) (acc ++ [y]) S1
      | none => I (i + 1) acc S1) noX) (stop : ∀ acc S', I xs.length acc S' → QL acc S') : ItP S d (fun it => CfP it f S QL) := by
  have e := hI 0 [] S h0
  rcases seqL_two e with rfl | ⟨l, rfl, z⟩
  · exact It_lst (Cf_inv (it := ⟨xs, none, false⟩) I hl h0 step stop)
  · refine ⟨⟨⟨xs, some l, false⟩, by show (match S[l]? with | some (.lst xs) => some (Items.mk xs (some l) false) | _ => none) = _; rw [z], ?_⟩⟩
    refine Cf_invR I (fun i acc S' h => ?_) hl h0 step stop
    have := hI i acc S' h
    rcases seqL_two this with q | ⟨l', q, z'⟩
    · cases q
    · cases q; exact z'
theorem replicate_snoc {α : Type} (i : Nat) (b : α) : List.replicate i b ++ [b] = List.replicate (i + 1) b := (List.replicate_succ' ..).symm
theorem all_true (n : Nat) : (List.replicate n true).all id = true := by
  induction n with
  | zero => rfl
  | succ n ih => rw [List.replicate_succ, List.all_cons, ih]; rfl
theorem onceS_nodup : ∀ (xs acc : List Str), (acc ++ xs).Nodup → onceS acc xs = acc ++ xs
  | [], acc, _ => by simp [onceS]
  | x :: xs, acc, h => by
    have hx : x ∉ acc := by
      intro z
      rw [List.nodup_append] at h
      exact h.2.2 x z x (List.mem_cons_self ..) rfl
    unfold onceS
    rw [if_neg hx, onceS_nodup xs (acc ++ [x]) (by simpa using h)]
    simp
theorem nodup_S {ns : List (List Nat)} (h : ns.Nodup) : (ns.map SX.S).Nodup := by
  unfold List.Nodup at *
  rw [List.pairwise_map]
  exact h.imp fun h e => h (SX.S_inj e)
theorem map_dS (ns : List (List Nat)) : ns.map dS = (ns.map SX.S).map D.str := by rw [List.map_map]; rfl
theorem Ls_S {S : Store} {d : D} {ns : List (List Nat)} {Q : D → Prop} (e : seqL S d = some (ns.map dS)) (hn : ns.Nodup) (hl : ns.length ≤ 1000) (h : Q (.int ns.length)) : LsP S d Q := by
  refine ⟨⟨.int ns.length, ?_, h⟩⟩
  unfold lenSetD
  rw [seqL_seqO e, map_dS]
  simp only [strs_map]
  rw [if_pos (by rw [List.length_map]; exact hl), onceS_nodup _ [] (by rw [List.nil_append]; exact nodup_S hn), List.nil_append, List.length_map]
inductive Sm where
  | own | add (i : Int) | spin (i : Int) | call (b : Bool) (h n : List Nat)
def cOwn : List Nat := [111, 119, 110]
def cAdd : List Nat := [97, 100, 100]
def cSpin : List Nat := [115, 112, 105, 110]
def cMake : List Nat := [109, 97, 107, 101]
def cAsk : List Nat := [97, 115, 107]
theorem kOwn : Str.ofString "own" = SX.S cOwn := by decide +kernel
theorem kAdd : Str.ofString "add" = SX.S cAdd := by decide +kernel
theorem kSpin : Str.ofString "spin" = SX.S cSpin := by decide +kernel
theorem kMake : Str.ofString "make" = SX.S cMake := by decide +kernel
theorem kAsk : Str.ofString "ask" = SX.S cAsk := by decide +kernel
def cCall (b : Bool) : List Nat := if b then cAsk else cMake
def dSm : Sm → D
  | .own => .tup [dS cOwn]
  | .add i => .tup [dS cAdd, .int i]
  | .spin i => .tup [dS cSpin, .int i]
  | .call b h n => .tup [dS (cCall b), dS h, dS n]
def okSm (hs ns : List (List Nat)) : Sm → Prop
  | .own => True
  | .add i => -1000 ≤ i ∧ i ≤ 1000
  | .spin i => 1 ≤ i ∧ i ≤ 4
  | .call _ h n => h ∈ hs ∧ n ∈ ns
def isCall : Sm → Bool
  | .call .. => true
  | _ => false
theorem cCall_s (b : Bool) : sOk (cCall b) = true := by cases b <;> decide
theorem nempty {S : Store} {x : D} {xs : List D} {PB : Bool → Prop} {n : Nat} (hf : fine n (.tup (x :: xs)) = true) (hn : n ≤ 64) (h : PB false) : Cp S .Eq (.tup (x :: xs)) (.tup []) PB :=
  Cp_eq (EqOk.of hf hn) (EqOk.of (n := 1) rfl (by decide)) (fun e => by injection e with e; cases e) (fun _ => h)
structure okBody (hs ns : List (List Nat)) (b : List Sm) : Prop where
  len : b.length ≤ 6
  all : ∀ m ∈ b, okSm hs ns m
  calls : (b.filter isCall).length ≤ 3
def dBody (b : List Sm) : D := .tup (b.map dSm)
theorem fst_call {S : Store} {m : Sm} {PB : Bool → Prop} (h : PB (isCall m)) : ∃ x, IxP S (dSm m) (.int 0) (fun d => d = x) ∧ Cp S .In x (.tup [dS cMake, dS cAsk]) PB := by
  cases m with
  | own => exact ⟨dS cOwn, ⟨⟨_, rfl, rfl⟩⟩, Cp_in2 (by decide) (by decide) (by decide) h⟩
  | add i => exact ⟨dS cAdd, ⟨⟨_, rfl, rfl⟩⟩, Cp_in2 (by decide) (by decide) (by decide) h⟩
  | spin i => exact ⟨dS cSpin, ⟨⟨_, rfl, rfl⟩⟩, Cp_in2 (by decide) (by decide) (by decide) h⟩
  | call b hh n => exact ⟨dS (cCall b), ⟨⟨_, rfl, rfl⟩⟩, Cp_in2 (cCall_s b) (by decide) (by decide) (by cases b <;> exact h)⟩
abbrev Wk := List Nat × List Sm
def dWork (w : Wk) : D := .tup [dS w.1, dBody w.2]
def nms (ws : List Wk) : List (List Nat) := ws.map (·.1)
theorem nms_len (ws : List Wk) : (nms ws).length = ws.length := List.length_map ..
theorem mem_nms {ws : List Wk} {w : Wk} (h : w ∈ ws) : w.1 ∈ nms ws := List.mem_map_of_mem h
structure okW (hs : List (List Nat)) (ws : List Wk) : Prop where
  h1 : 1 ≤ hs.length
  h4 : hs.length ≤ 4
  hn : hs.Nodup
  hg : ∀ a ∈ hs, okName a = true
  w1 : 1 ≤ ws.length
  w5 : ws.length ≤ 5
  wn : (nms ws).Nodup
  wg : ∀ a ∈ nms ws, okName a = true
  wb : ∀ w ∈ ws, okBody hs (nms ws) w.2
theorem ItTr_q {S : Store} {d : D} {xs : List D} {f : D → Store → Out (Option D)} {QL : List D → Store → Prop} (e : seqL S d = some xs) (hl : xs.length < 100000) (step : ∀ x ∈ xs, W (f x S) (fun o S1 => o = some (.bl true) ∧ S1 = S) noX) (stop : QL ((List.replicate xs.length true).map D.bl) S) : ItP S d (fun it => CfP it f S QL) := by
  refine ItCf_q (xs := xs) (fun i acc S' => S' = S ∧ acc = (List.replicate i true).map D.bl) (fun i acc S' h => by rw [h.1]; exact e) hl ⟨rfl, rfl⟩ ?_ ?_
  · rintro i x acc S' hx ⟨rfl, rfl⟩ _
    refine (step x (List.mem_of_getElem? hx)).post ?_
    rintro o S1 ⟨rfl, rfl⟩
    exact ⟨rfl, by rw [← replicate_snoc, List.map_append]; rfl⟩
  · rintro acc S' ⟨rfl, rfl⟩
    exact stop
theorem ItMap_q {α : Type} {S : Store} {d : D} {ws : List α} {g h : α → D} {f : D → Store → Out (Option D)} {QL : List D → Store → Prop} (e : seqL S d = some (ws.map g)) (hl : ws.length < 100000) (step : ∀ w ∈ ws, W (f (g w) S) (fun o S1 => o = some (h w) ∧ S1 = S) noX) (stop : QL (ws.map h) S) : ItP S d (fun it => CfP it f S QL) := by
  refine ItCf_q (xs := ws.map g) (fun i acc S' => S' = S ∧ acc = (ws.take i).map h) (fun i acc S' h => by rw [h.1]; exact e) (by rw [List.length_map]; exact hl) ⟨rfl, rfl⟩ ?_ ?_
  · rintro i x acc S' hx ⟨rfl, rfl⟩ _
    rw [List.getElem?_map, Option.map_eq_some_iff] at hx
    obtain ⟨w, hw, rfl⟩ := hx
    refine (step w (List.mem_of_getElem? hw)).post ?_
    rintro o S1 ⟨rfl, rfl⟩
    exact ⟨rfl, by rw [List.take_succ, hw, List.map_append]; rfl⟩
  · rintro acc S' ⟨rfl, rfl⟩
    rw [List.length_map, List.take_length]
    exact stop
theorem map_nms (ws : List Wk) : ws.map (fun w => dS w.1) = (nms ws).map dS := by unfold nms; rw [List.map_map]; rfl
/-- all but the place l stays -/
structure Kp (l : Nat) (S S' : Store) : Prop where
  len : S.length ≤ S'.length
  get : ∀ i, i ≠ l → i < S.length → S'[i]? = S[i]?
theorem Kp.refl {l : Nat} {S : Store} : Kp l S S := ⟨Nat.le_refl _, fun _ _ _ => rfl⟩
theorem Kp.trans {l : Nat} {S S1 S2 : Store} (h : Kp l S S1) (g : Kp l S1 S2) : Kp l S S2 :=
  ⟨Nat.le_trans h.len g.len, fun i hi hl => by rw [g.get i hi (Nat.lt_of_lt_of_le hl h.len), h.get i hi hl]⟩
theorem Kp.same {l : Nat} {S S' : Store} (h : S'.length = S.length) (g : ∀ i, i ≠ l → S'[i]? = S[i]?) : Kp l S S' := ⟨by omega, fun i hi _ => g i hi⟩
theorem Kp.app {l : Nat} {S T : Store} : Kp l S (S ++ T) := ⟨by rw [List.length_append]; omega, fun i _ hl => List.getElem?_append_left hl⟩
theorem Kp.take {l n : Nat} {S S' : Store} (h : Kp l S S') (hn : S.length ≤ n) : Kp l S (S'.take n) :=
  ⟨by rw [List.length_take]; have := h.len; omega, fun i hi hl => by rw [take_get (by omega), h.get i hi hl]⟩
theorem seqL_lt {S : Store} {j : Nat} {xs : List D} (e : seqL S (.ref j) = some xs) : S[j]? = some (.lst xs) ∧ j < S.length := by
  rcases seqL_two e with z | ⟨i, z, h⟩
  · cases z
  · cases z
    exact ⟨h, (List.getElem?_eq_some_iff.mp h).1⟩
theorem Kp.seq {l : Nat} {S S' : Store} {d : D} {xs : List D} (h : Kp l S S') (e : seqL S d = some xs) (hd : d ≠ .ref l) : seqL S' d = some xs := by
  rcases seqL_two e with rfl | ⟨j, rfl, z⟩
  · exact e
  · exact seqL_ref (by rw [h.get j (fun q => hd (by rw [q])) (List.getElem?_eq_some_iff.mp z).1]; exact z)
theorem Fn_any {n : Nat} {d : D} {S' : Store} {QD : D → Store → Prop} {E : EX} (h1 : QD d S') (h2 : below n d = true → QD d (S'.take n)) : FnP false n d S' QD E := by
  refine ⟨?_⟩
  rw [fin_eq]
  split
  · exact ⟨h1⟩
  · show W (if (below n d && (S'.take n).all (obBelow n)) = true then .ok d (S'.take n) else .ok d S') QD E
    split
    · rename_i z
      exact ⟨h2 (by rw [Bool.and_eq_true] at z; exact z.1)⟩
    · exact ⟨h1⟩
def letter (n : Int) : Nat := 97 + n.toNat
theorem Ix_alpha {S : Store} {n : Int} {Q : D → Prop} (h0 : 0 ≤ n) (h1 : n < 26) (h : Q (dS [letter n])) : IxP S (.str "abcdefghijklmnopqrstuvwxyz") (.int n) Q := by
  rw [alpha]
  obtain ⟨c, e1, e2⟩ := atI_S (a := (List.range 26).map (97 + ·)) h0 (by rw [List.length_map, List.length_range]; omega)
  refine ⟨⟨.str ⟨#[c]⟩, ?_, ?_⟩⟩
  · show (if (SX.S ((List.range 26).map (97 + ·))).length ≤ 16777216 then (match L2.atI ((List.range 26).map (97 + ·)) n with | some c => some (D.str ⟨#[c]⟩) | none => none) else none) = _
    rw [SX.S_len, if_pos (by rw [List.length_map, List.length_range]; omega), e2]
  · rw [List.getElem?_map, Option.map_eq_some_iff] at e1
    obtain ⟨i, hi, rfl⟩ := e1
    have : i = n.toNat := by
      obtain ⟨_, z⟩ := List.getElem?_eq_some_iff.mp hi
      rw [List.getElem_range] at z
      exact z.symm
    subst this
    exact h
theorem CfRange {S : Store} {m : Int} {f : D → Store → Out (Option D)} {QL : List D → Store → Prop} (g : Nat → D) (hm : m < 1000) (step : ∀ i : Nat, (i : Int) < m → W (f (.int i) S) (fun o S1 => o = some (g i) ∧ S1 = S) noX) (stop : QL ((List.range m.toNat).map g) S) : CfP (rangeD 0 m) f S QL := by
  refine Cf_inv (fun i acc S' => S' = S ∧ acc = (List.range i).map g) (by rw [range_len]; omega) ⟨rfl, rfl⟩ ?_ ?_
  · rintro i d acc S' hd ⟨rfl, rfl⟩ _
    obtain ⟨rfl, hi⟩ := range_get hd
    refine (step i hi).post ?_
    rintro o S1 ⟨rfl, rfl⟩
    exact ⟨rfl, by rw [List.range_succ, List.map_append]; rfl⟩
  · rintro acc S' ⟨rfl, rfl⟩
    rw [range_len]
    exact stop
theorem times_S {c : Nat} {k : Nat} : timesS (SX.S [c]) ((k : Int) + 1) = SX.S (List.replicate (k + 1) c) := by
  unfold timesS
  split
  · have : k = 0 := by omega
    subst this; rfl
  · rw [if_neg (by rw [SX.S_len, List.length_singleton]; decide)]
    have : ((k : Int) + 1).toNat = k + 1 := by omega
    rw [this]
    show Str.mk ((List.replicate (k + 1) [c]).flatten.toArray) = ⟨(List.replicate (k + 1) c).toArray⟩
    congr 2
    generalize k + 1 = n
    induction n with
    | zero => rfl
    | succ n ih => rw [List.replicate_succ, List.flatten_cons, ih]; rfl
theorem Bs_tupq {S : Store} {d : D} {xs : List D} {Q : D → Prop} (e : seqL S d = some xs) (h : Q (.tup xs)) : BsP S .tuple [d] Q :=
  ⟨⟨.tup xs, by show (match seqO S d with | some ys => some (D.tup ys) | none => none) = _; rw [seqL_seqO e], h⟩⟩
theorem filter_snoc (b : List Sm) (m : Sm) : ((b ++ [m]).filter isCall).length = (b.filter isCall).length + (if isCall m then 1 else 0) := by
  rw [List.filter_append, List.length_append]
  congr 1
  cases h : isCall m <;> simp [List.filter, h]
theorem atI_last {α : Type} {xs : List α} (h : 0 < xs.length) : ∃ x, x ∈ xs ∧ L2.atI xs (-1) = some x := by
  refine ⟨xs[xs.length - 1], List.getElem_mem .., ?_⟩
  unfold L2.atI L2.ixN
  rw [if_neg (by decide), if_pos (by omega)]
  have : ((-1 : Int) + xs.length).toNat = xs.length - 1 := by omega
  simp only [this]
  exact List.getElem?_eq_getElem (by omega)
theorem cut_to {α : Type} (xs : List α) (i : Nat) (h : i ≤ xs.length) : cut xs none (some (i : Int)) = xs.take i := by
  show List.take ((if (i : Int) < 0 then ((i : Int) + xs.length).toNat else min (i : Int).toNat xs.length) - 0) (List.drop 0 xs) = _
  rw [if_neg (by omega), List.drop_zero]
  congr 1
  omega
theorem cut_from {α : Type} (xs : List α) (i : Nat) (h : i ≤ xs.length) : cut xs (some (i : Int)) none = xs.drop i := by
  show List.take (xs.length - (if (i : Int) < 0 then ((i : Int) + xs.length).toNat else min (i : Int).toNat xs.length)) (List.drop (if (i : Int) < 0 then ((i : Int) + xs.length).toNat else min (i : Int).toNat xs.length) xs) = _
  rw [if_neg (by omega)]
  have : min (i : Int).toNat xs.length = i := by omega
  rw [this, List.take_of_length_le (by rw [List.length_drop]; omega)]
theorem En_ref {S : Store} {l : Nat} {xs : List D} {q : Items → Prop} (e : S[l]? = some (.lst xs)) (h : q ⟨xs, some l, true⟩) : EnP S (.ref l) q := by
  refine ⟨⟨_, ?_, h⟩⟩
  show (match S[l]? with | some (.lst xs) => some (Items.mk xs (some l) true) | _ => none) = _
  rw [e]
theorem It_ref {S : Store} {l : Nat} {xs : List D} {q : Items → Prop} (e : S[l]? = some (.lst xs)) (h : q ⟨xs, some l, false⟩) : ItP S (.ref l) q := by
  refine ⟨⟨_, ?_, h⟩⟩
  show (match S[l]? with | some (.lst xs) => some (Items.mk xs (some l) false) | _ => none) = _
  rw [e]
theorem putG_new {α : Type} {kvs : List (L2.Key × α)} {k : L2.Key} {v : α} (h : ∀ kv ∈ kvs, kv.1 ≠ k) : putG kvs k v = kvs ++ [(k, v)] := by
  unfold putG
  rw [if_neg]
  intro z
  obtain ⟨kv, hm, e⟩ := List.any_eq_true.mp z
  exact h kv hm (of_decide_eq_true e)
theorem mergeG_nodup {α : Type} : ∀ (kvs acc : List (L2.Key × α)), ((acc ++ kvs).map (·.1)).Nodup → mergeG acc kvs = acc ++ kvs
  | [], acc, _ => by simp [mergeG]
  | kv :: kvs, acc, h => by
    have hx : ∀ q ∈ acc, q.1 ≠ kv.1 := by
      intro q hq e
      rw [List.map_append, List.nodup_append] at h
      exact h.2.2 q.1 (List.mem_map_of_mem hq) kv.1 (List.mem_cons_self ..) e
    show mergeG (putG acc kv.1 kv.2) kvs = _
    rw [putG_new hx, mergeG_nodup kvs _ (by simpa using h)]
    simp
theorem valG_mem {α : Type} : ∀ {kvs : List (L2.Key × α)} {k : L2.Key} {v : α}, (kvs.map (·.1)).Nodup → (k, v) ∈ kvs → valG kvs k = some v
  | [], _, _, _, h => by simp at h
  | (k', v') :: kvs, k, v, nd, h => by
    rw [List.map_cons, List.nodup_cons] at nd
    unfold valG
    rw [List.find?_cons]
    rcases List.mem_cons.mp h with e | e
    · injection e with e1 e2
      subst e1 e2
      simp
    · have : k' ≠ k := fun z => nd.1 (by rw [z]; exact List.mem_map_of_mem (f := (·.1)) e)
      rw [decide_eq_false this]
      exact valG_mem nd.2 e
def kvs (ws : List Wk) : List (L2.Key × D) := ws.map fun w => (.inr (SX.S w.1), dBody w.2)
theorem pairs_kvs : ∀ ws : List Wk, pairsD (ws.map dWork) = some (kvs ws)
  | [] => rfl
  | w :: ws => by
    show (match keyD (dS w.1), pairsD (ws.map dWork) with | some k, some r => some ((k, dBody w.2) :: r) | _, _ => none) = _
    rw [pairs_kvs ws]
    rfl
theorem kvs_nodup {ws : List Wk} (h : (nms ws).Nodup) : ((kvs ws).map (·.1)).Nodup := by
  have e : (kvs ws).map (·.1) = (nms ws).map fun a => (Sum.inr (SX.S a) : L2.Key) := by unfold kvs nms; rw [List.map_map, List.map_map]; rfl
  rw [e]
  unfold List.Nodup at *
  rw [List.pairwise_map]
  exact h.imp fun h e => h (SX.S_inj (Sum.inr.inj e))
theorem seqL_app {S T : Store} {d : D} {xs : List D} (e : seqL S d = some xs) : seqL (S ++ T) d = some xs := by
  rcases seqL_two e with rfl | ⟨j, rfl, z⟩
  · exact e
  · exact seqL_ref (by rw [List.getElem?_append_left (List.getElem?_eq_some_iff.mp z).1]; exact z)
theorem Dc_q {S : Store} {d : D} {xs : List D} {kv : List (L2.Key × D)} {Q : D → Store → Prop} (e : seqL S d = some xs) (p : pairsD xs = some kv) (nd : (kv.map (·.1)).Nodup) (h : Q (.ref S.length) (S ++ [.dic kv])) : DcP S [d] Q := by
  refine ⟨⟨d, .ref S.length, S ++ [.dic kv], rfl, ?_, h⟩⟩
  have m : mergeG [] kv = kv := mergeG_nodup kv [] (by simpa using nd)
  unfold dictD
  rw [dicOf_q e, e]
  simp only [p, m]
theorem fine_Sm {hs ns : List (List Nat)} {m : Sm} (s1 : ∀ b ∈ hs, sOk b = true) (s2 : ∀ b ∈ ns, sOk b = true) (hm : okSm hs ns m) : fine 1 (dSm m) = true := by
  cases m with
  | own =>
    show (fine 0 (dS cOwn) && true) = true
    rw [fine_S (by decide)]; rfl
  | add i =>
    show (fine 0 (dS cAdd) && (fine 0 (.int i) && true)) = true
    rw [fine_S (by decide)]; rfl
  | spin i =>
    show (fine 0 (dS cSpin) && (fine 0 (.int i) && true)) = true
    rw [fine_S (by decide)]; rfl
  | call b h n =>
    show (fine 0 (dS (cCall b)) && (fine 0 (dS h) && (fine 0 (dS n) && true))) = true
    rw [fine_S (cCall_s b), fine_S (s1 h hm.1), fine_S (s2 n hm.2)]; rfl
theorem fine_body {hs ns : List (List Nat)} {b : List Sm} (s1 : ∀ b ∈ hs, sOk b = true) (s2 : ∀ b ∈ ns, sOk b = true) (hb : okBody hs ns b) : fine 2 (dBody b) = true := by
  show fines 1 (b.map dSm) = true
  refine fines_all fun x hx => ?_
  obtain ⟨m, hm, rfl⟩ := List.mem_map.mp hx
  exact fine_Sm s1 s2 (hb.all m hm)
theorem okW.s1 {hs : List (List Nat)} {ws : List Wk} (ok : okW hs ws) : ∀ b ∈ hs, sOk b = true := fun b hb => okName_s (ok.hg b hb)
theorem okW.s2 {hs : List (List Nat)} {ws : List Wk} (ok : okW hs ws) : ∀ b ∈ nms ws, sOk b = true := fun b hb => okName_s (ok.wg b hb)
theorem fine_works {hs : List (List Nat)} {ws : List Wk} (ok : okW hs ws) : fine 4 (.lst (ws.map dWork)) = true := by
  show fines 3 (ws.map dWork) = true
  refine fines_all fun x hx => ?_
  obtain ⟨w, hw, rfl⟩ := List.mem_map.mp hx
  show (fine 2 (dS w.1) && (fine 2 (dBody w.2) && true)) = true
  rw [fine_S (ok.s2 _ (mem_nms hw)), fine_body ok.s1 ok.s2 (ok.wb w hw)]; rfl
theorem fine_names {ns : List (List Nat)} {n : Nat} (h : ∀ a ∈ ns, sOk a = true) : fine (n + 1) (.lst (ns.map dS)) = true := fines_S h
theorem fine_bodies {hs : List (List Nat)} {ws : List Wk} (ok : okW hs ws) : fine 3 (.lst (ws.map fun w => dBody w.2)) = true := by
  show fines 2 _ = true
  refine fines_all fun x hx => ?_
  obtain ⟨w, hw, rfl⟩ := List.mem_map.mp hx
  exact fine_body ok.s1 ok.s2 (ok.wb w hw)
/-- comparing what names lists of the store -/
theorem Cp_neR {S : Store} {x y x' y' : D} {PB : Bool → Prop} (ex : res 8 S x = x') (ey : res 8 S y = y') (hx : EqOk S x') (hy : EqOk S y') (h1 : x' = y' → PB false) (h2 : x' ≠ y' → PB true) : Cp S .NotEq x y PB := by
  obtain ⟨p1, a, e1, t1⟩ := hx
  obtain ⟨p2, b, e2, t2⟩ := hy
  have m := eqv_pln x' y' a b p1 p2 e1 e2
  have e : eqD S x y = some (PyData.eqv a b) := by
    unfold eqD toPyS
    rw [ex, ey, e1, e2]
    simp only [t1, t2, and_self, ↓reduceIte]
  refine ⟨⟨!PyData.eqv a b, by show (eqD S x y).map _ = _; rw [e]; rfl, ?_⟩⟩
  cases z : PyData.eqv a b with
  | true => exact h1 (m.mp z)
  | false => exact h2 fun q => by rw [m.mpr q] at z; cases z
theorem nodup_rev {α : Type} {xs : List α} (h : xs.Nodup) : xs.reverse.Nodup := by
  unfold List.Nodup at *
  rw [List.pairwise_reverse]
  exact h.imp fun h e => h e.symm
theorem okW.rev {hs : List (List Nat)} {ws : List Wk} (ok : okW hs ws) : okW hs.reverse ws.reverse := by
  have en : nms ws.reverse = (nms ws).reverse := by unfold nms; rw [List.map_reverse]
  refine ⟨by rw [List.length_reverse]; exact ok.h1, by rw [List.length_reverse]; exact ok.h4, nodup_rev ok.hn, fun a ha => ok.hg a (List.mem_reverse.mp ha), by rw [List.length_reverse]; exact ok.w1, by rw [List.length_reverse]; exact ok.w5, by rw [en]; exact nodup_rev ok.wn, fun a ha => ok.wg a (by rw [en] at ha; exact List.mem_reverse.mp ha), fun w hw => ?_⟩
  have ob := ok.wb w (List.mem_reverse.mp hw)
  refine ⟨ob.len, fun m hm => ?_, ob.calls⟩
  have := ob.all m hm
  cases m with
  | call b h n => exact ⟨List.mem_reverse.mpr this.1, by rw [en]; exact List.mem_reverse.mpr this.2⟩
  | _ => exact this
theorem finX_same {S : Store} {c : Str} {Qd : D → Store → Prop} {E : EX} (h : E c S) : W (finX S.length c S) Qd E := by
  unfold finX
  rw [if_pos rfl]
  exact ⟨h⟩
/-- plain data that is no text -/
def Odd (x : D) : Prop := ∃ p, (∀ S, toPyS S x = some p) ∧ SeqAt.shaped p = true ∧ (∀ q : Str, PyData.eqv (.str q) p = false) ∧ ∀ z : Str, x ≠ .str z
theorem any_odd {p : PyData} (hp : ∀ q : Str, PyData.eqv (.str q) p = false) : ∀ {ns : List (List Nat)} {as : List PyData}, toPys (ns.map dS) = some as → (as.any fun z => PyData.eqv z p) = false
  | [], as, h => by cases h; rfl
  | n :: ns, as, h => by
    simp only [List.map_cons, toPys, toPy] at h
    cases e2 : toPys (ns.map dS) with
    | none => rw [e2] at h; cases h
    | some bs =>
      rw [e2] at h; cases h
      rw [List.any_cons, hp, any_odd hp e2]; rfl
theorem inD_odd {S : Store} {d x : D} {ns : List (List Nat)} (e : seqL S d = some (ns.map dS)) (hx : Odd x) (hs : ∀ b ∈ ns, sOk b = true) : inD S x d = some false := by
  obtain ⟨p, p1, p3, p4, p5⟩ := hx
  obtain ⟨q1, as, b1, b2, b3⟩ := fines_ok 0 _ (fines_S hs)
  have e1 : toPyS S x = some p := p1 S
  have e2 : toPyS S d = some (.list as) := by
    unfold toPyS
    rw [res_q e, map_res q1, toPy, b1]
  have s2 : SeqAt.shaped (.list as) = true := by
    unfold SeqAt.shaped
    rw [PyData.canLay0, b2, decide_eq_true (by simp only [PyData.depth]; omega)]; rfl
  have e3 : inObj S x d = some false := by
    unfold inObj
    rw [dicOf_q e]
    show inSeq S x d = _
    unfold inSeq
    rw [e1, e2]
    rw [← any_odd p4 b1]
    exact if_pos ⟨p3, s2⟩
  unfold inD
  rcases seqL_two e with rfl | ⟨l, rfl, z⟩ <;> cases x <;> first | exact e3 | exact absurd rfl (p5 _)
theorem Cp_nino {S : Store} {d x : D} {ns : List (List Nat)} {PB : Bool → Prop} (e : seqL S d = some (ns.map dS)) (hx : Odd x) (hs : ∀ b ∈ ns, sOk b = true) (h : PB true) : Cp S .NotIn x d PB := by
  refine ⟨⟨true, ?_, h⟩⟩
  show (inD S x d).map (! ·) = _
  rw [inD_odd e hx hs]; rfl
theorem odd_fine {n : Nat} {x : D} (h : fine n x = true) (hn : n ≤ 64) (hx : ∀ z, x ≠ .str z) : Odd x := by
  obtain ⟨p1, p, e, c, d⟩ := fine_ok n x h
  refine ⟨p, fun S => by rw [toPyS_pln p1]; exact e, ?_, ?_, hx⟩
  · unfold SeqAt.shaped
    rw [c, decide_eq_true (by omega)]; rfl
  · intro q
    cases x with
    | str z => exact absurd rfl (hx z)
    | bl b => simp [pln] at p1
    | ref l => simp [pln] at p1
    | non => cases e; simp [PyData.eqv]
    | int i => cases e; simp [PyData.eqv]
    | tup xs => simp only [toPy] at e; split at e <;> cases e; simp [PyData.eqv]
    | lst xs => simp only [toPy] at e; split at e <;> cases e; simp [PyData.eqv]
theorem odd_bl (b : Bool) : Odd (.bl b) := ⟨.bool b, fun _ => rfl, rfl, fun q => by simp [PyData.eqv], fun z h => by cases h⟩
theorem odd_non : Odd .non := odd_fine (n := 0) rfl (by decide) fun z h => by cases h
theorem odd_int (i : Int) : Odd (.int i) := odd_fine (n := 0) rfl (by decide) fun z h => by cases h
theorem odd_tup1 {a : List Nat} (h : sOk a = true) : Odd (.tup [dS a]) := odd_fine (n := 1) (by show (fine 0 (dS a) && true) = true; rw [fine_S h]; rfl) (by decide) fun z h => by cases h
theorem odd_lst1 {a : List Nat} (h : sOk a = true) : Odd (.lst [dS a]) := odd_fine (n := 1) (by show (fine 0 (dS a) && true) = true; rw [fine_S h]; rfl) (by decide) fun z h => by cases h
/-- by computing -/
theorem Bn_by {S : Store} {op : Operator} {x y d : D} {Q : D → Prop} (e : binD S op x y = some d) (h : Q d) : Bn S op x y Q := ⟨⟨d, e, h⟩⟩
/-- a comprehension that leaves the store as it is -/
theorem CfFM {α : Type} {S : Store} {xs : List α} {g : α → D} (q : α → Option D) {f : D → Store → Out (Option D)} {QL : List D → Store → Prop} (hl : xs.length < 100000) (step : ∀ w ∈ xs, W (f (g w) S) (fun o S1 => o = q w ∧ S1 = S) noX) (stop : QL (xs.filterMap q) S) : CfP ⟨xs.map g, none, false⟩ f S QL := by
  refine Cf_inv (fun i acc S' => S' = S ∧ acc = (xs.take i).filterMap q) (by show (xs.map g).length < 100000; rw [List.length_map]; exact hl) ⟨rfl, rfl⟩ ?_ ?_
  · rintro i d acc S' hd ⟨rfl, rfl⟩ _
    have hd : (xs.map g)[i]? = some d := hd
    rw [List.getElem?_map, Option.map_eq_some_iff] at hd
    obtain ⟨a, ha, rfl⟩ := hd
    refine (step a (List.mem_of_getElem? ha)).post ?_
    rintro o S1 ⟨rfl, rfl⟩
    have ht : xs.take (i + 1) = xs.take i ++ [a] := by rw [List.take_succ, ha]; rfl
    rw [ht, List.filterMap_append]
    cases e : q a with
    | none => exact ⟨rfl, by simp [List.filterMap, e]⟩
    | some y => exact ⟨rfl, by simp [List.filterMap, e]⟩
  · rintro acc S' ⟨rfl, rfl⟩
    have : xs.take (Items.mk (xs.map g) none false).xs.length = xs := List.take_of_length_le (by show _ ≤ (xs.map g).length; rw [List.length_map]; exact Nat.le_refl _)
    rw [this]
    exact stop
theorem Ix_alphaS {S : Store} {n : Int} {Q : D → Prop} (h0 : 0 ≤ n) (h1 : n < 26) (h : Q (dS [letter n])) : IxP S (.str (SX.S ((List.range 26).map (97 + ·)))) (.int n) Q := by
  rw [← alpha]; exact Ix_alpha h0 h1 h
theorem kNil : Str.ofString "" = SX.S [] := by decide +kernel
theorem letter_low {n : Int} (h0 : 0 ≤ n) (h1 : n < 26) : low26 (letter n) = true := by
  unfold low26 letter
  rw [Bool.and_eq_true, decide_eq_true_eq, decide_eq_true_eq]
  omega
theorem okName_mk {a : List Nat} (h1 : 1 ≤ a.length) (h8 : a.length ≤ 8) (h : ∀ c ∈ a, low26 c = true) : okName a = true := by
  unfold okName
  rw [decide_eq_true h1, decide_eq_true h8, List.all_eq_true.mpr h]; rfl
theorem CfMap {α : Type} {S : Store} {xs : List α} {g h : α → D} {f : D → Store → Out (Option D)} {QL : List D → Store → Prop} (hl : xs.length < 100000) (step : ∀ w ∈ xs, W (f (g w) S) (fun o S1 => o = some (h w) ∧ S1 = S) noX) (stop : QL (xs.map h) S) : CfP ⟨xs.map g, none, false⟩ f S QL := by
  refine Cf_inv (fun i acc S' => S' = S ∧ acc = (xs.take i).map h) (by show (xs.map g).length < 100000; rw [List.length_map]; exact hl) ⟨rfl, rfl⟩ ?_ ?_
  · rintro i d acc S' hd ⟨rfl, rfl⟩ _
    have hd : (xs.map g)[i]? = some d := hd
    rw [List.getElem?_map, Option.map_eq_some_iff] at hd
    obtain ⟨a, ha, rfl⟩ := hd
    refine (step a (List.mem_of_getElem? ha)).post ?_
    rintro o S1 ⟨rfl, rfl⟩
    exact ⟨rfl, by rw [List.take_succ, ha, List.map_append]; rfl⟩
  · rintro acc S' ⟨rfl, rfl⟩
    have : xs.take (Items.mk (xs.map g) none false).xs.length = xs := List.take_of_length_le (by show _ ≤ (xs.map g).length; rw [List.length_map]; exact Nat.le_refl _)
    rw [this]
    exact stop
end Q
/-! Q16: texts joined, split; numbers as texts. -/
namespace Q
open PySem L2
theorem sum_le {B : Nat} : ∀ {ps : List (List Nat)}, (∀ p ∈ ps, p.length ≤ B) → (ps.map (·.length)).sum ≤ ps.length * B
  | [], _ => Nat.zero_le _
  | p :: ps, h => by
    have h1 := h p (List.mem_cons_self ..)
    have h2 := sum_le (ps := ps) fun q hq => h q (List.mem_cons_of_mem _ hq)
    rw [List.map_cons, List.sum_cons, List.length_cons, Nat.succ_mul]
    omega
theorem joinL_len {sep : List Nat} {B : Nat} : ∀ {ps : List (List Nat)}, (∀ p ∈ ps, p.length ≤ B) → (TL.joinL sep ps).length ≤ ps.length * (B + sep.length)
  | [], _ => Nat.zero_le _
  | [p], h => by
    have := h p (List.mem_cons_self ..)
    show p.length ≤ 1 * (B + sep.length)
    omega
  | p :: q :: r, h => by
    have h1 := h p (List.mem_cons_self ..)
    have h2 := joinL_len (sep := sep) (ps := q :: r) fun z hz => h z (List.mem_cons_of_mem _ hz)
    rw [TL.joinL, List.length_append, List.length_append, List.length_cons, Nat.succ_mul]
    omega
theorem joinL_all {sep : List Nat} {P : Nat → Prop} (hs : ∀ c ∈ sep, P c) : ∀ {ps : List (List Nat)}, (∀ p ∈ ps, ∀ c ∈ p, P c) → ∀ c ∈ TL.joinL sep ps, P c
  | [], _, c, hc => by cases hc
  | [p], h, c, hc => h p (List.mem_cons_self ..) c hc
  | p :: q :: r, h, c, hc => by
    rw [TL.joinL] at hc
    rcases List.mem_append.mp hc with z | z
    · exact h p (List.mem_cons_self ..) c z
    rcases List.mem_append.mp z with z | z
    · exact hs c z
    · exact joinL_all hs (ps := q :: r) (fun z hz => h z (List.mem_cons_of_mem _ hz)) c z
theorem joinL_snoc (sep : List Nat) : ∀ (p : List Nat) (ps : List (List Nat)) (q : List Nat), TL.joinL sep (p :: ps ++ [q]) = TL.joinL sep (p :: ps) ++ sep ++ q
  | p, [], q => by
    show p ++ (sep ++ q) = p ++ sep ++ q
    rw [List.append_assoc]
  | p, r :: ps, q => by
    have ih := joinL_snoc sep r ps q
    show p ++ (sep ++ TL.joinL sep (r :: ps ++ [q])) = (p ++ (sep ++ TL.joinL sep (r :: ps))) ++ sep ++ q
    rw [ih]
    simp
theorem Mt_joinq {S : Store} {d : D} {sep : List Nat} {ps : List (List Nat)} {QD : D → Store → Prop} (B : Nat) (e : seqO S d = some (ps.map dS)) (hb : ∀ p ∈ ps, p.length ≤ B) (hl : ps.length * B + ps.length * sep.length ≤ 16777216) (h : QD (dS (TL.joinL sep ps)) S) : MtP S .join (dS sep) [d] QD := by
  refine ⟨⟨dS (TL.joinL sep ps), S, ?_, h⟩⟩
  have e2 : ps.map dS = (ps.map SX.S).map D.str := by rw [List.map_map]; rfl
  rw [e2] at e
  have h1 := sum_le hb
  have z : ((ps.map SX.S).map (·.length)).sum + (ps.map SX.S).length * (SX.S sep).length ≤ 16777216 := by
    rw [SX.lens, List.length_map, SX.S_len]
    omega
  simp only [mthD, e, strs_map]
  rw [if_pos z, SX.join_S]
theorem Mt_splitq {S : Store} {a sep : List Nat} {ps : List (List Nat)} {QD : D → Store → Prop} (hs : sep ≠ []) (hk : sep.all (· < 256) = true) (hl : a.length + 2 ≤ 16777216) (e : TL.spl sep 0 [] a = ps) (h : QD (.lst (ps.map dS)) S) : MtP S .split (dS a) [dS sep] QD := by
  have z : ((SX.S sep).length == 0) = false := by
    rw [SX.S_len]
    cases sep with
    | nil => exact absurd rfl hs
    | cons c t => rfl
  refine Mt_split ⟨z, by rw [SX.S_len]; exact hl⟩ ?_
  rw [SX.split_S hs hk, e, List.map_map]
  exact h
theorem semi_free : ∀ (p t : List Nat) (i : Nat), 59 ∉ p → t.head? ≠ some 59 → i < p.length → TL.pre [32, 59, 32] ((p ++ t).drop i) = false
  | [], _, i, _, _, h => absurd h (by simp)
  | c :: p, t, 0, hp, ht, _ => by
    show ((c :: (p ++ t)).take 3 == [32, 59, 32]) = false
    rw [beq_eq_false_iff_ne]
    intro e
    cases p with
    | nil =>
      cases t with
      | nil => simp at e
      | cons d t =>
        simp at e
        exact ht (by rw [e.2.1]; rfl)
    | cons d p =>
      simp at e
      exact hp (by rw [e.2.1]; simp)
  | c :: p, t, i + 1, hp, ht, h => by
    show TL.pre [32, 59, 32] ((p ++ t).drop i) = false
    exact semi_free p t i (fun z => hp (List.mem_cons_of_mem _ z)) ht (by simpa using h)
theorem spl_semi : ∀ {ps : List (List Nat)}, ps ≠ [] → (∀ p ∈ ps, 59 ∉ p) → TL.spl [32, 59, 32] 0 [] (TL.joinL [32, 59, 32] ps) = ps
  | [], h, _ => absurd rfl h
  | [p], _, hp => by
    show TL.spl [32, 59, 32] 0 [] p = [p]
    refine TL.spl_last fun i hi => ?_
    have := semi_free p [] i (hp p (List.mem_cons_self ..)) (by simp) hi
    rwa [List.append_nil] at this
  | p :: q :: r, _, hp => by
    show TL.spl [32, 59, 32] 0 [] (p ++ ([32, 59, 32] ++ TL.joinL [32, 59, 32] (q :: r))) = p :: q :: r
    rw [TL.spl_part (by simp) (fun i hi => semi_free p _ i (hp p (List.mem_cons_self ..)) (by simp) hi), List.nil_append, spl_semi (by simp) fun z hz => hp z (List.mem_cons_of_mem _ hz)]
/-- a sign in a text -/
theorem Cp_inT {S : Store} {c : Nat} {b : List Nat} {PB : Bool → Prop} (h : PB (decide (c ∈ b))) : Cp S .In (.str ⟨#[c]⟩) (dS b) PB := by
  refine ⟨⟨decide (c ∈ b), ?_, h⟩⟩
  show some (!(Builtin.Str.occurrences (SX.S b) ⟨#[c]⟩ 0 (SX.S b).length 1).isEmpty) = _
  rw [StrLaws.found_one]
/-! ### numbers as texts -/
def num (i : Int) : List Nat := (Str.ofString (toString i)).cps.toList
theorem num_S (i : Int) : Str.ofString (toString i) = SX.S (num i) := (SX.S_tl _).symm
def isDig (c : Nat) : Bool := decide (48 ≤ c) && decide (c ≤ 57)
def sgn (a : List Nat) : Nat := if a.take 1 = [45] then 1 else 0
def okTxt (i : Int) (a : List Nat) : Bool :=
  decide (1 ≤ (a.drop (sgn a)).length) && (decide (a.length ≤ 9) && ((a.drop (sgn a)).all isDig && ((decide ((a.drop (sgn a)).take 1 ≠ [48]) || decide (a = [48])) && ((PySem.intText? (SX.S a) == some i) && a.all fun c => decide (c = 45) || isDig c))))
theorem nums_ok : ∀ n < 1001, (okTxt (n : Nat) (num (n : Nat)) && okTxt (-(n : Nat)) (num (-(n : Nat)))) = true := by decide +kernel
theorem num_ok {i : Int} (h1 : -1000 ≤ i) (h2 : i ≤ 1000) : okTxt i (num i) = true := by
  have := nums_ok i.natAbs (by omega)
  rw [Bool.and_eq_true] at this
  rcases Int.le_total 0 i with h | h
  · have e : ((i.natAbs : Nat) : Int) = i := by omega
    rw [e] at this
    exact this.1
  · have e : -((i.natAbs : Nat) : Int) = i := by omega
    rw [e] at this
    exact this.2
structure NumT (i : Int) (a : List Nat) : Prop where
  f1 : 1 ≤ (a.drop (sgn a)).length
  a9 : a.length ≤ 9
  dig : ∀ c ∈ a.drop (sgn a), isDig c = true
  zero : (a.drop (sgn a)).take 1 = [48] → a = [48]
  val : PySem.intText? (SX.S a) = some i
  all : ∀ c ∈ a, c = 45 ∨ isDig c = true
theorem numT {i : Int} (h1 : -1000 ≤ i) (h2 : i ≤ 1000) : NumT i (num i) := by
  have := num_ok h1 h2
  unfold okTxt at this
  simp only [Bool.and_eq_true, Bool.or_eq_true, decide_eq_true_eq, beq_iff_eq, List.all_eq_true] at this
  obtain ⟨a1, a2, a3, a4, a5, a6⟩ := this
  exact ⟨a1, a2, a3, fun z => a4.resolve_left fun q => q z, a5, a6⟩
theorem log_1000 {i : Int} (h1 : -1000 ≤ i) (h2 : i ≤ 1000) : i.natAbs.log2 < 1920 := Nat.lt_trans (log_lt (k := 10) (by decide) (by omega)) (by decide)
theorem Bs_strI {S : Store} {i : Int} {Q : D → Prop} (h1 : -1000 ≤ i) (h2 : i ≤ 1000) (h : Q (dS (num i))) : BsP S .str [.int i] Q :=
  ⟨⟨dS (num i), by show (if i.natAbs.log2 < 1920 then some (D.str (Str.ofString (toString i))) else none) = _; rw [if_pos (log_1000 h1 h2), num_S], h⟩⟩
theorem Bs_strS {S : Store} {x : Str} {Q : D → Prop} (h : Q (.str x)) : BsP S .str [.str x] Q := ⟨⟨_, rfl, h⟩⟩
theorem Fm_I {i : Int} {Q : D → Prop} (h1 : -1000 ≤ i) (h2 : i ≤ 1000) (h : Q (dS (num i))) : FmP (.int i) Q :=
  ⟨⟨dS (num i), by show (if i.natAbs.log2 < 1920 then some (D.str (Str.ofString (toString i))) else none) = _; rw [if_pos (log_1000 h1 h2), num_S], h⟩⟩
theorem Fm_S {a : List Nat} {Q : D → Prop} (hl : a.length ≤ 16777216) (h : Q (dS a)) : FmP (dS a) Q :=
  ⟨⟨dS a, by show (if (SX.S a).length ≤ 16777216 then some (D.str (SX.S a)) else none) = _; rw [SX.S_len, if_pos hl], h⟩⟩
theorem Jn_S {a b : List Nat} {Q : Str → Prop} (hl : a.length + b.length ≤ 16777216) (h : Q (SX.S (a ++ b))) : JnP (dS b) (SX.S a) Q :=
  ⟨⟨SX.S b, rfl, by rw [SX.S_cat, SX.S_len, List.length_append]; exact hl, by rw [SX.S_cat]; exact h⟩⟩
theorem G_fstS {S : Store} {σ : Env} {ts : List XE} {QD : D → Store → Prop} {E : EX} (h : G (joinF ts (SX.S [])) σ S QD E) : G (fst ts) σ S QD E := ⟨h.out⟩
theorem Bs_intS {S : Store} {a : List Nat} {i : Int} {Q : D → Prop} (hl : a.length ≤ 640) (e : PySem.intText? (SX.S a) = some i) (h : Q (.int i)) : BsP S .int [dS a] Q := by
  refine ⟨⟨.int i, ?_, h⟩⟩
  show (match PySem.intText? (SX.S a) with | some n => if (SX.S a).length ≤ 640 then some (D.int n) else none | none => none) = _
  rw [e]
  show (if (SX.S a).length ≤ 640 then some (D.int i) else none) = _
  rw [SX.S_len, if_pos hl]
end Q
/-! Q17: numbers of any size as texts; texts cut and joined, any texts. -/
namespace Q
open PySem L2
/-! ### numbers -/
theorem dig_all {a : List Nat} (h : a.all isDig = true) : NumText.AllDigits a := fun c hc => by
  have := List.all_eq_true.mp h c hc
  unfold isDig at this
  rw [Bool.and_eq_true, decide_eq_true_eq, decide_eq_true_eq] at this
  exact this
def figs (a : List Nat) : List Nat := a.drop (sgn a)
def valOf (a : List Nat) : Int := if sgn a = 1 then -((NumText.digitsVal (figs a) : Nat) : Int) else ((NumText.digitsVal (figs a) : Nat) : Int)
/-- the number of so many figures at most that a word writes -/
def numOf (m : Nat) (a : List Nat) : Option Int :=
  if 1 ≤ (figs a).length ∧ (figs a).length ≤ m ∧ (figs a).all isDig = true then (if (figs a).take 1 = [48] ∧ a ≠ [48] then none else some (valOf a)) else none
theorem sgn_cases (a : List Nat) : (sgn a = 0 ∧ figs a = a) ∨ (sgn a = 1 ∧ a = 45 :: figs a) := by
  unfold figs sgn
  cases a with
  | nil => exact .inl ⟨rfl, rfl⟩
  | cons c t =>
    by_cases h : c = 45
    · subst h
      exact .inr ⟨rfl, rfl⟩
    · left
      have : ¬ (c :: t).take 1 = [45] := fun z => h (by injection z)
      rw [if_neg this]
      exact ⟨rfl, rfl⟩
structure NumF (m : Nat) (a : List Nat) (i : Int) : Prop where
  f1 : 1 ≤ (figs a).length
  fm : (figs a).length ≤ m
  dig : (figs a).all isDig = true
  zero : (figs a).take 1 = [48] → a = [48]
  val : valOf a = i
theorem numOf_some {m : Nat} {a : List Nat} {i : Int} (h : numOf m a = some i) : NumF m a i := by
  unfold numOf at h
  split at h
  · next c =>
    split at h
    · cases h
    · next z =>
      cases h
      exact ⟨c.1, c.2.1, c.2.2, fun q => Classical.byContradiction fun r => z ⟨q, r⟩, rfl⟩
  · cases h
theorem NumF.int {m : Nat} {a : List Nat} {i : Int} (n : NumF m a i) (hm : m ≤ 600) : PySem.intText? (SX.S a) = some i := by
  have hl := n.fm
  have hne : figs a ≠ [] := fun z => by have := n.f1; rw [z] at this; simp at this
  have v := n.val
  unfold valOf at v
  rcases sgn_cases a with ⟨h, e⟩ | ⟨h, e⟩
  · rw [if_neg (by omega)] at v
    rw [← v, e]
    have := PySem.intText_digits (x := SX.S a) (show NumText.AllDigits a from by rw [← e]; exact dig_all n.dig) (show a ≠ [] from by rw [← e]; exact hne) (by rw [SX.S_len, ← e]; omega)
    exact this
  · rw [if_pos h] at v
    rw [← v]
    exact PySem.intText_neg (x := SX.S a) (cs := figs a) e (dig_all n.dig) hne (by rw [SX.S_len, e, List.length_cons]; omega)
theorem NumF.len {m : Nat} {a : List Nat} {i : Int} (n : NumF m a i) : a.length ≤ m + 1 := by
  have := n.fm
  rcases sgn_cases a with ⟨-, e⟩ | ⟨-, e⟩
  · rw [← e]; omega
  · rw [e, List.length_cons]; omega
theorem ofNat_back {c : Nat} (h : 48 ≤ c ∧ c ≤ 57) : (Char.ofNat c).toNat = c := by
  obtain ⟨k, rfl⟩ : ∃ k, c = 48 + k := ⟨c - 48, by omega⟩
  have : ∀ k < 10, (Char.ofNat (48 + k)).toNat = 48 + k := by decide
  exact this k (by omega)
theorem nat_txt {cs : List Nat} (h : NumText.AllDigits cs) (hne : cs ≠ []) (hz : cs.take 1 = [48] → cs = [48]) : (Nat.toDigits 10 (NumText.digitsVal cs)).map Char.toNat = cs := by
  cases cs with
  | nil => exact absurd rfl hne
  | cons c t =>
    have hc := h.head
    rw [NumText.toDigits_digitsVal t.length (c :: t) rfl h (by
      by_cases e : c = 48
      · subst e
        have := hz rfl
        injection this with _ e2
        subst e2
        exact .inl rfl
      · exact .inr ⟨c, t, rfl, by omega⟩), List.map_map]
    refine Eq.trans (List.map_congr_left fun x hx => ofNat_back (h x hx)) (List.map_id _)
theorem num_nat (n : Nat) : num (n : Int) = (Nat.toDigits 10 n).map Char.toNat := by
  unfold num
  rw [PyProof.Rows.signs_ofString]
  show (Nat.repr n).toList.map Char.toNat = _
  rw [Nat.toList_repr]
theorem num_neg (n : Nat) (h : 0 < n) : num (-(n : Int)) = 45 :: (Nat.toDigits 10 n).map Char.toNat := by
  obtain ⟨k, rfl⟩ : ∃ k, n = k + 1 := ⟨n - 1, by omega⟩
  unfold num
  rw [PyProof.Rows.signs_ofString]
  show ("-" ++ Nat.repr (k + 1)).toList.map Char.toNat = _
  rw [String.toList_append, List.map_append, Nat.toList_repr]
  rfl
theorem NumF.num {m : Nat} {a : List Nat} {i : Int} (n : NumF m a i) : num i = a := by
  have hne : figs a ≠ [] := fun z => by have := n.f1; rw [z] at this; simp at this
  have v := n.val
  unfold valOf at v
  rcases sgn_cases a with ⟨h, e⟩ | ⟨h, e⟩
  · rw [if_neg (by omega)] at v
    rw [← v, num_nat, nat_txt (dig_all n.dig) hne (fun z => by have := n.zero z; rw [e]; exact this), e]
  · rw [if_pos h] at v
    have nz : ¬ (figs a).take 1 = [48] := fun z => by
      have := n.zero z
      rw [this] at e
      cases e
    have pos : 0 < NumText.digitsVal (figs a) := by
      cases q : figs a with
      | nil => exact absurd q hne
      | cons c t =>
        have hc := (dig_all n.dig) c (by rw [q]; exact List.mem_cons_self ..)
        have : c ≠ 48 := fun z => nz (by rw [q, z]; rfl)
        exact NumText.digitsVal_pos (by omega)
    rw [← v, num_neg _ pos, nat_txt (dig_all n.dig) hne (fun z => absurd z nz)]
    exact e.symm
/-! ### cut and joined -/
theorem spl_par {S : List Nat} (hS : S ≠ []) : ∀ (l acc : List Nat), (TL.par S acc l = none ∧ TL.spl S 0 acc l = [acc ++ l]) ∨ ∃ p q, TL.par S acc l = some (p, q) ∧ TL.spl S 0 acc l = p :: TL.spl S 0 [] q ∧ acc ++ l = p ++ (S ++ q) ∧ q.length < l.length
  | [], acc => .inl ⟨rfl, by rw [TL.spl_nil, List.append_nil]⟩
  | c :: r, acc => by
    have hl : 1 ≤ S.length := by cases S with | nil => exact absurd rfl hS | cons _ _ => simp
    cases h : TL.pre S (c :: r) with
    | true =>
      refine .inr ⟨acc, (c :: r).drop S.length, ?_, ?_, ?_, ?_⟩
      · show (if TL.pre S (c :: r) = true then _ else _) = _
        rw [if_pos h]
      · rw [TL.spl_hit h, TL.spl_pass]
        congr 2
        obtain ⟨k, hk⟩ : ∃ k, S.length = k + 1 := ⟨S.length - 1, by omega⟩
        rw [hk]; rfl
      · unfold TL.pre at h
        have e : (c :: r).take S.length = S := eq_of_beq h
        have := List.take_append_drop S.length (c :: r)
        rw [e] at this
        rw [this]
      · rw [List.length_drop, List.length_cons]; omega
    | false =>
      have h1 : TL.par S acc (c :: r) = TL.par S (acc ++ [c]) r := by
        show (if TL.pre S (c :: r) = true then _ else _) = _
        rw [if_neg (by rw [h]; decide)]
      rw [h1, TL.spl_miss h]
      rcases spl_par hS r (acc ++ [c]) with ⟨a1, a2⟩ | ⟨p, q, a1, a2, a3, a4⟩
      · exact .inl ⟨a1, by rw [a2]; simp⟩
      · exact .inr ⟨p, q, a1, a2, by rw [← a3]; simp, by rw [List.length_cons]; omega⟩
theorem spl_ne {S : List Nat} (hS : S ≠ []) (l acc : List Nat) : TL.spl S 0 acc l ≠ [] := by
  rcases spl_par hS l acc with ⟨-, e⟩ | ⟨p, q, -, e, -⟩ <;> rw [e] <;> simp
theorem joinL_cons {S p : List Nat} {ps : List (List Nat)} (h : ps ≠ []) : TL.joinL S (p :: ps) = p ++ (S ++ TL.joinL S ps) := by
  cases ps with
  | nil => exact absurd rfl h
  | cons q r => rfl
theorem join_spl {S : List Nat} (hS : S ≠ []) : ∀ (n : Nat) (l acc : List Nat), l.length ≤ n → TL.joinL S (TL.spl S 0 acc l) = acc ++ l
  | 0, l, acc, h => by
    have : l = [] := List.eq_nil_of_length_eq_zero (by omega)
    subst this
    rw [TL.spl_nil, List.append_nil]; rfl
  | n + 1, l, acc, h => by
    rcases spl_par hS l acc with ⟨-, e⟩ | ⟨p, q, -, e, e2, lt⟩
    · rw [e]; rfl
    · rw [e, e2, joinL_cons (spl_ne hS q []), join_spl hS n q [] (by omega), List.nil_append]
theorem spl_mem {S : List Nat} (hS : S ≠ []) : ∀ (n : Nat) (l acc : List Nat), l.length ≤ n → ∀ p ∈ TL.spl S 0 acc l, ∀ c ∈ p, c ∈ acc ∨ c ∈ l
  | 0, l, acc, h => by
    have : l = [] := List.eq_nil_of_length_eq_zero (by omega)
    subst this
    rw [TL.spl_nil]
    intro p hp c hc
    rw [List.mem_singleton.mp hp] at hc
    exact .inl hc
  | n + 1, l, acc, h => by
    rcases spl_par hS l acc with ⟨-, e⟩ | ⟨p, q, -, e, e2, lt⟩
    · rw [e]
      intro p hp c hc
      rw [List.mem_singleton.mp hp] at hc
      exact List.mem_append.mp hc
    · rw [e]
      have mm : ∀ c, c ∈ p ++ (S ++ q) → c ∈ acc ∨ c ∈ l := fun c hc => by rw [← e2] at hc; exact List.mem_append.mp hc
      intro p' hp c hc
      rcases List.mem_cons.mp hp with rfl | hp
      · exact mm c (List.mem_append_left _ hc)
      · rcases spl_mem hS n q [] (by omega) p' hp c hc with z | z
        · simp at z
        · exact mm c (List.mem_append_right _ (List.mem_append_right _ z))
/-- signs of joined words, the spaces with them -/
def tot (ws : List (List Nat)) : Nat := (ws.map fun w => w.length + 1).sum
theorem tot_cons (w : List Nat) (ws : List (List Nat)) : tot (w :: ws) = w.length + 1 + tot ws := by unfold tot; rw [List.map_cons, List.sum_cons]
theorem tot_app (a b : List (List Nat)) : tot (a ++ b) = tot a + tot b := by unfold tot; rw [List.map_append, List.sum_append]
theorem tot_len (ws : List (List Nat)) : ws.length ≤ tot ws := by
  induction ws with
  | nil => exact Nat.zero_le _
  | cons w ws ih => rw [tot_cons, List.length_cons]; omega
theorem tot_mem {ws : List (List Nat)} {w : List Nat} (h : w ∈ ws) : w.length + 1 ≤ tot ws := by
  induction ws with
  | nil => cases h
  | cons v ws ih =>
    rw [tot_cons]
    rcases List.mem_cons.mp h with rfl | h
    · omega
    · have := ih h; omega
theorem tot_join {c : Nat} : ∀ {ws : List (List Nat)}, ws ≠ [] → (TL.joinL [c] ws).length + 1 = tot ws
  | [], h => absurd rfl h
  | [w], _ => by rw [tot_cons]; rfl
  | w :: v :: ws, _ => by
    rw [joinL_cons (by simp), tot_cons, List.length_append, List.length_append, List.length_singleton, ← tot_join (c := c) (ws := v :: ws) (by simp)]
    omega
theorem tot_take (ws : List (List Nat)) (i : Nat) : tot (ws.take i) + tot (ws.drop i) = tot ws := by rw [← tot_app, List.take_append_drop]
theorem spl_tot (a : List Nat) : tot (TL.spl [32] 0 [] a) = a.length + 1 := by
  rw [← tot_join (c := 32) (spl_ne (by simp) a []), join_spl (by simp) a.length a [] (Nat.le_refl _), List.nil_append]
theorem Mt_part {S : Store} {q sep : List Nat} {QD : D → Store → Prop} (hs : sep ≠ []) (hl : q.length ≤ 16777216) (h : QD (match TL.par sep [] q with | some (a, b) => .tup [dS a, dS sep, dS b] | none => .tup [dS q, dS [], dS []]) S) : MtP S .partition (dS q) [dS sep] QD := by
  refine ⟨⟨_, S, ?_, h⟩⟩
  have ne : ((SX.S sep).length == 0) = false := by
    rw [SX.S_len]
    cases sep with
    | nil => exact absurd rfl hs
    | cons _ _ => rfl
  show (if ((SX.S sep).length == 0) = false ∧ (SX.S q).length ≤ 16777216 then some (D.tup [.str (Txt.partition (SX.S q) (SX.S sep)).1, .str (Txt.partition (SX.S q) (SX.S sep)).2.1, .str (Txt.partition (SX.S q) (SX.S sep)).2.2], S) else none) = _
  rw [if_pos ⟨ne, by rw [SX.S_len]; exact hl⟩]
  cases e : TL.par sep [] q with
  | none => rw [SX.partition_none hs e]
  | some ab => obtain ⟨a, b⟩ := ab; rw [SX.partition_some hs e]
end Q

namespace QL
open PySem Q
abbrev PR : Program := PySem.Challenge.pw_allquiet_k16_texts_of_works_spoilt
abbrev top (i : Nat) : Stmt := PR.main.body.getD i (.Pass ⟨0, 0, 0, 0⟩)
def kt : KitT := [("QuietError", [("QuietError", true), ("ValueError", true), ("BadStart", false), ("BadWorks", false), ("NoText", false), ("BadWay", false), ("NoPaper", false), ("NoPick", false), ("NoRow", false), ("TooMany", false)]), ("BadWorks", [("QuietError", true), ("ValueError", true), ("BadStart", false), ("BadWorks", true), ("NoText", false), ("BadWay", false), ("NoPaper", false), ("NoPick", false), ("NoRow", false), ("TooMany", false)]), ("BadStart", [("QuietError", true), ("ValueError", true), ("BadStart", true), ("BadWorks", false), ("NoText", false), ("BadWay", false), ("NoPaper", false), ("NoPick", false), ("NoRow", false), ("TooMany", false)]), ("NoText", [("QuietError", true), ("ValueError", true), ("BadStart", false), ("BadWorks", false), ("NoText", true), ("BadWay", false), ("NoPaper", false), ("NoPick", false), ("NoRow", false), ("TooMany", false)])]
def z_is_int : XS :=
  (zRet (andE (isn (vv 0) "int") (nt (isn (vv 0) "bool"))))
def m_is_int : Fn := dF false 1 1 z_is_int
theorem w_is_int {x0 : D} {S : Store} {Qd : D → Store → Prop} {E : EX} (h : Z z_is_int [some x0] S (kF false S.length Qd E)) : W (m_is_int [x0] S) Qd E := W_dF h rfl rfl
def z_is_name : XS :=
  (zSeq (zIf (tOr (tNot (tTr (isn (vv 0) "str"))) (tNot (tCm (cm2 .LtE .LtE (kk (.int 1)) (bl .len (a1 (vv 0) a0)) (kk (.int 8))))))
  (zRet (kk (.bl false))) zPass)
  (zRet (bl .all (a1 (lcv [1] (iv (vv 0)) (b1 1) (cm .In (vv 1) (kk (.str "abcdefghijklmnopqrstuvwxyz")))) a0))))
def m_is_name : Fn := dF false 1 2 z_is_name
theorem w_is_name {x0 : D} {S : Store} {Qd : D → Store → Prop} {E : EX} (h : Z z_is_name [some x0, none] S (kF false S.length Qd E)) : W (m_is_name [x0] S) Qd E := W_dF h rfl rfl
def z_are_unlike : XS :=
  (zRet (andE (bl .all (a1 (lcv [1] (iv (vv 0)) (b1 1) (ca m_is_name (a1 (vv 1) a0))) a0)) (cm .Eq (lset (vv 0)) (bl .len (a1 (vv 0) a0)))))
def m_are_unlike : Fn := dF false 1 2 z_are_unlike
theorem w_are_unlike {x0 : D} {S : Store} {Qd : D → Store → Prop} {E : EX} (h : Z z_are_unlike [some x0, none] S (kF false S.length Qd E)) : W (m_are_unlike [x0] S) Qd E := W_dF h rfl rfl
def z_is_statement : XS :=
  (zSeq (zIf (tOr (tNot (tTr (isn (vv 0) "tuple"))) (tOr (tCm (cm .Eq (vv 0) (tu a0))) (tNot (tTr (isn (ix (vv 0) (kk (.int 0))) "str")))))
  (zRet (kk (.bl false))) zPass)
  (zSeq (zIf (tCm (cm .Eq (ix (vv 0) (kk (.int 0))) (kk (.str "own"))))
  (zRet (cm .Eq (bl .len (a1 (vv 0) a0)) (kk (.int 1)))) zPass)
  (zSeq (zIf (tCm (cm .Eq (ix (vv 0) (kk (.int 0))) (kk (.str "add"))))
  (zRet (andE (cm .Eq (bl .len (a1 (vv 0) a0)) (kk (.int 2))) (andE (ca m_is_int (a1 (ix (vv 0) (kk (.int 1))) a0)) (cm2 .LtE .LtE (bi .Sub (kk (.int 0)) (kk (.int 1000))) (ix (vv 0) (kk (.int 1))) (kk (.int 1000)))))) zPass)
  (zSeq (zIf (tCm (cm .Eq (ix (vv 0) (kk (.int 0))) (kk (.str "spin"))))
  (zRet (andE (cm .Eq (bl .len (a1 (vv 0) a0)) (kk (.int 2))) (andE (ca m_is_int (a1 (ix (vv 0) (kk (.int 1))) a0)) (cm2 .LtE .LtE (kk (.int 1)) (ix (vv 0) (kk (.int 1))) (kk (.int 4)))))) zPass)
  (zRet (andE (cm .In (ix (vv 0) (kk (.int 0))) (tu (a1 (kk (.str "make")) (a1 (kk (.str "ask")) a0)))) (andE (cm .Eq (bl .len (a1 (vv 0) a0)) (kk (.int 3))) (andE (cm .In (ix (vv 0) (kk (.int 1))) (vv 1)) (cm .In (ix (vv 0) (kk (.int 2))) (vv 2))))))))))
def m_is_statement : Fn := dF false 3 3 z_is_statement
theorem w_is_statement {x0 x1 x2 : D} {S : Store} {Qd : D → Store → Prop} {E : EX} (h : Z z_is_statement [some x0, some x1, some x2] S (kF false S.length Qd E)) : W (m_is_statement [x0, x1, x2] S) Qd E := W_dF h rfl rfl
def z_is_body : XS :=
  (zSeq (zIf (tOr (tNot (tTr (isn (vv 0) "tuple"))) (tCm (cm .Gt (bl .len (a1 (vv 0) a0)) (kk (.int 6)))))
  (zRet (kk (.bl false))) zPass)
  (zSeq (zIf (tNot (tTr (bl .all (a1 (lcv [3] (iv (vv 0)) (b1 3) (ca m_is_statement (a1 (vv 3) (a1 (vv 1) (a1 (vv 2) a0))))) a0))))
  (zRet (kk (.bl false))) zPass)
  (zRet (cm .LtE (bl .len (a1 (lcv1 [3] (iv (vv 0)) (b1 3) (tCm (cm .In (ix (vv 3) (kk (.int 0))) (tu (a1 (kk (.str "make")) (a1 (kk (.str "ask")) a0))))) (vv 3)) a0)) (kk (.int 3))))))
def m_is_body : Fn := dF false 3 4 z_is_body
theorem w_is_body {x0 x1 x2 : D} {S : Store} {Qd : D → Store → Prop} {E : EX} (h : Z z_is_body [some x0, some x1, some x2, none] S (kF false S.length Qd E)) : W (m_is_body [x0, x1, x2] S) Qd E := W_dF h rfl rfl
def z_is_list : XS :=
  (zRet (andE (isn (vv 0) "list") (cm2 .LtE .LtE (kk (.int 1)) (bl .len (a1 (vv 0) a0)) (vv 1))))
def m_is_list : Fn := dF false 2 2 z_is_list
theorem w_is_list {x0 x1 : D} {S : Store} {Qd : D → Store → Prop} {E : EX} (h : Z z_is_list [some x0, some x1] S (kF false S.length Qd E)) : W (m_is_list [x0, x1] S) Qd E := W_dF h rfl rfl
def z_check_works : XS :=
  (zSeq (zIf (tOr (tNot (tTr (isn (vv 0) "tuple"))) (tCm (cm .NotEq (bl .len (a1 (vv 0) a0)) (kk (.int 2)))))
  (zRaise "BadWorks") zPass)
  (zSeq (zTup [1, 2] (vv 0))
  (zSeq (zIf (tOr (tNot (tTr (ca m_is_list (a1 (vv 1) (a1 (kk (.int 4)) a0))))) (tNot (tTr (ca m_are_unlike (a1 (vv 1) a0)))))
  (zRaise "BadWorks") zPass)
  (zSeq (zIf (tOr (tNot (tTr (ca m_is_list (a1 (vv 2) (a1 (kk (.int 5)) a0))))) (tNot (tTr (bl .all (a1 (lcv [6] (iv (vv 2)) (b1 6) (andE (isn (vv 6) "tuple") (cm .Eq (bl .len (a1 (vv 6) a0)) (kk (.int 2))))) a0)))))
  (zRaise "BadWorks") zPass)
  (zSeq (zSet 3 (lcv [4, 5] (iv (vv 2)) (bT [4, 5]) (vv 4)))
  (zIf (tOr (tNot (tTr (ca m_are_unlike (a1 (vv 3) a0)))) (tNot (tTr (bl .all (a1 (lcv [4, 5] (iv (vv 2)) (bT [4, 5]) (ca m_is_body (a1 (vv 5) (a1 (vv 1) (a1 (vv 3) a0))))) a0)))))
  (zRaise "BadWorks") zPass))))))
def m_check_works : Fn := dF false 1 7 z_check_works
theorem w_check_works {x0 : D} {S : Store} {Qd : D → Store → Prop} {E : EX} (h : Z z_check_works [some x0, none, none, none, none, none, none] S (kF false S.length Qd E)) : W (m_check_works [x0] S) Qd E := W_dF h rfl rfl
def z_check_start : XS :=
  (zSeq (zExp (ca m_check_works (a1 (vv 0) a0)))
  (zSeq (zIf (tOr (tNot (tTr (isn (vv 1) "tuple"))) (tOr (tCm (cm .NotEq (bl .len (a1 (vv 1) a0)) (kk (.int 3)))) (tCm (cm .NotIn (ix (vv 1) (kk (.int 0))) (ix (vv 0) (kk (.int 0)))))))
  (zRaise "BadStart") zPass)
  (zSeq (zIf (tCm (cm .NotIn (ix (vv 1) (kk (.int 1))) (lcv [2, 3] (iv (ix (vv 0) (kk (.int 1)))) (bT [2, 3]) (vv 2))))
  (zRaise "BadStart") zPass)
  (zIf (tOr (tNot (tTr (ca m_is_int (a1 (ix (vv 1) (kk (.int 2))) a0)))) (tNot (tCm (cm2 .LtE .LtE (kk (.int 0)) (ix (vv 1) (kk (.int 2))) (kk (.int 3))))))
  (zRaise "BadStart") zPass))))
def m_check_start : Fn := dF false 2 4 z_check_start
theorem w_check_start {x0 x1 : D} {S : Store} {Qd : D → Store → Prop} {E : EX} (h : Z z_check_start [some x0, some x1, none, none] S (kF false S.length Qd E)) : W (m_check_start [x0, x1] S) Qd E := W_dF h rfl rfl
def z_number_in : XS :=
  (zSeq (zSet 2 (sl (vv 0) (p1 (bl .int (a1 (cm .Eq (sl (vv 0) p0 (p1 (kk (.int 1)))) (kk (.str "-"))) a0))) p0))
  (zSeq (zIf (tOr (tNot (tCm (cm2 .LtE .LtE (kk (.int 1)) (bl .len (a1 (vv 2) a0)) (vv 1)))) (tNot (tTr (bl .all (a1 (lcv [3] (iv (vv 2)) (b1 3) (cm .In (vv 3) (kk (.str "0123456789")))) a0)))))
  (zRet (kk .non)) zPass)
  (zSeq (zIf (tAnd (tCm (cm .Eq (ix (vv 2) (kk (.int 0))) (kk (.str "0")))) (tCm (cm .NotEq (vv 0) (kk (.str "0")))))
  (zRet (kk .non)) zPass)
  (zRet (bl .int (a1 (vv 0) a0))))))
def m_number_in : Fn := dF false 2 4 z_number_in
theorem w_number_in {x0 x1 : D} {S : Store} {Qd : D → Store → Prop} {E : EX} (h : Z z_number_in [some x0, some x1, none, none] S (kF false S.length Qd E)) : W (m_number_in [x0, x1] S) Qd E := W_dF h rfl rfl
def n_number_in : Fn := fun xs S => if xs.length = 2 then m_number_in xs S else m_number_in (xs ++ [.int 9]) S
def z_statement_text : XS :=
  (zRet (me "join" (kk (.str " ")) (a1 (lcv [1] (iv (vv 0)) (b1 1) (bl .str (a1 (vv 1) a0))) a0)))
def m_statement_text : Fn := dF false 1 2 z_statement_text
theorem w_statement_text {x0 : D} {S : Store} {Qd : D → Store → Prop} {E : EX} (h : Z z_statement_text [some x0, none] S (kF false S.length Qd E)) : W (m_statement_text [x0] S) Qd E := W_dF h rfl rfl
def z_work_text : XS :=
  (zRet (me "join" (kk (.str " ; ")) (a1 (bi .Add (lsv (a1 (bi .Add (kk (.str "work ")) (vv 0)) a0)) (lcv [2] (iv (vv 1)) (b1 2) (ca m_statement_text (a1 (vv 2) a0)))) a0)))
def m_work_text : Fn := dF false 2 3 z_work_text
theorem w_work_text {x0 x1 : D} {S : Store} {Qd : D → Store → Prop} {E : EX} (h : Z z_work_text [some x0, some x1, none] S (kF false S.length Qd E)) : W (m_work_text [x0, x1] S) Qd E := W_dF h rfl rfl
def z_works_text : XS :=
  (zSeq (zTup [2, 3] (vv 0))
  (zSeq (zSet 4 (bi .Add (lsv (a1 (me "join" (kk (.str " ")) (a1 (bi .Add (lsv (a1 (kk (.str "houses")) a0)) (vv 2)) a0)) a0)) (lcv [5, 6] (iv (vv 3)) (bT [5, 6]) (ca m_work_text (a1 (vv 5) (a1 (vv 6) a0))))))
  (zRet (me "join" (kk (.str "\n")) (a1 (bi .Add (vv 4) (lsv (a1 (me "join" (kk (.str " ")) (a1 (lsv (a1 (kk (.str "start")) (a1 (ix (vv 1) (kk (.int 0))) (a1 (ix (vv 1) (kk (.int 1))) (a1 (bl .str (a1 (ix (vv 1) (kk (.int 2))) a0)) a0))))) a0)) a0))) a0)))))
def m_works_text : Fn := dF false 2 7 z_works_text
theorem w_works_text {x0 x1 : D} {S : Store} {Qd : D → Store → Prop} {E : EX} (h : Z z_works_text [some x0, some x1, none, none, none, none, none] S (kF false S.length Qd E)) : W (m_works_text [x0, x1] S) Qd E := W_dF h rfl rfl
def z_needed : XS :=
  (zIf (tNot (tTr (vv 0)))
  (zRaise "NoText") zPass)
def m_needed : Fn := dF false 1 1 z_needed
theorem w_needed {x0 : D} {S : Store} {Qd : D → Store → Prop} {E : EX} (h : Z z_needed [some x0] S (kF false S.length Qd E)) : W (m_needed [x0] S) Qd E := W_dF h rfl rfl
def z_statement_in : XS :=
  (zSeq (zSet 1 (me "split" (vv 0) (a1 (kk (.str " ")) a0)))
  (zSeq (zIf (tCm (cm .Eq (ix (vv 1) (kk (.int 0))) (kk (.str "own"))))
  (zSeq (zExp (ca m_needed (a1 (cm .Eq (bl .len (a1 (vv 1) a0)) (kk (.int 1))) a0)))
    (zRet (tu (a1 (kk (.str "own")) a0)))) zPass)
  (zSeq (zIf (tCm (cm .In (ix (vv 1) (kk (.int 0))) (tu (a1 (kk (.str "add")) (a1 (kk (.str "spin")) a0)))))
  (zSeq (zExp (ca m_needed (a1 (andE (cm .Eq (bl .len (a1 (vv 1) a0)) (kk (.int 2))) (cm .IsNot (ca n_number_in (a1 (ix (vv 1) (kk (.int 1))) a0)) (kk .non))) a0)))
    (zRet (tu (a1 (ix (vv 1) (kk (.int 0))) (a1 (ca n_number_in (a1 (ix (vv 1) (kk (.int 1))) a0)) a0))))) zPass)
  (zSeq (zExp (ca m_needed (a1 (andE (cm .In (ix (vv 1) (kk (.int 0))) (tu (a1 (kk (.str "make")) (a1 (kk (.str "ask")) a0)))) (andE (cm .Eq (bl .len (a1 (vv 1) a0)) (kk (.int 3))) (andE (ca m_is_name (a1 (ix (vv 1) (kk (.int 1))) a0)) (ca m_is_name (a1 (ix (vv 1) (kk (.int 2))) a0))))) a0)))
  (zRet (bl .tuple (a1 (vv 1) a0)))))))
def m_statement_in : Fn := dF false 1 2 z_statement_in
theorem w_statement_in {x0 : D} {S : Store} {Qd : D → Store → Prop} {E : EX} (h : Z z_statement_in [some x0, none] S (kF false S.length Qd E)) : W (m_statement_in [x0] S) Qd E := W_dF h rfl rfl
def z_work_in : XS :=
  (zSeq (zSet 1 (me "split" (vv 0) (a1 (kk (.str " ; ")) a0)))
  (zSeq (zSet 2 (me "split" (ix (vv 1) (kk (.int 0))) (a1 (kk (.str " ")) a0)))
  (zSeq (zExp (ca m_needed (a1 (andE (cm .Eq (bl .len (a1 (vv 2) a0)) (kk (.int 2))) (andE (cm .Eq (ix (vv 2) (kk (.int 0))) (kk (.str "work"))) (ca m_is_name (a1 (ix (vv 2) (kk (.int 1))) a0)))) a0)))
  (zRet (tu (a1 (ix (vv 2) (kk (.int 1))) (a1 (bl .tuple (a1 (lcv [3] (iv (sl (vv 1) (p1 (kk (.int 1))) p0)) (b1 3) (ca m_statement_in (a1 (vv 3) a0))) a0)) a0)))))))
def m_work_in : Fn := dF false 1 4 z_work_in
theorem w_work_in {x0 : D} {S : Store} {Qd : D → Store → Prop} {E : EX} (h : Z z_work_in [some x0, none, none, none] S (kF false S.length Qd E)) : W (m_work_in [x0] S) Qd E := W_dF h rfl rfl
def z_start_in : XS :=
  (zSeq (zSet 1 (me "split" (vv 0) (a1 (kk (.str " ")) a0)))
  (zSeq (zExp (ca m_needed (a1 (andE (cm .Eq (bl .len (a1 (vv 1) a0)) (kk (.int 4))) (andE (cm .Eq (ix (vv 1) (kk (.int 0))) (kk (.str "start"))) (andE (ca m_is_name (a1 (ix (vv 1) (kk (.int 1))) a0)) (ca m_is_name (a1 (ix (vv 1) (kk (.int 2))) a0))))) a0)))
  (zSeq (zExp (ca m_needed (a1 (cm .IsNot (ca n_number_in (a1 (ix (vv 1) (kk (.int 3))) a0)) (kk .non)) a0)))
  (zRet (tu (a1 (ix (vv 1) (kk (.int 1))) (a1 (ix (vv 1) (kk (.int 2))) (a1 (ca n_number_in (a1 (ix (vv 1) (kk (.int 3))) a0)) a0))))))))
def m_start_in : Fn := dF false 1 2 z_start_in
theorem w_start_in {x0 : D} {S : Store} {Qd : D → Store → Prop} {E : EX} (h : Z z_start_in [some x0, none] S (kF false S.length Qd E)) : W (m_start_in [x0] S) Qd E := W_dF h rfl rfl
def z_read_works : XS :=
  (zSeq (zExp (ca m_needed (a1 (isn (vv 0) "str") a0)))
  (zSeq (zSet 1 (me "split" (vv 0) (a1 (kk (.str "\n")) a0)))
  (zSeq (zExp (ca m_needed (a1 (cm .Gt (bl .len (a1 (vv 1) a0)) (kk (.int 1))) a0)))
  (zSeq (zSet 2 (me "split" (ix (vv 1) (kk (.int 0))) (a1 (kk (.str " ")) a0)))
  (zSeq (zExp (ca m_needed (a1 (andE (cm .Eq (ix (vv 2) (kk (.int 0))) (kk (.str "houses"))) (andE (cm .Gt (bl .len (a1 (vv 2) a0)) (kk (.int 1))) (bl .all (a1 (lcv [6] (iv (sl (vv 2) (p1 (kk (.int 1))) p0)) (b1 6) (ca m_is_name (a1 (vv 6) a0))) a0)))) a0)))
  (zSeq (zSet 3 (tu (a1 (sl (vv 2) (p1 (kk (.int 1))) p0) (a1 (lcv [5] (iv (sl (vv 1) (p1 (kk (.int 1))) (p1 (ng (kk (.int 1)))))) (b1 5) (ca m_work_in (a1 (vv 5) a0))) a0))))
  (zSeq (zSet 4 (ca m_start_in (a1 (ix (vv 1) (ng (kk (.int 1)))) a0)))
  (zSeq (zExp (ca m_check_start (a1 (vv 3) (a1 (vv 4) a0))))
  (zRet (tu (a1 (vv 3) (a1 (vv 4) a0))))))))))))
def m_read_works : Fn := dF false 1 7 z_read_works
theorem w_read_works {x0 : D} {S : Store} {Qd : D → Store → Prop} {E : EX} (h : Z z_read_works [some x0, none, none, none, none, none, none] S (kF false S.length Qd E)) : W (m_read_works [x0] S) Qd E := W_dF h rfl rfl
def z__law_cell_at : XS :=
  (zSeq (zIf (tCm (cm .Lt (vv 1) (bl .len (a1 (vv 0) a0))))
  (zRet (ix (vv 0) (vv 1))) zPass)
  (zRet (kk (.int 0))))
def m__law_cell_at : Fn := dF false 2 2 z__law_cell_at
theorem w__law_cell_at {x0 x1 : D} {S : Store} {Qd : D → Store → Prop} {E : EX} (h : Z z__law_cell_at [some x0, some x1] S (kF false S.length Qd E)) : W (m__law_cell_at [x0, x1] S) Qd E := W_dF h rfl rfl
def z__law_mixed : XS :=
  (zSeq (zSet 2 (bi .Mod (bl .int (a1 (bi .Pow (bi .Add (bi .Add (bi .Mod (bl .int (a1 (vv 0) a0)) (kk (.int 2147483629))) (bi .Mult (kk (.int 7919)) (vv 1))) (kk (.int 1))) (kk (.int 5))) a0)) (kk (.int 2147483647))))
  (zSeq (zSet 2 (bi .Mod (bl .int (a1 (bi .Mult (vv 2) (bi .Add (bi .Add (bi .FloorDiv (vv 2) (kk (.int 1009))) (kk (.int 69621))) (vv 1))) a0)) (kk (.int 2147483629))))
  (zRet (bi .Mod (bl .int (a1 (bi .Mult (vv 2) (bi .Add (bi .FloorDiv (vv 2) (kk (.int 2003))) (kk (.int 40692)))) a0)) (kk (.int 2147483399))))))
def m__law_mixed : Fn := dF false 2 3 z__law_mixed
theorem w__law_mixed {x0 x1 : D} {S : Store} {Qd : D → Store → Prop} {E : EX} (h : Z z__law_mixed [some x0, some x1, none] S (kF false S.length Qd E)) : W (m__law_mixed [x0, x1] S) Qd E := W_dF h rfl rfl
def z__law_well : XS :=
  (zRet (lsm (a1 (ix (lsv (a1 (kk (.int 0)) (a1 (vv 0) a0))) (bl .int (a1 (cm .GtE (vv 0) (bi .Pow (kk (.int 10)) (kk (.int 18)))) a0))) (a1 (vv 0) (a1 (kk (.int 0)) a0)))))
def m__law_well : Fn := dF false 1 1 z__law_well
theorem w__law_well {x0 : D} {S : Store} {Qd : D → Store → Prop} {E : EX} (h : Z z__law_well [some x0] S (kF false S.length Qd E)) : W (m__law_well [x0] S) Qd E := W_dF h rfl rfl
def z__law_draw : XS :=
  (zSeq (zIf (tCm (cm .Gt (ix (vv 0) (kk (.int 0))) (kk (.int 0))))
  (zSeq (zSet 2 (bi .Mod (bl .int (a1 (ix (vv 0) (kk (.int 0))) a0)) (vv 1)))
    (zSeq (zSub (vv 0) (kk (.int 0)) (bi .FloorDiv (ix (vv 0) (kk (.int 0))) (vv 1)))
    (zRet (vv 2)))) zPass)
  (zSeq (zSub (vv 0) (kk (.int 2)) (bi .Add (ix (vv 0) (kk (.int 2))) (kk (.int 1))))
  (zRet (bi .Mod (bl .int (a1 (ca m__law_mixed (a1 (ix (vv 0) (kk (.int 1))) (a1 (ix (vv 0) (kk (.int 2))) a0))) a0)) (vv 1)))))
def m__law_draw : Fn := dF false 2 3 z__law_draw
theorem w__law_draw {x0 x1 : D} {S : Store} {Qd : D → Store → Prop} {E : EX} (h : Z z__law_draw [some x0, some x1, none] S (kF false S.length Qd E)) : W (m__law_draw [x0, x1] S) Qd E := W_dF h rfl rfl
def z__law_pick : XS :=
  (zRet (ix (vv 1) (ca m__law_draw (a1 (vv 0) (a1 (bl .len (a1 (vv 1) a0)) a0)))))
def m__law_pick : Fn := dF false 2 2 z__law_pick
theorem w__law_pick {x0 x1 : D} {S : Store} {Qd : D → Store → Prop} {E : EX} (h : Z z__law_pick [some x0, some x1] S (kF false S.length Qd E)) : W (m__law_pick [x0, x1] S) Qd E := W_dF h rfl rfl
def z__law_names : XS :=
  (zSeq (zSet 2 (ca m__law_draw (a1 (vv 0) (a1 (kk (.int 4)) a0))))
  (zSeq (zSet 3 (kk (.str "abcdefghijklmnopqrstuvwxyz")))
  (zSeq (zSet 4 (me "split" (kk (.str "work houses start own add spin make ask root rest come send told")) (a1 (kk (.str " ")) a0)))
  (zSeq (zSet 5 (ca m__law_draw (a1 (vv 0) (a1 (kk (.int 26)) a0))))
  (zSeq (zIf (tCm (cm .Eq (vv 2) (kk (.int 0))))
  (zRet (lcm [8] (r1 (vv 1)) (b1 8) (ix (vv 4) (bi .Mod (bl .int (a1 (bi .Add (vv 5) (vv 8)) a0)) (kk (.int 13)))))) zPass)
  (zSeq (zIf (tCm (cm .Eq (vv 2) (kk (.int 1))))
  (zRet (lcm [8] (r1 (vv 1)) (b1 8) (bi .Mult (ix (vv 3) (vv 5)) (bi .Add (vv 8) (kk (.int 1)))))) zPass)
  (zSeq (zSet 6 (me "join" (kk (.str "")) (a1 (lcv [8] (r1 (ca m__law_draw (a1 (vv 0) (a1 (kk (.int 8)) a0)))) (b1 8) (ix (vv 3) (ca m__law_draw (a1 (vv 0) (a1 (kk (.int 26)) a0))))) a0)))
  (zSeq (zSet 7 (ca m__law_draw (a1 (vv 0) (a1 (bi .Add (bl .len (a1 (vv 6) a0)) (kk (.int 1))) a0))))
  (zRet (lcm [8] (r1 (vv 1)) (b1 8) (bi .Add (bi .Add (sl (vv 6) p0 (p1 (vv 7))) (ix (vv 3) (bi .Mod (bl .int (a1 (bi .Add (vv 5) (bi .Mult (kk (.int 3)) (vv 8))) a0)) (kk (.int 26))))) (sl (vv 6) (p1 (vv 7)) p0))))))))))))
def m__law_names : Fn := dF false 2 9 z__law_names
theorem w__law_names {x0 x1 : D} {S : Store} {Qd : D → Store → Prop} {E : EX} (h : Z z__law_names [some x0, some x1, none, none, none, none, none, none, none] S (kF false S.length Qd E)) : W (m__law_names [x0, x1] S) Qd E := W_dF h rfl rfl
def z__law_body : XS :=
  (zSeq (zSet 3 (lsm a0))
  (zSeq (zSet 4 (kk (.int 0)))
  (zSeq (zFor (b1 5) (r1 (ca m__law_draw (a1 (vv 0) (a1 (kk (.int 7)) a0))))
  (zSeq (zSet 6 (ca m__law_draw (a1 (vv 0) (a1 (kk (.int 6)) a0))))
    (zIf (tCm (cm .Eq (vv 6) (kk (.int 0))))
    (zExp (me "append" (vv 3) (a1 (tu (a1 (kk (.str "add")) (a1 (ix (lsv (a1 (bi .Sub (ca m__law_draw (a1 (vv 0) (a1 (kk (.int 2001)) a0))) (kk (.int 1000))) (a1 (kk (.int 1000)) (a1 (ng (kk (.int 1000))) (a1 (kk (.int 0)) a0))))) (ca m__law_draw (a1 (vv 0) (a1 (kk (.int 4)) a0)))) a0))) a0)))
    (zIf (tCm (cm .Eq (vv 6) (kk (.int 1))))
      (zExp (me "append" (vv 3) (a1 (tu (a1 (kk (.str "spin")) (a1 (bi .Add (kk (.int 1)) (ca m__law_draw (a1 (vv 0) (a1 (kk (.int 4)) a0)))) a0))) a0)))
      (zIf (tOr (tCm (cm .Eq (vv 6) (kk (.int 2)))) (tCm (cm .Eq (vv 4) (kk (.int 3)))))
        (zExp (me "append" (vv 3) (a1 (tu (a1 (kk (.str "own")) a0)) a0)))
        (zSeq (zSet 4 (bi .Add (vv 4) (kk (.int 1))))
          (zExp (me "append" (vv 3) (a1 (tu (a1 (ix (lsv (a1 (kk (.str "make")) (a1 (kk (.str "ask")) a0))) (bi .Mod (bl .int (a1 (vv 6) a0)) (kk (.int 2)))) (a1 (ca m__law_pick (a1 (vv 0) (a1 (vv 1) a0))) (a1 (ca m__law_pick (a1 (vv 0) (a1 (vv 2) a0))) a0)))) a0)))))))))
  (zRet (bl .tuple (a1 (vv 3) a0))))))
def m__law_body : Fn := dF false 3 7 z__law_body
theorem w__law_body {x0 x1 x2 : D} {S : Store} {Qd : D → Store → Prop} {E : EX} (h : Z z__law_body [some x0, some x1, some x2, none, none, none, none] S (kF false S.length Qd E)) : W (m__law_body [x0, x1, x2] S) Qd E := W_dF h rfl rfl
def z__law_works : XS :=
  (zSeq (zSet 1 (ca m__law_names (a1 (vv 0) (a1 (bi .Add (kk (.int 1)) (ca m__law_draw (a1 (vv 0) (a1 (kk (.int 4)) a0)))) a0))))
  (zSeq (zSet 2 (ca m__law_names (a1 (vv 0) (a1 (bi .Add (kk (.int 1)) (ca m__law_draw (a1 (vv 0) (a1 (kk (.int 5)) a0)))) a0))))
  (zSeq (zIf (tCm (cm .Eq (ca m__law_draw (a1 (vv 0) (a1 (kk (.int 4)) a0))) (kk (.int 0))))
  (zSeq (zSub (vv 2) (kk (.int 0)) (ix (vv 1) (ng (kk (.int 1)))))
    (zSet 2 (lcm1 [3, 4] (zen (vv 2)) (bT [3, 4]) (tCm (cm .NotIn (vv 4) (sl (vv 2) p0 (p1 (vv 3))))) (vv 4)))) zPass)
  (zRet (tu (a1 (vv 1) (a1 (lcv [4] (iv (vv 2)) (b1 4) (tu (a1 (vv 4) (a1 (ca m__law_body (a1 (vv 0) (a1 (vv 1) (a1 (vv 2) a0)))) a0)))) a0)))))))
def m__law_works : Fn := dF false 1 5 z__law_works
theorem w__law_works {x0 : D} {S : Store} {Qd : D → Store → Prop} {E : EX} (h : Z z__law_works [some x0, none, none, none, none] S (kF false S.length Qd E)) : W (m__law_works [x0] S) Qd E := W_dF h rfl rfl
def z__law_start : XS :=
  (zRet (tu (a1 (ca m__law_pick (a1 (vv 0) (a1 (ix (vv 1) (kk (.int 0))) a0))) (a1 (ix (ca m__law_pick (a1 (vv 0) (a1 (ix (vv 1) (kk (.int 1))) a0))) (kk (.int 0))) (a1 (ca m__law_draw (a1 (vv 0) (a1 (kk (.int 4)) a0))) a0)))))
def m__law_start : Fn := dF false 2 2 z__law_start
theorem w__law_start {x0 x1 : D} {S : Store} {Qd : D → Store → Prop} {E : EX} (h : Z z__law_start [some x0, some x1] S (kF false S.length Qd E)) : W (m__law_start [x0, x1] S) Qd E := W_dF h rfl rfl
def z__law_text : XS :=
  (zSeq (zSet 2 (lsm (a1 (me "join" (kk (.str " ")) (a1 (bi .Add (lsv (a1 (kk (.str "houses")) a0)) (ix (vv 0) (kk (.int 0)))) a0)) a0)))
  (zSeq (zFor (bT [3, 4]) (iv (ix (vv 0) (kk (.int 1))))
  (zSeq (zSet 5 (bi .Add (kk (.str "work ")) (vv 3)))
    (zSeq (zFor (b1 6) (iv (vv 4))
    (zSet 5 (bi .Add (bi .Add (vv 5) (kk (.str " ; "))) (me "join" (kk (.str " ")) (a1 (lcv [7] (iv (vv 6)) (b1 7) (bl .str (a1 (vv 7) a0))) a0)))))
    (zExp (me "append" (vv 2) (a1 (vv 5) a0))))))
  (zRet (me "join" (kk (.str "\n")) (a1 (bi .Add (vv 2) (lsv (a1 (fst [(kk (.str "start ")), (fmv (ix (vv 1) (kk (.int 0)))), (kk (.str " ")), (fmv (ix (vv 1) (kk (.int 1)))), (kk (.str " ")), (fmv (ix (vv 1) (kk (.int 2))))]) a0))) a0)))))
def m__law_text : Fn := dF false 2 8 z__law_text
theorem w__law_text {x0 x1 : D} {S : Store} {Qd : D → Store → Prop} {E : EX} (h : Z z__law_text [some x0, some x1, none, none, none, none, none, none] S (kF false S.length Qd E)) : W (m__law_text [x0, x1] S) Qd E := W_dF h rfl rfl
def z__law_some_changed : XS :=
  (zSeq (zSet 3 (ca m__law_draw (a1 (vv 0) (a1 (kk (.int 4)) a0))))
  (zSeq (zSet 4 (ca m__law_draw (a1 (vv 0) (a1 (bl .len (a1 (vv 1) a0)) a0))))
  (zSeq (zSet 5 (ca m__law_draw (a1 (vv 0) (a1 (bl .len (a1 (vv 1) a0)) a0))))
  (zSeq (zSet 1 (liM (a1 (vv 1) a0)))
  (zSeq (zIf (tCm (cm .Eq (vv 3) (kk (.int 0))))
  (zExp (me "pop" (vv 1) (a1 (vv 4) a0)))
  (zIf (tCm (cm .Eq (vv 3) (kk (.int 1))))
    (zExp (me "insert" (vv 1) (a1 (vv 5) (a1 (ix (vv 1) (vv 4)) a0))))
    (zIf (tCm (cm .Eq (vv 3) (kk (.int 2))))
      (zMix [tgI (vv 1) (vv 4), tgI (vv 1) (vv 5)] (tu (a1 (ix (vv 1) (vv 5)) (a1 (ix (vv 1) (vv 4)) a0))))
      (zSub (vv 1) (vv 4) (ix (vv 2) (ca m__law_draw (a1 (vv 0) (a1 (bl .len (a1 (vv 2) a0)) a0))))))))
  (zRet (vv 1)))))))
def m__law_some_changed : Fn := dF false 3 6 z__law_some_changed
theorem w__law_some_changed {x0 x1 x2 : D} {S : Store} {Qd : D → Store → Prop} {E : EX} (h : Z z__law_some_changed [some x0, some x1, some x2, none, none, none] S (kF false S.length Qd E)) : W (m__law_some_changed [x0, x1, x2] S) Qd E := W_dF h rfl rfl
def z__law_changed : XS :=
  (zSeq (zSet 2 (ca m__law_draw (a1 (vv 0) (a1 (kk (.int 4)) a0))))
  (zSeq (zSet 3 (meM "split" (vv 1) (a1 (kk (.str "\n")) a0)))
  (zSeq (zIf (tCm (cm .Eq (vv 2) (kk (.int 0))))
  (zSeq (zSet 4 (lsv (a1 (kk (.str "work x")) (a1 (kk (.str "houses a b")) (a1 (kk (.str "start a b 0")) (a1 (kk (.str "")) (a1 (kk (.str "work own ; own")) a0)))))))
    (zRet (me "join" (kk (.str "\n")) (a1 (ca m__law_some_changed (a1 (vv 0) (a1 (vv 3) (a1 (vv 4) a0)))) a0)))) zPass)
  (zSeq (zIf (tCm (cm .Lt (vv 2) (kk (.int 3))))
  (zSeq (zSet 5 (ca m__law_draw (a1 (vv 0) (a1 (bl .len (a1 (vv 3) a0)) a0))))
    (zSeq (zSet 6 (lsv (a1 (kk (.str "")) (a1 (kk (.str "own")) (a1 (kk (.str "add")) (a1 (kk (.str "spin")) (a1 (kk (.str "make")) (a1 (kk (.str "ask")) (a1 (kk (.str ";")) (a1 (kk (.str "work")) (a1 (kk (.str "start")) (a1 (kk (.str "houses")) (a1 (kk (.str "0")) (a1 (kk (.str "1")) (a1 (kk (.str "3")) a0)))))))))))))))
    (zSeq (zSet 6 (bi .Add (vv 6) (lsv (a1 (kk (.str "4")) (a1 (kk (.str "5")) (a1 (kk (.str "-1")) (a1 (kk (.str "1000")) (a1 (kk (.str "1001")) (a1 (kk (.str "-1000")) (a1 (kk (.str "-1001")) (a1 (kk (.str "01")) (a1 (kk (.str "-0")) (a1 (kk (.str "a")) (a1 (kk (.str "A")) a0))))))))))))))
    (zSeq (zSet 6 (bi .Add (vv 6) (lsv (a1 (kk (.str "999999999")) (a1 (kk (.str "1000000000")) (a1 (kk (.str "abcdefghi")) (a1 (bi .Mult (kk (.str "1")) (kk (.int 4000))) a0)))))))
    (zSeq (zSub (vv 3) (vv 5) (me "join" (kk (.str " ")) (a1 (ca m__law_some_changed (a1 (vv 0) (a1 (me "split" (ix (vv 3) (vv 5)) (a1 (kk (.str " ")) a0)) (a1 (vv 6) a0)))) a0)))
    (zRet (me "join" (kk (.str "\n")) (a1 (vv 3) a0)))))))) zPass)
  (zSeq (zSet 7 (kk (.str " !\"#$&'()*+,-./0123456789:;<=>?\u0040ABCDEFGHIJKLMNOPQRSTUVWXYZ[\\]^_`")))
  (zSeq (zSet 7 (bi .Add (vv 7) (kk (.str "abcdefghijklmnopqrstuvwxyz{|}~\n"))))
  (zSeq (zSet 8 (ca m__law_pick (a1 (vv 0) (a1 (lsv (a1 (vv 7) (a1 (kk (.str " ;0123456789-\n")) a0))) a0))))
  (zSeq (zSet 8 (ix (vv 8) (ca m__law_draw (a1 (vv 0) (a1 (bl .len (a1 (vv 8) a0)) a0)))))
  (zSeq (zSet 5 (ca m__law_draw (a1 (vv 0) (a1 (bi .Add (bl .len (a1 (vv 1) a0)) (kk (.int 1))) a0))))
  (zSeq (zSet 2 (ca m__law_draw (a1 (vv 0) (a1 (kk (.int 3)) a0))))
  (zRet (bi .Add (bi .Add (sl (vv 1) p0 (p1 (vv 5))) (ix (lsv (a1 (vv 8) (a1 (vv 8) (a1 (kk (.str "")) a0)))) (vv 2))) (sl (vv 1) (p1 (bi .Add (vv 5) (ix (lsv (a1 (kk (.int 1)) (a1 (kk (.int 0)) (a1 (kk (.int 1)) a0)))) (vv 2)))) p0)))))))))))))
def m__law_changed : Fn := dF false 2 9 z__law_changed
theorem w__law_changed {x0 x1 : D} {S : Store} {Qd : D → Store → Prop} {E : EX} (h : Z z__law_changed [some x0, some x1, none, none, none, none, none, none, none] S (kF false S.length Qd E)) : W (m__law_changed [x0, x1] S) Qd E := W_dF h rfl rfl
def z__law_is_name : XS :=
  (zRet (andE (cm2 .LtE .LtE (kk (.int 1)) (bl .len (a1 (vv 0) a0)) (kk (.int 8))) (cm .Eq (lcv1 [1] (iv (vv 0)) (b1 1) (tOr (tCm (cm .Lt (vv 1) (kk (.str "a")))) (tCm (cm .Gt (vv 1) (kk (.str "z"))))) (vv 1)) (lsv a0))))
def m__law_is_name : Fn := dF false 1 2 z__law_is_name
theorem w__law_is_name {x0 : D} {S : Store} {Qd : D → Store → Prop} {E : EX} (h : Z z__law_is_name [some x0, none] S (kF false S.length Qd E)) : W (m__law_is_name [x0] S) Qd E := W_dF h rfl rfl
def z__law_number : XS :=
  (zSeq (zSet 1 (sl (vv 0) (p1 (bl .int (a1 (cm .Eq (sl (vv 0) p0 (p1 (kk (.int 1)))) (kk (.str "-"))) a0))) p0))
  (zSeq (zIf (tOr (tCm (cm .Eq (vv 1) (kk (.str "")))) (tOr (tCm (cm .Gt (bl .len (a1 (vv 1) a0)) (kk (.int 9)))) (tCm (cm .NotEq (lcv1 [2] (iv (vv 1)) (b1 2) (tCm (cm .NotIn (vv 2) (kk (.str "0123456789")))) (vv 2)) (lsv a0)))))
  (zRet (kk .non)) zPass)
  (zSeq (zIf (tAnd (tCm (cm .Eq (ix (vv 1) (kk (.int 0))) (kk (.str "0")))) (tCm (cm .NotEq (vv 0) (kk (.str "0")))))
  (zRet (kk .non)) zPass)
  (zRet (bl .int (a1 (vv 0) a0))))))
def m__law_number : Fn := dF false 1 3 z__law_number
theorem w__law_number {x0 : D} {S : Store} {Qd : D → Store → Prop} {E : EX} (h : Z z__law_number [some x0, none, none] S (kF false S.length Qd E)) : W (m__law_number [x0] S) Qd E := W_dF h rfl rfl
def z__law_statement : XS :=
  (zSeq (zSet 1 (me "split" (vv 0) (a1 (kk (.str " ")) a0)))
  (zSeq (zIf (tCm (cm .Eq (vv 1) (lsv (a1 (kk (.str "own")) a0))))
  (zRet (tu (a1 (kk (.str "own")) a0))) zPass)
  (zSeq (zIf (tCm (cm .In (ix (vv 1) (kk (.int 0))) (tu (a1 (kk (.str "add")) (a1 (kk (.str "spin")) a0)))))
  (zSeq (zIf (tOr (tCm (cm .NotEq (bl .len (a1 (vv 1) a0)) (kk (.int 2)))) (tCm (cm .Is (ca m__law_number (a1 (ix (vv 1) (kk (.int 1))) a0)) (kk .non))))
    (zRet (kk .non)) zPass)
    (zRet (tu (a1 (ix (vv 1) (kk (.int 0))) (a1 (ca m__law_number (a1 (ix (vv 1) (kk (.int 1))) a0)) a0))))) zPass)
  (zSeq (zIf (tOr (tCm (cm .NotIn (ix (vv 1) (kk (.int 0))) (tu (a1 (kk (.str "make")) (a1 (kk (.str "ask")) a0))))) (tCm (cm .NotEq (bl .len (a1 (vv 1) a0)) (kk (.int 3)))))
  (zRet (kk .non)) zPass)
  (zSeq (zIf (tOr (tNot (tTr (ca m__law_is_name (a1 (ix (vv 1) (kk (.int 1))) a0)))) (tNot (tTr (ca m__law_is_name (a1 (ix (vv 1) (kk (.int 2))) a0)))))
  (zRet (kk .non)) zPass)
  (zRet (bl .tuple (a1 (vv 1) a0))))))))
def m__law_statement : Fn := dF false 1 2 z__law_statement
theorem w__law_statement {x0 : D} {S : Store} {Qd : D → Store → Prop} {E : EX} (h : Z z__law_statement [some x0, none] S (kF false S.length Qd E)) : W (m__law_statement [x0] S) Qd E := W_dF h rfl rfl
def z__law_work : XS :=
  (zSeq (zSet 1 (me "split" (vv 0) (a1 (kk (.str " ; ")) a0)))
  (zSeq (zSet 2 (me "split" (ix (vv 1) (kk (.int 0))) (a1 (kk (.str " ")) a0)))
  (zSeq (zSet 3 (lcv [4] (iv (sl (vv 1) (p1 (kk (.int 1))) p0)) (b1 4) (ca m__law_statement (a1 (vv 4) a0))))
  (zSeq (zIf (tOr (tCm (cm .NotEq (bl .len (a1 (vv 2) a0)) (kk (.int 2)))) (tOr (tCm (cm .NotEq (ix (vv 2) (kk (.int 0))) (kk (.str "work")))) (tOr (tNot (tTr (ca m__law_is_name (a1 (ix (vv 2) (kk (.int 1))) a0)))) (tCm (cm .In (kk .non) (vv 3))))))
  (zRet (kk .non)) zPass)
  (zRet (tu (a1 (ix (vv 2) (kk (.int 1))) (a1 (bl .tuple (a1 (vv 3) a0)) a0))))))))
def m__law_work : Fn := dF false 1 5 z__law_work
theorem w__law_work {x0 : D} {S : Store} {Qd : D → Store → Prop} {E : EX} (h : Z z__law_work [some x0, none, none, none, none] S (kF false S.length Qd E)) : W (m__law_work [x0] S) Qd E := W_dF h rfl rfl
def z__law_written : XS :=
  (zSeq (zSet 1 (me "split" (vv 0) (a1 (kk (.str "\n")) a0)))
  (zSeq (zSet 2 (me "split" (ix (vv 1) (kk (.int 0))) (a1 (kk (.str " ")) a0)))
  (zSeq (zSet 3 (me "split" (ix (vv 1) (ng (kk (.int 1)))) (a1 (kk (.str " ")) a0)))
  (zSeq (zIf (tOr (tCm (cm .Lt (bl .len (a1 (vv 1) a0)) (kk (.int 2)))) (tOr (tCm (cm .NotEq (ix (vv 2) (kk (.int 0))) (kk (.str "houses")))) (tCm (cm .Lt (bl .len (a1 (vv 2) a0)) (kk (.int 2))))))
  (zRet (kk .non)) zPass)
  (zSeq (zIf (tCm (cm .In (kk (.bl false)) (lcv [6] (iv (sl (vv 2) (p1 (kk (.int 1))) p0)) (b1 6) (ca m__law_is_name (a1 (vv 6) a0)))))
  (zRet (kk .non)) zPass)
  (zSeq (zSet 4 (lcv [5] (iv (sl (vv 1) (p1 (kk (.int 1))) (p1 (ng (kk (.int 1)))))) (b1 5) (ca m__law_work (a1 (vv 5) a0))))
  (zSeq (zIf (tOr (tCm (cm .In (kk .non) (vv 4))) (tOr (tCm (cm .NotEq (bl .len (a1 (vv 3) a0)) (kk (.int 4)))) (tCm (cm .NotEq (ix (vv 3) (kk (.int 0))) (kk (.str "start"))))))
  (zRet (kk .non)) zPass)
  (zSeq (zIf (tOr (tNot (tTr (ca m__law_is_name (a1 (ix (vv 3) (kk (.int 1))) a0)))) (tNot (tTr (ca m__law_is_name (a1 (ix (vv 3) (kk (.int 2))) a0)))))
  (zRet (kk .non)) zPass)
  (zSeq (zIf (tCm (cm .Is (ca m__law_number (a1 (ix (vv 3) (kk (.int 3))) a0)) (kk .non)))
  (zRet (kk .non)) zPass)
  (zRet (tu (a1 (tu (a1 (sl (vv 2) (p1 (kk (.int 1))) p0) (a1 (vv 4) a0))) (a1 (tu (a1 (ix (vv 3) (kk (.int 1))) (a1 (ix (vv 3) (kk (.int 2))) (a1 (ca m__law_number (a1 (ix (vv 3) (kk (.int 3))) a0)) a0)))) a0)))))))))))))
def m__law_written : Fn := dF false 1 7 z__law_written
theorem w__law_written {x0 : D} {S : Store} {Qd : D → Store → Prop} {E : EX} (h : Z z__law_written [some x0, none, none, none, none, none, none] S (kF false S.length Qd E)) : W (m__law_written [x0] S) Qd E := W_dF h rfl rfl
def z__law_good_statement : XS :=
  (zSeq (zIf (tCm (cm .Eq (ix (vv 0) (kk (.int 0))) (kk (.str "add"))))
  (zRet (cm2 .LtE .LtE (ng (kk (.int 1000))) (ix (vv 0) (kk (.int 1))) (kk (.int 1000)))) zPass)
  (zSeq (zIf (tCm (cm .Eq (ix (vv 0) (kk (.int 0))) (kk (.str "spin"))))
  (zRet (cm2 .LtE .LtE (kk (.int 1)) (ix (vv 0) (kk (.int 1))) (kk (.int 4)))) zPass)
  (zRet (orE (cm .Eq (ix (vv 0) (kk (.int 0))) (kk (.str "own"))) (andE (cm .In (ix (vv 0) (kk (.int 1))) (vv 1)) (cm .In (ix (vv 0) (kk (.int 2))) (vv 2)))))))
def m__law_good_statement : Fn := dF false 3 3 z__law_good_statement
theorem w__law_good_statement {x0 x1 x2 : D} {S : Store} {Qd : D → Store → Prop} {E : EX} (h : Z z__law_good_statement [some x0, some x1, some x2] S (kF false S.length Qd E)) : W (m__law_good_statement [x0, x1, x2] S) Qd E := W_dF h rfl rfl
def z__law_due : XS :=
  (zSeq (zSet 1 (ca m__law_written (a1 (vv 0) a0)))
  (zSeq (zIf (tCm (cm .Is (vv 1) (kk .non)))
  (zRet (kk (.str "text"))) zPass)
  (zSeq (zTup [2, 3] (ix (vv 1) (kk (.int 0))))
  (zSeq (zSet 4 (lcv [5, 6] (iv (vv 3)) (bT [5, 6]) (vv 5)))
  (zSeq (zIf (tOr (tCm (cm .Gt (bl .len (a1 (vv 2) a0)) (kk (.int 4)))) (tCm (cm .Lt (lset (vv 2)) (bl .len (a1 (vv 2) a0)))))
  (zRet (kk (.str "works"))) zPass)
  (zSeq (zIf (tOr (tNot (tCm (cm2 .LtE .LtE (kk (.int 1)) (bl .len (a1 (vv 4) a0)) (kk (.int 5))))) (tCm (cm .Lt (lset (vv 4)) (bl .len (a1 (vv 4) a0)))))
  (zRet (kk (.str "works"))) zPass)
  (zSeq (zFor (bT [5, 6]) (iv (vv 3))
  (zSeq (zSet 7 (lcv1 [11] (iv (vv 6)) (b1 11) (tCm (cm .In (ix (vv 11) (kk (.int 0))) (tu (a1 (kk (.str "make")) (a1 (kk (.str "ask")) a0))))) (vv 11)))
    (zSeq (zSet 8 (lcv [11] (iv (vv 6)) (b1 11) (ca m__law_good_statement (a1 (vv 11) (a1 (vv 2) (a1 (vv 4) a0))))))
    (zIf (tOr (tCm (cm .Gt (bl .len (a1 (vv 6) a0)) (kk (.int 6)))) (tOr (tCm (cm .Gt (bl .len (a1 (vv 7) a0)) (kk (.int 3)))) (tCm (cm .In (kk (.bl false)) (vv 8)))))
    (zRet (kk (.str "works"))) zPass))))
  (zSeq (zTup [9, 5, 10] (ix (vv 1) (kk (.int 1))))
  (zSeq (zIf (tOr (tCm (cm .NotIn (vv 9) (vv 2))) (tOr (tCm (cm .NotIn (vv 5) (vv 4))) (tNot (tCm (cm2 .LtE .LtE (kk (.int 0)) (vv 10) (kk (.int 3)))))))
  (zRet (kk (.str "start"))) zPass)
  (zRet (vv 1)))))))))))
def m__law_due : Fn := dF false 1 12 z__law_due
theorem w__law_due {x0 : D} {S : Store} {Qd : D → Store → Prop} {E : EX} (h : Z z__law_due [some x0, none, none, none, none, none, none, none, none, none, none, none] S (kF false S.length Qd E)) : W (m__law_due [x0] S) Qd E := W_dF h rfl rfl
def z__law_told : XS :=
  (zSeq (zSet 1 (kk (.str "other")))
  (zSeq (zTry 2 true (kitOf kt) "QuietError"
  (zSet 1 (tu (a1 (kk (.str "told")) (a1 (ca m_read_works (a1 (vv 0) a0)) a0))))
  (fun x => (zSeq (zSet 3 (isE (kitOf kt) x ["BadWay", "NoPaper", "NoPick", "NoRow", "TooMany"]))
    (zSeq (zSet 4 (lsv (a1 (isE (kitOf kt) x ["NoText"]) (a1 (isE (kitOf kt) x ["BadWorks"]) (a1 (isE (kitOf kt) x ["BadStart"]) a0)))))
    (zIf (tAnd (tNot (tTr (vv 3))) (tAnd (tCm (cm .Eq (me "count" (vv 4) (a1 (kk (.bl true)) a0)) (kk (.int 1)))) (tTr (isE (kitOf kt) x ["ValueError"]))))
    (zSet 1 (tu (a1 (kk (.str "refused")) (a1 (ix (lsv (a1 (kk (.str "text")) (a1 (kk (.str "works")) (a1 (kk (.str "start")) a0)))) (me "index" (vv 4) (a1 (kk (.bl true)) a0))) a0)))) zPass)))))
  (zRet (vv 1))))
def m__law_told : Fn := dF false 1 5 z__law_told
theorem w__law_told {x0 : D} {S : Store} {Qd : D → Store → Prop} {E : EX} (h : Z z__law_told [some x0, none, none, none, none] S (kF false S.length Qd E)) : W (m__law_told [x0] S) Qd E := W_dF h rfl rfl
def z_law : XS :=
  (zSeq (zFor (b1 1) (iv (bi .Add (lsv (a1 (ca m__law_cell_at (a1 (vv 0) (a1 (kk (.int 0)) a0))) a0)) (sl (vv 0) (p1 (kk (.int 1))) (p1 (kk (.int 20))))))
  (zSeq (zSet 2 (ca m__law_well (a1 (vv 1) a0)))
    (zSeq (zSet 3 (ca m__law_works (a1 (vv 2) a0)))
    (zSeq (zSet 4 (ca m__law_text (a1 (vv 3) (a1 (ca m__law_start (a1 (vv 2) (a1 (vv 3) a0))) a0))))
    (zSeq (zFor (b1 5) (r1 (bi .Add (kk (.int 1)) (ca m__law_draw (a1 (vv 2) (a1 (kk (.int 3)) a0)))))
    (zSet 4 (ca m__law_changed (a1 (vv 2) (a1 (vv 4) a0)))))
    (zSeq (zSet 6 (ca m__law_due (a1 (vv 4) a0)))
    (zSeq (zSet 7 (tu (a1 (ix (lsv (a1 (kk (.str "told")) (a1 (kk (.str "refused")) a0))) (bl .int (a1 (isn (vv 6) "str") a0))) (a1 (vv 6) a0))))
    (zSeq (zIf (tOr (tCm (cm .NotEq (ca m__law_told (a1 (vv 4) a0)) (vv 7))) (tCm (cm .NotEq (ca m__law_told (a1 (vv 4) a0)) (vv 7))))
    (zRet (kk (.bl false))) zPass)
    (zIf (tAnd (tTr (isn (vv 6) "tuple")) (tCm (cm .NotEq (ca m_works_text (a1 (ix (vv 6) (kk (.int 0))) (a1 (ix (vv 6) (kk (.int 1))) a0))) (vv 4))))
    (zRet (kk (.bl false))) zPass)))))))))
  (zSeq (zFor (b1 8) (iv (lsv (a1 (kk .non) (a1 (kk (.int 0)) (a1 (kk (.bl true)) (a1 (lsv (a1 (kk (.str "houses a")) a0)) (a1 (tu (a1 (kk (.str "work a")) a0)) (a1 di0 a0))))))))
  (zIf (tCm (cm .NotEq (ca m__law_told (a1 (vv 8) a0)) (tu (a1 (kk (.str "refused")) (a1 (kk (.str "text")) a0)))))
    (zRet (kk (.bl false))) zPass))
  (zRet (cm .Eq (lcv [9] (iv (lsv (a1 (kk (.str "")) (a1 (kk (.str "houses a\nstart a a 0")) a0)))) (b1 9) (ix (ca m__law_told (a1 (vv 9) a0)) (kk (.int 1)))) (lsv (a1 (kk (.str "text")) (a1 (kk (.str "works")) a0)))))))
def m_law : Fn := dF false 1 10 z_law
theorem w_law {x0 : D} {S : Store} {Qd : D → Store → Prop} {E : EX} (h : Z z_law [some x0, none, none, none, none, none, none, none, none, none] S (kF false S.length Qd E)) : W (m_law [x0] S) Qd E := W_dF h rfl rfl
def cs : List (Str × D) := [("FIGURES", (.str "0123456789")), ("LETTERS", (.str "abcdefghijklmnopqrstuvwxyz")), ("MOST_ADDED", (.int 1000)), ("MOST_CALLS", (.int 3)), ("MOST_HOUSES", (.int 4)), ("MOST_LETTERS", (.int 8)), ("MOST_NUMBER", (.int 3)), ("MOST_SPIN", (.int 4)), ("MOST_STATEMENTS", (.int 6)), ("MOST_WORKS", (.int 5))]
def frees : List Str := ["isinstance", "bool", "int", "all", "len", "str", "set", "tuple", "list", "range", "enumerate", "ValueError"]
def excs : List Str := ["BadWorks", "BadStart", "NoText"]
def muts : List (Nat × Nat) := [(135, 11), (151, 15), (153, 15), (156, 11), (158, 17), (177, 26), (182, 16)]
def ft : FldT := []
def mb : MutB := [(193, 16, 193, 31), (205, 16, 205, 42)]
def ts : DkT := []
def c0 : Cfg := cfg0 cs frees excs muts kt ft mb ts
def R0 : DefR := ⟨"is_int", top 20, ["thing"], ["thing"], false, m_is_int, [], none, "is_int", "is_int"⟩
def c1 : Cfg := c0.add "is_int" m_is_int
def R1 : DefR := ⟨"is_name", top 21, ["thing"], ["thing", "sign"], false, m_is_name, [], none, "is_name", "is_name"⟩
def c2 : Cfg := c1.add "is_name" m_is_name
def R2 : DefR := ⟨"are_unlike", top 22, ["names"], ["names", "name"], false, m_are_unlike, [], none, "are_unlike", "are_unlike"⟩
def c3 : Cfg := c2.add "are_unlike" m_are_unlike
def R3 : DefR := ⟨"is_statement", top 23, ["thing", "houses", "names"], ["thing", "houses", "names"], false, m_is_statement, [], none, "is_statement", "is_statement"⟩
def c4 : Cfg := c3.add "is_statement" m_is_statement
def R4 : DefR := ⟨"is_body", top 24, ["thing", "houses", "names"], ["thing", "houses", "names", "one"], false, m_is_body, [], none, "is_body", "is_body"⟩
def c5 : Cfg := c4.add "is_body" m_is_body
def R5 : DefR := ⟨"is_list", top 25, ["thing", "most"], ["thing", "most"], false, m_is_list, [], none, "is_list", "is_list"⟩
def c6 : Cfg := c5.add "is_list" m_is_list
def R6 : DefR := ⟨"check_works", top 26, ["works"], ["works", "houses", "some", "names", "name", "body", "one"], false, m_check_works, [], none, "check_works", "check_works"⟩
def c7 : Cfg := c6.add "check_works" m_check_works
def R7 : DefR := ⟨"check_start", top 27, ["works", "start"], ["works", "start", "name", "body"], false, m_check_start, [], none, "check_start", "check_start"⟩
def c8 : Cfg := c7.add "check_start" m_check_start
def R8 : DefR := ⟨"number_in", top 30, ["word", "most"], ["word", "most", "figures", "sign"], false, m_number_in, [9], none, "number_in", "number_in"⟩
def c9 : Cfg := c8.add "number_in" n_number_in
def R9 : DefR := ⟨"statement_text", top 31, ["statement"], ["statement", "one"], false, m_statement_text, [], none, "statement_text", "statement_text"⟩
def c10 : Cfg := c9.add "statement_text" m_statement_text
def R10 : DefR := ⟨"work_text", top 32, ["name", "body"], ["name", "body", "one"], false, m_work_text, [], none, "work_text", "work_text"⟩
def c11 : Cfg := c10.add "work_text" m_work_text
def R11 : DefR := ⟨"works_text", top 33, ["works", "start"], ["works", "start", "houses", "some", "rows", "name", "body"], false, m_works_text, [], none, "works_text", "works_text"⟩
def c12 : Cfg := c11.add "works_text" m_works_text
def R12 : DefR := ⟨"needed", top 34, ["truth"], ["truth"], false, m_needed, [], none, "needed", "needed"⟩
def c13 : Cfg := c12.add "needed" m_needed
def R13 : DefR := ⟨"statement_in", top 35, ["text"], ["text", "words"], false, m_statement_in, [], none, "statement_in", "statement_in"⟩
def c14 : Cfg := c13.add "statement_in" m_statement_in
def R14 : DefR := ⟨"work_in", top 36, ["row"], ["row", "parts", "words", "part"], false, m_work_in, [], none, "work_in", "work_in"⟩
def c15 : Cfg := c14.add "work_in" m_work_in
def R15 : DefR := ⟨"start_in", top 37, ["row"], ["row", "words"], false, m_start_in, [], none, "start_in", "start_in"⟩
def c16 : Cfg := c15.add "start_in" m_start_in
def R16 : DefR := ⟨"read_works", top 38, ["text"], ["text", "rows", "houses", "works", "start", "row", "one"], false, m_read_works, [], none, "read_works", "read_works"⟩
def c17 : Cfg := c16.add "read_works" m_read_works
def R17 : DefR := ⟨"_law_cell_at", top 40, ["_law_script", "_law_k"], ["_law_script", "_law_k"], false, m__law_cell_at, [], none, "_law_cell_at", "_law_cell_at"⟩
def c18 : Cfg := c17.add "_law_cell_at" m__law_cell_at
def R18 : DefR := ⟨"_law_mixed", top 41, ["_law_cell", "_law_k"], ["_law_cell", "_law_k", "_law_number_here"], false, m__law_mixed, [], none, "_law_mixed", "_law_mixed"⟩
def c19 : Cfg := c18.add "_law_mixed" m__law_mixed
def R19 : DefR := ⟨"_law_well", top 42, ["_law_cell"], ["_law_cell"], false, m__law_well, [], none, "_law_well", "_law_well"⟩
def c20 : Cfg := c19.add "_law_well" m__law_well
def R20 : DefR := ⟨"_law_draw", top 43, ["_law_well_here", "_law_many"], ["_law_well_here", "_law_many", "_law_found"], false, m__law_draw, [], none, "_law_draw", "_law_draw"⟩
def c21 : Cfg := c20.add "_law_draw" m__law_draw
def R21 : DefR := ⟨"_law_pick", top 44, ["_law_well_here", "_law_some"], ["_law_well_here", "_law_some"], false, m__law_pick, [], none, "_law_pick", "_law_pick"⟩
def c22 : Cfg := c21.add "_law_pick" m__law_pick
def R22 : DefR := ⟨"_law_names", top 45, ["_law_well_here", "_law_many"], ["_law_well_here", "_law_many", "_law_way", "_law_letters", "_law_words", "_law_shift", "_law_stem", "_law_at", "_law_k"], false, m__law_names, [], none, "_law_names", "_law_names"⟩
def c23 : Cfg := c22.add "_law_names" m__law_names
def R23 : DefR := ⟨"_law_body", top 46, ["_law_well_here", "_law_houses", "_law_names_here"], ["_law_well_here", "_law_houses", "_law_names_here", "_law_found", "_law_calls", "_law_k", "_law_way"], false, m__law_body, [], none, "_law_body", "_law_body"⟩
def c24 : Cfg := c23.add "_law_body" m__law_body
def R24 : DefR := ⟨"_law_works", top 47, ["_law_well_here"], ["_law_well_here", "_law_houses", "_law_names_here", "_law_k", "_law_name"], false, m__law_works, [], none, "_law_works", "_law_works"⟩
def c25 : Cfg := c24.add "_law_works" m__law_works
def R25 : DefR := ⟨"_law_start", top 48, ["_law_well_here", "_law_works_here"], ["_law_well_here", "_law_works_here"], false, m__law_start, [], none, "_law_start", "_law_start"⟩
def c26 : Cfg := c25.add "_law_start" m__law_start
def R26 : DefR := ⟨"_law_text", top 49, ["_law_works_here", "_law_start_here"], ["_law_works_here", "_law_start_here", "_law_rows", "_law_name", "_law_body_here", "_law_row", "_law_statement_here", "_law_one"], false, m__law_text, [], none, "_law_text", "_law_text"⟩
def c27 : Cfg := c26.add "_law_text" m__law_text
def R27 : DefR := ⟨"_law_some_changed", top 50, ["_law_well_here", "_law_some", "_law_others"], ["_law_well_here", "_law_some", "_law_others", "_law_way", "_law_at", "_law_other"], false, m__law_some_changed, [], none, "_law_some_changed", "_law_some_changed"⟩
def c28 : Cfg := c27.add "_law_some_changed" m__law_some_changed
def R28 : DefR := ⟨"_law_changed", top 51, ["_law_well_here", "_law_text_here"], ["_law_well_here", "_law_text_here", "_law_way", "_law_rows", "_law_others", "_law_at", "_law_words", "_law_signs", "_law_sign"], false, m__law_changed, [], none, "_law_changed", "_law_changed"⟩
def c29 : Cfg := c28.add "_law_changed" m__law_changed
def R29 : DefR := ⟨"_law_is_name", top 52, ["_law_word"], ["_law_word", "_law_sign"], false, m__law_is_name, [], none, "_law_is_name", "_law_is_name"⟩
def c30 : Cfg := c29.add "_law_is_name" m__law_is_name
def R30 : DefR := ⟨"_law_number", top 53, ["_law_word"], ["_law_word", "_law_figures", "_law_sign"], false, m__law_number, [], none, "_law_number", "_law_number"⟩
def c31 : Cfg := c30.add "_law_number" m__law_number
def R31 : DefR := ⟨"_law_statement", top 54, ["_law_text_here"], ["_law_text_here", "_law_words"], false, m__law_statement, [], none, "_law_statement", "_law_statement"⟩
def c32 : Cfg := c31.add "_law_statement" m__law_statement
def R32 : DefR := ⟨"_law_work", top 55, ["_law_row"], ["_law_row", "_law_parts", "_law_words", "_law_body_here", "_law_one"], false, m__law_work, [], none, "_law_work", "_law_work"⟩
def c33 : Cfg := c32.add "_law_work" m__law_work
def R33 : DefR := ⟨"_law_written", top 56, ["_law_text_here"], ["_law_text_here", "_law_rows", "_law_first", "_law_last", "_law_some", "_law_row", "_law_one"], false, m__law_written, [], none, "_law_written", "_law_written"⟩
def c34 : Cfg := c33.add "_law_written" m__law_written
def R34 : DefR := ⟨"_law_good_statement", top 57, ["_law_statement_here", "_law_houses", "_law_names_here"], ["_law_statement_here", "_law_houses", "_law_names_here"], false, m__law_good_statement, [], none, "_law_good_statement", "_law_good_statement"⟩
def c35 : Cfg := c34.add "_law_good_statement" m__law_good_statement
def R35 : DefR := ⟨"_law_due", top 58, ["_law_text_here"], ["_law_text_here", "_law_found", "_law_houses", "_law_some", "_law_names_here", "_law_name", "_law_body_here", "_law_calls", "_law_good", "_law_house", "_law_x", "_law_statement_here"], false, m__law_due, [], none, "_law_due", "_law_due"⟩
def c36 : Cfg := c35.add "_law_due" m__law_due
def R36 : DefR := ⟨"_law_told", top 59, ["_law_text_here"], ["_law_text_here", "_law_told_here", "e", "_law_others", "_law_some"], false, m__law_told, [], none, "_law_told", "_law_told"⟩
def c37 : Cfg := c36.add "_law_told" m__law_told
def R37 : DefR := ⟨"law", top 60, ["_law_script"], ["_law_script", "_law_cell", "_law_well_here", "_law_works_here", "_law_text_here", "_law_k", "_law_due_here", "_law_told_here", "_law_thing", "_law_one"], false, m_law, [], none, "law", "law"⟩
def c38 : Cfg := c37.add "law" m_law
abbrev RL : DefR := R37
def rs : List DefR := [R0, R1, R2, R3, R4, R5, R6, R7, R8, R9, R10, R11, R12, R13, R14, R15, R16, R17, R18, R19, R20, R21, R22, R23, R24, R25, R26, R27, R28, R29, R30, R31, R32, R33, R34, R35, R36]
theorem k0 : R0.Ok := ⟨by kernel_rfl, fun _ _ _ _ _ _ _ us hl => match us, hl with | [_], _ => rfl, fun z => absurd rfl z, fun z => absurd rfl z⟩
theorem e0 : runF c0 R0.frz R0.ps R0.N (scopeOf R0.st) 100 (bodyOf R0.st) = R0.φ := by kernel_rfl
theorem k1 : R1.Ok := ⟨by kernel_rfl, fun _ _ _ _ _ _ _ us hl => match us, hl with | [_], _ => rfl, fun z => absurd rfl z, fun z => absurd rfl z⟩
theorem e1 : runF c1 R1.frz R1.ps R1.N (scopeOf R1.st) 100 (bodyOf R1.st) = R1.φ := by kernel_rfl
theorem k2 : R2.Ok := ⟨by kernel_rfl, fun _ _ _ _ _ _ _ us hl => match us, hl with | [_], _ => rfl, fun z => absurd rfl z, fun z => absurd rfl z⟩
theorem e2 : runF c2 R2.frz R2.ps R2.N (scopeOf R2.st) 100 (bodyOf R2.st) = R2.φ := by kernel_rfl
theorem k3 : R3.Ok := ⟨by kernel_rfl, fun _ _ _ _ _ _ _ us hl => match us, hl with | [_, _, _], _ => rfl, fun z => absurd rfl z, fun z => absurd rfl z⟩
theorem e3 : runF c3 R3.frz R3.ps R3.N (scopeOf R3.st) 100 (bodyOf R3.st) = R3.φ := by kernel_rfl
theorem k4 : R4.Ok := ⟨by kernel_rfl, fun _ _ _ _ _ _ _ us hl => match us, hl with | [_, _, _], _ => rfl, fun z => absurd rfl z, fun z => absurd rfl z⟩
theorem e4 : runF c4 R4.frz R4.ps R4.N (scopeOf R4.st) 100 (bodyOf R4.st) = R4.φ := by kernel_rfl
theorem k5 : R5.Ok := ⟨by kernel_rfl, fun _ _ _ _ _ _ _ us hl => match us, hl with | [_, _], _ => rfl, fun z => absurd rfl z, fun z => absurd rfl z⟩
theorem e5 : runF c5 R5.frz R5.ps R5.N (scopeOf R5.st) 100 (bodyOf R5.st) = R5.φ := by kernel_rfl
theorem k6 : R6.Ok := ⟨by kernel_rfl, fun _ _ _ _ _ _ _ us hl => match us, hl with | [_], _ => rfl, fun z => absurd rfl z, fun z => absurd rfl z⟩
theorem e6 : runF c6 R6.frz R6.ps R6.N (scopeOf R6.st) 100 (bodyOf R6.st) = R6.φ := by kernel_rfl
theorem k7 : R7.Ok := ⟨by kernel_rfl, fun _ _ _ _ _ _ _ us hl => match us, hl with | [_, _], _ => rfl, fun z => absurd rfl z, fun z => absurd rfl z⟩
theorem e7 : runF c7 R7.frz R7.ps R7.N (scopeOf R7.st) 100 (bodyOf R7.st) = R7.φ := by kernel_rfl
theorem k8 : R8.Ok := ⟨by kernel_rfl, fun z => (by cases z), fun _ => ⟨by decide, fun _ _ _ _ _ _ _ us its h1 h2 => match us, its, h1, h2 with | [_], [_], _, _ => ⟨_, rfl, rfl⟩⟩, fun _ _ _ _ _ _ _ _ us its h1 h2 => match us, its, h1, h2 with | [_, _], [_], _, _ => ⟨_, rfl, rfl⟩⟩
theorem e8 : runF c8 R8.frz R8.ps R8.N (scopeOf R8.st) 100 (bodyOf R8.st) = R8.φ := by kernel_rfl
theorem k9 : R9.Ok := ⟨by kernel_rfl, fun _ _ _ _ _ _ _ us hl => match us, hl with | [_], _ => rfl, fun z => absurd rfl z, fun z => absurd rfl z⟩
theorem e9 : runF c9 R9.frz R9.ps R9.N (scopeOf R9.st) 100 (bodyOf R9.st) = R9.φ := by kernel_rfl
theorem k10 : R10.Ok := ⟨by kernel_rfl, fun _ _ _ _ _ _ _ us hl => match us, hl with | [_, _], _ => rfl, fun z => absurd rfl z, fun z => absurd rfl z⟩
theorem e10 : runF c10 R10.frz R10.ps R10.N (scopeOf R10.st) 100 (bodyOf R10.st) = R10.φ := by kernel_rfl
theorem k11 : R11.Ok := ⟨by kernel_rfl, fun _ _ _ _ _ _ _ us hl => match us, hl with | [_, _], _ => rfl, fun z => absurd rfl z, fun z => absurd rfl z⟩
theorem e11 : runF c11 R11.frz R11.ps R11.N (scopeOf R11.st) 100 (bodyOf R11.st) = R11.φ := by kernel_rfl
theorem k12 : R12.Ok := ⟨by kernel_rfl, fun _ _ _ _ _ _ _ us hl => match us, hl with | [_], _ => rfl, fun z => absurd rfl z, fun z => absurd rfl z⟩
theorem e12 : runF c12 R12.frz R12.ps R12.N (scopeOf R12.st) 100 (bodyOf R12.st) = R12.φ := by kernel_rfl
theorem k13 : R13.Ok := ⟨by kernel_rfl, fun _ _ _ _ _ _ _ us hl => match us, hl with | [_], _ => rfl, fun z => absurd rfl z, fun z => absurd rfl z⟩
theorem e13 : runF c13 R13.frz R13.ps R13.N (scopeOf R13.st) 100 (bodyOf R13.st) = R13.φ := by kernel_rfl
theorem k14 : R14.Ok := ⟨by kernel_rfl, fun _ _ _ _ _ _ _ us hl => match us, hl with | [_], _ => rfl, fun z => absurd rfl z, fun z => absurd rfl z⟩
theorem e14 : runF c14 R14.frz R14.ps R14.N (scopeOf R14.st) 100 (bodyOf R14.st) = R14.φ := by kernel_rfl
theorem k15 : R15.Ok := ⟨by kernel_rfl, fun _ _ _ _ _ _ _ us hl => match us, hl with | [_], _ => rfl, fun z => absurd rfl z, fun z => absurd rfl z⟩
theorem e15 : runF c15 R15.frz R15.ps R15.N (scopeOf R15.st) 100 (bodyOf R15.st) = R15.φ := by kernel_rfl
theorem k16 : R16.Ok := ⟨by kernel_rfl, fun _ _ _ _ _ _ _ us hl => match us, hl with | [_], _ => rfl, fun z => absurd rfl z, fun z => absurd rfl z⟩
theorem e16 : runF c16 R16.frz R16.ps R16.N (scopeOf R16.st) 100 (bodyOf R16.st) = R16.φ := by kernel_rfl
theorem k17 : R17.Ok := ⟨by kernel_rfl, fun _ _ _ _ _ _ _ us hl => match us, hl with | [_, _], _ => rfl, fun z => absurd rfl z, fun z => absurd rfl z⟩
theorem e17 : runF c17 R17.frz R17.ps R17.N (scopeOf R17.st) 100 (bodyOf R17.st) = R17.φ := by kernel_rfl
theorem k18 : R18.Ok := ⟨by kernel_rfl, fun _ _ _ _ _ _ _ us hl => match us, hl with | [_, _], _ => rfl, fun z => absurd rfl z, fun z => absurd rfl z⟩
theorem e18 : runF c18 R18.frz R18.ps R18.N (scopeOf R18.st) 100 (bodyOf R18.st) = R18.φ := by kernel_rfl
theorem k19 : R19.Ok := ⟨by kernel_rfl, fun _ _ _ _ _ _ _ us hl => match us, hl with | [_], _ => rfl, fun z => absurd rfl z, fun z => absurd rfl z⟩
theorem e19 : runF c19 R19.frz R19.ps R19.N (scopeOf R19.st) 100 (bodyOf R19.st) = R19.φ := by kernel_rfl
theorem k20 : R20.Ok := ⟨by kernel_rfl, fun _ _ _ _ _ _ _ us hl => match us, hl with | [_, _], _ => rfl, fun z => absurd rfl z, fun z => absurd rfl z⟩
theorem e20 : runF c20 R20.frz R20.ps R20.N (scopeOf R20.st) 100 (bodyOf R20.st) = R20.φ := by kernel_rfl
theorem k21 : R21.Ok := ⟨by kernel_rfl, fun _ _ _ _ _ _ _ us hl => match us, hl with | [_, _], _ => rfl, fun z => absurd rfl z, fun z => absurd rfl z⟩
theorem e21 : runF c21 R21.frz R21.ps R21.N (scopeOf R21.st) 100 (bodyOf R21.st) = R21.φ := by kernel_rfl
theorem k22 : R22.Ok := ⟨by kernel_rfl, fun _ _ _ _ _ _ _ us hl => match us, hl with | [_, _], _ => rfl, fun z => absurd rfl z, fun z => absurd rfl z⟩
theorem e22 : runF c22 R22.frz R22.ps R22.N (scopeOf R22.st) 100 (bodyOf R22.st) = R22.φ := by kernel_rfl
theorem k23 : R23.Ok := ⟨by kernel_rfl, fun _ _ _ _ _ _ _ us hl => match us, hl with | [_, _, _], _ => rfl, fun z => absurd rfl z, fun z => absurd rfl z⟩
theorem e23 : runF c23 R23.frz R23.ps R23.N (scopeOf R23.st) 100 (bodyOf R23.st) = R23.φ := by kernel_rfl
theorem k24 : R24.Ok := ⟨by kernel_rfl, fun _ _ _ _ _ _ _ us hl => match us, hl with | [_], _ => rfl, fun z => absurd rfl z, fun z => absurd rfl z⟩
theorem e24 : runF c24 R24.frz R24.ps R24.N (scopeOf R24.st) 100 (bodyOf R24.st) = R24.φ := by kernel_rfl
theorem k25 : R25.Ok := ⟨by kernel_rfl, fun _ _ _ _ _ _ _ us hl => match us, hl with | [_, _], _ => rfl, fun z => absurd rfl z, fun z => absurd rfl z⟩
theorem e25 : runF c25 R25.frz R25.ps R25.N (scopeOf R25.st) 100 (bodyOf R25.st) = R25.φ := by kernel_rfl
theorem k26 : R26.Ok := ⟨by kernel_rfl, fun _ _ _ _ _ _ _ us hl => match us, hl with | [_, _], _ => rfl, fun z => absurd rfl z, fun z => absurd rfl z⟩
theorem e26 : runF c26 R26.frz R26.ps R26.N (scopeOf R26.st) 100 (bodyOf R26.st) = R26.φ := by kernel_rfl
theorem k27 : R27.Ok := ⟨by kernel_rfl, fun _ _ _ _ _ _ _ us hl => match us, hl with | [_, _, _], _ => rfl, fun z => absurd rfl z, fun z => absurd rfl z⟩
theorem e27 : runF c27 R27.frz R27.ps R27.N (scopeOf R27.st) 100 (bodyOf R27.st) = R27.φ := by kernel_rfl
theorem k28 : R28.Ok := ⟨by kernel_rfl, fun _ _ _ _ _ _ _ us hl => match us, hl with | [_, _], _ => rfl, fun z => absurd rfl z, fun z => absurd rfl z⟩
theorem e28 : runF c28 R28.frz R28.ps R28.N (scopeOf R28.st) 100 (bodyOf R28.st) = R28.φ := by kernel_rfl
theorem k29 : R29.Ok := ⟨by kernel_rfl, fun _ _ _ _ _ _ _ us hl => match us, hl with | [_], _ => rfl, fun z => absurd rfl z, fun z => absurd rfl z⟩
theorem e29 : runF c29 R29.frz R29.ps R29.N (scopeOf R29.st) 100 (bodyOf R29.st) = R29.φ := by kernel_rfl
theorem k30 : R30.Ok := ⟨by kernel_rfl, fun _ _ _ _ _ _ _ us hl => match us, hl with | [_], _ => rfl, fun z => absurd rfl z, fun z => absurd rfl z⟩
theorem e30 : runF c30 R30.frz R30.ps R30.N (scopeOf R30.st) 100 (bodyOf R30.st) = R30.φ := by kernel_rfl
theorem k31 : R31.Ok := ⟨by kernel_rfl, fun _ _ _ _ _ _ _ us hl => match us, hl with | [_], _ => rfl, fun z => absurd rfl z, fun z => absurd rfl z⟩
theorem e31 : runF c31 R31.frz R31.ps R31.N (scopeOf R31.st) 100 (bodyOf R31.st) = R31.φ := by kernel_rfl
theorem k32 : R32.Ok := ⟨by kernel_rfl, fun _ _ _ _ _ _ _ us hl => match us, hl with | [_], _ => rfl, fun z => absurd rfl z, fun z => absurd rfl z⟩
theorem e32 : runF c32 R32.frz R32.ps R32.N (scopeOf R32.st) 100 (bodyOf R32.st) = R32.φ := by kernel_rfl
theorem k33 : R33.Ok := ⟨by kernel_rfl, fun _ _ _ _ _ _ _ us hl => match us, hl with | [_], _ => rfl, fun z => absurd rfl z, fun z => absurd rfl z⟩
theorem e33 : runF c33 R33.frz R33.ps R33.N (scopeOf R33.st) 100 (bodyOf R33.st) = R33.φ := by kernel_rfl
theorem k34 : R34.Ok := ⟨by kernel_rfl, fun _ _ _ _ _ _ _ us hl => match us, hl with | [_, _, _], _ => rfl, fun z => absurd rfl z, fun z => absurd rfl z⟩
theorem e34 : runF c34 R34.frz R34.ps R34.N (scopeOf R34.st) 100 (bodyOf R34.st) = R34.φ := by kernel_rfl
theorem k35 : R35.Ok := ⟨by kernel_rfl, fun _ _ _ _ _ _ _ us hl => match us, hl with | [_], _ => rfl, fun z => absurd rfl z, fun z => absurd rfl z⟩
theorem e35 : runF c35 R35.frz R35.ps R35.N (scopeOf R35.st) 100 (bodyOf R35.st) = R35.φ := by kernel_rfl
theorem k36 : R36.Ok := ⟨by kernel_rfl, fun _ _ _ _ _ _ _ us hl => match us, hl with | [_], _ => rfl, fun z => absurd rfl z, fun z => absurd rfl z⟩
theorem e36 : runF c36 R36.frz R36.ps R36.N (scopeOf R36.st) 100 (bodyOf R36.st) = R36.φ := by kernel_rfl
theorem k37 : R37.Ok := ⟨by kernel_rfl, fun _ _ _ _ _ _ _ us hl => match us, hl with | [_], _ => rfl, fun z => absurd rfl z, fun z => absurd rfl z⟩
theorem e37 : runF c37 R37.frz R37.ps R37.N (scopeOf R37.st) 100 (bodyOf R37.st) = R37.φ := by kernel_rfl
theorem steps : Steps 100 c0 rs := ⟨⟨k0, e0⟩, ⟨k1, e1⟩, ⟨k2, e2⟩, ⟨k3, e3⟩, ⟨k4, e4⟩, ⟨k5, e5⟩, ⟨k6, e6⟩, ⟨k7, e7⟩, ⟨k8, e8⟩, ⟨k9, e9⟩, ⟨k10, e10⟩, ⟨k11, e11⟩, ⟨k12, e12⟩, ⟨k13, e13⟩, ⟨k14, e14⟩, ⟨k15, e15⟩, ⟨k16, e16⟩, ⟨k17, e17⟩, ⟨k18, e18⟩, ⟨k19, e19⟩, ⟨k20, e20⟩, ⟨k21, e21⟩, ⟨k22, e22⟩, ⟨k23, e23⟩, ⟨k24, e24⟩, ⟨k25, e25⟩, ⟨k26, e26⟩, ⟨k27, e27⟩, ⟨k28, e28⟩, ⟨k29, e29⟩, ⟨k30, e30⟩, ⟨k31, e31⟩, ⟨k32, e32⟩, ⟨k33, e33⟩, ⟨k34, e34⟩, ⟨k35, e35⟩, ⟨k36, e36⟩, trivial⟩
end QL

namespace QL
open PySem Q
def lo0 : List Str := ["QuietError", "BadWorks", "BadStart", "BadWay", "NoPick", "NoPaper", "TooMany", "NoText", "NoRow", "LETTERS", "MOST_LETTERS", "MOST_HOUSES", "MOST_WORKS", "MOST_STATEMENTS", "MOST_CALLS", "MOST_ADDED", "MOST_SPIN", "MOST_NUMBER", "is_int", "is_name"]
def lo1 : List Str := ["are_unlike", "is_statement", "is_body", "is_list", "check_works", "check_start", "FIGURES", "number_in", "statement_text", "work_text", "works_text", "needed", "statement_in", "work_in", "start_in", "read_works", "_law_cell_at", "_law_mixed", "_law_well", "_law_draw"]
def lo2 : List Str := ["_law_pick", "_law_names", "_law_body", "_law_works", "_law_start", "_law_text", "_law_some_changed", "_law_changed", "_law_is_name", "_law_number", "_law_statement", "_law_work", "_law_written", "_law_good_statement", "_law_due", "_law_told"]
abbrev loose : List Str := lo0 ++ lo1 ++ lo2
abbrev RO : PySem.W.OpenRow := PySem.W.OpenLaw.row PySem.Challenge.rw_allquiet_k16_texts_of_works_spoilt
abbrev fa : List He.Fa := facts (rs ++ [R37]) frees excs ft
abbrev fn : List He.DefD := (rs ++ [R37]).map DefR.d
abbrev hk : PySem.W.Hook := hookE 4 fa fn cs kt frees ts
def ob (s : PySem.W.SharedT) : AlQ := obsE 4 fa fn cs kt frees ts (HandSHeadRun.getT s)
theorem ob_eq (s : PySem.W.SharedT) : ob s = hk.obs s.abs := obsE_eq (HandSHeadRun.getT_eq s)
theorem run (w : World) : HandSHeadRun.RunEq RO (PySem.W.view RO.prog [60]) hk ob 8000 loose w := by
  intro os
  kernel_rfl
end QL

namespace QL
open PySem Q
/-! ### the well of drawn numbers -/
structure Src (S : Store) (l : Nat) (k : Int) : Prop where
  out : ∃ a b c : Int, S[l]? = some (.lst [.int a, .int b, .int c]) ∧ 0 ≤ c ∧ c ≤ k
theorem Src.mono {S : Store} {l : Nat} {k k' : Int} (h : Src S l k) (hk : k ≤ k') : Src S l k' := by
  obtain ⟨a, b, c, h1, h4, h5⟩ := h.out
  exact ⟨⟨a, b, c, h1, h4, by omega⟩⟩
theorem mixed_w {S : Store} {c k : Int} {Qd : D → Store → Prop} {E : EX} (h0 : 0 ≤ k) (hk : k ≤ 1000000000) (hQ : ∀ n, Qd (.int n) S) : W (m__law_mixed [.int c, .int k] S) Qd E := by
  apply w__law_mixed
  unfold z__law_mixed
  (repeat' (first | fail "q1" | refine Bn_pow ⟨by decide, by decide, by omega⟩ ?_ | fail "q2" | fail "q3" | fail))
  exact hQ _
theorem draw_w {S : Store} {l : Nat} {k m : Int} {Qd : D → Store → Prop} {E : EX} (h : Src S l k) (hk : k ≤ 100000000) (hm : 0 < m) (hm2 : m < 1000000000000)
    (hQ : ∀ n S', 0 ≤ n → n < m → Src S' l (k + 1) → S'.length = S.length → (∀ i, i ≠ l → S'[i]? = S[i]?) → Qd (.int n) S') : W (m__law_draw [.ref l, .int m] S) Qd E := by
  obtain ⟨a, b, c, hS, hc0, hc1⟩ := h.out
  apply w__law_draw
  unfold z__law_draw
  (repeat' (first | fail "q1" | (with_reducible refine mixed_w (by omega) (by omega) (fun _ => ?_)) | fail "q2" | fail "q3" | fail))
  · exact FnP_same (by assumption) (hQ _ _ (Int.emod_nonneg _ (by omega)) (Int.emod_lt_of_pos _ hm) ⟨⟨_, _, _, by assumption, hc0, by omega⟩⟩ (by assumption) (by assumption))
  · exact FnP_same (by assumption) (hQ _ _ (Int.emod_nonneg _ (by omega)) (Int.emod_lt_of_pos _ hm) ⟨⟨_, _, _, by assumption, by omega, by omega⟩⟩ (by assumption) (by assumption))
theorem begin_w {S : Store} {c : Int} {Qd : D → Store → Prop} {E : EX} (hQ : ∀ S', Src S' S.length 0 → S'.length = S.length + 1 → (∀ i, i < S.length → S'[i]? = S[i]?) → Qd (.ref S.length) S') : W (m__law_well [.int c] S) Qd E := by
  apply w__law_well
  unfold z__law_well
  have key : ∀ a : Int, Qd (.ref S.length) (S ++ [.lst [.int a, .int c, .int 0]]) := fun a =>
    hQ _ ⟨⟨a, c, 0, by simp, by omega, by omega⟩⟩ (by simp) fun i hi => by rw [List.getElem?_append_left hi]
  (repeat' (first | fail "q1" | refine Bn_powC (n := 10) (m := 18) (v := 1000000000000000000) (by decide) (by decide) ?_ | (refine Ix_pick (fun d => ∃ a : Int, d = .int a) ?_ ?_ ?_ ?_) | fail "q2" | fail "q3" | fail))
  · split <;> omega
  · show (if _ then (1 : Int) else 0) < 2
    split <;> omega
  · intro d hd
    simp only [List.mem_cons, List.not_mem_nil, or_false] at hd
    rcases hd with rfl | rfl <;> exact ⟨_, rfl⟩
  · rintro d ⟨a, rfl⟩
    (repeat' (first | fail "q1" | fail "q2" | fail "q3" | fail))
    exact Fn_ref (Nat.le_refl _) (by simp) (key a)
theorem cell_w {S : Store} {ns : List Int} {Qd : D → Store → Prop} {E : EX} (hQ : ∀ c : Int, Qd (.int c) S) : W (m__law_cell_at [.lst (ns.map D.int), .int 0] S) Qd E := by
  apply w__law_cell_at
  unfold z__law_cell_at
  (repeat' (first | fail "q1" | (refine Ix_pick (fun d => ∃ a : Int, d = .int a) (by omega) (by assumption) ?_ ?_) | fail "q2" | fail "q3" | fail))
  · intro d hd
    obtain ⟨a, _, rfl⟩ := List.mem_map.mp hd
    exact ⟨a, rfl⟩
  · rintro d ⟨a, rfl⟩
    (repeat' (first | fail "q1" | fail "q2" | fail "q3" | fail))
    exact hQ a
  · exact hQ 0
theorem pick_w {S : Store} {l : Nat} {k : Int} {xs : List D} (P : D → Prop) {Qd : D → Store → Prop} {E : EX} (h : Src S l k) (hk : k ≤ 100000000) (hx : 0 < xs.length) (hx2 : xs.length < 1000000) (ha : ∀ d ∈ xs, P d)
    (hQ : ∀ d S', P d → Src S' l (k + 1) → S'.length = S.length → (∀ i, i ≠ l → S'[i]? = S[i]?) → Qd d S') : W (m__law_pick [.ref l, .lst xs] S) Qd E := by
  apply w__law_pick
  unfold z__law_pick
  (repeat' (first | fail "q1" | (with_reducible refine draw_w h (by omega) (by omega) (by omega) (fun _ _ _ _ _ _ _ => ?_)) | (refine Ix_pick P (by assumption) (by assumption) ha ?_) | fail "q2" | fail "q3" | fail))
  rename_i n S' n0 n1 hs l1 o1
  intro d hd
  exact FnP_same l1 (hQ d _ hd hs l1 o1)
end QL

namespace QL
open PySem Q
theorem Src.take {S : Store} {l n : Nat} {k : Int} (h : Src S l k) (hn : l < n) : Src (S.take n) l k := by
  obtain ⟨a, b, c, h1, h2⟩ := h.out
  exact ⟨⟨a, b, c, by rw [List.getElem?_take, if_pos hn]; exact h1, h2⟩⟩
theorem Src.lt {S : Store} {l : Nat} {k : Int} (h : Src S l k) : l < S.length := by
  obtain ⟨a, b, c, h1, h2⟩ := h.out
  exact (List.getElem?_eq_some_iff.mp h1).1
theorem Src.app {S T : Store} {l : Nat} {k : Int} (h : Src S l k) : Src (S ++ T) l k := by
  obtain ⟨a, b, c, h1, h2⟩ := h.out
  exact ⟨⟨a, b, c, by rw [List.getElem?_append_left (List.getElem?_eq_some_iff.mp h1).1]; exact h1, h2⟩⟩
/-- the source alone stands in the store -/
structure One (S : Store) (l : Nat) (k : Int) : Prop where
  src : Src S l k
  len : S.length = l + 1
  low : ∀ i, i < l → S[i]? = none ∨ ∃ o, S[i]? = some o ∧ ∀ n, obBelow n o = true
theorem Src.flat {S : Store} {l : Nat} {k : Int} (h : Src S l k) {o : Ob} (e : S[l]? = some o) (n : Nat) : obBelow n o = true := by
  obtain ⟨a, b, c, h1, _⟩ := h.out
  rw [h1] at e
  cases e
  rfl
theorem Flat.step {S S' : Store} {l : Nat} {k : Int} (h : Flat S) (hs : Src S' l k) (ho : ∀ i, i ≠ l → S'[i]? = S[i]?) : Flat S' := fun i o e n => by
  by_cases c : i = l
  · subst c
    exact hs.flat e n
  · rw [ho i c] at e
    exact h i o e n
theorem all_take {S S' : Store} {l : Nat} {k : Int} (hF : Flat S) (hs : Src S' l k) (ho : ∀ i, i ≠ l → i < S.length → S'[i]? = S[i]?) : (S'.take S.length).all (obBelow S.length) = true := by
  rw [List.all_eq_true]
  intro o hm
  obtain ⟨i, hi⟩ := List.mem_iff_getElem?.mp hm
  rw [List.getElem?_take] at hi
  split at hi
  · rename_i lt
    by_cases c : i = l
    · subst c; exact hs.flat hi _
    · rw [ho i c lt] at hi; exact hF i o hi _
  · cases hi
end QL

namespace QL
open PySem Q
/-! ### is_name -/
theorem name_w {a : List Nat} (hl : a.length ≤ 1000000) {S : Store} {Qd : D → Store → Prop} {E : EX} (hQ : Qd (.bl (okName a)) S) : W (m_is_name [.str (SX.S a)] S) Qd E := by
  apply w_is_name
  unfold z_is_name
  unfold okName at hQ
  (repeat' (first | fail "q1" | refine Bs_lenS (by omega) ?_ | apply It_str | fail "q2" | fail "q3" | fail))
  · rename_i h1 h2
    rw [decide_eq_true (by omega), decide_eq_true (by omega), Bool.true_and, Bool.true_and] at hQ
    refine Cf_inv (fun i acc S' => S' = S ∧ acc = ((a.take i).map low26).map D.bl) (by show (a.map _).length < 100000; rw [List.length_map]; omega) ⟨rfl, rfl⟩ ?_ ?_
    · rintro i d acc S' hd ⟨rfl, rfl⟩ _
      have hd : (a.map fun c => D.str ⟨#[c]⟩)[i]? = some d := hd
      rw [List.getElem?_map, Option.map_eq_some_iff] at hd
      obtain ⟨c, hc, rfl⟩ := hd
      (repeat' (first | fail "q1" | apply Cp_sign | fail "q2" | fail "q3" | fail))
      refine ⟨rfl, ?_⟩
      rw [List.take_succ, hc]
      simp
    · rintro acc S' ⟨rfl, rfl⟩
      have : a.take (Items.mk (a.map fun c => D.str ⟨#[c]⟩) none false).xs.length = a := List.take_of_length_le (by show _ ≤ (a.map _).length; rw [List.length_map]; exact Nat.le_refl _)
      rw [this]
      (repeat' (first | fail "q1" | apply Bs_all | fail "q2" | fail "q3" | fail))
      have e : (a.map low26).all id = a.all low26 := by rw [List.all_map]; rfl
      rw [e]
      exact hQ
  · rw [decide_eq_false (p := a.length ≤ 8) (by omega), Bool.false_and, Bool.and_false] at hQ
    exact hQ
  · rw [decide_eq_false (p := 1 ≤ a.length) (by omega), Bool.false_and] at hQ
    exact hQ
theorem nname_w {d : D} {S : Store} (h : NoS S d) {Qd : D → Store → Prop} {E : EX} (hQ : Qd (.bl false) S) : W (m_is_name [d] S) Qd E := by
  apply w_is_name
  unfold z_is_name
  cases h with
  | ref l xs h =>
    (repeat' (first | fail "q1" | (refine Is_ref h ?_) | fail "q2" | fail "q3" | fail))
    exact hQ
  | dic l kvs h =>
    (repeat' (first | fail "q1" | (refine Is_dic h ?_) | fail "q2" | fail "q3" | fail))
    exact hQ
  | _ => (repeat' (first | fail "q1" | fail "q2" | fail "q3" | fail)); exact hQ
end QL

namespace QL
open PySem Q
/-! ### texts -/
end QL

namespace QL
open PySem Q
/-! ### texts as lists of signs -/
/-! ### walks of a list, wherever it stands -/
theorem unlike_w {S : Store} {d : D} {ns : List (List Nat)} (e : seqL S d = some (ns.map dS)) (hn : ns.Nodup) (hg : ∀ a ∈ ns, okName a = true) (hl : ns.length ≤ 1000) {Qd : D → Store → Prop} {E : EX} (hQ : Qd (.bl true) S) : W (m_are_unlike [d] S) Qd E := by
  apply w_are_unlike
  unfold z_are_unlike
  (repeat' (first | fail "q1" | fail "q2" | fail "q3" | fail))
  refine ItCf_q (xs := ns.map dS) (fun i acc S' => S' = S ∧ acc = (List.replicate i true).map D.bl) (fun i acc S' h => by rw [h.1]; exact e) (by rw [List.length_map]; omega) ⟨rfl, rfl⟩ ?_ ?_
  · rintro i x acc S' hx ⟨rfl, rfl⟩ _
    rw [List.getElem?_map, Option.map_eq_some_iff] at hx
    obtain ⟨a, ha, rfl⟩ := hx
    have hm := hg a (List.mem_of_getElem? ha)
    have := okName_len hm
    (repeat' (first | fail "q1" | (with_reducible refine name_w (by omega) ?_) | fail "q2" | fail "q3" | fail))
    exact ⟨rfl, by rw [hm, ← replicate_snoc, List.map_append]; rfl⟩
  · rintro acc S' ⟨rfl, rfl⟩
    (repeat' (first | apply Bs_all | fail "q1" | fail "q2" | fail "q3" | fail))
    refine Br_t (all_true _) ?_
    (repeat' (first | refine Ls_S e hn hl ?_ | refine Bs_lenq e ?_ | fail "q1" | fail "q2" | fail "q3" | fail))
    rw [List.length_map, decide_eq_true rfl]; exact hQ
/-! ### statements, bodies -/
theorem int_w {i : Int} {S : Store} {Qd : D → Store → Prop} {E : EX} (hQ : Qd (.bl true) S) : W (m_is_int [.int i] S) Qd E := by
  apply w_is_int
  unfold z_is_int
  (repeat' (first | fail "q1" | fail "q2" | fail "q3" | fail))
  exact hQ
theorem statement_w {S : Store} {dh dn : D} {hs ns : List (List Nat)} (e1 : seqL S dh = some (hs.map dS)) (e2 : seqL S dn = some (ns.map dS)) (s1 : ∀ b ∈ hs, sOk b = true) (s2 : ∀ b ∈ ns, sOk b = true) {m : Sm} (hm : okSm hs ns m) {Qd : D → Store → Prop} {E : EX} (hQ : Qd (.bl true) S) : W (m_is_statement [dSm m, dh, dn] S) Qd E := by
  apply w_is_statement
  unfold z_is_statement
  rw [kOwn, kAdd, kSpin, kMake, kAsk]
  cases m with
  | own =>
    dsimp only [dSm]
    have f1 : fine 1 (.tup [dS cOwn]) = true := by
      show (fine 0 (dS cOwn) && true) = true
      rw [fine_S (by decide)]; rfl
    (repeat' (first | refine nempty f1 (by decide) ?_ | refine Cp_eqS (by decide) (by decide) ?_ | fail "q1" | fail "q2" | fail "q3" | fail))
    exact hQ
  | add i =>
    dsimp only [dSm]
    obtain ⟨h1, h2⟩ := hm
    have f1 : fine 1 (.tup [dS cAdd, .int i]) = true := by
      show (fine 0 (dS cAdd) && (fine 0 (.int i) && true)) = true
      rw [fine_S (by decide)]; rfl
    (repeat' (first | refine nempty f1 (by decide) ?_ | refine Cp_eqS (by decide) (by decide) ?_ | (with_reducible refine int_w ?_) | fail "q1" | fail "q2" | fail "q3" | fail))
    rw [decide_eq_true h2]
    exact hQ
  | spin i =>
    dsimp only [dSm]
    obtain ⟨h1, h2⟩ := hm
    have f1 : fine 1 (.tup [dS cSpin, .int i]) = true := by
      show (fine 0 (dS cSpin) && (fine 0 (.int i) && true)) = true
      rw [fine_S (by decide)]; rfl
    (repeat' (first | refine nempty f1 (by decide) ?_ | refine Cp_eqS (by decide) (by decide) ?_ | (with_reducible refine int_w ?_) | fail "q1" | fail "q2" | fail "q3" | fail))
    rw [decide_eq_true h2]
    exact hQ
  | call b h n =>
    dsimp only [dSm]
    obtain ⟨h1, h2⟩ := hm
    have f1 : fine 1 (.tup [dS (cCall b), dS h, dS n]) = true := by
      show (fine 0 (dS (cCall b)) && (fine 0 (dS h) && (fine 0 (dS n) && true))) = true
      rw [fine_S (cCall_s b), fine_S (s1 h h1), fine_S (s2 n h2)]; rfl
    have g1 : decide (h ∈ hs) = true := decide_eq_true h1
    have g2 : decide (n ∈ ns) = true := decide_eq_true h2
    cases b with
    | true =>
      (repeat' (first | refine nempty f1 (by decide) ?_ | refine Cp_eqS (by decide) (by decide) ?_ | refine Cp_in2 (by decide) (by decide) (by decide) ?_ | refine Cp_inS e1 (s1 h h1) s1 ?_ | refine Cp_inS e2 (s2 n h2) s2 ?_ | refine Br_t g1 ?_ | fail "q1" | fail "q2" | fail "q3" | fail))
      rw [g2]
      exact hQ
    | false =>
      (repeat' (first | refine nempty f1 (by decide) ?_ | refine Cp_eqS (by decide) (by decide) ?_ | refine Cp_in2 (by decide) (by decide) (by decide) ?_ | refine Cp_inS e1 (s1 h h1) s1 ?_ | refine Cp_inS e2 (s2 n h2) s2 ?_ | refine Br_t g1 ?_ | fail "q1" | fail "q2" | fail "q3" | fail))
      rw [g2]
      exact hQ
theorem body_w {S : Store} {dh dn : D} {hs ns : List (List Nat)} (e1 : seqL S dh = some (hs.map dS)) (e2 : seqL S dn = some (ns.map dS)) (s1 : ∀ b ∈ hs, sOk b = true) (s2 : ∀ b ∈ ns, sOk b = true) {b : List Sm} (hb : okBody hs ns b) {Qd : D → Store → Prop} {E : EX} (hQ : Qd (.bl true) S) : W (m_is_body [dBody b, dh, dn] S) Qd E := by
  apply w_is_body
  unfold z_is_body dBody
  rw [kMake, kAsk]
  have hl := hb.len
  have hc := hb.calls
  have hl2 : ¬ (6 : Int) < ((b.map dSm).length : Nat) := by rw [List.length_map]; omega
  (repeat' (first | refine Br_f (decide_eq_false hl2) ?_ | fail "q1" | fail "q2" | fail "q3" | fail))
  refine Cf_inv (fun i acc S' => S' = S ∧ acc = (List.replicate i true).map D.bl) (by show (b.map dSm).length < 100000; rw [List.length_map]; omega) ⟨rfl, rfl⟩ ?_ ?_
  · rintro i x acc S' hx ⟨rfl, rfl⟩ _
    have hx : (b.map dSm)[i]? = some x := hx
    rw [List.getElem?_map, Option.map_eq_some_iff] at hx
    obtain ⟨m, hm, rfl⟩ := hx
    (repeat' (first | fail "q1" | (with_reducible refine statement_w e1 e2 s1 s2 (hb.all m (List.mem_of_getElem? hm)) ?_) | fail "q2" | fail "q3" | fail))
    exact ⟨rfl, by rw [← replicate_snoc, List.map_append]; rfl⟩
  · rintro acc S' ⟨rfl, rfl⟩
    (repeat' (first | apply Bs_all | fail "q1" | fail "q2" | fail "q3" | fail))
    refine Br_t (all_true _) ?_
    (repeat' (first | fail "q1" | fail "q2" | fail "q3" | fail))
    refine Cf_inv (fun i acc S2 => S2 = S' ∧ acc = ((b.take i).filter isCall).map dSm) (by show (b.map dSm).length < 100000; rw [List.length_map]; omega) ⟨rfl, rfl⟩ ?_ ?_
    · rintro i x acc S2 hx ⟨rfl, rfl⟩ _
      have hx : (b.map dSm)[i]? = some x := hx
      rw [List.getElem?_map, Option.map_eq_some_iff] at hx
      obtain ⟨m, hm, rfl⟩ := hx
      have ht : b.take (i + 1) = b.take i ++ [m] := by rw [List.take_succ, hm]; rfl
      rw [ht, List.filter_append, List.map_append]
      cases hcall : isCall m with
      | true =>
        obtain ⟨x, ⟨d, q1, rfl⟩, q2⟩ := fst_call (S := S2) (m := m) (PB := fun k => k = true) hcall
        obtain ⟨k, q3, rfl⟩ := q2.out
        (repeat' (first | refine Ix_by q1 ?_ | refine Cp_by q3 ?_ | fail "q1" | fail "q2" | fail "q3" | fail))
        exact ⟨rfl, by simp [List.filter, hcall]⟩
      | false =>
        obtain ⟨x, ⟨d, q1, rfl⟩, q2⟩ := fst_call (S := S2) (m := m) (PB := fun k => k = false) hcall
        obtain ⟨k, q3, rfl⟩ := q2.out
        (repeat' (first | refine Ix_by q1 ?_ | refine Cp_by q3 ?_ | fail "q1" | fail "q2" | fail "q3" | fail))
        exact ⟨rfl, by simp [List.filter, hcall]⟩
    · rintro acc S2 ⟨rfl, rfl⟩
      have : b.take (Items.mk (b.map dSm) none false).xs.length = b := List.take_of_length_le (by show _ ≤ (b.map dSm).length; rw [List.length_map]; exact Nat.le_refl _)
      rw [this]
      (repeat' (first | fail "q1" | fail "q2" | fail "q3" | fail))
      rw [List.length_map, decide_eq_true (by omega)]
      exact hQ
end QL

namespace QL
open PySem Q
/-! ### works -/
theorem list_w {S : Store} {d : D} {xs : List D} {k : Int} (e : seqL S d = some xs) (h1 : 1 ≤ xs.length) (h2 : (xs.length : Int) ≤ k) {Qd : D → Store → Prop} {E : EX} (hQ : Qd (.bl true) S) : W (m_is_list [d, .int k] S) Qd E := by
  apply w_is_list
  unfold z_is_list
  (repeat' (first | refine Is_lstq e ?_ | refine Bs_lenq e ?_ | fail "q1" | fail "q2" | fail "q3" | fail))
  rw [decide_eq_true h2]
  exact hQ
theorem checkw_w {S : Store} {dh dw : D} {hs : List (List Nat)} {ws : List Wk} (e1 : seqL S dh = some (hs.map dS)) (e2 : seqL S dw = some (ws.map dWork)) (ok : okW hs ws) {Qd : D → Store → Prop} {E : EX} (hQ : Qd .non S) : W (m_check_works [.tup [dh, dw]] S) Qd E := by
  have h1 := ok.h1
  have h4 := ok.h4
  have w1 := ok.w1
  have w5 := ok.w5
  have nl := nms_len ws
  apply w_check_works
  unfold z_check_works
  (repeat' (first | refine list_w e1 (by rw [List.length_map]; exact h1) (by rw [List.length_map]; omega) ?_ | refine list_w e2 (by rw [List.length_map]; exact w1) (by rw [List.length_map]; omega) ?_ | refine unlike_w e1 ok.hn ok.hg (by omega) ?_ | apply Bs_all | fail "q1" | fail "q2" | fail "q3" | fail))
  refine ItTr_q e2 (by rw [List.length_map]; omega) ?_ ?_
  · intro x hx
    obtain ⟨w, hw, rfl⟩ := List.mem_map.mp hx
    dsimp only [dWork]
    (repeat' (first | fail "q1" | fail "q2" | fail "q3" | fail))
    exact ⟨rfl, rfl⟩
  (repeat' (first | apply Bs_all | fail "q1" | fail "q2" | fail "q3" | fail))
  refine Br_t (all_true _) ?_
  (repeat' (first | fail "q1" | fail "q2" | fail "q3" | fail))
  refine ItMap_q (h := fun w => dS w.1) e2 (by omega) ?_ ?_
  · intro w hw
    dsimp only [dWork]
    (repeat' (first | fail "q1" | fail "q2" | fail "q3" | fail))
    exact ⟨rfl, rfl⟩
  rw [map_nms]
  (repeat' (first | refine unlike_w (d := .lst ((nms ws).map dS)) (ns := nms ws) rfl ok.wn ok.wg (by omega) ?_ | apply Bs_all | fail "q1" | fail "q2" | fail "q3" | fail))
  refine ItTr_q e2 (by rw [List.length_map]; omega) ?_ ?_
  · intro x hx
    obtain ⟨w, hw, rfl⟩ := List.mem_map.mp hx
    dsimp only [dWork]
    (repeat' (first | refine body_w e1 (dn := .lst ((nms ws).map dS)) rfl (fun b hb => okName_s (ok.hg b hb)) (fun b hb => okName_s (ok.wg b hb)) (ok.wb w hw) ?_ | fail "q1" | fail "q2" | fail "q3" | fail))
    exact ⟨rfl, rfl⟩
  (repeat' (first | apply Bs_all | fail "q1" | fail "q2" | fail "q3" | fail))
  refine Br_t (all_true _) ?_
  (repeat' (first | fail "q1" | fail "q2" | fail "q3" | fail))
  exact hQ
theorem checks_w {S : Store} {dh dw : D} {hs : List (List Nat)} {ws : List Wk} {h n : List Nat} {k : Int} (e1 : seqL S dh = some (hs.map dS)) (e2 : seqL S dw = some (ws.map dWork)) (ok : okW hs ws) (hh : h ∈ hs) (hn : n ∈ nms ws) (k0 : 0 ≤ k) (k3 : k ≤ 3) {Qd : D → Store → Prop} {E : EX} (hQ : Qd .non S) : W (m_check_start [.tup [dh, dw], .tup [dS h, dS n, .int k]] S) Qd E := by
  have w5 := ok.w5
  apply w_check_start
  unfold z_check_start
  have s1 : ∀ b ∈ hs, sOk b = true := fun b hb => okName_s (ok.hg b hb)
  have s2 : ∀ b ∈ nms ws, sOk b = true := fun b hb => okName_s (ok.wg b hb)
  (repeat' (first | refine checkw_w e1 e2 ok ?_ | refine Cp_ninS e1 (s1 h hh) s1 ?_ | fail "q1" | fail "q2" | fail "q3" | fail))
  refine ItMap_q (h := fun w => dS w.1) e2 (by omega) ?_ ?_
  · intro w hw
    dsimp only [dWork]
    (repeat' (first | fail "q1" | fail "q2" | fail "q3" | fail))
    exact ⟨rfl, rfl⟩
  rw [map_nms]
  (repeat' (first | refine Cp_ninS (d := .lst ((nms ws).map dS)) (ns := nms ws) rfl (s2 n hn) s2 ?_ | (with_reducible refine int_w ?_) | fail "q1" | fail "q2" | fail "q3" | fail))
  exact hQ
end QL

namespace QL
open PySem Q
/-! ### the store goes on -/
/-! ### names -/
def WORDS : List (List Nat) := ["work", "houses", "start", "own", "add", "spin", "make", "ask", "root", "rest", "come", "send", "told"].map fun s => s.toList.map Char.toNat
def names0 (s m : Nat) : List (List Nat) := (List.range m).map fun k => WORDS.getD ((s + k) % 13) []
def names1 (s m : Nat) : List (List Nat) := (List.range m).map fun k => List.replicate (k + 1) (97 + s)
def names2 (a b : List Nat) (s m : Nat) : List (List Nat) := (List.range m).map fun k => a ++ [97 + (s + 3 * k) % 26] ++ b
/-- three words, of which drawn names hold one at most -/
def odd3 : List (List Nat) := [[115, 116, 114, 97, 110, 103, 101], [117, 110, 104, 101, 97, 114, 100], [110, 111, 119, 104, 101, 114, 101]]
def lone (ns : List (List Nat)) : Prop := ∀ x ∈ odd3, ∀ y ∈ odd3, x ∈ ns → y ∈ ns → x = y
theorem lone_none {ns : List (List Nat)} (h : (odd3.all fun x => decide (x ∉ ns)) = true) : lone ns := fun x hx _ _ m _ => absurd m (of_decide_eq_true (List.all_eq_true.mp h x hx))
theorem lone_two {hs ns : List (List Nat)} (h1 : lone hs) (h2 : lone ns) : ∃ s ∈ odd3, s ∉ hs ∧ s ∉ ns := by
  have m1 : [115, 116, 114, 97, 110, 103, 101] ∈ odd3 := by decide
  have m2 : [117, 110, 104, 101, 97, 114, 100] ∈ odd3 := by decide
  have m3 : [110, 111, 119, 104, 101, 114, 101] ∈ odd3 := by decide
  have key : ∀ s ∈ odd3, (s ∉ hs ∧ s ∉ ns) ∨ s ∈ hs ∨ s ∈ ns := fun s _ => by
    by_cases a : s ∈ hs
    · exact .inr (.inl a)
    · by_cases b : s ∈ ns
      · exact .inr (.inr b)
      · exact .inl ⟨a, b⟩
  rcases key _ m1 with k1 | k1 | k1
  · exact ⟨_, m1, k1⟩
  all_goals rcases key _ m2 with k2 | k2 | k2
  all_goals first | exact ⟨_, m2, k2⟩ | skip
  all_goals rcases key _ m3 with k3 | k3 | k3
  all_goals first | exact ⟨_, m3, k3⟩ | exact absurd (h1 _ m1 _ m2 k1 k2) (by decide) | exact absurd (h2 _ m1 _ m2 k1 k2) (by decide) | exact absurd (h1 _ m1 _ m3 k1 k3) (by decide) | exact absurd (h2 _ m1 _ m3 k1 k3) (by decide) | exact absurd (h1 _ m2 _ m3 k2 k3) (by decide) | exact absurd (h2 _ m2 _ m3 k2 k3) (by decide)
structure okNs (m : Nat) (ns : List (List Nat)) : Prop where
  len : ns.length = m
  nd : ns.Nodup
  all : ∀ a ∈ ns, okName a = true
  lo : lone ns
theorem split_words : Txt.split (Str.ofString "work houses start own add spin make ask root rest come send told") (Str.ofString " ") = WORDS.map SX.S := by decide +kernel
theorem names0_ok {s m : Nat} (hs : s < 26) (hm : m ≤ 6) : okNs m (names0 s m) := by
  have : ∀ s < 26, ∀ m < 7, (decide (names0 s m).Nodup && ((names0 s m).all okName && odd3.all fun x => decide (x ∉ names0 s m))) = true := by decide +kernel
  have := this s hs m (by omega)
  rw [Bool.and_eq_true, Bool.and_eq_true, decide_eq_true_eq, List.all_eq_true] at this
  exact ⟨by unfold names0; rw [List.length_map, List.length_range], this.1, this.2.1, lone_none this.2.2⟩
theorem names1_ok {s m : Nat} (hs : s < 26) (hm : m ≤ 6) : okNs m (names1 s m) := by
  have : ∀ s < 26, ∀ m < 7, (decide (names1 s m).Nodup && ((names1 s m).all okName && odd3.all fun x => decide (x ∉ names1 s m))) = true := by decide +kernel
  have := this s hs m (by omega)
  rw [Bool.and_eq_true, Bool.and_eq_true, decide_eq_true_eq, List.all_eq_true] at this
  exact ⟨by unfold names1; rw [List.length_map, List.length_range], this.1, this.2.1, lone_none this.2.2⟩
theorem names2_lone {a b : List Nat} {s m : Nat} : lone (names2 a b s m) := by
  intro x hx y hy h1 h2
  unfold names2 at h1 h2
  obtain ⟨i, _, e1⟩ := List.mem_map.mp h1
  obtain ⟨j, _, e2⟩ := List.mem_map.mp h2
  generalize 97 + (s + 3 * i) % 26 = c at e1
  generalize 97 + (s + 3 * j) % 26 = d at e2
  simp only [odd3, List.mem_cons, List.not_mem_nil, or_false] at hx hy
  cases a with
  | nil =>
    rcases hx with rfl | rfl | rfl <;> rcases hy with rfl | rfl | rfl <;> first
      | rfl
      | (exfalso
         simp only [List.nil_append, List.singleton_append, List.cons.injEq] at e1 e2
         rw [e1.2] at e2
         simp at e2)
  | cons h t =>
    rcases hx with rfl | rfl | rfl <;> rcases hy with rfl | rfl | rfl <;> first
      | rfl
      | (exfalso
         simp only [List.cons_append, List.cons.injEq] at e1 e2
         omega)
theorem names2_ok {a b : List Nat} {s m : Nat} (hs : s < 26) (hm : m ≤ 6) (ha : ∀ c ∈ a, low26 c = true) (hb : ∀ c ∈ b, low26 c = true) (hl : a.length + b.length ≤ 7) : okNs m (names2 a b s m) := by
  refine ⟨by unfold names2; rw [List.length_map, List.length_range], ?_, ?_, names2_lone⟩
  · unfold names2 List.Nodup
    rw [List.pairwise_map]
    have h := List.nodup_range (n := m)
    unfold List.Nodup at h
    refine List.Pairwise.imp_of_mem ?_ h
    intro i j hi hj ne e
    rw [List.mem_range] at hi hj
    rw [List.append_assoc, List.append_assoc, List.append_right_inj, List.singleton_append, List.singleton_append] at e
    injection e with e _
    omega
  · intro x hx
    unfold names2 at hx
    obtain ⟨k, hk, rfl⟩ := List.mem_map.mp hx
    unfold okName
    rw [Bool.and_eq_true, Bool.and_eq_true, decide_eq_true_eq, decide_eq_true_eq, List.all_append, List.all_append, List.all_eq_true.mpr ha, List.all_eq_true.mpr hb]
    simp only [List.length_append, List.length_singleton, List.all_cons, List.all_nil, Bool.true_and, Bool.and_true]
    refine ⟨by omega, by omega, ?_⟩
    unfold low26
    rw [Bool.and_eq_true, decide_eq_true_eq, decide_eq_true_eq]
    omega
theorem names_w {S : Store} {l : Nat} {k m : Int} (h : Src S l k) (hk : k ≤ 100000) (m1 : 1 ≤ m) (m5 : m ≤ 6) {Qd : D → Store → Prop} {E : EX}
    (hQ : ∀ ns S', okNs m.toNat ns → Src S' l (k + 11) → S'.length = S.length + 1 → S'[S.length]? = some (.lst (ns.map dS)) → Kp l S S' → Qd (.ref S.length) S') : W (m__law_names [.ref l, .int m] S) Qd E := by
  apply w__law_names
  unfold z__law_names
  have fin : ∀ ns S1, okNs m.toNat ns → Src S1 l (k + 11) → S1.length = S.length → (∀ i, i ≠ l → S1[i]? = S[i]?) → FnP false S.length (.ref S1.length) (S1 ++ [.lst (ns.map dS)]) Qd E := by
    intro ns S1 ok hs hl ho
    refine Fn_ref (by omega) (by rw [List.length_append]; simp; omega) ?_
    rw [hl]
    refine hQ ns _ ok hs.app (by rw [List.length_append, hl]; rfl) (by rw [← hl]; simp) ((Kp.same hl ho).trans .app)
  (repeat' (first | fail "q1" | fail "q2" | fail "q3" | fail))
  refine draw_w h (by omega) (by decide) (by decide) (fun way S1 a0 a1 hs1 l1 o1 => ?_)
  (repeat' (first | refine Mt_split (by decide +kernel) ?_ | fail "q1" | fail "q2" | fail "q3" | fail))
  rw [split_words, List.map_map]
  (repeat' (first | fail "q1" | fail "q2" | fail "q3" | fail))
  refine draw_w hs1 (by omega) (by decide) (by decide) (fun s S2 b0 b1 hs2 l2 o2 => ?_)
  have o12 : ∀ i, i ≠ l → S2[i]? = S[i]? := fun i hi => by rw [o2 i hi, o1 i hi]
  (repeat' (first | fail "q1" | fail "q2" | fail "q3" | fail))
  · refine CfRange (fun i => dS (WORDS.getD ((s.toNat + i) % 13) [])) (by omega) ?_ ?_
    · intro i hi
      (repeat' (first | refine Ix_q (by omega) (by show _ < ((13 : Nat) : Int); omega) rfl (fun y hy => ?_) | fail "q1" | fail "q2" | fail "q3" | fail))
      have e : ((s + (i : Int)) % 13).toNat = (s.toNat + i) % 13 := by omega
      rw [e, List.getElem?_map, Option.map_eq_some_iff] at hy
      obtain ⟨w, hw, rfl⟩ := hy
      refine ⟨?_, rfl⟩
      rw [List.getD_eq_getElem?_getD, hw]
      rfl
    · have := fin (names0 s.toNat m.toNat) S2 (names0_ok (by omega) (by omega)) (hs2.mono (by omega)) (by omega) o12
      unfold names0 at this
      rw [List.map_map] at this
      (repeat' (first | fail "q1" | fail "q2" | fail "q3" | fail))
      exact this
  · refine CfRange (fun i => dS (List.replicate (i + 1) (97 + s.toNat))) (by omega) ?_ ?_
    · intro i hi
      (repeat' (first | refine Ix_alpha b0 b1 ?_ | fail "q1" | fail "q2" | fail "q3" | fail))
      refine Bn_strN ⟨by omega, by omega, ?_⟩ ?_
      · rw [SX.S_len, List.length_singleton]; omega
      rw [times_S]
      exact ⟨rfl, rfl⟩
    · have := fin (names1 s.toNat m.toNat) S2 (names1_ok (by omega) (by omega)) (hs2.mono (by omega)) (by omega) o12
      unfold names1 at this
      rw [List.map_map] at this
      (repeat' (first | fail "q1" | fail "q2" | fail "q3" | fail))
      exact this
  · refine draw_w hs2 (by omega) (by decide) (by decide) (fun cnt S3 c0 c1 hs3 l3 o3 => ?_)
    (repeat' (first | fail "q1" | fail "q2" | fail "q3" | fail))
    refine Cf_inv (fun i acc S' => Src S' l (k + 3 + i) ∧ S'.length = S.length ∧ (∀ i, i ≠ l → S'[i]? = S[i]?) ∧ ∃ a : List Nat, acc = (a.map fun c => .str ⟨#[c]⟩) ∧ a.length = i ∧ ∀ c ∈ a, low26 c = true) (by rw [range_len]; omega) ⟨hs3.mono (by omega), by omega, fun i hi => by rw [o3 i hi, o12 i hi], [], rfl, rfl, fun c hc => by simp at hc⟩ ?_ ?_
    · rintro i d acc S' hd ⟨hs, hl, ho, a, rfl, ha, hc⟩ _
      obtain ⟨rfl, hi⟩ := range_get hd
      (repeat' (first | fail "q1" | fail "q2" | fail "q3" | fail))
      refine draw_w hs (by omega) (by decide) (by decide) (fun n S4 n0 n1 hs4 l4 o4 => ?_)
      refine Ix_alpha n0 n1 ?_
      (repeat' (first | fail "q1" | fail "q2" | fail "q3" | fail))
      refine ⟨hs4.mono (by omega), by omega, fun i hi => by rw [o4 i hi, ho i hi], a ++ [letter n], by rw [List.map_append]; rfl, by rw [List.length_append, ha]; rfl, fun x hx => ?_⟩
      rcases List.mem_append.mp hx with z | z
      · exact hc x z
      · rw [List.mem_singleton.mp z]
        unfold low26 letter
        rw [Bool.and_eq_true, decide_eq_true_eq, decide_eq_true_eq]
        omega
    · rintro acc S' ⟨hs, hl, ho, a, rfl, ha, hc⟩
      rw [range_len] at ha hs
      (repeat' (first | refine Mt_join1 (by omega) ?_ | refine Bs_lenS (by omega) ?_ | fail "q1" | fail "q2" | fail "q3" | fail))
      refine draw_w hs (by omega) (by omega) (by omega) (fun p S4 p0 p1 hs4 l4 o4 => ?_)
      (repeat' (first | fail "q1" | fail "q2" | fail "q3" | fail))
      refine CfRange (fun i => dS (a.take p.toNat ++ [97 + (s.toNat + 3 * i) % 26] ++ a.drop p.toNat)) (by omega) ?_ ?_
      · intro i hi
        (repeat' (first | refine Sl_to (by omega) p0 ?_ | refine Ix_alpha (by omega) (by omega) ?_ | refine Sl_from (by omega) p0 ?_ | refine Bn_catS (by rw [List.length_take, List.length_singleton]; omega) ?_ | refine Bn_catS (by rw [List.length_append, List.length_take, List.length_singleton, List.length_drop]; omega) ?_ | fail "q1" | fail "q2" | fail "q3" | fail))
        have e : letter ((s + 3 * (i : Int)) % 26) = 97 + (s.toNat + 3 * i) % 26 := by unfold letter; omega
        rw [e]
        exact ⟨rfl, rfl⟩
      · have := fin (names2 (a.take p.toNat) (a.drop p.toNat) s.toNat m.toNat) S4 (names2_ok (by omega) (by omega) (fun c h => hc c (List.mem_of_mem_take h)) (fun c h => hc c (List.mem_of_mem_drop h)) (by rw [List.length_take, List.length_drop]; omega)) (hs4.mono (by omega)) (by omega) (fun i hi => by rw [o4 i hi, ho i hi])
        unfold names2 at this
        rw [List.map_map] at this
        (repeat' (first | fail "q1" | fail "q2" | fail "q3" | fail))
        exact this
end QL

namespace QL
open PySem Q
/-! ### drawn works -/
theorem pickq_w {S : Store} {l : Nat} {k : Int} {d : D} {xs : List D} (h : Src S l k) (hk : k ≤ 100000000) (e : seqL S d = some xs) (hd : d ≠ .ref l) (hx : 0 < xs.length) (hx2 : xs.length < 1000000) {Qd : D → Store → Prop} {E : EX}
    (hQ : ∀ x S', x ∈ xs → Src S' l (k + 1) → S'.length = S.length → (∀ i, i ≠ l → S'[i]? = S[i]?) → Qd x S') : W (m__law_pick [.ref l, d] S) Qd E := by
  apply w__law_pick
  unfold z__law_pick
  (repeat' (first | refine Bs_lenq e ?_ | (with_reducible refine draw_w h (by omega) (by omega) (by omega) (fun _ _ _ _ _ _ _ => ?_)) | fail "q1" | fail "q2" | fail "q3" | fail))
  rename_i n S' n0 n1 hs l1 o1
  refine Ix_q n0 n1 ((Kp.same l1 o1).seq e hd) fun y hy => ?_
  exact FnP_same l1 (hQ y _ (List.mem_of_getElem? hy) hs l1 o1)
theorem genb_w {S : Store} {l : Nat} {k : Int} {dh dn : D} {hs ns : List (List Nat)} (h : Src S l k) (hk : k ≤ 100000) (e1 : seqL S dh = some (hs.map dS)) (e2 : seqL S dn = some (ns.map dS)) (n1 : dh ≠ .ref l) (n2 : dn ≠ .ref l) (hl : 1 ≤ hs.length ∧ hs.length ≤ 1000) (nl : 1 ≤ ns.length ∧ ns.length ≤ 1000) {Qd : D → Store → Prop} {E : EX}
    (hQ : ∀ b S', okBody hs ns b → Src S' l (k + 30) → Kp l S S' → Qd (dBody b) S') : W (m__law_body [.ref l, dh, dn] S) Qd E := by
  have lt := h.lt
  apply w__law_body
  unfold z__law_body
  rw [kOwn, kAdd, kSpin, kMake, kAsk]
  (repeat' (first | fail "q1" | fail "q2" | fail "q3" | fail))
  refine draw_w h.app (by omega) (by decide) (by decide) (fun cnt S1 c0 c1 hs1 l1 o1 => ?_)
  rw [List.length_append, List.length_singleton] at l1
  have g1 : S1[S.length]? = some (.lst []) := by rw [o1 _ (by omega)]; simp
  have K1 : Kp l S S1 := Kp.trans .app (Kp.same (by rw [List.length_append, List.length_singleton]; omega) o1)
  (repeat' (first | fail "q1" | fail "q2" | fail "q3" | fail))
  refine Lp_inv (fun i σ S' => ∃ (b : List Sm) (calls : Nat) (x5 x6 : Option D), σ = [some (.ref l), some dh, some dn, some (.ref S.length), some (.int calls), x5, x6] ∧ Src S' l (k + 1 + 4 * i) ∧ S'.length = S.length + 1 ∧ S'[S.length]? = some (.lst (b.map dSm)) ∧ b.length = i ∧ (∀ m ∈ b, okSm hs ns m) ∧ (b.filter isCall).length = calls ∧ calls ≤ 3 ∧ Kp l S S') ⟨[], 0, _, _, rfl, hs1.mono (by omega), l1, g1, rfl, fun m hm => by simp at hm, rfl, by omega, K1⟩ ?_ ?_ (by rw [range_len]; omega)
  · rintro i d σ S2 hd ⟨b, calls, x5, x6, rfl, hs2, l2, g2, bl, ba, bc, b3, K2⟩
    obtain ⟨rfl, hi⟩ := range_get hd
    have put : ∀ (m : Sm) (S3 S4 : Store) (x6 : Option D), okSm hs ns m → (b.filter isCall).length + (if isCall m then 1 else 0) ≤ 3 → Src S3 l (k + 1 + 4 * i + 3) → S3.length = S2.length → (∀ i, i ≠ l → S3[i]? = S2[i]?) →
        S4[S.length]? = some (.lst (b.map dSm ++ [dSm m])) → S4.length = S3.length → (∀ i, i ≠ S.length → S4[i]? = S3[i]?) →
        ∃ (b' : List Sm) (calls' : Nat) (y5 y6 : Option D), [some (.ref l), some dh, some dn, some (.ref S.length), some (.int (((b.filter isCall).length + (if isCall m then 1 else 0) : Nat) : Int)), some (.int i), x6] = [some (.ref l), some dh, some dn, some (.ref S.length), some (.int calls'), y5, y6] ∧ Src S4 l (k + 1 + 4 * ((i + 1 : Nat) : Int)) ∧ S4.length = S.length + 1 ∧ S4[S.length]? = some (.lst (b'.map dSm)) ∧ b'.length = i + 1 ∧ (∀ m ∈ b', okSm hs ns m) ∧ (b'.filter isCall).length = calls' ∧ calls' ≤ 3 ∧ Kp l S S4 := by
      intro m S3 S4 x6 om cm s3 l3 o3 g4 l4 o4
      refine ⟨b ++ [m], _, _, _, rfl, ?_, by omega, ?_, ?_, ?_, filter_snoc b m, cm, ?_⟩
      · obtain ⟨a, b, c, q1, q2, q3⟩ := s3.out
        exact ⟨⟨a, b, c, by rw [o4 l (by omega)]; exact q1, q2, by omega⟩⟩
      · rw [List.map_append]; exact g4
      · rw [List.length_append, bl]; rfl
      · intro x hx
        rcases List.mem_append.mp hx with z | z
        · exact ba x z
        · rw [List.mem_singleton.mp z]; exact om
      · refine ⟨by omega, fun j hj hlj => ?_⟩
        rw [o4 j (by omega), o3 j hj, K2.get j hj hlj]
    (repeat' (first | fail "q1" | fail "q2" | fail "q3" | fail))
    refine draw_w hs2 (by omega) (by decide) (by decide) (fun way S3 a0 a1 hs3 l3 o3 => ?_)
    have g3 : S3[S.length]? = some (.lst (b.map dSm)) := by rw [o3 _ (by omega)]; exact g2
    (repeat' (first | refine Md_app g3 ?_ | fail "q1" | fail "q2" | fail "q3" | fail))
    · refine draw_w hs3 (by omega) (by decide) (by decide) (fun v S4 v0 v1 hs4 l4 o4 => ?_)
      (repeat' (first | fail "q1" | fail "q2" | fail "q3" | fail))
      refine draw_w hs4 (by omega) (by decide) (by decide) (fun u S5 u0 u1 hs5 l5 o5 => ?_)
      have o25 : ∀ i, i ≠ l → S5[i]? = S2[i]? := fun i hi => by rw [o5 i hi, o4 i hi, o3 i hi]
      have g5 : S5[S.length]? = some (.lst (b.map dSm)) := by rw [o25 _ (by omega)]; exact g2
      refine Ix_pick (fun d => ∃ i : Int, d = .int i ∧ -1000 ≤ i ∧ i ≤ 1000) u0 u1 ?_ ?_
      · intro d hd
        simp only [List.mem_cons, List.not_mem_nil, or_false] at hd
        rcases hd with rfl | rfl | rfl | rfl
        · exact ⟨_, rfl, by omega, by omega⟩
        · exact ⟨_, rfl, by omega, by omega⟩
        · exact ⟨_, rfl, by omega, by omega⟩
        · exact ⟨_, rfl, by omega, by omega⟩
      · rintro d ⟨z, rfl, z0, z1⟩
        (repeat' (first | refine Mt_app g5 (by rw [List.length_map]; omega) ?_ | fail "q1" | fail "q2" | fail "q3" | fail))
        intro S6 g6 l6 o6
        (repeat' (first | fail "q1" | fail "q2" | fail "q3" | fail))
        subst bc
        exact put (.add z) S5 S6 _ ⟨z0, z1⟩ (by show _ + 0 ≤ 3; omega) (hs5.mono (by omega)) (by omega) o25 g6 l6 o6
    · refine draw_w hs3 (by omega) (by decide) (by decide) (fun v S4 v0 v1 hs4 l4 o4 => ?_)
      have o24 : ∀ i, i ≠ l → S4[i]? = S2[i]? := fun i hi => by rw [o4 i hi, o3 i hi]
      have g4 : S4[S.length]? = some (.lst (b.map dSm)) := by rw [o24 _ (by omega)]; exact g2
      (repeat' (first | refine Mt_app g4 (by rw [List.length_map]; omega) ?_ | fail "q1" | fail "q2" | fail "q3" | fail))
      intro S6 g6 l6 o6
      (repeat' (first | fail "q1" | fail "q2" | fail "q3" | fail))
      subst bc
      exact put (.spin (1 + v)) S4 S6 _ ⟨by omega, by omega⟩ (by show _ + 0 ≤ 3; omega) (hs4.mono (by omega)) (by omega) o24 g6 l6 o6
    · (repeat' (first | refine Mt_app g3 (by rw [List.length_map]; omega) ?_ | fail "q1" | fail "q2" | fail "q3" | fail))
      intro S6 g6 l6 o6
      (repeat' (first | fail "q1" | fail "q2" | fail "q3" | fail))
      subst bc
      exact put .own S3 S6 _ trivial (by show _ + 0 ≤ 3; omega) (hs3.mono (by omega)) (by omega) o3 g6 l6 o6
    · (repeat' (first | refine Mt_app g3 (by rw [List.length_map]; omega) ?_ | fail "q1" | fail "q2" | fail "q3" | fail))
      intro S6 g6 l6 o6
      (repeat' (first | fail "q1" | fail "q2" | fail "q3" | fail))
      subst bc
      exact put .own S3 S6 _ trivial (by show _ + 0 ≤ 3; omega) (hs3.mono (by omega)) (by omega) o3 g6 l6 o6
    · refine Ix_pick (fun d => ∃ t : Bool, d = dS (cCall t)) (by omega) (by show _ < ((2 : Nat) : Int); omega) ?_ ?_
      · intro d hd
        simp only [List.mem_cons, List.not_mem_nil, or_false] at hd
        rcases hd with rfl | rfl
        · exact ⟨false, rfl⟩
        · exact ⟨true, rfl⟩
      rintro d ⟨t, rfl⟩
      have K3 : Kp l S S3 := K2.trans (Kp.same l3 o3)
      (repeat' (first | fail "q1" | fail "q2" | fail "q3" | fail))
      refine pickq_w hs3 (by omega) (K3.seq e1 n1) n1 (by rw [List.length_map]; omega) (by rw [List.length_map]; omega) (fun x S4 hx hs4 l4 o4 => ?_)
      obtain ⟨a, ha, rfl⟩ := List.mem_map.mp hx
      have K4 : Kp l S S4 := K3.trans (Kp.same l4 o4)
      (repeat' (first | fail "q1" | fail "q2" | fail "q3" | fail))
      refine pickq_w hs4 (by omega) (K4.seq e2 n2) n2 (by rw [List.length_map]; omega) (by rw [List.length_map]; omega) (fun x S5 hx hs5 l5 o5 => ?_)
      obtain ⟨c, hc, rfl⟩ := List.mem_map.mp hx
      have o25 : ∀ i, i ≠ l → S5[i]? = S2[i]? := fun i hi => by rw [o5 i hi, o4 i hi, o3 i hi]
      have g5 : S5[S.length]? = some (.lst (b.map dSm)) := by rw [o25 _ (by omega)]; exact g2
      (repeat' (first | refine Mt_app g5 (by rw [List.length_map]; omega) ?_ | fail "q1" | fail "q2" | fail "q3" | fail))
      intro S6 g6 l6 o6
      (repeat' (first | fail "q1" | fail "q2" | fail "q3" | fail))
      subst bc
      exact put (.call t a c) S5 S6 _ ⟨ha, hc⟩ (by show _ + 1 ≤ 3; omega) (hs5.mono (by omega)) (by omega) o25 g6 l6 o6
  · rintro σ S2 ⟨b, calls, x5, x6, rfl, hs2, l2, g2, bl, ba, bc, b3, K2⟩
    rw [range_len] at bl hs2
    (repeat' (first | refine Bs_tupq (seqL_ref g2) ?_ | fail "q1" | fail "q2" | fail "q3" | fail))
    have ob : okBody hs ns b := ⟨by omega, ba, by omega⟩
    refine Fn_any (hQ b S2 ob (hs2.mono (by omega)) K2) (fun _ => hQ b _ ob ((hs2.mono (by omega)).take lt) (K2.take (Nat.le_refl _)))
end QL

namespace QL
open PySem Q
/-- names told once -/
theorem dedup_w {S : Store} {j : Nat} {ns : List (List Nat)} (g : S[j]? = some (.lst (ns.map dS))) (hl : ns.length ≤ 1000) (ok : ∀ a ∈ ns, okName a = true) (h1 : 1 ≤ ns.length) {x0 x1 : Option D} {Qd : D → Store → Prop} {E : EX}
    (stop : ∀ bs : List (List Nat), bs.Nodup → (∀ a ∈ bs, okName a = true) → (∀ a ∈ bs, a ∈ ns) → 1 ≤ bs.length → bs.length ≤ ns.length → Qd (.ref S.length) (S ++ [.lst (bs.map dS)])) : G (lcm1 [3, 4] (zen (vv 2)) (bT [3, 4]) (tCm (cm .NotIn (vv 4) (sl (vv 2) p0 (p1 (vv 3))))) (vv 4)) [x0, x1, some (.ref j), none, none] S Qd E := by
  (repeat' (first | refine En_ref g ?_ | fail "q1" | fail "q2" | fail "q3" | fail))
  refine Cf_invRE (xs := ns.map dS) (fun i acc S' => S' = S ∧ ∃ bs : List (List Nat), acc = bs.map dS ∧ bs.Nodup ∧ (∀ x, x ∈ bs ↔ x ∈ ns.take i) ∧ bs.length ≤ i) (fun i acc S' h => by rw [h.1]; exact g) (by rw [List.length_map]; omega) ⟨rfl, [], rfl, List.nodup_nil, fun x => by simp, Nat.le_refl _⟩ ?_ ?_
  · rintro i d acc S' hd ⟨rfl, bs, rfl, nd, me, bl⟩ _
    rw [List.getElem?_map, Option.map_eq_some_iff] at hd
    obtain ⟨a, ha, rfl⟩ := hd
    have hi : i < ns.length := (List.getElem?_eq_some_iff.mp ha).1
    have am := List.mem_of_getElem? ha
    have tk : ns.take (i + 1) = ns.take i ++ [a] := by rw [List.take_succ, ha]; rfl
    (repeat' (first | refine Sl_q (seqL_ref g) ?_ | fail "q1" | fail "q2" | fail "q3" | fail))
    rw [cut_to _ _ (by rw [List.length_map]; omega), ← List.map_take]
    refine Cp_ninS (d := .lst ((ns.take i).map dS)) (ns := ns.take i) rfl (okName_s (ok a am)) (fun b hb => okName_s (ok b (List.mem_of_mem_take hb))) ?_
    by_cases c : a ∈ ns.take i
    · rw [decide_eq_true c]
      (repeat' (first | fail "q1" | fail "q2" | fail "q3" | fail))
      refine ⟨rfl, bs, rfl, nd, fun x => ?_, by omega⟩
      rw [tk, List.mem_append, List.mem_singleton, me]
      constructor
      · exact .inl
      · rintro (h | rfl)
        · exact h
        · exact c
    · rw [decide_eq_false c]
      (repeat' (first | fail "q1" | fail "q2" | fail "q3" | fail))
      refine ⟨rfl, bs ++ [a], by rw [List.map_append]; rfl, ?_, fun x => ?_, by rw [List.length_append, List.length_singleton]; omega⟩
      · rw [List.nodup_append]
        refine ⟨nd, by simp, ?_⟩
        intro x hx y hy e
        rw [List.mem_singleton.mp hy] at e
        subst e
        exact c ((me x).mp hx)
      · rw [tk, List.mem_append, List.mem_append, me]
  · rintro acc S' ⟨rfl, bs, rfl, nd, me, bl⟩
    rw [List.length_map, List.take_length] at me
    rw [List.length_map] at bl
    refine stop bs nd (fun a ha => ok a ((me a).mp ha)) (fun a ha => (me a).mp ha) ?_ bl
    have : ns[0] ∈ bs := (me _).mpr (List.getElem_mem ..)
    exact List.length_pos_of_mem this
theorem works_w {S : Store} {l : Nat} {k : Int} (h : Src S l k) (hk : k ≤ 10000) {Qd : D → Store → Prop} {E : EX}
    (hQ : ∀ (hs : List (List Nat)) (ws : List Wk) (j : Nat) (S' : Store), okW hs ws → (∃ s ∈ odd3, s ∉ hs ∧ s ∉ nms ws) → Src S' l (k + 200) → Kp l S S' → S.length ≤ j → S'[j]? = some (.lst (hs.map dS)) → Qd (.tup [.ref j, .lst (ws.map dWork)]) S') : W (m__law_works [.ref l] S) Qd E := by
  have lt := h.lt
  apply w__law_works
  unfold z__law_works
  (repeat' (first | fail "q1" | fail "q2" | fail "q3" | fail))
  refine draw_w h (by omega) (by decide) (by decide) (fun n1 S1 a0 a1 hs1 l1 o1 => ?_)
  (repeat' (first | fail "q1" | fail "q2" | fail "q3" | fail))
  refine names_w hs1 (by omega) (by omega) (by omega) (fun hs S2 ok2 hs2 l2 g2 K2 => ?_)
  (repeat' (first | fail "q1" | fail "q2" | fail "q3" | fail))
  refine draw_w hs2 (by omega) (by decide) (by decide) (fun n2 S3 b0 b1 hs3 l3 o3 => ?_)
  (repeat' (first | fail "q1" | fail "q2" | fail "q3" | fail))
  refine names_w hs3 (by omega) (by omega) (by omega) (fun ns S4 ok4 hs4 l4 g4 K4 => ?_)
  have hl : hs.length = (1 + n1).toNat := ok2.len
  have nl : ns.length = (1 + n2).toNat := ok4.len
  have j1 : S1.length ≠ l := by omega
  have j2 : S3.length ≠ l := by omega
  have K3 : Kp l S2 S3 := Kp.same l3 o3
  have gh : S4[S1.length]? = some (.lst (hs.map dS)) := by rw [K4.get _ j1 (by omega), K3.get _ j1 (by omega)]; exact g2
  have K04 : Kp l S S4 := (Kp.same l1 o1).trans (K2.trans (K3.trans K4))
  (repeat' (first | with_reducible refine Z_ifm (fun σ S' => ∃ (j : Nat) (bs : List (List Nat)) (x3 x4 : Option D), σ = [some (.ref l), some (.ref S1.length), some (.ref j), x3, x4] ∧ j ≠ l ∧ bs.Nodup ∧ (∀ a ∈ bs, okName a = true) ∧ (∀ a ∈ bs, a ∈ hs ∨ a ∈ ns) ∧ 1 ≤ bs.length ∧ bs.length ≤ 5 ∧ S'[j]? = some (.lst (bs.map dS)) ∧ S'[S1.length]? = some (.lst (hs.map dS)) ∧ Src S' l (k + 25) ∧ Kp l S S') ?_ ?_ | fail "q1" | fail "q2" | fail "q3" | fail))
  · refine draw_w hs4 (by omega) (by decide) (by decide) (fun n3 S5 c0 c1 hs5 l5 o5 => ?_)
    have g5 : S5[S3.length]? = some (.lst (ns.map dS)) := by rw [o5 _ j2]; exact g4
    have gh5 : S5[S1.length]? = some (.lst (hs.map dS)) := by rw [o5 _ j1]; exact gh
    have K5 : Kp l S S5 := K04.trans (Kp.same l5 o5)
    obtain ⟨x, hx, ex⟩ := atI_last (xs := hs.map dS) (by rw [List.length_map]; omega)
    obtain ⟨a, ha, rfl⟩ := List.mem_map.mp hx
    (repeat' (first | refine Ix_ref gh5 ex ?_ | refine Sd_ref g5 (j := 0) (by rw [List.length_map]; unfold L2.ixN; rw [if_pos (by decide), if_pos (by omega)]; rfl) ?_ | fail "q1" | fail "q2" | fail "q3" | fail))
    · intro S6 g6 l6 o6
      have e6 : (ns.map dS).set 0 (dS a) = (ns.set 0 a).map dS := by rw [List.map_set]
      rw [e6] at g6
      have hs6 : Src S6 l (k + 25) := by
        obtain ⟨a, b, c, q1, q2, q3⟩ := hs5.out
        exact ⟨⟨a, b, c, by rw [o6 l (by omega)]; exact q1, q2, by omega⟩⟩
      have K6 : Kp l S S6 := ⟨by omega, fun i hi hil => by rw [o6 i (by omega), K5.get i hi hil]⟩
      have gh6 : S6[S1.length]? = some (.lst (hs.map dS)) := by rw [o6 _ (by omega)]; exact gh5
      (repeat' (first | (with_reducible refine dedup_w g6 (by rw [List.length_set]; omega) ?_ (by rw [List.length_set]; omega) ?_) | fail "q1" | fail "q2" | fail "q3" | fail))
      · intro x hx
        rcases List.mem_or_eq_of_mem_set hx with z | rfl
        · exact ok4.all x z
        · exact ok2.all x ha
      · intro bs nd ok bm b1 b2
        rw [List.length_set] at b2
        (repeat' (first | fail "q1" | fail "q2" | fail "q3" | fail))
        refine ⟨S6.length, bs, _, _, rfl, by omega, nd, ok, fun x hx => (List.mem_or_eq_of_mem_set (bm x hx)).elim (fun z => .inr z) (fun z => .inl (by rw [z]; exact ha)), b1, by omega, by simp, by rw [List.getElem?_append_left (by omega)]; exact gh6, hs6.app, K6.trans .app⟩
    · exact ⟨S3.length, ns, _, _, rfl, j2, ok4.nd, ok4.all, fun x hx => .inr hx, by omega, by omega, g5, gh5, hs5.mono (by omega), K5⟩
  · rintro σ S5 ⟨j, bs, x3, x4, rfl, jl, nd, okb, bm, b1, b5, gb, gh5, hs5, K5⟩
    (repeat' (first | refine It_ref gb ?_ | fail "q1" | fail "q2" | fail "q3" | fail))
    refine Cf_invR (xs := bs.map dS) (fun i acc S' => Src S' l (k + 25 + 30 * i) ∧ Kp l S5 S' ∧ ∃ ws : List Wk, acc = ws.map dWork ∧ nms ws = bs.take i ∧ ∀ w ∈ ws, okBody hs bs w.2) (fun i acc S' h => by rw [h.2.1.get j jl (List.getElem?_eq_some_iff.mp gb).1]; exact gb) (by rw [List.length_map]; omega) ⟨hs5.mono (by omega), .refl, [], rfl, rfl, fun w hw => by simp at hw⟩ ?_ ?_
    · rintro i d acc S6 hd ⟨hs6, K6, ws, rfl, nw, bw⟩ _
      rw [List.getElem?_map, Option.map_eq_some_iff] at hd
      obtain ⟨a, ha, rfl⟩ := hd
      have hi : i < bs.length := (List.getElem?_eq_some_iff.mp ha).1
      (repeat' (first | fail "q1" | fail "q2" | fail "q3" | fail))
      refine genb_w hs6 (by omega) (K6.seq (seqL_ref gh5) (fun q => j1 (by injection q))) (K6.seq (seqL_ref gb) (fun q => jl (by injection q))) (fun q => j1 (by injection q)) (fun q => jl (by injection q)) ⟨by omega, by omega⟩ ⟨by omega, by omega⟩ (fun b S7 ob hs7 K7 => ?_)
      (repeat' (first | fail "q1" | fail "q2" | fail "q3" | fail))
      refine ⟨hs7.mono (by omega), K6.trans K7, ws ++ [(a, b)], by rw [List.map_append]; rfl, ?_, ?_⟩
      · unfold nms at nw ⊢
        rw [List.map_append, nw, List.take_succ, ha]; rfl
      · intro w hw
        rcases List.mem_append.mp hw with z | z
        · exact bw w z
        · rw [List.mem_singleton.mp z]; exact ob
    · rintro acc S6 ⟨hs6, K6, ws, rfl, nw, bw⟩
      rw [List.length_map] at nw hs6
      rw [List.take_length] at nw
      subst nw
      have wl := nms_len ws
      have ow : okW hs ws := ⟨by omega, by omega, ok2.nd, ok2.all, by omega, by omega, nd, okb, bw⟩
      have gh6 : S6[S1.length]? = some (.lst (hs.map dS)) := by rw [K6.get _ j1 (List.getElem?_eq_some_iff.mp gh5).1]; exact gh5
      (repeat' (first | fail "q1" | fail "q2" | fail "q3" | fail))
      have od : ∃ s ∈ odd3, s ∉ hs ∧ s ∉ nms ws := by
        obtain ⟨s, h1, h2, h3⟩ := lone_two ok2.lo ok4.lo
        exact ⟨s, h1, h2, fun z => (bm s z).elim h2 h3⟩
      refine Fn_any (hQ hs ws S1.length S6 ow od (hs6.mono (by omega)) (K5.trans K6) (by omega) gh6) (fun z => ?_)
      exfalso
      have : decide (S1.length < S.length) = true := by
        have z : (below S.length (.ref S1.length) && (below S.length (.lst (ws.map dWork)) && true)) = true := z
        rw [Bool.and_eq_true] at z
        exact z.1
      have := of_decide_eq_true this
      omega
theorem start_w {S : Store} {l j : Nat} {k : Int} {hs : List (List Nat)} {ws : List Wk} (h : Src S l k) (hk : k ≤ 100000) (ok : okW hs ws) (g : S[j]? = some (.lst (hs.map dS))) (jl : j ≠ l) {Qd : D → Store → Prop} {E : EX}
    (hQ : ∀ a n i S', a ∈ hs → n ∈ nms ws → 0 ≤ i → i ≤ 3 → Src S' l (k + 3) → S'.length = S.length → (∀ i, i ≠ l → S'[i]? = S[i]?) → Qd (.tup [dS a, dS n, .int i]) S') : W (m__law_start [.ref l, .tup [.ref j, .lst (ws.map dWork)]] S) Qd E := by
  have h1 := ok.h1
  have h4 := ok.h4
  have w1 := ok.w1
  have w5 := ok.w5
  apply w__law_start
  unfold z__law_start
  (repeat' (first | fail "q1" | fail "q2" | fail "q3" | fail))
  refine pickq_w h (by omega) (seqL_ref g) (fun q => jl (by injection q)) (by rw [List.length_map]; omega) (by rw [List.length_map]; omega) (fun x S1 hx hs1 l1 o1 => ?_)
  obtain ⟨a, ha, rfl⟩ := List.mem_map.mp hx
  (repeat' (first | fail "q1" | fail "q2" | fail "q3" | fail))
  refine pickq_w (d := .lst (ws.map dWork)) hs1 (by omega) rfl (fun q => by injection q) (by rw [List.length_map]; omega) (by rw [List.length_map]; omega) (fun x S2 hx hs2 l2 o2 => ?_)
  obtain ⟨w, hw, rfl⟩ := List.mem_map.mp hx
  dsimp only [dWork]
  (repeat' (first | fail "q1" | fail "q2" | fail "q3" | fail))
  refine draw_w hs2 (by omega) (by decide) (by decide) (fun i S3 c0 c1 hs3 l3 o3 => ?_)
  (repeat' (first | fail "q1" | fail "q2" | fail "q3" | fail))
  exact FnP_same (by omega) (hQ a w.1 i S3 ha (mem_nms hw) c0 (by omega) (hs3.mono (by omega)) (by omega) (fun i hi => by rw [o3 i hi, o2 i hi, o1 i hi]))
end QL

namespace QL
open PySem Q
/-! ### dicts of lists of pairs; fine works -/
end QL

namespace QL
open PySem Q
/-! ### works as text -/
def cHouses : List Nat := [104, 111, 117, 115, 101, 115]
def cWorkS : List Nat := [119, 111, 114, 107, 32]
def cWork : List Nat := [119, 111, 114, 107]
def cStart : List Nat := [115, 116, 97, 114, 116]
def cDigs : List Nat := [48, 49, 50, 51, 52, 53, 54, 55, 56, 57]
theorem kHouses : Str.ofString "houses" = SX.S cHouses := by decide +kernel
theorem kWorkS : Str.ofString "work " = SX.S cWorkS := by decide +kernel
theorem kWork : Str.ofString "work" = SX.S cWork := by decide +kernel
theorem kStart : Str.ofString "start" = SX.S cStart := by decide +kernel
theorem kStartS : Str.ofString "start " = SX.S (cStart ++ [32]) := by decide +kernel
theorem kSp : Str.ofString " " = SX.S [32] := by decide +kernel
theorem kNl : Str.ofString "\n" = SX.S [10] := by decide +kernel
theorem kSemi : Str.ofString " ; " = SX.S [32, 59, 32] := by decide +kernel
theorem kMinus : Str.ofString "-" = SX.S [45] := by decide +kernel
theorem kZero : Str.ofString "0" = SX.S [48] := by decide +kernel
theorem kDigs : Str.ofString "0123456789" = SX.S cDigs := by decide +kernel
theorem kEmp : Str.empty = SX.S [] := rfl
/-- signs of words -/
def wC (c : Nat) : Prop := c ≠ 10 ∧ c ≠ 32 ∧ c ≠ 59 ∧ c < 1114112
structure okWd (a : List Nat) : Prop where
  len : a.length ≤ 9
  pos : 1 ≤ a.length
  all : ∀ c ∈ a, wC c
theorem wd_name {a : List Nat} (h : okName a = true) : okWd a := by
  have hl := okName_len h
  refine ⟨by omega, hl.1, fun c hc => ?_⟩
  unfold okName at h
  rw [Bool.and_eq_true, Bool.and_eq_true] at h
  have := List.all_eq_true.mp h.2.2 c hc
  unfold low26 at this
  rw [Bool.and_eq_true, decide_eq_true_eq, decide_eq_true_eq] at this
  unfold wC
  omega
theorem wd_num {i : Int} (h1 : -1000 ≤ i) (h2 : i ≤ 1000) : okWd (num i) := by
  have n := numT h1 h2
  refine ⟨n.a9, ?_, fun c hc => ?_⟩
  · have := n.f1
    rw [List.length_drop] at this
    omega
  · have := n.all c hc
    unfold isDig at this
    rw [Bool.and_eq_true, decide_eq_true_eq, decide_eq_true_eq] at this
    unfold wC
    omega
theorem wd_by {a : List Nat} (h : (decide (a.length ≤ 9) && (decide (1 ≤ a.length) && a.all fun c => decide (c ≠ 10) && (decide (c ≠ 32) && (decide (c ≠ 59) && decide (c < 1114112))))) = true) : okWd a := by
  simp only [Bool.and_eq_true, decide_eq_true_eq, List.all_eq_true] at h
  exact ⟨h.1, h.2.1, h.2.2⟩
def pairsSm : Sm → List (D × List Nat)
  | .own => [(dS cOwn, cOwn)]
  | .add i => [(dS cAdd, cAdd), (.int i, num i)]
  | .spin i => [(dS cSpin, cSpin), (.int i, num i)]
  | .call b h n => [(dS (cCall b), cCall b), (dS h, h), (dS n, n)]
def wordsSm (m : Sm) : List (List Nat) := (pairsSm m).map (·.2)
theorem dSm_pairs (m : Sm) : dSm m = .tup ((pairsSm m).map (·.1)) := by cases m <;> rfl
theorem strD_S (a : List Nat) : strD (dS a) = some (dS a) := rfl
theorem strD_I {i : Int} (h1 : -1000 ≤ i) (h2 : i ≤ 1000) : strD (.int i) = some (dS (num i)) := by
  show (if i.natAbs.log2 < 1920 then some (D.str (Str.ofString (toString i))) else none) = _
  rw [if_pos (log_1000 h1 h2), num_S]
structure okNames (hs ns : List (List Nat)) : Prop where
  h : ∀ a ∈ hs, okName a = true
  n : ∀ a ∈ ns, okName a = true
theorem pairs_ok {hs ns : List (List Nat)} (ok : okNames hs ns) {m : Sm} (hm : okSm hs ns m) : ∀ p ∈ pairsSm m, strD p.1 = some (dS p.2) ∧ okWd p.2 := by
  intro p hp
  cases m with
  | own =>
    rw [pairsSm, List.mem_singleton] at hp
    subst hp
    exact ⟨rfl, wd_by (by decide)⟩
  | add i =>
    obtain ⟨h1, h2⟩ := hm
    simp only [pairsSm, List.mem_cons, List.not_mem_nil, or_false] at hp
    rcases hp with rfl | rfl
    · exact ⟨rfl, wd_by (by decide)⟩
    · exact ⟨strD_I h1 h2, wd_num h1 h2⟩
  | spin i =>
    obtain ⟨h1, h2⟩ := hm
    simp only [pairsSm, List.mem_cons, List.not_mem_nil, or_false] at hp
    rcases hp with rfl | rfl
    · exact ⟨rfl, wd_by (by decide)⟩
    · exact ⟨strD_I (by omega) (by omega), wd_num (by omega) (by omega)⟩
  | call b h n =>
    simp only [pairsSm, List.mem_cons, List.not_mem_nil, or_false] at hp
    rcases hp with rfl | rfl | rfl
    · exact ⟨rfl, wd_by (by cases b <;> decide)⟩
    · exact ⟨rfl, wd_name (ok.h _ hm.1)⟩
    · exact ⟨rfl, wd_name (ok.n _ hm.2)⟩
theorem words_ok {hs ns : List (List Nat)} (ok : okNames hs ns) {m : Sm} (hm : okSm hs ns m) : ∀ p ∈ wordsSm m, okWd p := fun p hp => by
  obtain ⟨q, hq, rfl⟩ := List.mem_map.mp hp
  exact (pairs_ok ok hm q hq).2
theorem words_len (m : Sm) : (wordsSm m).length ≤ 3 := by cases m <;> exact Nat.le_of_ble_eq_true rfl
theorem words_ne (m : Sm) : wordsSm m ≠ [] := by cases m <;> exact fun z => by cases z
def txtSm (m : Sm) : List Nat := TL.joinL [32] (wordsSm m)
def rowsW (w : Wk) : List (List Nat) := (cWorkS ++ w.1) :: w.2.map txtSm
def txtWork (w : Wk) : List Nat := TL.joinL [32, 59, 32] (rowsW w)
def txtHouses (hs : List (List Nat)) : List Nat := TL.joinL [32] (cHouses :: hs)
def wordsSt (a n : List Nat) (k : Int) : List (List Nat) := [cStart, a, n, num k]
def txtStart (a n : List Nat) (k : Int) : List Nat := TL.joinL [32] (wordsSt a n k)
def rowsA (hs : List (List Nat)) (ws : List Wk) (a n : List Nat) (k : Int) : List (List Nat) := txtHouses hs :: ws.map txtWork ++ [txtStart a n k]
def txtAll (hs : List (List Nat)) (ws : List Wk) (a n : List Nat) (k : Int) : List Nat := TL.joinL [10] (rowsA hs ws a n k)
theorem txtSm_len {hs ns : List (List Nat)} (ok : okNames hs ns) {m : Sm} (hm : okSm hs ns m) : (txtSm m).length ≤ 30 := by
  have h1 := joinL_len (sep := [32]) (B := 9) (fun p hp => (words_ok ok hm p hp).len)
  have h2 := words_len m
  have : (wordsSm m).length * (9 + [32].length) ≤ 3 * 10 := Nat.mul_le_mul h2 (by decide)
  unfold txtSm
  omega
theorem txtSm_all {hs ns : List (List Nat)} (ok : okNames hs ns) {m : Sm} (hm : okSm hs ns m) : ∀ c ∈ txtSm m, c ≠ 10 ∧ c ≠ 59 ∧ c < 1114112 :=
  joinL_all (P := fun c => c ≠ 10 ∧ c ≠ 59 ∧ c < 1114112) (by decide) fun p hp c hc => by
    have := (words_ok ok hm p hp).all c hc
    unfold wC at this
    omega
structure okWk (hs ns : List (List Nat)) (w : Wk) : Prop where
  nm : okName w.1 = true
  bd : okBody hs ns w.2
theorem rowsW_ok {hs ns : List (List Nat)} (ok : okNames hs ns) {w : Wk} (ow : okWk hs ns w) : ∀ p ∈ rowsW w, p.length ≤ 30 ∧ ∀ c ∈ p, c ≠ 10 ∧ c ≠ 59 ∧ c < 1114112 := by
  intro p hp
  rcases List.mem_cons.mp hp with rfl | hp
  · have h := wd_name ow.nm
    have hl := h.len
    refine ⟨by rw [List.length_append]; have : cWorkS.length = 5 := rfl; omega, fun c hc => ?_⟩
    rcases List.mem_append.mp hc with z | z
    · have : ∀ c ∈ cWorkS, c ≠ 10 ∧ c ≠ 59 ∧ c < 1114112 := by decide
      exact this c z
    · have := h.all c z
      unfold wC at this
      omega
  · obtain ⟨m, hm, rfl⟩ := List.mem_map.mp hp
    exact ⟨txtSm_len ok (ow.bd.all m hm), txtSm_all ok (ow.bd.all m hm)⟩
theorem rowsW_len {hs ns : List (List Nat)} {w : Wk} (ow : okWk hs ns w) : (rowsW w).length ≤ 7 := by
  have := ow.bd.len
  unfold rowsW
  rw [List.length_cons, List.length_map]
  omega
theorem txtWork_len {hs ns : List (List Nat)} (ok : okNames hs ns) {w : Wk} (ow : okWk hs ns w) : (txtWork w).length ≤ 300 := by
  have h1 := joinL_len (sep := [32, 59, 32]) (B := 30) (fun p hp => (rowsW_ok ok ow p hp).1)
  have h2 := rowsW_len ow
  have : (rowsW w).length * (30 + [32, 59, 32].length) ≤ 7 * 33 := Nat.mul_le_mul h2 (by decide)
  unfold txtWork
  omega
theorem txtWork_all {hs ns : List (List Nat)} (ok : okNames hs ns) {w : Wk} (ow : okWk hs ns w) : ∀ c ∈ txtWork w, c ≠ 10 ∧ c < 1114112 :=
  joinL_all (P := fun c => c ≠ 10 ∧ c < 1114112) (by decide) fun p hp c hc => by
    have := (rowsW_ok ok ow p hp).2 c hc
    omega
theorem houses_ok {hs ns : List (List Nat)} (ok : okNames hs ns) : ∀ p ∈ cHouses :: hs, okWd p := by
  intro p hp
  rcases List.mem_cons.mp hp with rfl | hp
  · exact wd_by (by decide)
  · exact wd_name (ok.h p hp)
theorem txtHouses_len {hs ns : List (List Nat)} (ok : okNames hs ns) (h4 : hs.length ≤ 4) : (txtHouses hs).length ≤ 300 := by
  have h1 := joinL_len (sep := [32]) (B := 9) (fun p hp => (houses_ok ok p hp).len)
  have : (cHouses :: hs).length * (9 + [32].length) ≤ 5 * 10 := Nat.mul_le_mul (by rw [List.length_cons]; omega) (by decide)
  unfold txtHouses
  omega
theorem start_ok {hs ns : List (List Nat)} (ok : okNames hs ns) {a n : List Nat} {k : Int} (ha : a ∈ hs) (hn : n ∈ ns) (k0 : 0 ≤ k) (k3 : k ≤ 3) : ∀ p ∈ wordsSt a n k, okWd p := by
  intro p hp
  simp only [wordsSt, List.mem_cons, List.not_mem_nil, or_false] at hp
  rcases hp with rfl | rfl | rfl | rfl
  · exact wd_by (by decide)
  · exact wd_name (ok.h _ ha)
  · exact wd_name (ok.n _ hn)
  · exact wd_num (by omega) (by omega)
theorem txtStart_len {hs ns : List (List Nat)} (ok : okNames hs ns) {a n : List Nat} {k : Int} (ha : a ∈ hs) (hn : n ∈ ns) (k0 : 0 ≤ k) (k3 : k ≤ 3) : (txtStart a n k).length ≤ 300 := by
  have h1 := joinL_len (sep := [32]) (B := 9) (fun p hp => (start_ok ok ha hn k0 k3 p hp).len)
  have : (wordsSt a n k).length * (9 + [32].length) = 40 := rfl
  unfold txtStart
  omega
theorem join_all1 {ps : List (List Nat)} (h : ∀ p ∈ ps, okWd p) : ∀ c ∈ TL.joinL [32] ps, c ≠ 10 ∧ c < 1114112 :=
  joinL_all (P := fun c => c ≠ 10 ∧ c < 1114112) (by decide) fun p hp c hc => by
    have := (h p hp).all c hc
    unfold wC at this
    omega
/-- all that is wanted of works and a start for their text -/
structure okX (hs : List (List Nat)) (ws : List Wk) (a n : List Nat) (k : Int) : Prop where
  w : okW hs ws
  ha : a ∈ hs
  hn : n ∈ nms ws
  k0 : 0 ≤ k
  k3 : k ≤ 3
theorem okX.names {hs : List (List Nat)} {ws : List Wk} {a n : List Nat} {k : Int} (x : okX hs ws a n k) : okNames hs (nms ws) := ⟨x.w.hg, x.w.wg⟩
theorem okX.wk {hs : List (List Nat)} {ws : List Wk} {a n : List Nat} {k : Int} (x : okX hs ws a n k) : ∀ w ∈ ws, okWk hs (nms ws) w := fun w hw => ⟨x.w.wg _ (mem_nms hw), x.w.wb w hw⟩
theorem rowsA_ok {hs : List (List Nat)} {ws : List Wk} {a n : List Nat} {k : Int} (x : okX hs ws a n k) : ∀ p ∈ rowsA hs ws a n k, p.length ≤ 300 ∧ ∀ c ∈ p, c ≠ 10 ∧ c < 1114112 := by
  intro p hp
  rcases List.mem_append.mp hp with hp | hp
  · rcases List.mem_cons.mp hp with rfl | hp
    · exact ⟨txtHouses_len x.names x.w.h4, join_all1 (houses_ok x.names)⟩
    · obtain ⟨w, hw, rfl⟩ := List.mem_map.mp hp
      exact ⟨txtWork_len x.names (x.wk w hw), txtWork_all x.names (x.wk w hw)⟩
  · rw [List.mem_singleton.mp hp]
    exact ⟨txtStart_len x.names x.ha x.hn x.k0 x.k3, join_all1 (start_ok x.names x.ha x.hn x.k0 x.k3)⟩
theorem rowsA_len {hs : List (List Nat)} {ws : List Wk} {a n : List Nat} {k : Int} (x : okX hs ws a n k) : (rowsA hs ws a n k).length ≤ 7 := by
  have := x.w.w5
  unfold rowsA
  rw [List.length_append, List.length_cons, List.length_map, List.length_singleton]
  omega
theorem txtAll_len {hs : List (List Nat)} {ws : List Wk} {a n : List Nat} {k : Int} (x : okX hs ws a n k) : (txtAll hs ws a n k).length ≤ 3000 := by
  have h1 := joinL_len (sep := [10]) (B := 300) (fun p hp => (rowsA_ok x p hp).1)
  have h2 := rowsA_len x
  have : (rowsA hs ws a n k).length * (300 + [10].length) ≤ 7 * 301 := Nat.mul_le_mul h2 (by decide)
  unfold txtAll
  omega
theorem txtAll_s {hs : List (List Nat)} {ws : List Wk} {a n : List Nat} {k : Int} (x : okX hs ws a n k) : sOk (txtAll hs ws a n k) = true := by
  unfold sOk
  rw [List.all_eq_true]
  intro c hc
  exact decide_eq_true (joinL_all (P := fun c => c < 1114112) (by decide) (fun p hp c hc => ((rowsA_ok x p hp).2 c hc).2) c hc)
/-! the program's own text -/
theorem strs_c {S : Store} {m : Sm} {hs ns : List (List Nat)} (ok : okNames hs ns) (hm : okSm hs ns m) {f : D → Store → Out (Option D)} {QL : List D → Store → Prop} (step : ∀ d e, strD d = some e → W (f d S) (fun o S1 => o = some e ∧ S1 = S) noX) (stop : QL ((wordsSm m).map dS) S) : ItP S (dSm m) (fun it => CfP it f S QL) := by
  rw [dSm_pairs]
  refine It_tup (CfMap (g := fun p : D × List Nat => p.1) (h := fun p => dS p.2) ?_ (fun p hp => step p.1 (dS p.2) (pairs_ok ok hm p hp).1) ?_)
  · have := words_len m
    unfold wordsSm at this
    rw [List.length_map] at this
    omega
  · unfold wordsSm at stop
    rw [List.map_map] at stop
    exact stop
theorem sttext_w {S : Store} {m : Sm} {hs ns : List (List Nat)} (ok : okNames hs ns) (hm : okSm hs ns m) {Qd : D → Store → Prop} {E : EX} (hQ : Qd (dS (txtSm m)) S) : W (m_statement_text [dSm m] S) Qd E := by
  apply w_statement_text
  unfold z_statement_text
  rw [kSp]
  have wl := words_len m
  (repeat' (first | refine strs_c ok hm (fun d e he => ?_) ?_ | fail "q1" | fail "q2" | fail "q3" | fail))
  · (repeat' (first | refine Bs_by (x := e) he ?_ | fail "q1" | fail "q2" | fail "q3" | fail))
    exact ⟨rfl, rfl⟩
  (repeat' (first | refine Mt_joinq (sep := [32]) (ps := wordsSm m) 9 rfl (fun p hp => (words_ok ok hm p hp).len) (by rw [List.length_singleton]; omega) ?_ | fail "q1" | fail "q2" | fail "q3" | fail))
  exact hQ
theorem worktext_w {S : Store} {w : Wk} {hs ns : List (List Nat)} (ok : okNames hs ns) (ow : okWk hs ns w) {Qd : D → Store → Prop} {E : EX} (hQ : Qd (dS (txtWork w)) S) : W (m_work_text [dS w.1, dBody w.2] S) Qd E := by
  apply w_work_text
  unfold z_work_text
  rw [kSemi, kWorkS]
  have hl := okName_len ow.nm
  have bl := ow.bd.len
  have rl := rowsW_len ow
  unfold dBody
  have c5 : cWorkS.length = 5 := rfl
  (repeat' (first | refine Bn_catS (by omega) ?_ | fail "q1" | fail "q2" | fail "q3" | fail))
  refine CfMap (g := dSm) (h := fun m => dS (txtSm m)) (by omega) (fun m hm => ?_) ?_
  · (repeat' (first | refine sttext_w ok (ow.bd.all m hm) ?_ | fail "q1" | fail "q2" | fail "q3" | fail))
    exact ⟨rfl, rfl⟩
  have e : [dS (cWorkS ++ w.1)] ++ w.2.map (fun m => dS (txtSm m)) = (rowsW w).map dS := by
    unfold rowsW
    rw [List.map_cons, List.map_map]; rfl
  (repeat' (first | refine Bn_lst (by rw [List.length_singleton, List.length_map]; omega) ?_ | fail "q1" | fail "q2" | fail "q3" | fail))
  rw [e]
  (repeat' (first | refine Mt_joinq (sep := [32, 59, 32]) (ps := rowsW w) 30 rfl (fun p hp => (rowsW_ok ok ow p hp).1) (by show _ + _ * 3 ≤ _; omega) ?_ | fail "q1" | fail "q2" | fail "q3" | fail))
  exact hQ
theorem worksT_w {S : Store} {dh : D} {hs : List (List Nat)} {ws : List Wk} {a n : List Nat} {k : Int} (e1 : seqL S dh = some (hs.map dS)) (x : okX hs ws a n k) {Qd : D → Store → Prop} {E : EX} (hQ : Qd (dS (txtAll hs ws a n k)) S) : W (m_works_text [.tup [dh, .lst (ws.map dWork)], .tup [dS a, dS n, .int k]] S) Qd E := by
  apply w_works_text
  unfold z_works_text
  rw [kSp, kNl, kHouses, kStart]
  have h4 := x.w.h4
  have w5 := x.w.w5
  have k0 := x.k0
  have k3 := x.k3
  have rl := rowsA_len x
  have eh : [dS cHouses] ++ hs.map dS = (cHouses :: hs).map dS := rfl
  (repeat' (first | refine Bn_catq (d := .lst [dS cHouses]) rfl e1 (by rw [List.length_singleton, List.length_map]; omega) ?_ | fail "q1" | fail "q2" | fail "q3" | fail))
  rw [eh]
  (repeat' (first | refine Mt_joinq (sep := [32]) (ps := cHouses :: hs) 9 rfl (fun p hp => (houses_ok x.names p hp).len) (by rw [List.length_cons, List.length_singleton]; omega) ?_ | fail "q1" | fail "q2" | fail "q3" | fail))
  refine CfMap (g := dWork) (h := fun w => dS (txtWork w)) (by omega) (fun w hw => ?_) ?_
  · dsimp only [dWork]
    (repeat' (first | refine worktext_w x.names (x.wk w hw) ?_ | fail "q1" | fail "q2" | fail "q3" | fail))
    exact ⟨rfl, rfl⟩
  (repeat' (first | refine Bn_lst (by rw [List.length_singleton, List.length_map]; omega) ?_ | refine Bs_strI (by omega) (by omega) ?_ | refine Mt_joinq (sep := [32]) (ps := wordsSt a n k) 9 rfl (fun p hp => (start_ok x.names x.ha x.hn x.k0 x.k3 p hp).len) (by show 4 * 9 + 4 * 1 ≤ _; decide) ?_ | fail "q1" | fail "q2" | fail "q3" | fail))
  refine Bn_lst (by rw [List.length_append, List.length_singleton, List.length_map, List.length_singleton]; omega) ?_
  have e : ([dS (TL.joinL [32] (cHouses :: hs))] ++ ws.map (fun w => dS (txtWork w))) ++ [dS (TL.joinL [32] (wordsSt a n k))] = (rowsA hs ws a n k).map dS := by
    unfold rowsA
    rw [List.map_append, List.map_cons, List.map_map]; rfl
  rw [e]
  (repeat' (first | refine Mt_joinq (sep := [10]) (ps := rowsA hs ws a n k) 300 rfl (fun p hp => (rowsA_ok x p hp).1) (by rw [List.length_singleton]; omega) ?_ | fail "q1" | fail "q2" | fail "q3" | fail))
  exact hQ
theorem lawT_w {S : Store} {l : Nat} {dh : D} {hs : List (List Nat)} {ws : List Wk} {a n : List Nat} {k : Int} (e1 : seqL S dh = some (hs.map dS)) (x : okX hs ws a n k) {Qd : D → Store → Prop} {E : EX} (hQ : ∀ T, Qd (dS (txtAll hs ws a n k)) (S ++ T)) : W (m__law_text [.tup [dh, .lst (ws.map dWork)], .tup [dS a, dS n, .int k]] S) Qd E := by
  apply w__law_text
  unfold z__law_text
  rw [kSp, kNl, kHouses, kStartS, kSemi, kWorkS]
  have h4 := x.w.h4
  have w5 := x.w.w5
  have k0 := x.k0
  have k3 := x.k3
  have rl := rowsA_len x
  have la := okName_len (x.w.hg a x.ha)
  have ln := okName_len (x.w.wg n x.hn)
  have lk := (numT (i := k) (by omega) (by omega)).a9
  have c5 : cWorkS.length = 5 := rfl
  have c6 : cStart.length = 5 := rfl
  have eh : [dS cHouses] ++ hs.map dS = (cHouses :: hs).map dS := rfl
  (repeat' (first | refine Bn_catq (d := .lst [dS cHouses]) rfl e1 (by rw [List.length_singleton, List.length_map]; omega) ?_ | fail "q1" | fail "q2" | fail "q3" | fail))
  rw [eh]
  (repeat' (first | refine Mt_joinq (sep := [32]) (ps := cHouses :: hs) 9 rfl (fun p hp => (houses_ok x.names p hp).len) (by rw [List.length_cons, List.length_singleton]; omega) ?_ | fail "q1" | fail "q2" | fail "q3" | fail))
  refine Lp_inv (fun i σ S' => S' = S ++ [.lst ((txtHouses hs :: (ws.take i).map txtWork).map dS)] ∧ ∃ x3 x4 x5 x6 : Option D, σ = [some (.tup [dh, .lst (ws.map dWork)]), some (.tup [dS a, dS n, .int k]), some (.ref S.length), x3, x4, x5, x6, none]) ⟨rfl, _, _, _, _, rfl⟩ ?_ ?_ (by show (ws.map dWork).length < 100000; rw [List.length_map]; omega)
  · rintro i d σ S' hd ⟨rfl, x3, x4, x5, x6, rfl⟩
    have hd : (ws.map dWork)[i]? = some d := hd
    rw [List.getElem?_map, Option.map_eq_some_iff] at hd
    obtain ⟨w, hw, rfl⟩ := hd
    have ow := x.wk w (List.mem_of_getElem? hw)
    have lw := okName_len ow.nm
    have bl := ow.bd.len
    have g : (S ++ [Ob.lst ((txtHouses hs :: (ws.take i).map txtWork).map dS)])[S.length]? = some (.lst ((txtHouses hs :: (ws.take i).map txtWork).map dS)) := by simp
    dsimp only [dWork]
    (repeat' (first | refine Bn_catS (by omega) ?_ | fail "q1" | fail "q2" | fail "q3" | fail))
    unfold dBody
    refine It_tup ?_
    refine Lp_inv (fun j σ S' => S' = S ++ [.lst ((txtHouses hs :: (ws.take i).map txtWork).map dS)] ∧ ∃ x6 : Option D, σ = [some (.tup [dh, .lst (ws.map dWork)]), some (.tup [dS a, dS n, .int k]), some (.ref S.length), some (dS w.1), some (.tup (w.2.map dSm)), some (dS (TL.joinL [32, 59, 32] ((cWorkS ++ w.1) :: (w.2.take j).map txtSm))), x6, none]) ⟨rfl, _, rfl⟩ ?_ ?_ (by show (w.2.map dSm).length < 100000; rw [List.length_map]; omega)
    · rintro j d σ S' hd ⟨rfl, x6, rfl⟩
      have hd : (w.2.map dSm)[j]? = some d := hd
      rw [List.getElem?_map, Option.map_eq_some_iff] at hd
      obtain ⟨m, hm, rfl⟩ := hd
      have om := ow.bd.all m (List.mem_of_getElem? hm)
      have wl := words_len m
      have tl := txtSm_len x.names om
      have jl : (TL.joinL [32, 59, 32] ((cWorkS ++ w.1) :: (w.2.take j).map txtSm)).length ≤ 300 := by
        have h1 := joinL_len (sep := [32, 59, 32]) (B := 30) (ps := (cWorkS ++ w.1) :: (w.2.take j).map txtSm) (fun p hp => by
          refine (rowsW_ok x.names ow p ?_).1
          rcases List.mem_cons.mp hp with rfl | hp
          · exact List.mem_cons_self ..
          · obtain ⟨q, hq, rfl⟩ := List.mem_map.mp hp
            exact List.mem_cons_of_mem _ (List.mem_map_of_mem (List.mem_of_mem_take hq)))
        have : ((cWorkS ++ w.1) :: (w.2.take j).map txtSm).length * (30 + [32, 59, 32].length) ≤ 7 * 33 := Nat.mul_le_mul (by rw [List.length_cons, List.length_map, List.length_take]; omega) (by decide)
        omega
      have ht : (w.2.take (j + 1)).map txtSm = (w.2.take j).map txtSm ++ [txtSm m] := by rw [List.take_succ, hm, List.map_append]; rfl
      have c3 : [32, 59, 32].length = 3 := rfl
      (repeat' (first | refine strs_c x.names om (fun d e he => ?_) ?_ | refine Bn_catS (b := [32, 59, 32]) (by omega) ?_ | fail "q1" | fail "q2" | fail "q3" | fail))
      · (repeat' (first | refine Bs_by (x := e) he ?_ | fail "q1" | fail "q2" | fail "q3" | fail))
        exact ⟨rfl, rfl⟩
      (repeat' (first | refine Mt_joinq (sep := [32]) (ps := wordsSm m) 9 rfl (fun p hp => (words_ok x.names om p hp).len) (by rw [List.length_singleton]; omega) ?_ | fail "q1" | fail "q2" | fail "q3" | fail))
      refine Bn_catS (b := txtSm m) (by rw [List.length_append]; omega) ?_
      (repeat' (first | fail "q1" | fail "q2" | fail "q3" | fail))
      rw [ht, ← List.cons_append, joinL_snoc]
      exact ⟨rfl, _, rfl⟩
    · rintro σ S' ⟨rfl, x6, rfl⟩
      have e2 : w.2.take (Items.mk (w.2.map dSm) none false).xs.length = w.2 := List.take_of_length_le (by show _ ≤ (w.2.map dSm).length; rw [List.length_map]; exact Nat.le_refl _)
      rw [e2]
      have mt : ∀ {Q : D → Store → Prop} {t : List Nat} {xs : List (List Nat)}, xs.length ≤ 1000 → Q .non (S ++ [.lst ((xs ++ [t]).map dS)]) → MtP (S ++ [Ob.lst (xs.map dS)]) .append (.ref S.length) [dS t] Q := fun {Q t xs} hx hq => by
        have g : (S ++ [Ob.lst (xs.map dS)])[S.length]? = some (.lst (xs.map dS)) := by simp
        refine ⟨⟨.non, _, ?_, hq⟩⟩
        show (match (S ++ [Ob.lst (xs.map dS)])[S.length]? with | some (.lst ys) => if ys.length < 16777216 then some (D.non, (S ++ [Ob.lst (xs.map dS)]).set S.length (.lst (ys ++ [dS t]))) else none | _ => none) = _
        rw [g]
        show (if (xs.map dS).length < 16777216 then _ else none) = _
        rw [if_pos (by rw [List.length_map]; omega)]
        simp [List.set_append]
      have ht : (ws.take (i + 1)).map txtWork = (ws.take i).map txtWork ++ [txtWork w] := by rw [List.take_succ, hw, List.map_append]; rfl
      (repeat' (first | refine Md_app g ?_ | refine mt (t := txtWork w) (by rw [List.length_cons, List.length_map, List.length_take]; omega) ?_ | fail "q1" | fail "q2" | fail "q3" | fail))
      rw [ht]
      exact ⟨rfl, _, _, _, _, rfl⟩
  · rintro σ S' ⟨rfl, x3, x4, x5, x6, rfl⟩
    have e2 : ws.take (Items.mk (ws.map dWork) none false).xs.length = ws := List.take_of_length_le (by show _ ≤ (ws.map dWork).length; rw [List.length_map]; exact Nat.le_refl _)
    rw [e2]
    have sq : seqL (S ++ [Ob.lst ((txtHouses hs :: ws.map txtWork).map dS)]) (.ref S.length) = some ((txtHouses hs :: ws.map txtWork).map dS) := seqL_ref (by simp)
    (repeat' (first | (with_reducible refine G_fstS ?_) | (with_reducible refine Jn_S (by simp only [List.length_append, List.length_nil, List.length_singleton]; omega) ?_) | (with_reducible refine Fm_S (by omega) ?_) | (with_reducible refine Fm_I (by omega) (by omega) ?_) | refine Bn_catq sq rfl (by rw [List.length_map, List.length_cons, List.length_map, List.length_singleton]; omega) ?_ | fail "q1" | fail "q2" | fail "q3" | fail))
    have e3 : ([] ++ (cStart ++ [32]) ++ a ++ [32] ++ n ++ [32] ++ num k) = txtStart a n k := by
      show _ = cStart ++ ([32] ++ (a ++ ([32] ++ (n ++ ([32] ++ num k)))))
      simp
    rw [e3]
    have e : (txtHouses hs :: ws.map txtWork).map dS ++ [dS (txtStart a n k)] = (rowsA hs ws a n k).map dS := by
      unfold rowsA
      rw [List.map_append]; rfl
    rw [e]
    (repeat' (first | refine Mt_joinq (sep := [10]) (ps := rowsA hs ws a n k) 300 rfl (fun p hp => (rowsA_ok x p hp).1) (by rw [List.length_singleton]; omega) ?_ | fail "q1" | fail "q2" | fail "q3" | fail))
    refine Fn_any (hQ _) (fun _ => ?_)
    rw [List.take_left]
    have := hQ []
    rwa [List.append_nil] at this
end QL

namespace QL
open PySem Q
/-! ### numbers and names in words, by the program and by the law -/
theorem kNil' : Str.ofString "" = SX.S [] := by decide +kernel
theorem dig_dec (c : Nat) : decide (c ∈ cDigs) = isDig c := by
  rw [Bool.eq_iff_iff, decide_eq_true_eq]
  unfold isDig
  rw [Bool.and_eq_true, decide_eq_true_eq, decide_eq_true_eq]
  simp only [cDigs, List.mem_cons, List.not_mem_nil, or_false]
  omega
theorem sOk_sub {a b : List Nat} (h : ∀ c ∈ b, c ∈ a) (ha : sOk a = true) : sOk b = true := by
  unfold sOk at *
  rw [List.all_eq_true] at *
  exact fun c hc => ha c (h c hc)
theorem atI_zero {α : Type} {x : α} {r : List α} : L2.atI (x :: r) 0 = some x := by
  unfold L2.atI L2.ixN
  rw [if_pos (by decide), if_pos (by simp)]
  rfl
theorem Sl_sgn {S : Store} {a : List Nat} {Q : D → Prop} (hl : a.length ≤ 1000000) (h : Q (dS (figs a))) : SlP S (dS a) (some (if decide (a.take (1 : Int).toNat = [45]) = true then 1 else 0)) none Q := by
  unfold figs sgn at h
  by_cases c : a.take 1 = [45]
  · rw [if_pos c] at h
    rw [if_pos (decide_eq_true (show a.take (1 : Int).toNat = [45] from c))]
    exact Sl_from hl (by decide) h
  · rw [if_neg c] at h
    rw [if_neg (by rw [decide_eq_true_eq]; exact c)]
    exact Sl_from hl (by decide) h
theorem Ix_str0 {S : Store} {a : List Nat} {c : Nat} {t : List Nat} {Q : D → Prop} (hl : a.length ≤ 1000000) (e : a = c :: t) (h : Q (dS [c])) : IxP S (dS a) (.int 0) Q := by
  subst e
  refine ⟨⟨dS [c], ?_, h⟩⟩
  show (if (SX.S (c :: t)).length ≤ 16777216 then (match L2.atI (c :: t) 0 with | some c => some (D.str ⟨#[c]⟩) | none => none) else none) = _
  rw [SX.S_len, if_pos (by omega), atI_zero]
theorem Cp_neS {S : Store} {a b : List Nat} {PB : Bool → Prop} (ha : sOk a = true) (hb : sOk b = true) (h : PB (!decide (a = b))) : Cp S .NotEq (dS a) (dS b) PB := by
  refine Cp_ne (EqOk.of (n := 0) (fine_S ha) (by decide)) (EqOk.of (n := 0) (fine_S hb) (by decide)) (fun e => ?_) (fun e => ?_)
  · rw [decide_eq_true (dS_inj e)] at h; exact h
  · rw [decide_eq_false (fun z => e (by rw [z]))] at h; exact h
theorem Cp_inF {S : Store} {op : CmpOp} {c : Nat} {PB : Bool → Prop} (ho : op = .In) (h : PB (isDig c)) : Cp S op (.str ⟨#[c]⟩) (dS cDigs) PB := by
  subst ho
  refine Cp_inT ?_
  rw [dig_dec]; exact h
theorem Cp_ninF {S : Store} {c : Nat} {PB : Bool → Prop} (h : PB (!isDig c)) : Cp S .NotIn (.str ⟨#[c]⟩) (dS cDigs) PB := by
  obtain ⟨k, e, rfl⟩ := (Cp_inF (S := S) (op := .In) (c := c) (PB := fun k => k = isDig c) rfl rfl).out
  exact Cp_by (k := !isDig c) (by show (inD S (.str ⟨#[c]⟩) (dS cDigs)).map (! ·) = _; rw [show inD S (.str ⟨#[c]⟩) (dS cDigs) = some (isDig c) from e]; rfl) h
def dOpt : Option Int → D
  | some i => .int i
  | none => .non
theorem figs_len (a : List Nat) : (figs a).length ≤ a.length := by
  unfold figs
  rw [List.length_drop]; omega
theorem figs_sub {a : List Nat} (h : sOk a = true) : sOk (figs a) = true := sOk_sub (fun c hc => List.mem_of_mem_drop hc) h
theorem map_all {α : Type} (p : α → Bool) (a : List α) : (a.map p).all id = a.all p := by rw [List.all_map]; rfl
theorem num_out {m : Nat} {a : List Nat} (h1 : 1 ≤ (figs a).length) (h2 : (figs a).length ≤ m) (h3 : (figs a).all isDig = true) : (∃ t, figs a = 48 :: t ∧ a ≠ [48] ∧ numOf m a = none) ∨ (∃ c t i, figs a = c :: t ∧ (c = 48 → a = [48]) ∧ numOf m a = some i) := by
  cases e : figs a with
  | nil => rw [e] at h1; simp at h1
  | cons c t =>
    by_cases hc : c = 48 ∧ a ≠ [48]
    · refine .inl ⟨t, by rw [hc.1], hc.2, ?_⟩
      unfold numOf
      rw [if_pos ⟨h1, h2, h3⟩, if_pos ⟨by rw [e, hc.1]; rfl, hc.2⟩]
    · refine .inr ⟨c, t, valOf a, rfl, fun z => Classical.byContradiction fun q => hc ⟨z, q⟩, ?_⟩
      unfold numOf
      rw [if_pos ⟨h1, h2, h3⟩, if_neg (fun z => hc ⟨by have := z.1; rw [e] at this; injection this, z.2⟩)]
theorem num_non {m : Nat} {a : List Nat} (h : ¬ (1 ≤ (figs a).length ∧ (figs a).length ≤ m ∧ (figs a).all isDig = true)) : numOf m a = none := by
  unfold numOf
  rw [if_neg h]
theorem numin_w {S : Store} {a : List Nat} {m : Nat} (hl : a.length ≤ 1000000) (hs : sOk a = true) (hm : m ≤ 600) {Qd : D → Store → Prop} {E : EX} (hQ : Qd (dOpt (numOf m a)) S) : W (m_number_in [dS a, .int m] S) Qd E := by
  have s1 : sOk (a.take (1 : Int).toNat) = true := sOk_sub (fun c hc => List.mem_of_mem_take hc) hs
  have fl := figs_len a
  have non : ¬ (1 ≤ (figs a).length ∧ (figs a).length ≤ m ∧ (figs a).all isDig = true) → Qd .non S := fun z => by rw [num_non z] at hQ; exact hQ
  apply w_number_in
  unfold z_number_in
  rw [kMinus, kDigs, kZero]
  (repeat' (first | refine Sl_to (by omega) (by decide) ?_ | refine Cp_eqS s1 (by decide) ?_ | refine Sl_sgn (by omega) ?_ | refine Bs_lenS (by omega) ?_ | apply It_str | fail "q1" | fail "q2" | fail "q3" | fail))
  · rename_i h1 h2
    refine CfMap (h := fun c => .bl (isDig c)) (by omega) (fun x hx => ?_) ?_
    · (repeat' (first | refine Cp_inF rfl ?_ | fail "q1" | fail "q2" | fail "q3" | fail))
      exact ⟨rfl, rfl⟩
    have e : (figs a).map (fun c => D.bl (isDig c)) = ((figs a).map isDig).map D.bl := by rw [List.map_map]; rfl
    rw [e]
    (repeat' (first | apply Bs_all | fail "q1" | fail "q2" | fail "q3" | fail))
    rw [map_all]
    cases al : (figs a).all isDig with
    | false =>
      (repeat' (first | fail "q1" | fail "q2" | fail "q3" | fail))
      exact non (fun z => by rw [al] at z; exact absurd z.2.2 (by decide))
    | true =>
      rcases num_out (m := m) (by omega) (by omega) al with ⟨t, e1, e2, e3⟩ | ⟨c, t, i, e1, e2, e3⟩
      · rw [e3] at hQ
        (repeat' (first | refine Ix_str0 (by omega) e1 ?_ | refine Cp_eqS (by decide) (by decide) ?_ | refine Cp_neS hs (by decide) ?_ | refine Br_t (by rw [decide_eq_false e2]; rfl) ?_ | fail "q1" | fail "q2" | fail "q3" | fail))
        exact hQ
      · have n := numOf_some e3
        have nl := n.len
        rw [e3] at hQ
        have sc : sOk [c] = true := sOk_sub (fun x hx => by
          rw [List.mem_singleton.mp hx, e1]
          exact List.mem_cons_self ..) (figs_sub hs)
        by_cases c0 : c = 48
        · (repeat' (first | refine Ix_str0 (by omega) e1 ?_ | refine Cp_eqS sc (by decide) ?_ | refine Cp_neS hs (by decide) ?_ | refine Br_t (decide_eq_true (by rw [c0])) ?_ | refine Br_f (by rw [decide_eq_true (e2 c0)]; rfl) ?_ | refine Bs_intS (by omega) (n.int hm) ?_ | fail "q1" | fail "q2" | fail "q3" | fail))
          exact hQ
        · (repeat' (first | refine Ix_str0 (by omega) e1 ?_ | refine Cp_eqS sc (by decide) ?_ | refine Br_f (decide_eq_false (fun z => c0 (by injection z))) ?_ | refine Bs_intS (by omega) (n.int hm) ?_ | fail "q1" | fail "q2" | fail "q3" | fail))
          exact hQ
  all_goals exact non (fun z => by omega)
theorem strs_eq {S : Store} {a : List Nat} (h : sOk a = true) : EqOk S (.lst (a.map fun c => .str ⟨#[c]⟩)) := by
  refine EqOk.of (n := 1) ?_ (by decide)
  show fines 0 _ = true
  refine fines_all fun x hx => ?_
  obtain ⟨c, hc, rfl⟩ := List.mem_map.mp hx
  exact fine_S (a := [c]) (sOk_sub (fun x hx => by rw [List.mem_singleton.mp hx]; exact hc) h)
theorem fM_filter (p : Nat → Bool) (a : List Nat) : a.filterMap (fun c => if p c = true then some (D.str ⟨#[c]⟩) else none) = (a.filter p).map fun c => .str ⟨#[c]⟩ := by
  induction a with
  | nil => rfl
  | cons c a ih =>
    rw [List.filterMap_cons, List.filter_cons]
    cases h : p c with
    | true => simp only [if_true, ih, List.map_cons]
    | false =>
      show List.filterMap _ a = List.map _ (if false = true then _ else _)
      rw [ih]; rfl
theorem empty_iff {S : Store} {a : List Nat} {PB : Bool → Prop} (p : Nat → Bool) (ha : sOk a = true) (h : PB (a.all fun c => !p c)) : Cp S .Eq (.lst ((a.filter p).map fun c => .str ⟨#[c]⟩)) (.lst []) PB := by
  refine Cp_eq (strs_eq (sOk_sub (fun c hc => (List.mem_filter.mp hc).1) ha)) (EqOk.of (n := 1) rfl (by decide)) (fun e => ?_) (fun e => ?_)
  · injection e with e
    have e := List.map_eq_nil_iff.mp e
    have : (a.all fun c => !p c) = true := by
      rw [List.all_eq_true]
      intro c hc
      have := (List.filter_eq_nil_iff.mp e) c hc
      cases q : p c
      · rfl
      · exact absurd q this
    rw [this] at h; exact h
  · have : (a.all fun c => !p c) = false := by
      rw [List.all_eq_false]
      cases q : a.filter p with
      | nil => rw [q] at e; exact absurd rfl e
      | cons c t =>
        have m := List.mem_filter.mp (show c ∈ a.filter p by rw [q]; exact List.mem_cons_self ..)
        exact ⟨c, m.1, by rw [m.2]; decide⟩
    rw [this] at h; exact h
theorem nempty_iff {S : Store} {a : List Nat} {PB : Bool → Prop} (p : Nat → Bool) (ha : sOk a = true) (h : PB (!(a.all fun c => !p c))) : Cp S .NotEq (.lst ((a.filter p).map fun c => .str ⟨#[c]⟩)) (.lst []) PB := by
  obtain ⟨k, e, rfl⟩ := (empty_iff (S := S) (PB := fun k => k = a.all fun c => !p c) p ha rfl).out
  refine Cp_by (k := !(a.all fun c => !p c)) ?_ h
  show (eqD S _ _).map (! ·) = _
  rw [show eqD S (.lst ((a.filter p).map fun c => .str ⟨#[c]⟩)) (.lst []) = some _ from e]; rfl
theorem lnum_w {S : Store} {a : List Nat} (hl : a.length ≤ 99999) (hs : sOk a = true) {Qd : D → Store → Prop} {E : EX} (hQ : Qd (dOpt (numOf 9 a)) S) : W (m__law_number [dS a] S) Qd E := by
  have s1 : sOk (a.take (1 : Int).toNat) = true := sOk_sub (fun c hc => List.mem_of_mem_take hc) hs
  have fl := figs_len a
  have fs := figs_sub hs
  have non : ¬ (1 ≤ (figs a).length ∧ (figs a).length ≤ 9 ∧ (figs a).all isDig = true) → Qd .non S := fun z => by rw [num_non z] at hQ; exact hQ
  apply w__law_number
  unfold z__law_number
  rw [kMinus, kDigs, kZero, kNil']
  (repeat' (first | refine Sl_to (by omega) (by decide) ?_ | refine Cp_eqS s1 (by decide) ?_ | refine Sl_sgn (by omega) ?_ | refine Cp_eqS fs (by decide) ?_ | fail "q1" | fail "q2" | fail "q4" | fail))
  by_cases g1 : figs a = []
  · refine Br_t (decide_eq_true g1) ?_
    (repeat' (first | fail "q1" | fail "q2" | fail "q3" | fail))
    exact non (fun z => by rw [g1] at z; exact absurd z.1 (by decide))
  refine Br_f (decide_eq_false g1) ?_
  have g2 : 1 ≤ (figs a).length := by
    cases e : figs a with
    | nil => exact absurd e g1
    | cons _ _ => simp
  (repeat' (first | refine Bs_lenS (by omega) ?_ | apply It_str | fail "q1" | fail "q2" | fail "q3" | fail))
  · exact non (fun z => by omega)
  · rename_i h2
    refine CfFM (q := fun c => if (!isDig c) = true then some (.str ⟨#[c]⟩) else none) (by omega) (fun x hx => ?_) ?_
    · cases q : isDig x with
      | true =>
        (repeat' (first | refine Cp_ninF ?_ | refine Br_f (by rw [q]; rfl) ?_ | fail "q1" | fail "q2" | fail "q3" | fail))
        exact ⟨rfl, rfl⟩
      | false =>
        (repeat' (first | refine Cp_ninF ?_ | refine Br_t (by rw [q]; rfl) ?_ | fail "q1" | fail "q2" | fail "q3" | fail))
        exact ⟨rfl, rfl⟩
    rw [fM_filter (fun c => !isDig c)]
    have e0 : ((figs a).all fun c => !!isDig c) = (figs a).all isDig := by congr 1; funext c; rw [Bool.not_not]
    (repeat' (first | refine nempty_iff (fun c => !isDig c) fs ?_ | fail "q1" | fail "q2" | fail "q3" | fail))
    rw [e0]
    cases al : (figs a).all isDig with
    | false =>
      (repeat' (first | fail "q1" | fail "q2" | fail "q3" | fail))
      exact non (fun z => by rw [al] at z; exact absurd z.2.2 (by decide))
    | true =>
      rcases num_out (m := 9) (by omega) (by omega) al with ⟨t, e1, e2, e3⟩ | ⟨c, t, i, e1, e2, e3⟩
      · rw [e3] at hQ
        (repeat' (first | refine Ix_str0 (by omega) e1 ?_ | refine Cp_eqS (by decide) (by decide) ?_ | refine Cp_neS hs (by decide) ?_ | refine Br_t (by rw [decide_eq_false e2]; rfl) ?_ | fail "q1" | fail "q2" | fail "q3" | fail))
        exact hQ
      · have n := numOf_some e3
        have nl := n.len
        rw [e3] at hQ
        have sc : sOk [c] = true := sOk_sub (fun x hx => by
          rw [List.mem_singleton.mp hx, e1]
          exact List.mem_cons_self ..) fs
        by_cases c0 : c = 48
        · (repeat' (first | refine Ix_str0 (by omega) e1 ?_ | refine Cp_eqS sc (by decide) ?_ | refine Cp_neS hs (by decide) ?_ | refine Br_t (decide_eq_true (by rw [c0])) ?_ | refine Br_f (by rw [decide_eq_true (e2 c0)]; rfl) ?_ | refine Bs_intS (by omega) (n.int (by decide)) ?_ | fail "q1" | fail "q2" | fail "q3" | fail))
          exact hQ
        · (repeat' (first | refine Ix_str0 (by omega) e1 ?_ | refine Cp_eqS sc (by decide) ?_ | refine Br_f (decide_eq_false (fun z => c0 (by injection z))) ?_ | refine Bs_intS (by omega) (n.int (by decide)) ?_ | fail "q1" | fail "q2" | fail "q3" | fail))
          exact hQ
theorem lname_w {S : Store} {a : List Nat} (hl : a.length ≤ 99999) (hs : sOk a = true) {Qd : D → Store → Prop} {E : EX} (hQ : Qd (.bl (okName a)) S) : W (m__law_is_name [dS a] S) Qd E := by
  have no : ¬ (1 ≤ a.length ∧ a.length ≤ 8) → okName a = false := fun z => by
    unfold okName
    by_cases h1 : 1 ≤ a.length
    · rw [decide_eq_false (p := a.length ≤ 8) (by omega), Bool.false_and, Bool.and_false]
    · rw [decide_eq_false h1, Bool.false_and]
  have lt1 : ∀ c : Nat, cmpD S .Lt (.str ⟨#[c]⟩) (.str "a") = some (decide (c < 97)) := fun c => by
    show some (decide ([c] < (Str.ofString "a").cps.toList)) = _
    have : (Str.ofString "a").cps.toList = [97] := by decide +kernel
    rw [this]
    congr 1
    simp [List.cons_lt_cons_iff]
  have gt1 : ∀ c : Nat, cmpD S .Gt (.str ⟨#[c]⟩) (.str "z") = some (decide (122 < c)) := fun c => by
    show some (decide ((Str.ofString "z").cps.toList < [c])) = _
    have : (Str.ofString "z").cps.toList = [122] := by decide +kernel
    rw [this]
    congr 1
    simp [List.cons_lt_cons_iff]
  apply w__law_is_name
  unfold z__law_is_name
  (repeat' (first | refine Bs_lenS (by omega) ?_ | apply It_str | fail "q1" | fail "q2" | fail "q3" | fail))
  · rename_i h1 h2
    refine CfFM (q := fun c => if (!low26 c) = true then some (.str ⟨#[c]⟩) else none) (by omega) (fun x hx => ?_) ?_
    · by_cases q1 : x < 97
      · have q : low26 x = false := by unfold low26; rw [decide_eq_false (by omega)]; rfl
        (repeat' (first | refine Cp_by (lt1 _) ?_ | refine Cp_by (gt1 _) ?_ | fail "q1" | fail "q2" | fail "q3" | fail))
        rw [q]
        exact ⟨rfl, rfl⟩
      · by_cases q2 : 122 < x
        · have q : low26 x = false := by unfold low26; rw [decide_eq_false (p := x ≤ 122) (by omega), Bool.and_false]
          (repeat' (first | refine Cp_by (lt1 _) ?_ | refine Cp_by (gt1 _) ?_ | fail "q1" | fail "q2" | fail "q3" | fail))
          rw [q]
          exact ⟨rfl, rfl⟩
        · have q : low26 x = true := by unfold low26; rw [decide_eq_true (by omega), decide_eq_true (by omega)]; rfl
          (repeat' (first | refine Cp_by (lt1 _) ?_ | refine Cp_by (gt1 _) ?_ | fail "q1" | fail "q2" | fail "q3" | fail))
          rw [q]
          exact ⟨rfl, rfl⟩
    rw [fM_filter (fun c => !low26 c)]
    have e0 : (a.all fun c => !!low26 c) = okName a := by
      unfold okName
      rw [decide_eq_true (by omega), decide_eq_true (by omega), Bool.true_and, Bool.true_and]
      congr 1; funext c; rw [Bool.not_not]
    (repeat' (first | refine empty_iff (fun c => !low26 c) hs ?_ | fail "q1" | fail "q2" | fail "q3" | fail))
    rw [e0]
    exact hQ
  all_goals
    rw [no (by omega)] at hQ
    first | exact hQ | (rw [decide_eq_false (by omega)]; exact hQ)
theorem nin_w {S : Store} {a : List Nat} (hl : a.length ≤ 1000000) (hs : sOk a = true) {Qd : D → Store → Prop} {E : EX} (hQ : Qd (dOpt (numOf 9 a)) S) : W (n_number_in [dS a] S) Qd E := numin_w (m := 9) hl hs (by decide) hQ
theorem needT_w {S : Store} {Qd : D → Store → Prop} {E : EX} (hQ : Qd .non S) : W (m_needed [.bl true] S) Qd E := by
  apply w_needed
  unfold z_needed
  (repeat' (first | fail "q1" | fail "q2" | fail "q3" | fail))
  exact hQ
theorem needF_w {S : Store} {Qd : D → Store → Prop} {E : EX} (hE : E "NoText" S) : W (m_needed [.bl false] S) Qd E := by
  apply w_needed
  unfold z_needed
  (repeat' (first | fail "q1" | fail "q2" | fail "q3" | fail))
  exact finX_same hE
/-! statements in words -/
def stW : List (List Nat) → Option Sm
  | [w] => if w = cOwn then some .own else none
  | [w, x] => if w = cAdd then (numOf 9 x).map .add else if w = cSpin then (numOf 9 x).map .spin else none
  | [w, x, y] => if w = cMake then (if okName x = true ∧ okName y = true then some (.call false x y) else none) else if w = cAsk then (if okName x = true ∧ okName y = true then some (.call true x y) else none) else none
  | _ => none
theorem stW_2 (w x : List Nat) : stW [w, x] = (if w = cAdd then (numOf 9 x).map .add else if w = cSpin then (numOf 9 x).map .spin else none) := rfl
theorem stW_3 (w x y : List Nat) : stW [w, x, y] = (if w = cMake then (if okName x = true ∧ okName y = true then some (.call false x y) else none) else if w = cAsk then (if okName x = true ∧ okName y = true then some (.call true x y) else none) else none) := rfl
def stOf (q : List Nat) : Option Sm := stW (TL.spl [32] 0 [] q)
end QL

namespace QL
open PySem Q
/-! ### statements read, by the program and by the law -/
theorem stW_own {x : List Nat} {t : List (List Nat)} : stW (cOwn :: x :: t) = none := by
  rcases t with _ | ⟨y, _ | ⟨z, t⟩⟩
  · rw [stW_2, if_neg (by decide), if_neg (by decide)]
  · rw [stW_3, if_neg (by decide), if_neg (by decide)]
  · rfl
/-- a word of a number -/
structure NumW (w : List Nat) (f : Int → Sm) : Prop where
  add : (decide (w = cAdd) || decide (w = cSpin)) = true
  own : w ≠ cOwn
  sg : sOk w = true
  two : ∀ x, stW [w, x] = (numOf 9 x).map f
  out : ∀ i, dSm (f i) = .tup [dS w, .int i]
  non : ∀ r : List (List Nat), r.length ≠ 1 → stW (w :: r) = none
theorem numW_add : NumW cAdd .add := ⟨by decide, by decide, by decide, fun x => by rw [stW_2, if_pos rfl], fun _ => rfl, fun r h => by
  rcases r with _ | ⟨x, _ | ⟨y, _ | ⟨z, t⟩⟩⟩
  · rfl
  · exact absurd rfl h
  · rw [stW_3, if_neg (by decide), if_neg (by decide)]
  · rfl⟩
theorem numW_spin : NumW cSpin .spin := ⟨by decide, by decide, by decide, fun x => by
  rw [stW_2, if_neg (by decide), if_pos rfl], fun _ => rfl, fun r h => by
  rcases r with _ | ⟨x, _ | ⟨y, _ | ⟨z, t⟩⟩⟩
  · rfl
  · exact absurd rfl h
  · rw [stW_3, if_neg (by decide), if_neg (by decide)]
  · rfl⟩
structure CallW (w : List Nat) (b : Bool) : Prop where
  mk_ : (decide (w = cMake) || decide (w = cAsk)) = true
  add : (decide (w = cAdd) || decide (w = cSpin)) = false
  own : w ≠ cOwn
  sg : sOk w = true
  thr : ∀ x y, stW [w, x, y] = if okName x = true ∧ okName y = true then some (.call b x y) else none
  out : ∀ x y, dSm (.call b x y) = .tup [dS w, dS x, dS y]
  non : ∀ r : List (List Nat), r.length ≠ 2 → stW (w :: r) = none
theorem callW_make : CallW cMake false := ⟨by decide, by decide, by decide, by decide, fun x y => by rw [stW_3, if_pos rfl], fun _ _ => rfl, fun r h => by
  rcases r with _ | ⟨x, _ | ⟨y, _ | ⟨z, t⟩⟩⟩
  · rfl
  · rw [stW_2, if_neg (by decide), if_neg (by decide)]
  · exact absurd rfl h
  · rfl⟩
theorem callW_ask : CallW cAsk true := ⟨by decide, by decide, by decide, by decide, fun x y => by
  rw [stW_3, if_neg (by decide), if_pos rfl], fun _ _ => rfl, fun r h => by
  rcases r with _ | ⟨x, _ | ⟨y, _ | ⟨z, t⟩⟩⟩
  · rfl
  · rw [stW_2, if_neg (by decide), if_neg (by decide)]
  · exact absurd rfl h
  · rfl⟩
theorem stW_oth {w : List Nat} {r : List (List Nat)} (h0 : w ≠ cOwn) (h1 : w ≠ cAdd) (h2 : w ≠ cSpin) (h3 : w ≠ cMake) (h4 : w ≠ cAsk) : stW (w :: r) = none := by
  rcases r with _ | ⟨x, _ | ⟨y, _ | ⟨z, t⟩⟩⟩
  · exact if_neg h0
  · rw [stW_2, if_neg h1, if_neg h2]
  · rw [stW_3, if_neg h3, if_neg h4]
  · rfl
/-- which word stands ahead -/
theorem word_is (w : List Nat) : w = cOwn ∨ (∃ f, NumW w f) ∨ (∃ b, CallW w b) ∨ (w ≠ cOwn ∧ (decide (w = cAdd) || decide (w = cSpin)) = false ∧ (decide (w = cMake) || decide (w = cAsk)) = false ∧ ∀ r, stW (w :: r) = none) := by
  by_cases h0 : w = cOwn
  · exact .inl h0
  by_cases h1 : w = cAdd
  · exact .inr (.inl ⟨_, h1 ▸ numW_add⟩)
  by_cases h2 : w = cSpin
  · exact .inr (.inl ⟨_, h2 ▸ numW_spin⟩)
  by_cases h3 : w = cMake
  · exact .inr (.inr (.inl ⟨_, h3 ▸ callW_make⟩))
  by_cases h4 : w = cAsk
  · exact .inr (.inr (.inl ⟨_, h4 ▸ callW_ask⟩))
  exact .inr (.inr (.inr ⟨h0, by rw [decide_eq_false h1, decide_eq_false h2]; rfl, by rw [decide_eq_false h3, decide_eq_false h4]; rfl, fun r => stW_oth h0 h1 h2 h3 h4⟩))
section
variable {S : Store} {q w : List Nat} {r : List (List Nat)}
theorem st_w (ea : TL.spl [32] 0 [] q = w :: r) (hl : q.length ≤ 90000) (hs : ∀ a ∈ w :: r, a.length ≤ 99999 ∧ sOk a = true) {Qd : D → Store → Prop} {E : EX} (hQ : ∀ m, stW (w :: r) = some m → Qd (dSm m) S) (hE : stW (w :: r) = none → E "NoText" S) : W (m_statement_in [dS q] S) Qd E := by
  have sw := (hs w (List.mem_cons_self ..)).2
  have ix0 : ∀ {R : D → Prop}, R (dS w) → IxP S (.lst ((w :: r).map dS)) (.int 0) R := fun hr => Ix_by (x' := dS w) atI_zero hr
  have so : sOk cOwn = true := by decide
  have lm : ((w :: r).map dS).length = r.length + 1 := by simp
  apply w_statement_in
  unfold z_statement_in
  rw [kSp, kOwn, kAdd, kSpin, kMake, kAsk]
  rcases word_is w with rfl | ⟨f, n⟩ | ⟨b, n⟩ | ⟨h0, h1, h2, h3⟩
  · (repeat' (first | refine Mt_splitq (by decide) (by decide) (by omega) ea ?_ | (with_reducible refine ix0 ?_) | refine Cp_eqS so so ?_ | fail "q1" | fail "q2" | fail "q4" | fail))
    cases r with
    | nil =>
      refine needT_w ?_
      (repeat' (first | fail "q1" | fail "q2" | fail "q4" | fail))
      exact hQ .own rfl
    | cons x t =>
      rw [lm, decide_eq_false (by simp only [List.length_cons]; omega)]
      refine needF_w ?_
      exact finX_same (hE stW_own)
  · (repeat' (first | refine Mt_splitq (by decide) (by decide) (by omega) ea ?_ | (with_reducible refine ix0 ?_) | refine Cp_eqS sw so ?_ | refine Br_f (decide_eq_false n.own) ?_ | refine Cp_in2 sw (by decide) (by decide) ?_ | refine Br_t n.add ?_ | fail "q1" | fail "q2" | fail "q4" | fail))
    rw [lm]
    rcases r with _ | ⟨x, _ | ⟨y, t⟩⟩
    · (repeat' (first | fail "q1" | fail "q2" | fail "q4" | fail))
      refine needF_w ?_
      exact finX_same (hE (n.non [] (by decide)))
    · have hx := hs x (by simp)
      have ix1 : ∀ {R : D → Prop}, R (dS x) → IxP S (.lst (([w, x] : List (List Nat)).map dS)) (.int 1) R := fun hr => Ix_by (x' := dS x) rfl hr
      (repeat' (first | (with_reducible refine ix1 ?_) | (with_reducible refine nin_w (by omega) hx.2 ?_) | fail "q1" | fail "q2" | fail "q4" | fail))
      cases e : numOf 9 x with
      | none =>
        (repeat' (first | refine Cp_by (k := false) rfl ?_ | fail "q1" | fail "q2" | fail "q4" | fail))
        refine needF_w ?_
        exact finX_same (hE (by rw [n.two, e]; rfl))
      | some i =>
        (repeat' (first | refine Cp_by (k := true) rfl ?_ | fail "q1" | fail "q2" | fail "q4" | fail))
        refine needT_w ?_
        (repeat' (first | (with_reducible refine ix0 ?_) | (with_reducible refine ix1 ?_) | (with_reducible refine nin_w (by omega) hx.2 ?_) | fail "q1" | fail "q2" | fail "q4" | fail))
        rw [e]
        (repeat' (first | fail "q1" | fail "q2" | fail "q4" | fail))
        have := hQ (f i) (by rw [n.two, e]; rfl)
        rw [n.out] at this
        exact this
    · rw [decide_eq_false (by simp only [List.length_cons]; omega)]
      (repeat' (first | fail "q1" | fail "q2" | fail "q4" | fail))
      refine needF_w ?_
      exact finX_same (hE (n.non _ (by simp)))
  · (repeat' (first | refine Mt_splitq (by decide) (by decide) (by omega) ea ?_ | (with_reducible refine ix0 ?_) | refine Cp_eqS sw so ?_ | refine Br_f (decide_eq_false n.own) ?_ | refine Cp_in2 sw (by decide) (by decide) ?_ | refine Br_f n.add ?_ | refine Br_t n.mk_ ?_ | fail "q1" | fail "q2" | fail "q4" | fail))
    rw [lm]
    rcases r with _ | ⟨x, _ | ⟨y, _ | ⟨z, t⟩⟩⟩
    · (repeat' (first | fail "q1" | fail "q2" | fail "q4" | fail))
      refine needF_w ?_
      exact finX_same (hE (n.non [] (by decide)))
    · (repeat' (first | fail "q1" | fail "q2" | fail "q4" | fail))
      refine needF_w ?_
      exact finX_same (hE (n.non [x] (by simp)))
    · have hx := hs x (by simp)
      have hy := hs y (by simp)
      have ix1 : ∀ {R : D → Prop}, R (dS x) → IxP S (.lst (([w, x, y] : List (List Nat)).map dS)) (.int 1) R := fun hr => Ix_by (x' := dS x) rfl hr
      have ix2 : ∀ {R : D → Prop}, R (dS y) → IxP S (.lst (([w, x, y] : List (List Nat)).map dS)) (.int 2) R := fun hr => Ix_by (x' := dS y) rfl hr
      (repeat' (first | (with_reducible refine ix1 ?_) | (with_reducible refine name_w (by omega) ?_) | fail "q1" | fail "q2" | fail "q4" | fail))
      cases e1 : okName x with
      | false =>
        (repeat' (first | fail "q1" | fail "q2" | fail "q4" | fail))
        refine needF_w ?_
        exact finX_same (hE (by rw [n.thr, if_neg (fun z => by rw [e1] at z; exact absurd z.1 (by decide))]))
      | true =>
        (repeat' (first | (with_reducible refine ix2 ?_) | (with_reducible refine name_w (by omega) ?_) | fail "q1" | fail "q2" | fail "q4" | fail))
        cases e2 : okName y with
        | false =>
          refine needF_w ?_
          exact finX_same (hE (by rw [n.thr, if_neg (fun z => by rw [e2] at z; exact absurd z.2 (by decide))]))
        | true =>
          refine needT_w ?_
          (repeat' (first | refine Bs_by (x := .tup ([w, x, y].map dS)) rfl ?_ | fail "q1" | fail "q2" | fail "q4" | fail))
          have := hQ (.call b x y) (by rw [n.thr, if_pos ⟨e1, e2⟩])
          rw [n.out] at this
          exact this
    · rw [decide_eq_false (by simp only [List.length_cons]; omega)]
      (repeat' (first | fail "q1" | fail "q2" | fail "q4" | fail))
      refine needF_w ?_
      exact finX_same (hE (n.non _ (by simp)))
  · (repeat' (first | refine Mt_splitq (by decide) (by decide) (by omega) ea ?_ | (with_reducible refine ix0 ?_) | refine Cp_eqS sw so ?_ | refine Br_f (decide_eq_false h0) ?_ | refine Cp_in2 sw (by decide) (by decide) ?_ | refine Br_f h1 ?_ | refine Br_f h2 ?_ | fail "q1" | fail "q2" | fail "q4" | fail))
    rw [h2]
    refine needF_w ?_
    exact finX_same (hE (h3 r))
end
end QL

namespace QL
open PySem Q
/-! ### statements by the law's own reading -/
def dSt : Option Sm → D
  | some m => dSm m
  | none => .non
theorem map_dS_inj {a b : List (List Nat)} (h : a.map dS = b.map dS) : a = b := by
  induction a generalizing b with
  | nil => cases b with
    | nil => rfl
    | cons _ _ => cases h
  | cons x a ih => cases b with
    | nil => cases h
    | cons y b =>
      rw [List.map_cons, List.map_cons] at h
      injection h with h1 h2
      rw [dS_inj h1, ih h2]
theorem Cp_eqL {S : Store} {a b : List (List Nat)} {PB : Bool → Prop} (ha : ∀ x ∈ a, sOk x = true) (hb : ∀ x ∈ b, sOk x = true) (h : PB (decide (a = b))) : Cp S .Eq (.lst (a.map dS)) (.lst (b.map dS)) PB := by
  refine Cp_eq (EqOk.of (n := 1) (fines_S ha) (by decide)) (EqOk.of (n := 1) (fines_S hb) (by decide)) (fun e => ?_) (fun e => ?_)
  · injection e with e
    rw [decide_eq_true (map_dS_inj e)] at h; exact h
  · rw [decide_eq_false (fun z => e (by rw [z]))] at h; exact h
theorem Cp_nin2 {S : Store} {a b c : List Nat} {PB : Bool → Prop} (ha : sOk a = true) (hb : sOk b = true) (hc : sOk c = true) (h : PB (!(decide (a = b) || decide (a = c)))) : Cp S .NotIn (dS a) (.tup [dS b, dS c]) PB := by
  obtain ⟨k, e, rfl⟩ := (Cp_in2 (S := S) (PB := fun k => k = (decide (a = b) || decide (a = c))) ha hb hc rfl).out
  refine Cp_by (k := !(decide (a = b) || decide (a = c))) ?_ h
  show (inD S (dS a) (.tup [dS b, dS c])).map (! ·) = _
  rw [show inD S (dS a) (.tup [dS b, dS c]) = some _ from e]; rfl
section
variable {S : Store} {q w : List Nat} {r : List (List Nat)}
theorem lst_w (ea : TL.spl [32] 0 [] q = w :: r) (hl : q.length ≤ 90000) (hs : ∀ a ∈ w :: r, a.length ≤ 99999 ∧ sOk a = true) {Qd : D → Store → Prop} {E : EX} (hQ : Qd (dSt (stW (w :: r))) S) : W (m__law_statement [dS q] S) Qd E := by
  have sw := (hs w (List.mem_cons_self ..)).2
  have ix0 : ∀ {R : D → Prop}, R (dS w) → IxP S (.lst ((w :: r).map dS)) (.int 0) R := fun hr => Ix_by (x' := dS w) atI_zero hr
  have so : sOk cOwn = true := by decide
  have lm : ((w :: r).map dS).length = r.length + 1 := by simp
  have eqo : ∀ {PB : Bool → Prop}, PB (decide (w :: r = [cOwn])) → Cp S .Eq (.lst ((w :: r).map dS)) (.lst [dS cOwn]) PB := fun h => Cp_eqL (b := [cOwn]) (fun x hx => (hs x hx).2) (by decide) h
  apply w__law_statement
  unfold z__law_statement
  rw [kSp, kOwn, kAdd, kSpin, kMake, kAsk]
  (repeat' (first | refine Mt_splitq (by decide) (by decide) (by omega) ea ?_ | (with_reducible refine eqo ?_) | fail "q1" | fail "q2" | fail "q4" | fail))
  rcases word_is w with rfl | ⟨f, n⟩ | ⟨b, n⟩ | ⟨h0, h1, h2, h3⟩
  · cases r with
    | nil =>
      (repeat' (first | fail "q1" | fail "q2" | fail "q4" | fail))
      exact hQ
    | cons x t =>
      rw [stW_own] at hQ
      refine Br_f (decide_eq_false (by simp)) ?_
      (repeat' (first | (with_reducible refine ix0 ?_) | refine Cp_in2 sw (by decide) (by decide) ?_ | refine Cp_nin2 sw (by decide) (by decide) ?_ | fail "q1" | fail "q2" | fail "q4" | fail))
      exact hQ
  · refine Br_f (decide_eq_false (fun z => n.own (by injection z))) ?_
    (repeat' (first | (with_reducible refine ix0 ?_) | refine Cp_in2 sw (by decide) (by decide) ?_ | refine Br_t n.add ?_ | fail "q1" | fail "q2" | fail "q4" | fail))
    rw [lm]
    rcases r with _ | ⟨x, _ | ⟨y, t⟩⟩
    · rw [n.non [] (by decide)] at hQ
      (repeat' (first | fail "q1" | fail "q2" | fail "q4" | fail))
      exact hQ
    · have hx := hs x (by simp)
      have ix1 : ∀ {R : D → Prop}, R (dS x) → IxP S (.lst (([w, x] : List (List Nat)).map dS)) (.int 1) R := fun hr => Ix_by (x' := dS x) rfl hr
      rw [n.two] at hQ
      (repeat' (first | (with_reducible refine ix1 ?_) | (with_reducible refine lnum_w hx.1 hx.2 ?_) | fail "q1" | fail "q2" | fail "q4" | fail))
      cases e : numOf 9 x with
      | none =>
        rw [e] at hQ
        (repeat' (first | refine Cp_by (k := true) rfl ?_ | fail "q1" | fail "q2" | fail "q4" | fail))
        exact hQ
      | some i =>
        rw [e] at hQ
        (repeat' (first | refine Cp_by (k := false) rfl ?_ | (with_reducible refine ix0 ?_) | (with_reducible refine ix1 ?_) | (with_reducible refine lnum_w hx.1 hx.2 ?_) | fail "q1" | fail "q2" | fail "q4" | fail))
        rw [e]
        (repeat' (first | fail "q1" | fail "q2" | fail "q4" | fail))
        have hQ : Qd (dSm (f i)) S := hQ
        rw [n.out] at hQ
        exact hQ
    · rw [n.non _ (by simp)] at hQ
      refine Br_f (decide_eq_false (by simp only [List.length_cons]; omega)) ?_
      (repeat' (first | fail "q1" | fail "q2" | fail "q4" | fail))
      exact hQ
  · refine Br_f (decide_eq_false (fun z => n.own (by injection z))) ?_
    (repeat' (first | (with_reducible refine ix0 ?_) | refine Cp_in2 sw (by decide) (by decide) ?_ | refine Cp_nin2 sw (by decide) (by decide) ?_ | refine Br_f n.add ?_ | fail "q1" | fail "q2" | fail "q4" | fail))
    refine Br_t n.mk_ ?_
    (repeat' (first | fail "q1" | fail "q2" | fail "q4" | fail))
    rw [lm]
    rcases r with _ | ⟨x, _ | ⟨y, _ | ⟨z, t⟩⟩⟩
    · rw [n.non [] (by decide)] at hQ
      (repeat' (first | fail "q1" | fail "q2" | fail "q4" | fail))
      exact hQ
    · rw [n.non [x] (by simp)] at hQ
      (repeat' (first | fail "q1" | fail "q2" | fail "q4" | fail))
      exact hQ
    · have hx := hs x (by simp)
      have hy := hs y (by simp)
      have ix1 : ∀ {R : D → Prop}, R (dS x) → IxP S (.lst (([w, x, y] : List (List Nat)).map dS)) (.int 1) R := fun hr => Ix_by (x' := dS x) rfl hr
      have ix2 : ∀ {R : D → Prop}, R (dS y) → IxP S (.lst (([w, x, y] : List (List Nat)).map dS)) (.int 2) R := fun hr => Ix_by (x' := dS y) rfl hr
      rw [n.thr] at hQ
      (repeat' (first | (with_reducible refine ix1 ?_) | (with_reducible refine lname_w hx.1 hx.2 ?_) | fail "q1" | fail "q2" | fail "q4" | fail))
      cases e1 : okName x with
      | false =>
        rw [if_neg (fun z => by rw [e1] at z; exact absurd z.1 (by decide))] at hQ
        (repeat' (first | fail "q1" | fail "q2" | fail "q4" | fail))
        exact hQ
      | true =>
        (repeat' (first | (with_reducible refine ix2 ?_) | (with_reducible refine lname_w hy.1 hy.2 ?_) | fail "q1" | fail "q2" | fail "q4" | fail))
        cases e2 : okName y with
        | false =>
          rw [if_neg (fun z => by rw [e2] at z; exact absurd z.2 (by decide))] at hQ
          (repeat' (first | fail "q1" | fail "q2" | fail "q4" | fail))
          exact hQ
        | true =>
          rw [if_pos ⟨e1, e2⟩] at hQ
          (repeat' (first | refine Bs_by (x := .tup ([w, x, y].map dS)) rfl ?_ | fail "q1" | fail "q2" | fail "q4" | fail))
          have hQ : Qd (dSm (.call b x y)) S := hQ
          rw [n.out] at hQ
          exact hQ
    · rw [n.non _ (by simp)] at hQ
      refine Br_f (decide_eq_false (by simp only [List.length_cons]; omega)) ?_
      (repeat' (first | fail "q1" | fail "q2" | fail "q4" | fail))
      exact hQ
  · refine Br_f (decide_eq_false (fun z => h0 (by injection z))) ?_
    (repeat' (first | (with_reducible refine ix0 ?_) | refine Cp_in2 sw (by decide) (by decide) ?_ | refine Cp_nin2 sw (by decide) (by decide) ?_ | refine Br_f h1 ?_ | fail "q1" | fail "q2" | fail "q4" | fail))
    rw [h3] at hQ
    first | exact hQ | (rw [h2]; (repeat' (first | fail "q1" | fail "q2" | fail "q4" | fail)); exact hQ)
end
/-! works and starts in rows -/
def mapO {α β : Type} (f : α → Option β) : List α → Option (List β)
  | [] => some []
  | x :: xs => match f x, mapO f xs with
    | some y, some ys => some (y :: ys)
    | _, _ => none
def workW (p : List (List Nat)) (b : List (List Nat)) : Option Wk :=
  match p with
  | [w, n] => if w = cWork ∧ okName n = true then (mapO stOf b).map fun ss => (n, ss) else none
  | _ => none
def workOf (row : List Nat) : Option Wk :=
  match TL.spl [32, 59, 32] 0 [] row with
  | p :: b => workW (TL.spl [32] 0 [] p) b
  | [] => none
def startW : List (List Nat) → Option (List Nat × List Nat × Int)
  | [w, a, n, x] => if w = cStart ∧ okName a = true ∧ okName n = true then (numOf 9 x).map fun k => (a, n, k) else none
  | _ => none
def startOf (row : List Nat) : Option (List Nat × List Nat × Int) := startW (TL.spl [32] 0 [] row)
def housesW : List (List Nat) → Option (List (List Nat))
  | w :: h :: hs => if w = cHouses ∧ (h :: hs).all okName = true then some (h :: hs) else none
  | _ => none
def wr : Option (List (List Nat)) → Option (List Wk) → Option (List Nat × List Nat × Int) → Option (List (List Nat) × List Wk × List Nat × List Nat × Int)
  | some hs, some ws, some (a, n, k) => some (hs, ws, a, n, k)
  | _, _, _ => none
/-- what a text of works writes -/
def written (tx : List Nat) : Option (List (List Nat) × List Wk × List Nat × List Nat × Int) :=
  match TL.spl [10] 0 [] tx with
  | f :: r => wr (housesW (TL.spl [32] 0 [] f)) (mapO workOf r.dropLast) (r.getLast?.bind startOf)
  | [] => none
end QL

namespace QL
open PySem Q
/-! ### rows of works read -/
theorem spl_size {S : List Nat} (hS : S ≠ []) : ∀ (n : Nat) (l acc : List Nat), l.length ≤ n → (TL.spl S 0 acc l).length ≤ l.length + 1 ∧ ∀ p ∈ TL.spl S 0 acc l, p.length ≤ acc.length + l.length
  | 0, l, acc, h => by
    have : l = [] := List.eq_nil_of_length_eq_zero (by omega)
    subst this
    rw [TL.spl_nil]
    exact ⟨by simp, fun p hp => by rw [List.mem_singleton.mp hp]; simp⟩
  | n + 1, l, acc, h => by
    rcases spl_par hS l acc with ⟨-, e⟩ | ⟨p, q, -, e, e2, lt⟩
    · rw [e]
      exact ⟨by simp, fun p hp => by rw [List.mem_singleton.mp hp, List.length_append]; exact Nat.le_refl _⟩
    · obtain ⟨h1, h2⟩ := spl_size hS n q [] (by omega)
      have := congrArg List.length e2
      simp only [List.length_append] at this
      rw [e]
      refine ⟨by rw [List.length_cons]; omega, fun r hr => ?_⟩
      rcases List.mem_cons.mp hr with rfl | hr
      · omega
      · have := h2 r hr
        simp only [List.length_nil] at this
        omega
theorem spl_parts {S a : List Nat} (hS : S ≠ []) (hl : a.length ≤ 90000) (ha : sOk a = true) : (TL.spl S 0 [] a).length ≤ 90001 ∧ ∀ p ∈ TL.spl S 0 [] a, p.length ≤ 90000 ∧ sOk p = true := by
  obtain ⟨h1, h2⟩ := spl_size hS a.length a [] (Nat.le_refl _)
  refine ⟨by omega, fun p hp => ⟨by have := h2 p hp; simp only [List.length_nil] at this; omega, sOk_sub (fun c hc => ?_) ha⟩⟩
  rcases spl_mem hS a.length a [] (Nat.le_refl _) p hp c hc with z | z
  · simp at z
  · exact z
theorem spl_cons {S a : List Nat} (hS : S ≠ []) : ∃ w r, TL.spl S 0 [] a = w :: r := by
  have := spl_ne hS a []
  cases e : TL.spl S 0 [] a with
  | nil => exact absurd e this
  | cons w r => exact ⟨w, r, rfl⟩
section
variable {α β : Type} {f : α → Option β}
theorem mapO_snoc {xs : List α} {x : α} {ys : List β} {y : β} (h : mapO f xs = some ys) (hx : f x = some y) : mapO f (xs ++ [x]) = some (ys ++ [y]) := by
  induction xs generalizing ys with
  | nil => cases h; simp only [List.nil_append, mapO, hx]
  | cons z xs ih =>
    rw [List.cons_append]
    unfold mapO at h ⊢
    cases e1 : f z with
    | none => simp only [e1] at h; cases h
    | some v =>
      cases e2 : mapO f xs with
      | none => simp only [e1, e2] at h; cases h
      | some vs =>
        simp only [e1, e2] at h
        cases h
        rw [ih e2]
        rfl
theorem mapO_none {xs : List α} {x : α} (hm : x ∈ xs) (hx : f x = none) : mapO f xs = none := by
  induction xs with
  | nil => cases hm
  | cons z xs ih =>
    unfold mapO
    rcases List.mem_cons.mp hm with rfl | hm
    · simp only [hx]
    · rw [ih hm]
      cases f z <;> rfl
theorem mapO_all {xs : List α} (h : ∀ x ∈ xs, ∃ y, f x = some y) : ∃ ys, mapO f xs = some ys := by
  induction xs with
  | nil => exact ⟨[], rfl⟩
  | cons z xs ih =>
    obtain ⟨y, hy⟩ := h z (List.mem_cons_self ..)
    obtain ⟨ys, hys⟩ := ih fun x hx => h x (List.mem_cons_of_mem _ hx)
    exact ⟨y :: ys, by unfold mapO; rw [hy, hys]⟩
end
/-- a comprehension over texts whose turn may go out with an error -/
theorem CxO {β : Type} {S : Store} {xs : List (List Nat)} {g : β → D} (q : List Nat → Option β) {f : D → Store → Out (Option D)} {QL : List D → Store → Prop} {E : EX} (hl : xs.length < 100000)
    (step : ∀ w ∈ xs, ∀ {R : Option D → Store → Prop} {E' : EX}, (∀ y, q w = some y → R (some (g y)) S) → (q w = none → E' "NoText" S) → W (f (dS w) S) R E')
    (stop : ∀ ys, mapO q xs = some ys → QL (ys.map g) S) (hE : mapO q xs = none → E "NoText" S) : CfX ⟨xs.map dS, none, false⟩ f S QL E := by
  refine Cx_inv (it := ⟨xs.map dS, none, false⟩) (fun i acc S' => S' = S ∧ ∃ ys, mapO q (xs.take i) = some ys ∧ acc = ys.map g) (by show (xs.map dS).length < 100000; rw [List.length_map]; exact hl) ⟨rfl, [], rfl, rfl⟩ ?_ ?_
  · rintro i d acc S' hd ⟨rfl, ys, h1, rfl⟩ _
    have hd : (xs.map dS)[i]? = some d := hd
    rw [List.getElem?_map, Option.map_eq_some_iff] at hd
    obtain ⟨a, ha, rfl⟩ := hd
    have hm := List.mem_of_getElem? ha
    have ht : xs.take (i + 1) = xs.take i ++ [a] := by rw [List.take_succ, ha]; rfl
    refine step a hm (fun y hy => ?_) (fun hn => hE (mapO_none hm hn))
    refine ⟨rfl, ys ++ [y], ?_, by rw [List.map_append]; rfl⟩
    rw [ht]
    exact mapO_snoc h1 hy
  · rintro acc S' ⟨rfl, ys, h1, rfl⟩
    have : xs.take (Items.mk (xs.map dS) none false).xs.length = xs := List.take_of_length_le (by show _ ≤ (xs.map dS).length; rw [List.length_map]; exact Nat.le_refl _)
    rw [this] at h1
    exact stop ys h1
theorem stq_w {S : Store} {q : List Nat} (hl : q.length ≤ 90000) (sq : sOk q = true) {Qd : D → Store → Prop} {E : EX} (hQ : ∀ m, stOf q = some m → Qd (dSm m) S) (hE : stOf q = none → E "NoText" S) : W (m_statement_in [dS q] S) Qd E := by
  obtain ⟨w, r, e⟩ := spl_cons (S := [32]) (a := q) (by decide)
  have sp := spl_parts (S := [32]) (by decide) hl sq
  unfold stOf at hQ hE
  rw [e] at sp hQ hE
  exact st_w e hl (fun a ha => ⟨by have := (sp.2 a ha).1; omega, (sp.2 a ha).2⟩) hQ hE
theorem lstq_w {S : Store} {q : List Nat} (hl : q.length ≤ 90000) (sq : sOk q = true) {Qd : D → Store → Prop} {E : EX} (hQ : Qd (dSt (stOf q)) S) : W (m__law_statement [dS q] S) Qd E := by
  obtain ⟨w, r, e⟩ := spl_cons (S := [32]) (a := q) (by decide)
  have sp := spl_parts (S := [32]) (by decide) hl sq
  unfold stOf at hQ
  rw [e] at sp hQ
  exact lst_w e hl (fun a ha => ⟨by have := (sp.2 a ha).1; omega, (sp.2 a ha).2⟩) hQ
theorem workq_w {S : Store} {row : List Nat} (hl : row.length ≤ 90000) (sr : sOk row = true) {Qd : D → Store → Prop} {E : EX} (hQ : ∀ w, workOf row = some w → Qd (dWork w) S) (hE : workOf row = none → E "NoText" S) : W (m_work_in [dS row] S) Qd E := by
  obtain ⟨p, b, ep⟩ := spl_cons (S := [32, 59, 32]) (a := row) (by decide)
  have sp := spl_parts (S := [32, 59, 32]) (by decide) hl sr
  rw [ep] at sp
  have hp := sp.2 p (List.mem_cons_self ..)
  obtain ⟨w, r, ew⟩ := spl_cons (S := [32]) (a := p) (by decide)
  have sw := spl_parts (S := [32]) (by decide) hp.1 hp.2
  rw [ew] at sw
  have eo : workOf row = workW (w :: r) b := by unfold workOf; rw [ep]; show workW (TL.spl [32] 0 [] p) b = _; rw [ew]
  rw [eo] at hQ hE
  have hw := sw.2 w (List.mem_cons_self ..)
  have sk : sOk cWork = true := by decide
  have ixp : ∀ {R : D → Prop}, R (dS p) → IxP S (.lst ((p :: b).map dS)) (.int 0) R := fun hr => Ix_by (x' := dS p) atI_zero hr
  have ixw : ∀ {R : D → Prop}, R (dS w) → IxP S (.lst ((w :: r).map dS)) (.int 0) R := fun hr => Ix_by (x' := dS w) atI_zero hr
  have lm : ((w :: r).map dS).length = r.length + 1 := by simp
  have bl : b.length ≤ 90001 := by have := sp.1; rw [List.length_cons] at this; omega
  have cb : cut ((p :: b).map dS) (some 1) none = b.map dS := by
    have := cut_from ((p :: b).map dS) 1 (by simp)
    rw [show ((1 : Nat) : Int) = 1 from rfl] at this
    rw [this]; rfl
  apply w_work_in
  unfold z_work_in
  rw [kSemi, kSp, kWork]
  (repeat' (first | refine Mt_splitq (by decide) (by decide) (by omega) ep ?_ | (with_reducible refine ixp ?_) | refine Mt_splitq (by decide) (by decide) (by omega) ew ?_ | fail "q1" | fail "q2" | fail "q4" | fail))
  rw [lm]
  rcases r with _ | ⟨n, _ | ⟨x, t⟩⟩
  · (repeat' (first | fail "q1" | fail "q2" | fail "q4" | fail))
    refine needF_w ?_
    exact finX_same (hE rfl)
  · have hn := sw.2 n (by simp)
    have ixn : ∀ {R : D → Prop}, R (dS n) → IxP S (.lst (([w, n] : List (List Nat)).map dS)) (.int 1) R := fun hr => Ix_by (x' := dS n) rfl hr
    have e2 : workW [w, n] b = if w = cWork ∧ okName n = true then (mapO stOf b).map (fun ss => (n, ss)) else none := rfl
    rw [e2] at hQ hE
    by_cases c : w = cWork
    · (repeat' (first | (with_reducible refine ixw ?_) | refine Cp_eqS hw.2 sk ?_ | refine Br_t (decide_eq_true c) ?_ | (with_reducible refine ixn ?_) | (with_reducible refine name_w (by omega) ?_) | fail "q1" | fail "q2" | fail "q4" | fail))
      cases o : okName n with
      | false =>
        refine needF_w ?_
        exact finX_same (hE (if_neg (fun z => by rw [o] at z; exact absurd z.2 (by decide))))
      | true =>
        rw [if_pos ⟨c, o⟩] at hQ hE
        refine needT_w ?_
        (repeat' (first | (with_reducible refine ixn ?_) | (with_reducible apply GX_lcv) | fail "q1" | fail "q2" | fail "q4" | fail))
        rw [cb]
        refine CxO (g := dSm) stOf (by omega) (fun x hx => ?_) (fun ys h => ?_) (fun h => ?_)
        · intro R E' h1 h2
          have hxx := sp.2 x (List.mem_cons_of_mem _ hx)
          (repeat' (first | (with_reducible apply CtX_mk) | fail "q1" | fail "q2" | fail "q4" | fail))
          exact stq_w hxx.1 hxx.2 h1 h2
        · (repeat' (first | refine Bs_by (x := .tup (ys.map dSm)) rfl ?_ | fail "q1" | fail "q2" | fail "q4" | fail))
          exact hQ (n, ys) (by rw [h]; rfl)
        · exact finX_same (hE (by rw [h]; rfl))
    · (repeat' (first | (with_reducible refine ixw ?_) | refine Cp_eqS hw.2 sk ?_ | refine Br_f (decide_eq_false c) ?_ | fail "q1" | fail "q2" | fail "q4" | fail))
      rw [decide_eq_false c]
      refine needF_w ?_
      exact finX_same (hE (if_neg (fun z => c z.1)))
  · rw [decide_eq_false (by simp only [List.length_cons]; omega)]
    (repeat' (first | fail "q1" | fail "q2" | fail "q4" | fail))
    refine needF_w ?_
    exact finX_same (hE rfl)
end QL

namespace QL
open PySem Q
/-! ### rows by the law's own reading; starts -/
def dOptW : Option Wk → D
  | some w => dWork w
  | none => .non
theorem stW_fine {ws : List (List Nat)} {m : Sm} (h : stW ws = some m) : fine 1 (dSm m) = true := by
  rcases ws with _ | ⟨w, r⟩
  · cases h
  rcases word_is w with rfl | ⟨f, n⟩ | ⟨b, n⟩ | ⟨h0, h1, h2, h3⟩
  · cases r with
    | nil =>
      have h : some Sm.own = some m := h
      cases h
      decide +kernel
    | cons x t => rw [stW_own] at h; cases h
  · rcases r with _ | ⟨x, _ | ⟨y, t⟩⟩
    · rw [n.non [] (by decide)] at h; cases h
    · rw [n.two] at h
      cases e : numOf 9 x with
      | none => rw [e] at h; cases h
      | some i =>
        rw [e] at h
        cases h
        rw [n.out]
        show (fine 0 (dS w) && (true && true)) = true
        rw [fine_S n.sg]; rfl
    · rw [n.non _ (by simp)] at h; cases h
  · rcases r with _ | ⟨x, _ | ⟨y, _ | ⟨z, t⟩⟩⟩
    · rw [n.non [] (by decide)] at h; cases h
    · rw [n.non [x] (by simp)] at h; cases h
    · rw [n.thr] at h
      split at h
      · rename_i o
        cases h
        rw [n.out]
        show (fine 0 (dS w) && (fine 0 (dS x) && (fine 0 (dS y) && true))) = true
        rw [fine_S n.sg, fine_S (okName_s o.1), fine_S (okName_s o.2)]; rfl
      · cases h
    · rw [n.non _ (by simp)] at h; cases h
  · rw [h3] at h; cases h
theorem dSt_fine (q : List Nat) : fine 1 (dSt (stOf q)) = true := by
  cases e : stOf q with
  | none => rfl
  | some m => exact stW_fine e
theorem dSm_non (m : Sm) : dSm m ≠ .non := by cases m <;> exact fun z => by cases z
theorem mapO_len {α β : Type} {f : α → Option β} : ∀ {xs : List α} {ys : List β}, mapO f xs = some ys → ys.length = xs.length
  | [], ys, h => by cases h; rfl
  | x :: xs, ys, h => by
    unfold mapO at h
    cases e1 : f x with
    | none => simp only [e1] at h; cases h
    | some y =>
      cases e2 : mapO f xs with
      | none => simp only [e1, e2] at h; cases h
      | some zs =>
        simp only [e1, e2] at h
        cases h
        rw [List.length_cons, List.length_cons, mapO_len e2]
theorem mapO_map {α β : Type} {f : α → Option β} (g : β → D) (g' : Option β → D) (hg : ∀ y, g' (some y) = g y) : ∀ {xs : List α} {ys : List β}, mapO f xs = some ys → xs.map (fun x => g' (f x)) = ys.map g
  | [], ys, h => by cases h; rfl
  | x :: xs, ys, h => by
    unfold mapO at h
    cases e1 : f x with
    | none => simp only [e1] at h; cases h
    | some y =>
      cases e2 : mapO f xs with
      | none => simp only [e1, e2] at h; cases h
      | some zs =>
        simp only [e1, e2] at h
        cases h
        rw [List.map_cons, List.map_cons, e1, hg, mapO_map g g' hg e2]
theorem mapO_ex {α β : Type} {f : α → Option β} : ∀ {xs : List α}, mapO f xs = none → ∃ x ∈ xs, f x = none
  | [], h => by cases h
  | x :: xs, h => by
    unfold mapO at h
    cases e1 : f x with
    | none => exact ⟨x, List.mem_cons_self .., e1⟩
    | some y =>
      cases e2 : mapO f xs with
      | none =>
        obtain ⟨z, hz, e⟩ := mapO_ex e2
        exact ⟨z, List.mem_cons_of_mem _ hz, e⟩
      | some zs => simp only [e1, e2] at h; cases h
theorem mapO_mem {α β : Type} {f : α → Option β} : ∀ {xs : List α} {ys : List β}, mapO f xs = some ys → ∀ y ∈ ys, ∃ x ∈ xs, f x = some y
  | [], ys, h, y, hy => by cases h; cases hy
  | x :: xs, ys, h, y, hy => by
    unfold mapO at h
    cases e1 : f x with
    | none => simp only [e1] at h; cases h
    | some v =>
      cases e2 : mapO f xs with
      | none => simp only [e1, e2] at h; cases h
      | some zs =>
        simp only [e1, e2] at h
        cases h
        rcases List.mem_cons.mp hy with rfl | hy
        · exact ⟨x, List.mem_cons_self .., e1⟩
        · obtain ⟨z, hz, e⟩ := mapO_mem e2 y hy
          exact ⟨z, List.mem_cons_of_mem _ hz, e⟩
/-- whether none stands among what was read -/
theorem Cp_inN {β : Type} {S : Store} {xs : List (List Nat)} {f : List Nat → Option β} {g' : Option β → D} {n : Nat} (h0 : g' none = .non) (h1 : ∀ y, g' (some y) ≠ .non) (hn : n ≤ 63) (hf : ∀ x ∈ xs, fine n (g' (f x)) = true) {PB : Bool → Prop} (h : PB (mapO f xs).isNone) : Cp S .In .non (.lst (xs.map fun x => g' (f x))) PB := by
  refine Cp_inq (n := 0) (m := n) rfl rfl (by decide) (fines_all fun x hx => ?_) hn (fun z => ?_) (fun z => ?_)
  · obtain ⟨a, ha, rfl⟩ := List.mem_map.mp hx
    exact hf a ha
  · obtain ⟨a, ha, e⟩ := List.mem_map.mp z
    have : f a = none := by
      cases q : f a with
      | none => rfl
      | some y => rw [q] at e; exact absurd e (h1 y)
    rw [mapO_none ha this] at h
    exact h
  · cases e : mapO f xs with
    | some ys => rw [e] at h; exact h
    | none =>
      obtain ⟨a, ha, q⟩ := mapO_ex e
      exact absurd (List.mem_map.mpr ⟨a, ha, by rw [q, h0]⟩) z
theorem lworkq_w {S : Store} {row : List Nat} (hl : row.length ≤ 90000) (sr : sOk row = true) {Qd : D → Store → Prop} {E : EX} (hQ : Qd (dOptW (workOf row)) S) : W (m__law_work [dS row] S) Qd E := by
  obtain ⟨p, b, ep⟩ := spl_cons (S := [32, 59, 32]) (a := row) (by decide)
  have sp := spl_parts (S := [32, 59, 32]) (by decide) hl sr
  rw [ep] at sp
  have hp := sp.2 p (List.mem_cons_self ..)
  obtain ⟨w, r, ew⟩ := spl_cons (S := [32]) (a := p) (by decide)
  have sw := spl_parts (S := [32]) (by decide) hp.1 hp.2
  rw [ew] at sw
  have eo : workOf row = workW (w :: r) b := by unfold workOf; rw [ep]; show workW (TL.spl [32] 0 [] p) b = _; rw [ew]
  rw [eo] at hQ
  have hw := sw.2 w (List.mem_cons_self ..)
  have sk : sOk cWork = true := by decide
  have ixp : ∀ {R : D → Prop}, R (dS p) → IxP S (.lst ((p :: b).map dS)) (.int 0) R := fun hr => Ix_by (x' := dS p) atI_zero hr
  have ixw : ∀ {R : D → Prop}, R (dS w) → IxP S (.lst ((w :: r).map dS)) (.int 0) R := fun hr => Ix_by (x' := dS w) atI_zero hr
  have lm : ((w :: r).map dS).length = r.length + 1 := by simp
  have bl : b.length ≤ 90001 := by have := sp.1; rw [List.length_cons] at this; omega
  have cb : cut ((p :: b).map dS) (some 1) none = b.map dS := by
    have := cut_from ((p :: b).map dS) 1 (by simp)
    rw [show ((1 : Nat) : Int) = 1 from rfl] at this
    rw [this]; rfl
  have inN : ∀ {PB : Bool → Prop}, PB (mapO stOf b).isNone → Cp S .In .non (.lst (b.map fun q => dSt (stOf q))) PB := fun h => Cp_inN (g' := dSt) (n := 1) rfl dSm_non (by decide) (fun x _ => dSt_fine x) h
  apply w__law_work
  unfold z__law_work
  rw [kSemi, kSp, kWork]
  (repeat' (first | refine Mt_splitq (by decide) (by decide) (by omega) ep ?_ | (with_reducible refine ixp ?_) | refine Mt_splitq (by decide) (by decide) (by omega) ew ?_ | fail "q1" | fail "q2" | fail "q4" | fail))
  rw [cb]
  refine CfMap (g := dS) (h := fun q => dSt (stOf q)) (by omega) (fun x hx => ?_) ?_
  · have hxx := sp.2 x (List.mem_cons_of_mem _ hx)
    (repeat' (first | (with_reducible refine lstq_w hxx.1 hxx.2 ?_) | fail "q1" | fail "q2" | fail "q4" | fail))
    exact ⟨rfl, rfl⟩
  (repeat' (first | fail "q1" | fail "q2" | fail "q4" | fail))
  rcases r with _ | ⟨n, _ | ⟨x, t⟩⟩
  · (repeat' (first | fail "q1" | fail "q2" | fail "q4" | fail))
    exact hQ
  · have hn := sw.2 n (by simp)
    have ixn : ∀ {R : D → Prop}, R (dS n) → IxP S (.lst (([w, n] : List (List Nat)).map dS)) (.int 1) R := fun hr => Ix_by (x' := dS n) rfl hr
    have e2 : workW [w, n] b = if w = cWork ∧ okName n = true then (mapO stOf b).map (fun ss => (n, ss)) else none := rfl
    rw [e2] at hQ
    by_cases c : w = cWork
    · (repeat' (first | (with_reducible refine ixw ?_) | refine Cp_neS hw.2 sk ?_ | refine Br_t (decide_eq_true c) ?_ | refine Br_f (by rw [decide_eq_true c]; rfl) ?_ | (with_reducible refine ixn ?_) | (with_reducible refine lname_w (by omega) hn.2 ?_) | fail "q1" | fail "q2" | fail "q4" | fail))
      cases o : okName n with
      | false =>
        rw [if_neg (fun z => by rw [o] at z; exact absurd z.2 (by decide))] at hQ
        (repeat' (first | fail "q1" | fail "q2" | fail "q4" | fail))
        exact hQ
      | true =>
        rw [if_pos ⟨c, o⟩] at hQ
        (repeat' (first | (with_reducible refine inN ?_) | fail "q1" | fail "q2" | fail "q4" | fail))
        cases e : mapO stOf b with
        | none =>
          rw [e] at hQ
          (repeat' (first | fail "q1" | fail "q2" | fail "q4" | fail))
          exact hQ
        | some ys =>
          rw [e] at hQ
          have em := mapO_map dSm dSt (fun _ => rfl) e
          (repeat' (first | (with_reducible refine ixn ?_) | refine Bs_by (x := .tup (b.map fun q => dSt (stOf q))) rfl ?_ | fail "q1" | fail "q2" | fail "q4" | fail))
          rw [em]
          exact hQ
    · rw [if_neg (fun z => c z.1)] at hQ
      (repeat' (first | (with_reducible refine ixw ?_) | refine Cp_neS hw.2 sk ?_ | refine Br_f (decide_eq_false c) ?_ | refine Br_t (by rw [decide_eq_false c]; rfl) ?_ | fail "q1" | fail "q2" | fail "q4" | fail))
      exact hQ
  · refine Br_f (decide_eq_false (by rw [lm]; simp only [List.length_cons]; omega)) ?_
    (repeat' (first | fail "q1" | fail "q2" | fail "q4" | fail))
    exact hQ
theorem startq_w {S : Store} {row : List Nat} (hl : row.length ≤ 90000) (sr : sOk row = true) {Qd : D → Store → Prop} {E : EX} (hQ : ∀ a n k, startOf row = some (a, n, k) → Qd (.tup [dS a, dS n, .int k]) S) (hE : startOf row = none → E "NoText" S) : W (m_start_in [dS row] S) Qd E := by
  obtain ⟨w, r, ew⟩ := spl_cons (S := [32]) (a := row) (by decide)
  have sw := spl_parts (S := [32]) (by decide) hl sr
  rw [ew] at sw
  have eo : startOf row = startW (w :: r) := by unfold startOf; rw [ew]
  rw [eo] at hQ hE
  have hw := sw.2 w (List.mem_cons_self ..)
  have sk : sOk cStart = true := by decide
  have ixw : ∀ {R : D → Prop}, R (dS w) → IxP S (.lst ((w :: r).map dS)) (.int 0) R := fun hr => Ix_by (x' := dS w) atI_zero hr
  have lm : ((w :: r).map dS).length = r.length + 1 := by simp
  apply w_start_in
  unfold z_start_in
  rw [kSp, kStart]
  (repeat' (first | refine Mt_splitq (by decide) (by decide) (by omega) ew ?_ | fail "q1" | fail "q2" | fail "q4" | fail))
  rw [lm]
  by_cases r3 : r.length = 3
  · obtain ⟨a, n, x, rfl⟩ : ∃ a n x, r = [a, n, x] := by
      rcases r with _ | ⟨a, _ | ⟨n, _ | ⟨x, _ | ⟨y, t⟩⟩⟩⟩
      · cases r3
      · cases r3
      · cases r3
      · exact ⟨_, _, _, rfl⟩
      · simp only [List.length_cons] at r3; omega
    have ha := sw.2 a (by simp)
    have hn := sw.2 n (by simp)
    have hx := sw.2 x (by simp)
    have ix1 : ∀ {R : D → Prop}, R (dS a) → IxP S (.lst (([w, a, n, x] : List (List Nat)).map dS)) (.int 1) R := fun hr => Ix_by (x' := dS a) rfl hr
    have ix2 : ∀ {R : D → Prop}, R (dS n) → IxP S (.lst (([w, a, n, x] : List (List Nat)).map dS)) (.int 2) R := fun hr => Ix_by (x' := dS n) rfl hr
    have ix3 : ∀ {R : D → Prop}, R (dS x) → IxP S (.lst (([w, a, n, x] : List (List Nat)).map dS)) (.int 3) R := fun hr => Ix_by (x' := dS x) rfl hr
    have e2 : startW [w, a, n, x] = if w = cStart ∧ okName a = true ∧ okName n = true then (numOf 9 x).map (fun k => (a, n, k)) else none := rfl
    rw [e2] at hQ hE
    by_cases c : w = cStart
    · (repeat' (first | (with_reducible refine ixw ?_) | refine Cp_eqS hw.2 sk ?_ | refine Br_t (decide_eq_true c) ?_ | (with_reducible refine ix1 ?_) | (with_reducible refine name_w (by omega) ?_) | fail "q1" | fail "q2" | fail "q4" | fail))
      cases o1 : okName a with
      | false =>
        (repeat' (first | fail "q1" | fail "q2" | fail "q4" | fail))
        refine needF_w ?_
        exact finX_same (hE (if_neg (fun z => by rw [o1] at z; exact absurd z.2.1 (by decide))))
      | true =>
        (repeat' (first | (with_reducible refine ix2 ?_) | (with_reducible refine name_w (by omega) ?_) | fail "q1" | fail "q2" | fail "q4" | fail))
        cases o2 : okName n with
        | false =>
          refine needF_w ?_
          exact finX_same (hE (if_neg (fun z => by rw [o2] at z; exact absurd z.2.2 (by decide))))
        | true =>
          rw [if_pos ⟨c, o1, o2⟩] at hQ hE
          refine needT_w ?_
          (repeat' (first | (with_reducible refine ix3 ?_) | (with_reducible refine nin_w (by omega) hx.2 ?_) | fail "q1" | fail "q2" | fail "q4" | fail))
          cases e : numOf 9 x with
          | none =>
            (repeat' (first | refine Cp_by (k := false) rfl ?_ | fail "q1" | fail "q2" | fail "q4" | fail))
            refine needF_w ?_
            exact finX_same (hE (by rw [e]; rfl))
          | some i =>
            (repeat' (first | refine Cp_by (k := true) rfl ?_ | fail "q1" | fail "q2" | fail "q4" | fail))
            refine needT_w ?_
            (repeat' (first | (with_reducible refine ix1 ?_) | (with_reducible refine ix2 ?_) | (with_reducible refine ix3 ?_) | (with_reducible refine nin_w (by omega) hx.2 ?_) | fail "q1" | fail "q2" | fail "q4" | fail))
            rw [e]
            (repeat' (first | fail "q1" | fail "q2" | fail "q4" | fail))
            exact hQ a n i (by rw [e]; rfl)
    · (repeat' (first | (with_reducible refine ixw ?_) | refine Cp_eqS hw.2 sk ?_ | refine Br_f (decide_eq_false c) ?_ | fail "q1" | fail "q2" | fail "q4" | fail))
      rw [decide_eq_false c]
      refine needF_w ?_
      exact finX_same (hE (if_neg (fun z => c z.1)))
  · have e0 : startW (w :: r) = none := by
      rcases r with _ | ⟨a, _ | ⟨n, _ | ⟨x, _ | ⟨y, t⟩⟩⟩⟩ <;> first | rfl | exact absurd rfl r3
    rw [decide_eq_false (by omega)]
    (repeat' (first | fail "q1" | fail "q2" | fail "q4" | fail))
    refine needF_w ?_
    exact finX_same (hE e0)
end QL

namespace QL
open PySem Q
/-! ### a text of works by the law's own reading -/
theorem atI_end {α : Type} {xs : List α} {y : α} : L2.atI (xs ++ [y]) (-1) = some y := by
  unfold L2.atI L2.ixN
  rw [if_neg (by decide), if_pos (by rw [List.length_append, List.length_singleton]; omega)]
  have : ((-1 : Int) + (xs ++ [y]).length).toNat = xs.length := by rw [List.length_append, List.length_singleton]; omega
  show (xs ++ [y])[((-1 : Int) + (xs ++ [y]).length).toNat]? = some y
  rw [this]
  simp
theorem cut_mid {α : Type} {x y : α} {m : List α} : cut (x :: m ++ [y]) (some 1) (some (-1)) = m := by
  have l : (x :: m ++ [y]).length = m.length + 2 := by simp
  unfold cut HT.sIx
  rw [l]
  have e1 : (if (1 : Int) < 0 then ((1 : Int) + (m.length + 2 : Nat)).toNat else min (1 : Int).toNat (m.length + 2)) = 1 := by
    rw [if_neg (by decide)]
    show min 1 _ = 1
    omega
  have e2 : (if (-1 : Int) < 0 then ((-1 : Int) + (m.length + 2 : Nat)).toNat else min (-1 : Int).toNat (m.length + 2)) = m.length + 1 := by
    rw [if_pos (by decide)]
    omega
  show List.take ((if (-1 : Int) < 0 then ((-1 : Int) + (m.length + 2 : Nat)).toNat else min (-1 : Int).toNat (m.length + 2)) - (if (1 : Int) < 0 then ((1 : Int) + (m.length + 2 : Nat)).toNat else min (1 : Int).toNat (m.length + 2))) (List.drop (if (1 : Int) < 0 then ((1 : Int) + (m.length + 2 : Nat)).toNat else min (1 : Int).toNat (m.length + 2)) (x :: m ++ [y])) = m
  rw [e1, e2]
  simp
theorem bools_py (bs : List Bool) : toPys (bs.map D.bl) = some (bs.map PyData.bool) := by
  induction bs with
  | nil => rfl
  | cons b bs ih => simp only [List.map_cons, toPys, toPy, ih]
theorem bools_lay (bs : List Bool) : PyData.canLayAll0 (bs.map PyData.bool) = true ∧ PyData.depthAll (bs.map PyData.bool) = 0 := by
  induction bs with
  | nil => exact ⟨rfl, rfl⟩
  | cons b bs ih => exact ⟨by simp only [List.map_cons, PyData.canLayAll0, PyData.canLay0, ih.1]; rfl, by simp only [List.map_cons, PyData.depthAll, PyData.depth, ih.2]; rfl⟩
theorem bools_S {S : Store} (bs : List Bool) : toPyS S (.lst (bs.map D.bl)) = some (.list (bs.map PyData.bool)) := by
  show toPy (.lst ((bs.map D.bl).map (res 7 S))) = _
  have : (bs.map D.bl).map (res 7 S) = bs.map D.bl := by rw [List.map_map]; rfl
  rw [this, toPy, bools_py]
theorem bools_sh (bs : List Bool) : SeqAt.shaped (.list (bs.map PyData.bool)) = true := by
  have := bools_lay bs
  unfold SeqAt.shaped
  rw [PyData.canLay0, this.1, PyData.depth, this.2]
  rfl
theorem Cp_inB {S : Store} {bs : List Bool} {PB : Bool → Prop} (h : PB (!bs.all id)) : Cp S .In (.bl false) (.lst (bs.map D.bl)) PB := by
  refine Cp_by (k := !bs.all id) ?_ h
  show inSeq S (.bl false) (.lst (bs.map D.bl)) = _
  unfold inSeq
  rw [bools_S]
  have e1 : toPyS S (.bl false) = some (.bool false) := rfl
  rw [e1]
  show (if SeqAt.shaped (.bool false) = true ∧ SeqAt.shaped (.list (bs.map PyData.bool)) = true then some ((bs.map PyData.bool).any fun z => PyData.eqv z (.bool false)) else none) = _
  rw [if_pos ⟨by decide +kernel, bools_sh bs⟩]
  congr 1
  clear h
  induction bs with
  | nil => rfl
  | cons b bs ih =>
    rw [List.map_cons, List.any_cons, List.all_cons, Bool.not_and, ih]
    cases b <;> rfl
def dWr : Option (List (List Nat) × List Wk × List Nat × List Nat × Int) → D
  | some (hs, ws, a, n, k) => .tup [.tup [.lst (hs.map dS), .lst (ws.map dWork)], .tup [dS a, dS n, .int k]]
  | none => .non
theorem workOf_fine (row : List Nat) : fine 3 (dOptW (workOf row)) = true := by
  cases e : workOf row with
  | none => rfl
  | some w =>
    obtain ⟨p, b, ep⟩ := spl_cons (S := [32, 59, 32]) (a := row) (by decide)
    have eo : workOf row = workW (TL.spl [32] 0 [] p) b := by unfold workOf; rw [ep]
    rw [eo] at e
    generalize TL.spl [32] 0 [] p = ws at e
    rcases ws with _ | ⟨c, _ | ⟨n, _ | ⟨x, t⟩⟩⟩
    · cases e
    · cases e
    · have e : (if c = cWork ∧ okName n = true then (mapO stOf b).map (fun ss => (n, ss)) else none) = some w := e
      split at e
      · rename_i o
        cases q : mapO stOf b with
        | none => rw [q] at e; cases e
        | some ys =>
          rw [q] at e
          cases e
          show (fine 2 (dS n) && (fines 1 (ys.map dSm) && true)) = true
          rw [fine_S (okName_s o.2), fines_all (fun x hx => ?_)]
          · rfl
          · obtain ⟨m, hm, rfl⟩ := List.mem_map.mp hx
            obtain ⟨z, _, ez⟩ := mapO_mem q m hm
            have := dSt_fine z
            rw [ez] at this
            exact this
      · cases e
    · cases e
theorem dWork_non (w : Wk) : dWork w ≠ .non := fun z => by cases z
theorem wr_h {x : Option (List Wk)} {y : Option (List Nat × List Nat × Int)} : wr none x y = none := rfl
theorem wr_w {x : Option (List (List Nat))} {y : Option (List Nat × List Nat × Int)} : wr x none y = none := by cases x <;> rfl
theorem wr_s {x : Option (List (List Nat))} {y : Option (List Wk)} : wr x y none = none := by cases x <;> cases y <;> rfl
theorem housesW_c (w h : List Nat) (hs : List (List Nat)) : housesW (w :: h :: hs) = if w = cHouses ∧ (h :: hs).all okName = true then some (h :: hs) else none := rfl
theorem startW_4 (w a n x : List Nat) : startW [w, a, n, x] = if w = cStart ∧ okName a = true ∧ okName n = true then (numOf 9 x).map (fun k => (a, n, k)) else none := rfl
theorem startW_n {w : List Nat} {r : List (List Nat)} (h : r.length ≠ 3) : startW (w :: r) = none := by
  rcases r with _ | ⟨a, _ | ⟨n, _ | ⟨x, _ | ⟨y, t⟩⟩⟩⟩ <;> first | rfl | exact absurd rfl h
theorem lwritten_w {S : Store} {tx : List Nat} (hl : tx.length ≤ 90000) (sx : sOk tx = true) {Qd : D → Store → Prop} {E : EX} (hQ : Qd (dWr (written tx)) S) : W (m__law_written [dS tx] S) Qd E := by
  obtain ⟨f, r, ep⟩ := spl_cons (S := [10]) (a := tx) (by decide)
  have sp := spl_parts (S := [10]) (by decide) hl sx
  rw [ep] at sp
  have hf := sp.2 f (List.mem_cons_self ..)
  obtain ⟨w, hs, ew⟩ := spl_cons (S := [32]) (a := f) (by decide)
  have sw := spl_parts (S := [32]) (by decide) hf.1 hf.2
  rw [ew] at sw
  have hw := sw.2 w (List.mem_cons_self ..)
  have sh : sOk cHouses = true := by decide
  have sk : sOk cStart = true := by decide
  have ix0 : ∀ {R : D → Prop}, R (dS f) → IxP S (.lst ((f :: r).map dS)) (.int 0) R := fun hr => Ix_by (x' := dS f) atI_zero hr
  have ixw : ∀ {R : D → Prop}, R (dS w) → IxP S (.lst ((w :: hs).map dS)) (.int 0) R := fun hr => Ix_by (x' := dS w) atI_zero hr
  have eo : written tx = wr (housesW (w :: hs)) (mapO workOf r.dropLast) (r.getLast?.bind startOf) := by unfold written; rw [ep]; show wr (housesW (TL.spl [32] 0 [] f)) _ _ = _; rw [ew]
  rw [eo] at hQ
  have lh : ((w :: hs).map dS).length = hs.length + 1 := by simp
  have ch : cut ((w :: hs).map dS) (some 1) none = hs.map dS := by
    have := cut_from ((w :: hs).map dS) 1 (by simp)
    rw [show ((1 : Nat) : Int) = 1 from rfl] at this
    rw [this]; rfl
  have hsl : hs.length ≤ 90000 := by have := sw.1; rw [List.length_cons] at this; omega
  apply w__law_written
  unfold z__law_written
  rw [kNl, kSp, kHouses, kStart]
  rcases List.eq_nil_or_concat r with rfl | ⟨mid, z, rfl⟩
  · have ixe : ∀ {R : D → Prop}, R (dS f) → IxP S (.lst (([f] : List (List Nat)).map dS)) (.int (-1)) R := fun hr => Ix_by (x' := dS f) rfl hr
    have e0 : wr (housesW (w :: hs)) (mapO workOf ([] : List (List Nat)).dropLast) (([] : List (List Nat)).getLast?.bind startOf) = none := wr_s
    rw [e0] at hQ
    (repeat' (first | refine Mt_splitq (by decide) (by decide) (by omega) ep ?_ | (with_reducible refine ix0 ?_) | (with_reducible refine ixe ?_) | refine Mt_splitq (by decide) (by decide) (by omega) ew ?_ | fail "q1" | fail "q2" | fail "q4" | fail))
    exact hQ
  · have hz := sp.2 z (by simp)
    obtain ⟨v, t, ez⟩ := spl_cons (S := [32]) (a := z) (by decide)
    have sz := spl_parts (S := [32]) (by decide) hz.1 hz.2
    rw [ez] at sz
    have hv := sz.2 v (List.mem_cons_self ..)
    have ml : mid.length ≤ 90000 := by have := sp.1; simp only [List.length_cons, List.concat_eq_append, List.length_append] at this; omega
    have rows : (f :: mid.concat z).map dS = dS f :: mid.map dS ++ [dS z] := by rw [List.concat_eq_append, List.map_cons, List.map_append]; rfl
    have ixe : ∀ {R : D → Prop}, R (dS z) → IxP S (.lst ((f :: mid.concat z).map dS)) (.int (-1)) R := fun hr => Ix_by (x' := dS z) (by rw [rows]; exact atI_end) hr
    have ixv : ∀ {R : D → Prop}, R (dS v) → IxP S (.lst ((v :: t).map dS)) (.int 0) R := fun hr => Ix_by (x' := dS v) atI_zero hr
    have cm : cut ((f :: mid.concat z).map dS) (some 1) (some (-1)) = mid.map dS := by rw [rows]; exact cut_mid
    have e0 : wr (housesW (w :: hs)) (mapO workOf (mid.concat z).dropLast) ((mid.concat z).getLast?.bind startOf) = wr (housesW (w :: hs)) (mapO workOf mid) (startW (v :: t)) := by
      have e1 : (mid.concat z).dropLast = mid := by rw [List.concat_eq_append]; simp
      have e2 : (mid.concat z).getLast? = some z := by rw [List.concat_eq_append]; simp
      rw [e1, e2]
      show wr _ _ (startOf z) = _
      unfold startOf
      rw [ez]
    rw [e0] at hQ
    have lt : ((v :: t).map dS).length = t.length + 1 := by simp
    have lr : ((f :: mid.concat z).map dS).length = mid.length + 2 := by rw [rows]; simp
    have inN : ∀ {PB : Bool → Prop}, PB (mapO workOf mid).isNone → Cp S .In .non (.lst (mid.map fun q => dOptW (workOf q))) PB := fun h => Cp_inN (g' := dOptW) (n := 3) rfl dWork_non (by decide) (fun x _ => workOf_fine x) h
    (repeat' (first | refine Mt_splitq (by decide) (by decide) (by omega) ep ?_ | (with_reducible refine ix0 ?_) | (with_reducible refine ixe ?_) | refine Mt_splitq (by decide) (by decide) (by omega) ew ?_ | refine Mt_splitq (by decide) (by decide) (by omega) ez ?_ | fail "q1" | fail "q2" | fail "q4" | fail))
    rcases hs with _ | ⟨h, hs⟩
    · have e1 : housesW [w] = none := rfl
      rw [e1, wr_h] at hQ
      by_cases c : w = cHouses
      · (repeat' (first | (with_reducible refine ixw ?_) | refine Cp_neS hw.2 sh ?_ | refine Br_t (decide_eq_true c) ?_ | fail "q1" | fail "q2" | fail "q4" | fail))
        exact hQ
      · (repeat' (first | (with_reducible refine ixw ?_) | refine Cp_neS hw.2 sh ?_ | refine Br_f (decide_eq_false c) ?_ | fail "q1" | fail "q2" | fail "q4" | fail))
        exact hQ
    rw [housesW_c] at hQ
    by_cases c : w = cHouses
    · (repeat' (first | (with_reducible refine ixw ?_) | refine Cp_neS hw.2 sh ?_ | refine Br_t (decide_eq_true c) ?_ | fail "q1" | fail "q2" | fail "q4" | fail))
      rw [ch]
      refine CfMap (g := dS) (h := fun a => .bl (okName a)) (by omega) (fun a ha => ?_) ?_
      · have := sw.2 a (List.mem_cons_of_mem _ ha)
        (repeat' (first | (with_reducible refine lname_w (by omega) this.2 ?_) | fail "q1" | fail "q2" | fail "q4" | fail))
        exact ⟨rfl, rfl⟩
      have eb : (h :: hs).map (fun a => D.bl (okName a)) = ((h :: hs).map okName).map D.bl := by rw [List.map_map]; rfl
      have al : ((h :: hs).map okName).all id = (h :: hs).all okName := by rw [List.all_map]; rfl
      rw [eb]
      (repeat' (first | refine Cp_inB ?_ | fail "q1" | fail "q2" | fail "q4" | fail))
      rw [al]
      cases o : (h :: hs).all okName with
      | false =>
        rw [if_neg (fun z => by rw [o] at z; exact absurd z.2 (by decide)), wr_h] at hQ
        (repeat' (first | fail "q1" | fail "q2" | fail "q4" | fail))
        exact hQ
      | true =>
        rw [if_pos ⟨c, o⟩] at hQ
        (repeat' (first | fail "q1" | fail "q2" | fail "q4" | fail))
        rw [cm]
        refine CfMap (g := dS) (h := fun q => dOptW (workOf q)) (by omega) (fun a ha => ?_) ?_
        · have := sp.2 a (by simp [ha])
          (repeat' (first | (with_reducible refine lworkq_w this.1 this.2 ?_) | fail "q1" | fail "q2" | fail "q4" | fail))
          exact ⟨rfl, rfl⟩
        (repeat' (first | (with_reducible refine inN ?_) | fail "q1" | fail "q2" | fail "q4" | fail))
        cases e : mapO workOf mid with
        | none =>
          rw [e, wr_w] at hQ
          (repeat' (first | fail "q1" | fail "q2" | fail "q4" | fail))
          exact hQ
        | some ys =>
          rw [e] at hQ
          have em := mapO_map dWork dOptW (fun _ => rfl) e
          (repeat' (first | fail "q1" | fail "q2" | fail "q4" | fail))
          by_cases t3 : t.length = 3
          · obtain ⟨a, n, x, rfl⟩ : ∃ a n x, t = [a, n, x] := by
              rcases t with _ | ⟨a, _ | ⟨n, _ | ⟨x, _ | ⟨y, t⟩⟩⟩⟩
              · cases t3
              · cases t3
              · cases t3
              · exact ⟨_, _, _, rfl⟩
              · simp only [List.length_cons] at t3; omega
            have ha := sz.2 a (by simp)
            have hn := sz.2 n (by simp)
            have hx := sz.2 x (by simp)
            have ix1 : ∀ {R : D → Prop}, R (dS a) → IxP S (.lst (([v, a, n, x] : List (List Nat)).map dS)) (.int 1) R := fun hr => Ix_by (x' := dS a) rfl hr
            have ix2 : ∀ {R : D → Prop}, R (dS n) → IxP S (.lst (([v, a, n, x] : List (List Nat)).map dS)) (.int 2) R := fun hr => Ix_by (x' := dS n) rfl hr
            have ix3 : ∀ {R : D → Prop}, R (dS x) → IxP S (.lst (([v, a, n, x] : List (List Nat)).map dS)) (.int 3) R := fun hr => Ix_by (x' := dS x) rfl hr
            rw [startW_4] at hQ
            by_cases c2 : v = cStart
            · (repeat' (first | (with_reducible refine ixv ?_) | refine Cp_neS hv.2 sk ?_ | refine Br_t (decide_eq_true c2) ?_ | (with_reducible refine ix1 ?_) | (with_reducible refine lname_w (by omega) ha.2 ?_) | fail "q1" | fail "q2" | fail "q4" | fail))
              cases o1 : okName a with
              | false =>
                rw [if_neg (fun z => by rw [o1] at z; exact absurd z.2.1 (by decide)), wr_s] at hQ
                (repeat' (first | fail "q1" | fail "q2" | fail "q4" | fail))
                exact hQ
              | true =>
                (repeat' (first | (with_reducible refine ix2 ?_) | (with_reducible refine lname_w (by omega) hn.2 ?_) | fail "q1" | fail "q2" | fail "q4" | fail))
                cases o2 : okName n with
                | false =>
                  rw [if_neg (fun z => by rw [o2] at z; exact absurd z.2.2 (by decide)), wr_s] at hQ
                  (repeat' (first | fail "q1" | fail "q2" | fail "q4" | fail))
                  exact hQ
                | true =>
                  rw [if_pos ⟨c2, o1, o2⟩] at hQ
                  (repeat' (first | (with_reducible refine ix3 ?_) | (with_reducible refine lnum_w (by omega) hx.2 ?_) | fail "q1" | fail "q2" | fail "q4" | fail))
                  cases e3 : numOf 9 x with
                  | none =>
                    rw [e3] at hQ
                    (repeat' (first | refine Cp_by (k := true) rfl ?_ | fail "q1" | fail "q2" | fail "q4" | fail))
                    exact hQ
                  | some i =>
                    rw [e3] at hQ
                    (repeat' (first | refine Cp_by (k := false) rfl ?_ | (with_reducible refine ix1 ?_) | (with_reducible refine ix2 ?_) | (with_reducible refine ix3 ?_) | (with_reducible refine lnum_w (by omega) hx.2 ?_) | fail "q1" | fail "q2" | fail "q4" | fail))
                    rw [e3, ch, em]
                    (repeat' (first | fail "q1" | fail "q2" | fail "q4" | fail))
                    exact hQ
            · rw [if_neg (fun z => c2 z.1), wr_s] at hQ
              (repeat' (first | (with_reducible refine ixv ?_) | refine Cp_neS hv.2 sk ?_ | refine Br_f (decide_eq_false c2) ?_ | fail "q1" | fail "q2" | fail "q4" | fail))
              exact hQ
          · rw [startW_n t3, wr_s] at hQ
            refine Br_f (decide_eq_false (by rw [lt]; omega)) ?_
            (repeat' (first | fail "q1" | fail "q2" | fail "q4" | fail))
            exact hQ
    · rw [if_neg (fun z => c z.1), wr_h] at hQ
      (repeat' (first | (with_reducible refine ixw ?_) | refine Cp_neS hw.2 sh ?_ | refine Br_f (decide_eq_false c) ?_ | fail "q1" | fail "q2" | fail "q4" | fail))
      exact hQ
end QL

namespace QL
open PySem Q
/-! ### a text of works read by the program -/
def okSmB (hs ns : List (List Nat)) : Sm → Bool
  | .own => true
  | .add i => decide (-1000 ≤ i ∧ i ≤ 1000)
  | .spin i => decide (1 ≤ i ∧ i ≤ 4)
  | .call _ h n => decide (h ∈ hs ∧ n ∈ ns)
def okBdB (hs ns : List (List Nat)) (b : List Sm) : Bool := decide (b.length ≤ 6) && (decide ((b.filter isCall).length ≤ 3) && b.all (okSmB hs ns))
def okWB (hs : List (List Nat)) (ws : List Wk) : Bool :=
  decide (hs.length ≤ 4 ∧ hs.Nodup ∧ 1 ≤ ws.length ∧ ws.length ≤ 5 ∧ (nms ws).Nodup) && ws.all fun w => okBdB hs (nms ws) w.2
/-- what is told of works and a start that are written -/
def verd (hs : List (List Nat)) (ws : List Wk) (a n : List Nat) (k : Int) : Option Str :=
  if okWB hs ws = true then (if a ∈ hs ∧ n ∈ nms ws ∧ 0 ≤ k ∧ k ≤ 3 then none else some "BadStart") else some "BadWorks"
theorem readw_w {S : Store} {tx : List Nat} (hl : tx.length ≤ 90000) (sx : sOk tx = true) {Qd : D → Store → Prop} {E : EX}
    (hC : ∀ hs ws a n k, written tx = some (hs, ws, a, n, k) → ∀ {Q' : D → Store → Prop} {E' : EX}, (verd hs ws a n k = none → Q' .non S) → (∀ c, verd hs ws a n k = some c → E' c S) → W (m_check_start [.tup [.lst (hs.map dS), .lst (ws.map dWork)], .tup [dS a, dS n, .int k]] S) Q' E')
    (hQ : ∀ hs ws a n k, written tx = some (hs, ws, a, n, k) → verd hs ws a n k = none → Qd (dWr (some (hs, ws, a, n, k))) S)
    (hE : ∀ hs ws a n k, written tx = some (hs, ws, a, n, k) → ∀ c, verd hs ws a n k = some c → E c S)
    (hN : written tx = none → E "NoText" S) : W (m_read_works [dS tx] S) Qd E := by
  obtain ⟨f, r, ep⟩ := spl_cons (S := [10]) (a := tx) (by decide)
  have sp := spl_parts (S := [10]) (by decide) hl sx
  rw [ep] at sp
  have hf := sp.2 f (List.mem_cons_self ..)
  obtain ⟨w, hs, ew⟩ := spl_cons (S := [32]) (a := f) (by decide)
  have sw := spl_parts (S := [32]) (by decide) hf.1 hf.2
  rw [ew] at sw
  have hw := sw.2 w (List.mem_cons_self ..)
  have sh : sOk cHouses = true := by decide
  have ix0 : ∀ {R : D → Prop}, R (dS f) → IxP S (.lst ((f :: r).map dS)) (.int 0) R := fun hr => Ix_by (x' := dS f) atI_zero hr
  have ixw : ∀ {R : D → Prop}, R (dS w) → IxP S (.lst ((w :: hs).map dS)) (.int 0) R := fun hr => Ix_by (x' := dS w) atI_zero hr
  have eo : written tx = wr (housesW (w :: hs)) (mapO workOf r.dropLast) (r.getLast?.bind startOf) := by unfold written; rw [ep]; show wr (housesW (TL.spl [32] 0 [] f)) _ _ = _; rw [ew]
  rw [eo] at hC hQ hE hN
  have lh : ((w :: hs).map dS).length = hs.length + 1 := by simp
  have ch : cut ((w :: hs).map dS) (some 1) none = hs.map dS := by
    have := cut_from ((w :: hs).map dS) 1 (by simp)
    rw [show ((1 : Nat) : Int) = 1 from rfl] at this
    rw [this]; rfl
  have hsl : hs.length ≤ 90000 := by have := sw.1; rw [List.length_cons] at this; omega
  apply w_read_works
  unfold z_read_works
  rw [kNl, kSp, kHouses]
  rcases List.eq_nil_or_concat r with rfl | ⟨mid, z, rfl⟩
  · (repeat' (first | refine Is_by (k := true) rfl ?_ | (with_reducible refine needT_w ?_) | refine Mt_splitq (by decide) (by decide) (by omega) ep ?_ | fail "q1" | fail "q2" | fail "q4" | fail))
    refine needF_w ?_
    exact finX_same (hN wr_s)
  · have hz := sp.2 z (by simp)
    have ml : mid.length ≤ 90000 := by have := sp.1; simp only [List.length_cons, List.concat_eq_append, List.length_append] at this; omega
    have rows : (f :: mid.concat z).map dS = dS f :: mid.map dS ++ [dS z] := by rw [List.concat_eq_append, List.map_cons, List.map_append]; rfl
    have ixe : ∀ {R : D → Prop}, R (dS z) → IxP S (.lst ((f :: mid.concat z).map dS)) (.int (-1)) R := fun hr => Ix_by (x' := dS z) (by rw [rows]; exact atI_end) hr
    have cm : cut ((f :: mid.concat z).map dS) (some 1) (some (-1)) = mid.map dS := by rw [rows]; exact cut_mid
    have e0 : wr (housesW (w :: hs)) (mapO workOf (mid.concat z).dropLast) ((mid.concat z).getLast?.bind startOf) = wr (housesW (w :: hs)) (mapO workOf mid) (startOf z) := by
      have e1 : (mid.concat z).dropLast = mid := by rw [List.concat_eq_append]; simp
      have e2 : (mid.concat z).getLast? = some z := by rw [List.concat_eq_append]; simp
      rw [e1, e2]; rfl
    rw [e0] at hC hQ hE hN
    have lr : ((f :: mid.concat z).map dS).length = mid.length + 2 := by rw [rows]; simp
    (repeat' (first | refine Is_by (k := true) rfl ?_ | (with_reducible refine needT_w ?_) | refine Mt_splitq (by decide) (by decide) (by omega) ep ?_ | fail "q1" | fail "q2" | fail "q4" | fail))
    rw [lr, decide_eq_true (by omega)]
    refine needT_w ?_
    (repeat' (first | (with_reducible refine ix0 ?_) | refine Mt_splitq (by decide) (by decide) (by omega) ew ?_ | fail "q1" | fail "q2" | fail "q4" | fail))
    by_cases c : w = cHouses
    · (repeat' (first | (with_reducible refine ixw ?_) | refine Cp_eqS hw.2 sh ?_ | refine Br_t (decide_eq_true c) ?_ | fail "q1" | fail "q2" | fail "q4" | fail))
      rw [lh]
      rcases hs with _ | ⟨h, hs⟩
      · (repeat' (first | fail "q1" | fail "q2" | fail "q4" | fail))
        refine needF_w ?_
        exact finX_same (hN rfl)
      rw [decide_eq_true (by simp only [List.length_cons]; omega)]
      rw [housesW_c] at hC hQ hE hN
      (repeat' (first | fail "q1" | fail "q2" | fail "q4" | fail))
      rw [ch]
      refine CfMap (g := dS) (h := fun a => .bl (okName a)) (by omega) (fun a ha => ?_) ?_
      · have := sw.2 a (List.mem_cons_of_mem _ ha)
        (repeat' (first | (with_reducible refine name_w (by omega) ?_) | fail "q1" | fail "q2" | fail "q4" | fail))
        exact ⟨rfl, rfl⟩
      have eb : (h :: hs).map (fun a => D.bl (okName a)) = ((h :: hs).map okName).map D.bl := by rw [List.map_map]; rfl
      have al : ((h :: hs).map okName).all id = (h :: hs).all okName := by rw [List.all_map]; rfl
      rw [eb]
      (repeat' (first | apply Bs_all | fail "q1" | fail "q2" | fail "q4" | fail))
      rw [al]
      cases o : (h :: hs).all okName with
      | false =>
        refine needF_w ?_
        exact finX_same (hN (by rw [if_neg (fun z => by rw [o] at z; exact absurd z.2 (by decide))]; rfl))
      | true =>
        rw [if_pos ⟨c, o⟩] at hC hQ hE hN
        refine needT_w ?_
        (repeat' (first | (with_reducible apply GX_lcv) | fail "q1" | fail "q2" | fail "q4" | fail))
        rw [ch, cm]
        refine CxO (g := dWork) workOf (by omega) (fun x hx => ?_) (fun ys hy => ?_) (fun hy => ?_)
        · intro R E' h1 h2
          have hxx := sp.2 x (by simp [hx])
          (repeat' (first | (with_reducible apply CtX_mk) | fail "q1" | fail "q2" | fail "q4" | fail))
          exact workq_w hxx.1 hxx.2 h1 h2
        · rw [hy] at hC hQ hE hN
          (repeat' (first | (with_reducible refine ixe ?_) | fail "q1" | fail "q2" | fail "q4" | fail))
          refine startq_w hz.1 hz.2 (fun a n k hs0 => ?_) (fun hs0 => ?_)
          · rw [hs0] at hC hQ hE hN
            (repeat' (first | fail "q1" | fail "q2" | fail "q4" | fail))
            refine hC _ _ _ _ _ rfl (fun v => ?_) (fun c v => ?_)
            · (repeat' (first | fail "q1" | fail "q2" | fail "q4" | fail))
              exact hQ _ _ _ _ _ rfl v
            · exact finX_same (hE _ _ _ _ _ rfl c v)
          · rw [hs0] at hN
            exact finX_same (hN wr_s)
        · rw [hy] at hN
          exact finX_same (hN wr_w)
    · (repeat' (first | (with_reducible refine ixw ?_) | refine Cp_eqS hw.2 sh ?_ | refine Br_f (decide_eq_false c) ?_ | fail "q1" | fail "q2" | fail "q4" | fail))
      rw [decide_eq_false c]
      refine needF_w ?_
      refine finX_same (hN ?_)
      rcases hs with _ | ⟨h, hs⟩
      · rfl
      · rw [housesW_c, if_neg (fun z => c z.1)]; rfl
end QL

namespace QL
open PySem Q
/-! ### what is no works -/
theorem finX_id {S : Store} {c : Str} {Qd : D → Store → Prop} {E : EX} (h : E c S) : W (finX S.length c S) Qd E := by
  unfold finX
  rw [if_pos rfl]
  exact ⟨h⟩
theorem ItBl_q {S : Store} {d : D} {xs : List D} {f : D → Store → Out (Option D)} {QL : List D → Store → Prop} (v : D → Bool) (e : seqL S d = some xs) (hl : xs.length < 100000) (step : ∀ x ∈ xs, W (f x S) (fun o S1 => o = some (.bl (v x)) ∧ S1 = S) noX) (stop : QL ((xs.map v).map D.bl) S) : ItP S d (fun it => CfP it f S QL) := by
  refine ItMap_q (ws := xs) (g := id) (h := fun x => .bl (v x)) (by rw [List.map_id]; exact e) hl (fun x hx => step x hx) ?_
  rw [List.map_map] at stop
  exact stop
theorem all_false {xs : List D} {v : D → Bool} (h : ∃ x ∈ xs, v x = false) : (xs.map v).all id = false := by
  obtain ⟨x, hx, e⟩ := h
  rw [List.all_eq_false]
  exact ⟨v x, List.mem_map_of_mem hx, by rw [e]; decide⟩
def nmB : D → Bool
  | .str z => okName z.cps.toList
  | _ => false
inductive NmOk (S : Store) : D → Prop
  | txt (a : List Nat) (h : a.length ≤ 10000) : NmOk S (dS a)
  | odd (d : D) (h : NoS S d) : NmOk S d
theorem nm_w {S : Store} {x : D} (h : NmOk S x) {Qd : D → Store → Prop} {E : EX} (hQ : Qd (.bl (nmB x)) S) : W (m_is_name [x] S) Qd E := by
  cases h with
  | txt a h =>
    refine name_w (by omega) ?_
    have : nmB (dS a) = okName a := by
      show okName (SX.S a).cps.toList = _
      congr 1
    rw [this] at hQ
    exact hQ
  | odd d h =>
    refine nname_w h ?_
    cases h <;> exact hQ
theorem unlikeF_w {S : Store} {d : D} {xs : List D} (e : seqL S d = some xs) (hl : xs.length < 100000) (hv : ∀ x ∈ xs, NmOk S x) (hf : ∃ x ∈ xs, nmB x = false) {Qd : D → Store → Prop} {E : EX} (hQ : Qd (.bl false) S) : W (m_are_unlike [d] S) Qd E := by
  apply w_are_unlike
  unfold z_are_unlike
  (repeat' (first | fail "q1" | fail "q2" | fail "q3" | fail))
  refine ItBl_q nmB e hl (fun x hx => ?_) ?_
  · (repeat' (first | (with_reducible refine nm_w (hv x hx) ?_) | fail "q1" | fail "q2" | fail "q3" | fail))
    exact ⟨rfl, rfl⟩
  (repeat' (first | apply Bs_all | fail "q1" | fail "q2" | fail "q3" | fail))
  refine Br_f (all_false hf) ?_
  (repeat' (first | fail "q1" | fail "q2" | fail "q3" | fail))
  rw [all_false hf]
  exact hQ
theorem once_le : ∀ (xs acc : List Str), (onceS acc xs).length ≤ acc.length + xs.length
  | [], acc => by simp [onceS]
  | x :: xs, acc => by
    unfold onceS
    split
    · have := once_le xs acc
      rw [List.length_cons]; omega
    · have := once_le xs (acc ++ [x])
      rw [List.length_append, List.length_singleton] at this
      rw [List.length_cons]; omega
theorem once_lt : ∀ (xs acc : List Str), acc.Nodup → ¬ (acc ++ xs).Nodup → (onceS acc xs).length < acc.length + xs.length
  | [], acc, h, n => by rw [List.append_nil] at n; exact absurd h n
  | x :: xs, acc, h, n => by
    unfold onceS
    split
    · have := once_le xs acc
      rw [List.length_cons]; omega
    · next hx =>
      have h2 : (acc ++ [x]).Nodup := by
        rw [List.nodup_append]
        refine ⟨h, by simp, fun a ha b hb => ?_⟩
        rw [List.mem_singleton.mp hb]
        exact fun z => hx (z ▸ ha)
      have := once_lt xs (acc ++ [x]) h2 (by rw [List.append_assoc]; exact n)
      rw [List.length_append, List.length_singleton] at this
      rw [List.length_cons]; omega
theorem nodup_S' {ns : List (List Nat)} (h : (ns.map SX.S).Nodup) : ns.Nodup := by
  unfold List.Nodup at *
  rw [List.pairwise_map] at h
  exact h.imp fun h e => h (by rw [e])
theorem Ls_D {S : Store} {d : D} {ns : List (List Nat)} {Q : D → Prop} (e : seqL S d = some (ns.map dS)) (hn : ¬ ns.Nodup) (hl : ns.length ≤ 1000) (h : ∀ k : Nat, k < ns.length → Q (.int k)) : LsP S d Q := by
  refine ⟨⟨.int (onceS [] (ns.map SX.S)).length, ?_, h _ ?_⟩⟩
  · unfold lenSetD
    rw [seqL_seqO e, map_dS]
    simp only [strs_map]
    rw [if_pos (by rw [List.length_map]; exact hl)]
  · have := once_lt (ns.map SX.S) [] List.nodup_nil (by rw [List.nil_append]; exact fun z => hn (nodup_S' z))
    rw [List.length_map] at this
    simpa using this
theorem unlikeD_w {S : Store} {d : D} {ns : List (List Nat)} (e : seqL S d = some (ns.map dS)) (hn : ¬ ns.Nodup) (hg : ∀ a ∈ ns, okName a = true) (hl : ns.length ≤ 1000) {Qd : D → Store → Prop} {E : EX} (hQ : Qd (.bl false) S) : W (m_are_unlike [d] S) Qd E := by
  apply w_are_unlike
  unfold z_are_unlike
  (repeat' (first | fail "q1" | fail "q2" | fail "q3" | fail))
  refine ItBl_q nmB e (by rw [List.length_map]; omega) (fun x hx => ?_) ?_
  · obtain ⟨a, ha, rfl⟩ := List.mem_map.mp hx
    have := okName_len (hg a ha)
    (repeat' (first | (with_reducible refine nm_w (.txt a (by omega)) ?_) | fail "q1" | fail "q2" | fail "q3" | fail))
    exact ⟨rfl, rfl⟩
  have at_ : ((ns.map dS).map nmB).all id = true := by
    rw [List.map_map, List.all_map, List.all_eq_true]
    exact fun a ha => hg a ha
  (repeat' (first | apply Bs_all | fail "q1" | fail "q2" | fail "q3" | fail))
  refine Br_t at_ ?_
  (repeat' (first | refine Ls_D e hn hl (fun k hk => ?_) | refine Bs_lenq e ?_ | fail "q1" | fail "q2" | fail "q3" | fail))
  rw [List.length_map, decide_eq_false (by omega)]; exact hQ
/-! ### check_works goes out -/
def BadAt (S : Store) (d : D) : Prop := ∀ {Qd : D → Store → Prop} {E : EX}, E "BadWorks" S → W (m_check_works [d] S) Qd E
theorem badat_nt {S : Store} {d : D} (h : isTy S d "tuple" = some false) : BadAt S d := fun hE => by
  apply w_check_works
  unfold z_check_works
  (repeat' (first | refine Is_by h ?_ | fail "q1" | fail "q2" | fail "q3" | fail))
  exact finX_id hE
theorem badat_len {S : Store} {xs : List D} (h : (xs.length : Int) ≠ 2) : BadAt S (.tup xs) := fun hE => by
  apply w_check_works
  unfold z_check_works
  (repeat' (first | refine Br_t (by rw [decide_eq_false h]; rfl) ?_ | fail "q1" | fail "q2" | fail "q3" | fail))
  exact finX_id hE
theorem listF_w {S : Store} {d : D} {k : Int} (h : isTy S d "list" = some false ∨ ∃ xs, seqL S d = some xs ∧ (xs.length = 0 ∨ k < xs.length)) {Qd : D → Store → Prop} {E : EX} (hQ : Qd (.bl false) S) : W (m_is_list [d, .int k] S) Qd E := by
  apply w_is_list
  unfold z_is_list
  rcases h with h | ⟨xs, e, h⟩
  · (repeat' (first | refine Is_by h ?_ | fail "q1" | fail "q2" | fail "q3" | fail))
    exact hQ
  · (repeat' (first | refine Is_lstq e ?_ | refine Bs_lenq e ?_ | fail "q1" | fail "q2" | fail "q3" | fail))
    all_goals first | (rw [decide_eq_false (by omega)]; exact hQ) | exact hQ | omega
theorem badat_hl {S : Store} {x y : D} (h : isTy S x "list" = some false ∨ ∃ xs, seqL S x = some xs ∧ (xs.length = 0 ∨ 4 < xs.length)) : BadAt S (.tup [x, y]) := fun hE => by
  apply w_check_works
  unfold z_check_works
  (repeat' (first | refine listF_w (h.imp id fun ⟨xs, a, b⟩ => ⟨xs, a, b.imp id fun z => by omega⟩) ?_ | fail "q1" | fail "q2" | fail "q3" | fail))
  exact finX_id hE
/-- the houses' list is one, but they are not unlike names -/
theorem badat_hu {S : Store} {x y : D} {xs : List D} (e : seqL S x = some xs) (h1 : 1 ≤ xs.length) (h4 : xs.length ≤ 4) (h : ∀ {Qd : D → Store → Prop} {E : EX}, Qd (.bl false) S → W (m_are_unlike [x] S) Qd E) : BadAt S (.tup [x, y]) := fun hE => by
  apply w_check_works
  unfold z_check_works
  (repeat' (first | refine list_w e h1 (by omega) ?_ | refine h ?_ | fail "q1" | fail "q2" | fail "q3" | fail))
  exact finX_id hE
end QL

namespace QL
open PySem Q
structure okH (hs : List (List Nat)) : Prop where
  h1 : 1 ≤ hs.length
  h4 : hs.length ≤ 4
  hn : hs.Nodup
  hg : ∀ a ∈ hs, okName a = true
theorem okW.okH {hs : List (List Nat)} {ws : List Wk} (k : okW hs ws) : okH hs := ⟨k.h1, k.h4, k.hn, k.hg⟩
theorem badat_wl {S : Store} {dh dw : D} {hs : List (List Nat)} (e1 : seqL S dh = some (hs.map dS)) (ok : okH hs) (h : isTy S dw "list" = some false ∨ ∃ xs, seqL S dw = some xs ∧ (xs.length = 0 ∨ 5 < xs.length)) : BadAt S (.tup [dh, dw]) := fun hE => by
  have h1 := ok.h1
  have h4 := ok.h4
  apply w_check_works
  unfold z_check_works
  (repeat' (first | refine list_w e1 (by rw [List.length_map]; exact h1) (by rw [List.length_map]; omega) ?_ | refine unlike_w e1 ok.hn ok.hg (by omega) ?_ | refine listF_w (h.imp id fun ⟨xs, a, b⟩ => ⟨xs, a, b.imp id fun z => by omega⟩) ?_ | fail "q1" | fail "q2" | fail "q3" | fail))
  exact finX_id hE
def prB : D → Bool
  | .tup ys => decide ((ys.length : Int) = 2)
  | _ => false
inductive PrOk (S : Store) : D → Prop
  | tup (ys : List D) : PrOk S (.tup ys)
  | odd (d : D) (h : isTy S d "tuple" = some false) (h2 : prB d = false) : PrOk S d
theorem badat_wt {S : Store} {dh dw : D} {hs : List (List Nat)} {xs : List D} (e1 : seqL S dh = some (hs.map dS)) (ok : okH hs) (e2 : seqL S dw = some xs) (w1 : 1 ≤ xs.length) (w5 : xs.length ≤ 5) (hv : ∀ x ∈ xs, PrOk S x) (hf : ∃ x ∈ xs, prB x = false) : BadAt S (.tup [dh, dw]) := fun hE => by
  have h1 := ok.h1
  have h4 := ok.h4
  apply w_check_works
  unfold z_check_works
  (repeat' (first | refine list_w e1 (by rw [List.length_map]; exact h1) (by rw [List.length_map]; omega) ?_ | refine list_w e2 w1 (by omega) ?_ | refine unlike_w e1 ok.hn ok.hg (by omega) ?_ | fail "q1" | fail "q2" | fail "q3" | fail))
  refine ItBl_q prB e2 (by omega) (fun x hx => ?_) ?_
  · cases hv x hx with
    | tup ys =>
      (repeat' (first | fail "q1" | fail "q2" | fail "q3" | fail))
      exact ⟨rfl, rfl⟩
    | odd d h h2 =>
      (repeat' (first | refine Is_by h ?_ | fail "q1" | fail "q2" | fail "q3" | fail))
      rw [h2]
      exact ⟨rfl, rfl⟩
  (repeat' (first | apply Bs_all | fail "q1" | fail "q2" | fail "q3" | fail))
  refine Br_f (all_false hf) ?_
  (repeat' (first | fail "q1" | fail "q2" | fail "q3" | fail))
  exact finX_id hE
abbrev dP (p : D × D) : D := .tup [p.1, p.2]
theorem badat_wn {S : Store} {dh dw : D} {hs : List (List Nat)} {ps : List (D × D)} (e1 : seqL S dh = some (hs.map dS)) (ok : okH hs) (e2 : seqL S dw = some (ps.map dP)) (w1 : 1 ≤ ps.length) (w5 : ps.length ≤ 5) (h : ∀ {Qd : D → Store → Prop} {E : EX}, Qd (.bl false) S → W (m_are_unlike [.lst (ps.map (·.1))] S) Qd E) : BadAt S (.tup [dh, dw]) := fun hE => by
  have h1 := ok.h1
  have h4 := ok.h4
  apply w_check_works
  unfold z_check_works
  (repeat' (first | refine list_w e1 (by rw [List.length_map]; exact h1) (by rw [List.length_map]; omega) ?_ | refine list_w e2 (by rw [List.length_map]; exact w1) (by rw [List.length_map]; omega) ?_ | refine unlike_w e1 ok.hn ok.hg (by omega) ?_ | fail "q1" | fail "q2" | fail "q3" | fail))
  refine ItTr_q e2 (by rw [List.length_map]; omega) ?_ ?_
  · intro x hx
    obtain ⟨p, hp, rfl⟩ := List.mem_map.mp hx
    (repeat' (first | fail "q1" | fail "q2" | fail "q3" | fail))
    exact ⟨rfl, rfl⟩
  (repeat' (first | apply Bs_all | fail "q1" | fail "q2" | fail "q3" | fail))
  refine Br_t (all_true _) ?_
  (repeat' (first | fail "q1" | fail "q2" | fail "q3" | fail))
  refine ItMap_q (h := fun p : D × D => p.1) e2 (by omega) ?_ ?_
  · intro p hp
    (repeat' (first | fail "q1" | fail "q2" | fail "q3" | fail))
    exact ⟨rfl, rfl⟩
  (repeat' (first | refine h ?_ | fail "q1" | fail "q2" | fail "q3" | fail))
  exact finX_id hE
theorem badat_wb {S : Store} {dh dw : D} {hs ns : List (List Nat)} {ps : List (D × D)} (e1 : seqL S dh = some (hs.map dS)) (ok : okH hs) (e2 : seqL S dw = some (ps.map dP)) (w1 : 1 ≤ ps.length) (w5 : ps.length ≤ 5) (en : ps.map (·.1) = ns.map dS) (nn : ns.Nodup) (ng : ∀ a ∈ ns, okName a = true)
    (v : D → Bool) (hv : ∀ p ∈ ps, ∀ {Qd : D → Store → Prop} {E : EX}, Qd (.bl (v (dP p))) S → W (m_is_body [p.2, dh, .lst (ns.map dS)] S) Qd E) (hf : ∃ p ∈ ps, v (dP p) = false) : BadAt S (.tup [dh, dw]) := fun hE => by
  have h1 := ok.h1
  have h4 := ok.h4
  have nl : ns.length = ps.length := by
    have := congrArg List.length en
    rw [List.length_map, List.length_map] at this
    exact this.symm
  apply w_check_works
  unfold z_check_works
  (repeat' (first | refine list_w e1 (by rw [List.length_map]; exact h1) (by rw [List.length_map]; omega) ?_ | refine list_w e2 (by rw [List.length_map]; exact w1) (by rw [List.length_map]; omega) ?_ | refine unlike_w e1 ok.hn ok.hg (by omega) ?_ | fail "q1" | fail "q2" | fail "q3" | fail))
  refine ItTr_q e2 (by rw [List.length_map]; omega) ?_ ?_
  · intro x hx
    obtain ⟨p, hp, rfl⟩ := List.mem_map.mp hx
    (repeat' (first | fail "q1" | fail "q2" | fail "q3" | fail))
    exact ⟨rfl, rfl⟩
  (repeat' (first | apply Bs_all | fail "q1" | fail "q2" | fail "q3" | fail))
  refine Br_t (all_true _) ?_
  (repeat' (first | fail "q1" | fail "q2" | fail "q3" | fail))
  refine ItMap_q (h := fun p : D × D => p.1) e2 (by omega) ?_ ?_
  · intro p hp
    (repeat' (first | fail "q1" | fail "q2" | fail "q3" | fail))
    exact ⟨rfl, rfl⟩
  rw [en]
  (repeat' (first | refine unlike_w (d := .lst (ns.map dS)) (ns := ns) rfl nn ng (by omega) ?_ | fail "q1" | fail "q2" | fail "q3" | fail))
  refine ItBl_q v e2 (by rw [List.length_map]; omega) (fun x hx => ?_) ?_
  · obtain ⟨p, hp, rfl⟩ := List.mem_map.mp hx
    (repeat' (first | refine hv p hp ?_ | fail "q1" | fail "q2" | fail "q3" | fail))
    exact ⟨rfl, rfl⟩
  (repeat' (first | apply Bs_all | fail "q1" | fail "q2" | fail "q3" | fail))
  refine Br_f (all_false ?_) ?_
  · obtain ⟨p, hp, e⟩ := hf
    exact ⟨dP p, List.mem_map_of_mem hp, e⟩
  (repeat' (first | fail "q1" | fail "q2" | fail "q3" | fail))
  exact finX_id hE
end QL

namespace QL
open PySem Q
/-! ### what is no statement, no body -/
def SmV (S : Store) (dh dn d : D) (b : Bool) : Prop := ∀ {Qd : D → Store → Prop} {E : EX}, Qd (.bl b) S → W (m_is_statement [d, dh, dn] S) Qd E
theorem smv_good {S : Store} {dh dn : D} {hs ns : List (List Nat)} (e1 : seqL S dh = some (hs.map dS)) (e2 : seqL S dn = some (ns.map dS)) (s1 : ∀ b ∈ hs, sOk b = true) (s2 : ∀ b ∈ ns, sOk b = true) {m : Sm} (hm : okSm hs ns m) : SmV S dh dn (dSm m) true :=
  fun hQ => statement_w e1 e2 s1 s2 hm hQ
theorem smv_nt {S : Store} {dh dn d : D} (h : isTy S d "tuple" = some false) : SmV S dh dn d false := fun hQ => by
  apply w_is_statement
  unfold z_is_statement
  (repeat' (first | refine Is_by h ?_ | fail "q1" | fail "q2" | fail "q3" | fail))
  exact hQ
theorem smv_nil {S : Store} {dh dn : D} : SmV S dh dn (.tup []) false := fun hQ => by
  apply w_is_statement
  unfold z_is_statement
  (repeat' (first | refine Cp_eq (EqOk.of (n := 1) rfl (by decide)) (EqOk.of (n := 1) rfl (by decide)) (fun _ => ?_) (fun e => absurd rfl e) | fail "q1" | fail "q2" | fail "q3" | fail))
  exact hQ
theorem ix_0 {S : Store} {x : D} {xs : List D} : ixD S (.tup (x :: xs)) (.int 0) = some x := by
  obtain ⟨d, a1, a2⟩ := atI_nat (xs := x :: xs) (k := 0) (by decide) (by simp)
  show L2.atI (x :: xs) 0 = some x
  rw [a1, ← a2]; rfl
/-- the first thing is no text -/
theorem smv_t0 {S : Store} {dh dn x : D} {xs : List D} {n : Nat} (f : fine n (.tup (x :: xs)) = true) (hn : n ≤ 64) (h : isTy S x "str" = some false) : SmV S dh dn (.tup (x :: xs)) false := fun hQ => by
  apply w_is_statement
  unfold z_is_statement
  (repeat' (first | refine nempty f hn ?_ | refine Ix_by ix_0 ?_ | refine Is_by h ?_ | fail "q1" | fail "q2" | fail "q3" | fail))
  exact hQ
/-- own, with more -/
theorem smv_own {S : Store} {dh dn : D} {xs : List D} {n : Nat} (f : fine n (.tup (dS cOwn :: xs)) = true) (hn : n ≤ 64) (h : xs ≠ []) : SmV S dh dn (.tup (dS cOwn :: xs)) false := fun hQ => by
  have hl : ((dS cOwn :: xs).length : Int) ≠ 1 := by
    cases xs with
    | nil => exact absurd rfl h
    | cons _ _ => simp only [List.length_cons]; omega
  apply w_is_statement
  unfold z_is_statement
  rw [kOwn, kAdd, kSpin, kMake, kAsk]
  (repeat' (first | refine nempty f hn ?_ | refine Ix_by ix_0 ?_ | refine Cp_eqS (by decide) (by decide) ?_ | fail "q1" | fail "q2" | fail "q3" | fail))
  rw [decide_eq_false hl]
  exact hQ
/-- add, spin: of another length -/
theorem smv_addL {S : Store} {dh dn : D} {xs : List D} {n : Nat} (f : fine n (.tup (dS cAdd :: xs)) = true) (hn : n ≤ 64) (h : xs.length ≠ 1) : SmV S dh dn (.tup (dS cAdd :: xs)) false := fun hQ => by
  have hl : ((dS cAdd :: xs).length : Int) ≠ 2 := by
    rw [List.length_cons]; omega
  apply w_is_statement
  unfold z_is_statement
  rw [kOwn, kAdd, kSpin, kMake, kAsk]
  (repeat' (first | refine nempty f hn ?_ | refine Ix_by ix_0 ?_ | refine Cp_eqS (by decide) (by decide) ?_ | refine Br_f (decide_eq_false hl) ?_ | fail "q1" | fail "q2" | fail "q3" | fail))
  first | exact hQ | (rw [decide_eq_false hl]; exact hQ)
theorem smv_spinL {S : Store} {dh dn : D} {xs : List D} {n : Nat} (f : fine n (.tup (dS cSpin :: xs)) = true) (hn : n ≤ 64) (h : xs.length ≠ 1) : SmV S dh dn (.tup (dS cSpin :: xs)) false := fun hQ => by
  have hl : ((dS cSpin :: xs).length : Int) ≠ 2 := by
    rw [List.length_cons]; omega
  apply w_is_statement
  unfold z_is_statement
  rw [kOwn, kAdd, kSpin, kMake, kAsk]
  (repeat' (first | refine nempty f hn ?_ | refine Ix_by ix_0 ?_ | refine Cp_eqS (by decide) (by decide) ?_ | refine Br_f (decide_eq_false hl) ?_ | fail "q1" | fail "q2" | fail "q3" | fail))
  first | exact hQ | (rw [decide_eq_false hl]; exact hQ)
/-- the number is none -/
theorem intF_w {S : Store} {d : D} (h : isTy S d "int" = some false ∨ ∃ b, d = .bl b) {Qd : D → Store → Prop} {E : EX} (hQ : Qd (.bl false) S) : W (m_is_int [d] S) Qd E := by
  apply w_is_int
  unfold z_is_int
  rcases h with h | ⟨b, rfl⟩
  · (repeat' (first | refine Is_by h ?_ | fail "q1" | fail "q2" | fail "q3" | fail))
    exact hQ
  · (repeat' (first | fail "q1" | fail "q2" | fail "q3" | fail))
    exact hQ
theorem smv_addO {S : Store} {dh dn x : D} {n : Nat} (f : fine n (.tup [dS cAdd, x]) = true ∨ True) (hne : ∀ {Q : Bool → Prop}, Q false → Cp S .Eq (.tup [dS cAdd, x]) (.tup []) Q) (h : isTy S x "int" = some false ∨ ∃ b, x = .bl b) : SmV S dh dn (.tup [dS cAdd, x]) false := fun hQ => by
  apply w_is_statement
  unfold z_is_statement
  rw [kOwn, kAdd, kSpin, kMake, kAsk]
  (repeat' (first | refine hne ?_ | refine Ix_by (x' := dS cAdd) rfl ?_ | refine Ix_by (x' := x) rfl ?_ | refine Cp_eqS (by decide) (by decide) ?_ | (with_reducible refine intF_w h ?_) | fail "q1" | fail "q2" | fail "q3" | fail))
  exact hQ
end QL

namespace QL
open PySem Q
/-! what is no text, in a list of texts (the same blocks stand in bads.txt and bad.txt of k14) -/
end QL

namespace QL
open PySem Q
def NE (S : Store) (d : D) : Prop := ∀ {Q : Bool → Prop}, Q false → Cp S .Eq d (.tup []) Q
theorem NE.fine {S : Store} {x : D} {xs : List D} {n : Nat} (hf : Q.fine n (.tup (x :: xs)) = true) (hn : n ≤ 64) : NE S (.tup (x :: xs)) := fun h => nempty hf hn h
theorem NE.lay {S : Store} {x : D} {xs : List D} {p : PyData} (e : toPyS S (.tup (x :: xs)) = some p) (s : SeqAt.shaped p = true) : NE S (.tup (x :: xs)) := fun h => by
  refine ⟨⟨false, ?_, h⟩⟩
  show eqD S (.tup (x :: xs)) (.tup []) = _
  have e2 : toPyS S (.tup []) = some (.tuple []) := rfl
  unfold eqD
  rw [e, e2]
  have s2 : SeqAt.shaped (.tuple []) = true := by decide +kernel
  have e3 : toPy (.tup (res 7 S x :: xs.map (res 7 S))) = some p := e
  simp only [toPy, toPys] at e3
  cases h1 : toPy (res 7 S x) with
  | none => rw [h1] at e3; cases e3
  | some y =>
    rw [h1] at e3
    cases h2 : toPys (xs.map (res 7 S)) with
    | none => rw [h2] at e3; cases e3
    | some ys =>
      rw [h2] at e3
      cases e3
      show (if SeqAt.shaped (.tuple (y :: ys)) = true ∧ SeqAt.shaped (.tuple []) = true then some (PyData.eqv (.tuple (y :: ys)) (.tuple [])) else none) = _
      rw [if_pos ⟨s, s2⟩]
      simp [PyData.eqv, PyData.eqvAll]
theorem Cp_ino {S : Store} {d x : D} {ns : List (List Nat)} {PB : Bool → Prop} (e : seqL S d = some (ns.map dS)) (hx : Odd x) (hs : ∀ b ∈ ns, sOk b = true) (h : PB false) : Cp S .In x d PB :=
  ⟨⟨false, inD_odd e hx hs, h⟩⟩
section
variable {S : Store} {dh dn : D} {hs ns : List (List Nat)}
theorem smv_addI {i : Int} (h : i < -1000 ∨ 1000 < i) : SmV S dh dn (.tup [dS cAdd, .int i]) false := fun hQ => by
  have f1 : fine 1 (.tup [dS cAdd, .int i]) = true := by
    show (fine 0 (dS cAdd) && (fine 0 (.int i) && true)) = true
    rw [fine_S (by decide)]; rfl
  apply w_is_statement
  unfold z_is_statement
  rw [kOwn, kAdd, kSpin, kMake, kAsk]
  (repeat' (first | refine nempty f1 (by decide) ?_ | refine Cp_eqS (by decide) (by decide) ?_ | (with_reducible refine int_w ?_) | fail "q1" | fail "q2" | fail "q3" | fail))
  all_goals first | exact hQ | (rw [decide_eq_false (by omega)]; exact hQ) | omega
theorem smv_spinI {i : Int} (h : i < 1 ∨ 4 < i) : SmV S dh dn (.tup [dS cSpin, .int i]) false := fun hQ => by
  have f1 : fine 1 (.tup [dS cSpin, .int i]) = true := by
    show (fine 0 (dS cSpin) && (fine 0 (.int i) && true)) = true
    rw [fine_S (by decide)]; rfl
  apply w_is_statement
  unfold z_is_statement
  rw [kOwn, kAdd, kSpin, kMake, kAsk]
  (repeat' (first | refine nempty f1 (by decide) ?_ | refine Cp_eqS (by decide) (by decide) ?_ | (with_reducible refine int_w ?_) | fail "q1" | fail "q2" | fail "q3" | fail))
  all_goals first | exact hQ | (rw [decide_eq_false (by omega)]; exact hQ) | omega
theorem smv_spinO {x : D} (hne : NE S (.tup [dS cSpin, x])) (h : isTy S x "int" = some false ∨ ∃ b, x = .bl b) : SmV S dh dn (.tup [dS cSpin, x]) false := fun hQ => by
  apply w_is_statement
  unfold z_is_statement
  rw [kOwn, kAdd, kSpin, kMake, kAsk]
  (repeat' (first | refine hne ?_ | refine Ix_by (x' := dS cSpin) rfl ?_ | refine Ix_by (x' := x) rfl ?_ | refine Cp_eqS (by decide) (by decide) ?_ | (with_reducible refine intF_w h ?_) | fail "q1" | fail "q2" | fail "q3" | fail))
  exact hQ
/-- another word -/
theorem smv_word {c : List Nat} {xs : List D} (hne : NE S (.tup (dS c :: xs))) (sc : sOk c = true) (h1 : c ≠ cOwn) (h2 : c ≠ cAdd) (h3 : c ≠ cSpin) (h4 : c ≠ cMake) (h5 : c ≠ cAsk) : SmV S dh dn (.tup (dS c :: xs)) false := fun hQ => by
  apply w_is_statement
  unfold z_is_statement
  rw [kOwn, kAdd, kSpin, kMake, kAsk]
  have g : (decide (c = cMake) || decide (c = cAsk)) = false := by rw [decide_eq_false h4, decide_eq_false h5]; rfl
  (repeat' (first | refine hne ?_ | refine Ix_by ix_0 ?_ | refine Cp_eqS sc (by decide) ?_ | refine Br_f (decide_eq_false h1) ?_ | refine Br_f (decide_eq_false h2) ?_ | refine Br_f (decide_eq_false h3) ?_ | refine Cp_in2 sc (by decide) (by decide) ?_ | refine Br_f g ?_ | fail "q1" | fail "q2" | fail "q3" | fail))
  all_goals first | (rw [g]; exact hQ) | exact hQ
theorem callT (b : Bool) : (decide (cCall b = cMake) || decide (cCall b = cAsk)) = true := by cases b <;> decide
theorem callN1 (b : Bool) : decide (cCall b = cOwn) = false := by cases b <;> decide
theorem callN2 (b : Bool) : decide (cCall b = cAdd) = false := by cases b <;> decide
theorem callN3 (b : Bool) : decide (cCall b = cSpin) = false := by cases b <;> decide
theorem smv_callL {b : Bool} {xs : List D} (hne : NE S (.tup (dS (cCall b) :: xs))) (h : xs.length ≠ 2) : SmV S dh dn (.tup (dS (cCall b) :: xs)) false := fun hQ => by
  have hl : ((dS (cCall b) :: xs).length : Int) ≠ 3 := by rw [List.length_cons]; omega
  apply w_is_statement
  unfold z_is_statement
  rw [kOwn, kAdd, kSpin, kMake, kAsk]
  (repeat' (first | refine hne ?_ | refine Ix_by ix_0 ?_ | refine Cp_eqS (cCall_s b) (by decide) ?_ | refine Br_f (callN1 b) ?_ | refine Br_f (callN2 b) ?_ | refine Br_f (callN3 b) ?_ | refine Cp_in2 (cCall_s b) (by decide) (by decide) ?_ | refine Br_t (callT b) ?_ | refine Br_f (decide_eq_false hl) ?_ | fail "q1" | fail "q2" | fail "q3" | fail))
  all_goals first | exact hQ | (rw [decide_eq_false hl]; exact hQ)
theorem smv_callH {b : Bool} {x y : D} (hne : NE S (.tup [dS (cCall b), x, y])) (h : ∀ {Q : Bool → Prop}, Q false → Cp S .In x dh Q) : SmV S dh dn (.tup [dS (cCall b), x, y]) false := fun hQ => by
  apply w_is_statement
  unfold z_is_statement
  rw [kOwn, kAdd, kSpin, kMake, kAsk]
  (repeat' (first | refine hne ?_ | refine Ix_by (x' := dS (cCall b)) rfl ?_ | refine Ix_by (x' := x) rfl ?_ | refine Cp_eqS (cCall_s b) (by decide) ?_ | refine Br_f (callN1 b) ?_ | refine Br_f (callN2 b) ?_ | refine Br_f (callN3 b) ?_ | refine Cp_in2 (cCall_s b) (by decide) (by decide) ?_ | refine Br_t (callT b) ?_ | refine h ?_ | fail "q1" | fail "q2" | fail "q3" | fail))
  all_goals exact hQ
theorem smv_callN {b : Bool} {x y : D} (hne : NE S (.tup [dS (cCall b), x, y])) (h1 : ∀ {Q : Bool → Prop}, Q true → Cp S .In x dh Q) (h2 : ∀ {Q : Bool → Prop}, Q false → Cp S .In y dn Q) : SmV S dh dn (.tup [dS (cCall b), x, y]) false := fun hQ => by
  apply w_is_statement
  unfold z_is_statement
  rw [kOwn, kAdd, kSpin, kMake, kAsk]
  (repeat' (first | refine hne ?_ | refine Ix_by (x' := dS (cCall b)) rfl ?_ | refine Ix_by (x' := x) rfl ?_ | refine Ix_by (x' := y) rfl ?_ | refine Cp_eqS (cCall_s b) (by decide) ?_ | refine Br_f (callN1 b) ?_ | refine Br_f (callN2 b) ?_ | refine Br_f (callN3 b) ?_ | refine Cp_in2 (cCall_s b) (by decide) (by decide) ?_ | refine Br_t (callT b) ?_ | refine h1 ?_ | refine h2 ?_ | fail "q1" | fail "q2" | fail "q3" | fail))
  all_goals exact hQ
end
end QL

namespace QL
open PySem Q
/-! ### what is no body -/
section
variable {S : Store} {dh dn : D} {hs ns : List (List Nat)}
def BdV (S : Store) (dh dn d : D) (b : Bool) : Prop := ∀ {Qd : D → Store → Prop} {E : EX}, Qd (.bl b) S → W (m_is_body [d, dh, dn] S) Qd E
theorem bdv_good (e1 : seqL S dh = some (hs.map dS)) (e2 : seqL S dn = some (ns.map dS)) (s1 : ∀ b ∈ hs, sOk b = true) (s2 : ∀ b ∈ ns, sOk b = true) {b : List Sm} (hb : okBody hs ns b) : BdV S dh dn (dBody b) true := fun hQ => body_w e1 e2 s1 s2 hb hQ
theorem bdv_nt {d : D} (h : isTy S d "tuple" = some false) : BdV S dh dn d false := fun hQ => by
  apply w_is_body
  unfold z_is_body
  (repeat' (first | refine Is_by h ?_ | fail "q1" | fail "q2" | fail "q3" | fail))
  exact hQ
theorem bdv_long {xs : List D} (h : 6 < xs.length) : BdV S dh dn (.tup xs) false := fun hQ => by
  have hl : (6 : Int) < (xs.length : Nat) := by omega
  apply w_is_body
  unfold z_is_body
  (repeat' (first | refine Br_t (decide_eq_true hl) ?_ | fail "q1" | fail "q2" | fail "q3" | fail))
  exact hQ
/-- one of its statements is none -/
theorem bdv_st {ps : List (D × Bool)} (hl : ps.length ≤ 6) (hv : ∀ p ∈ ps, SmV S dh dn p.1 p.2) (hf : ∃ p ∈ ps, p.2 = false) : BdV S dh dn (.tup (ps.map (·.1))) false := fun hQ => by
  have hl2 : ¬ (6 : Int) < ((ps.map (·.1)).length : Nat) := by rw [List.length_map]; omega
  have af : (ps.map (·.2)).all id = false := by
    obtain ⟨p, hp, e⟩ := hf
    rw [List.all_eq_false]
    exact ⟨p.2, List.mem_map_of_mem hp, by rw [e]; decide⟩
  apply w_is_body
  unfold z_is_body
  (repeat' (first | refine Br_f (decide_eq_false hl2) ?_ | fail "q1" | fail "q2" | fail "q3" | fail))
  refine Cf_inv (fun i acc S' => S' = S ∧ acc = ((ps.take i).map (·.2)).map D.bl) (by show (ps.map _).length < 100000; rw [List.length_map]; omega) ⟨rfl, rfl⟩ ?_ ?_
  · rintro i x acc S' hx ⟨rfl, rfl⟩ _
    have hx : (ps.map (·.1))[i]? = some x := hx
    rw [List.getElem?_map, Option.map_eq_some_iff] at hx
    obtain ⟨p, hp, rfl⟩ := hx
    (repeat' (first | refine hv p (List.mem_of_getElem? hp) ?_ | fail "q1" | fail "q2" | fail "q3" | fail))
    refine ⟨rfl, ?_⟩
    rw [List.take_succ, hp]
    simp
  · rintro acc S' ⟨rfl, rfl⟩
    have : ps.take (Items.mk (ps.map (·.1)) none false).xs.length = ps := List.take_of_length_le (by show _ ≤ (ps.map _).length; rw [List.length_map]; exact Nat.le_refl _)
    rw [this]
    (repeat' (first | apply Bs_all | fail "q1" | fail "q2" | fail "q3" | fail))
    refine Br_f af ?_
    (repeat' (first | fail "q1" | fail "q2" | fail "q3" | fail))
    exact hQ
/-- four calls -/
theorem bdv_calls (e1 : seqL S dh = some (hs.map dS)) (e2 : seqL S dn = some (ns.map dS)) (s1 : ∀ b ∈ hs, sOk b = true) (s2 : ∀ b ∈ ns, sOk b = true) {b : List Sm} (hl : b.length ≤ 6) (ha : ∀ m ∈ b, okSm hs ns m) (hc : 3 < (b.filter isCall).length) : BdV S dh dn (dBody b) false := fun hQ => by
  apply w_is_body
  unfold z_is_body dBody
  rw [kMake, kAsk]
  have hl2 : ¬ (6 : Int) < ((b.map dSm).length : Nat) := by rw [List.length_map]; omega
  (repeat' (first | refine Br_f (decide_eq_false hl2) ?_ | fail "q1" | fail "q2" | fail "q3" | fail))
  refine Cf_inv (fun i acc S' => S' = S ∧ acc = (List.replicate i true).map D.bl) (by show (b.map dSm).length < 100000; rw [List.length_map]; omega) ⟨rfl, rfl⟩ ?_ ?_
  · rintro i x acc S' hx ⟨rfl, rfl⟩ _
    have hx : (b.map dSm)[i]? = some x := hx
    rw [List.getElem?_map, Option.map_eq_some_iff] at hx
    obtain ⟨m, hm, rfl⟩ := hx
    (repeat' (first | fail "q1" | (with_reducible refine statement_w e1 e2 s1 s2 (ha m (List.mem_of_getElem? hm)) ?_) | fail "q2" | fail "q3" | fail))
    exact ⟨rfl, by rw [← replicate_snoc, List.map_append]; rfl⟩
  · rintro acc S' ⟨rfl, rfl⟩
    (repeat' (first | apply Bs_all | fail "q1" | fail "q2" | fail "q3" | fail))
    refine Br_t (all_true _) ?_
    (repeat' (first | fail "q1" | fail "q2" | fail "q3" | fail))
    refine Cf_inv (fun i acc S2 => S2 = S' ∧ acc = ((b.take i).filter isCall).map dSm) (by show (b.map dSm).length < 100000; rw [List.length_map]; omega) ⟨rfl, rfl⟩ ?_ ?_
    · rintro i x acc S2 hx ⟨rfl, rfl⟩ _
      have hx : (b.map dSm)[i]? = some x := hx
      rw [List.getElem?_map, Option.map_eq_some_iff] at hx
      obtain ⟨m, hm, rfl⟩ := hx
      have ht : b.take (i + 1) = b.take i ++ [m] := by rw [List.take_succ, hm]; rfl
      rw [ht, List.filter_append, List.map_append]
      cases hcall : isCall m with
      | true =>
        obtain ⟨x, ⟨d, q1, rfl⟩, q2⟩ := fst_call (S := S2) (m := m) (PB := fun k => k = true) hcall
        obtain ⟨k, q3, rfl⟩ := q2.out
        (repeat' (first | refine Ix_by q1 ?_ | refine Cp_by q3 ?_ | fail "q1" | fail "q2" | fail "q3" | fail))
        exact ⟨rfl, by simp [List.filter, hcall]⟩
      | false =>
        obtain ⟨x, ⟨d, q1, rfl⟩, q2⟩ := fst_call (S := S2) (m := m) (PB := fun k => k = false) hcall
        obtain ⟨k, q3, rfl⟩ := q2.out
        (repeat' (first | refine Ix_by q1 ?_ | refine Cp_by q3 ?_ | fail "q1" | fail "q2" | fail "q3" | fail))
        exact ⟨rfl, by simp [List.filter, hcall]⟩
    · rintro acc S2 ⟨rfl, rfl⟩
      have : b.take (Items.mk (b.map dSm) none false).xs.length = b := List.take_of_length_le (by show _ ≤ (b.map dSm).length; rw [List.length_map]; exact Nat.le_refl _)
      rw [this]
      (repeat' (first | fail "q1" | fail "q2" | fail "q3" | fail))
      rw [List.length_map, decide_eq_false (by omega)]
      exact hQ
end
/-- the law's own asking -/
theorem BadAt.works {S : Store} {d : D} (h : BadAt S d) {Qd : D → Store → Prop} {E : EX} (hQ : E "BadWorks" S) : W (m_check_works [d] S) Qd E := h hQ
end QL

namespace QL
open PySem Q
/-! ### what is no start -/
inductive BadS (hs ns : List (List Nat)) (S : Store) : D → Prop
  | nt (d : D) (h : isTy S d "tuple" = some false) : BadS hs ns S d
  | len (xs : List D) (h : (xs.length : Int) ≠ 3) : BadS hs ns S (.tup xs)
  | hS (a : List Nat) (y z : D) (sa : sOk a = true) (h : a ∉ hs) : BadS hs ns S (.tup [dS a, y, z])
  | hO (x y z : D) (h : Odd x) : BadS hs ns S (.tup [x, y, z])
  | nS (a b : List Nat) (z : D) (ha : a ∈ hs) (sb : sOk b = true) (h : b ∉ ns) : BadS hs ns S (.tup [dS a, dS b, z])
  | nO (a : List Nat) (x z : D) (ha : a ∈ hs) (h : Odd x) : BadS hs ns S (.tup [dS a, x, z])
  | kI (a b : List Nat) (i : Int) (ha : a ∈ hs) (hb : b ∈ ns) (h : i < 0 ∨ 3 < i) : BadS hs ns S (.tup [dS a, dS b, .int i])
  | kB (a b : List Nat) (k : Bool) (ha : a ∈ hs) (hb : b ∈ ns) : BadS hs ns S (.tup [dS a, dS b, .bl k])
  | kO (a b : List Nat) (z : D) (ha : a ∈ hs) (hb : b ∈ ns) (h : isTy S z "int" = some false) : BadS hs ns S (.tup [dS a, dS b, z])
theorem names_comp {S : Store} {dw : D} {ws : List Wk} {f : D → Store → Out (Option D)} {QL : List D → Store → Prop} (e2 : seqL S dw = some (ws.map dWork)) (hl : ws.length ≤ 5) (step : ∀ w ∈ ws, W (f (.tup [dS w.1, dBody w.2]) S) (fun o S1 => o = some (dS w.1) ∧ S1 = S) noX) (stop : QL ((nms ws).map dS) S) : ItP S dw (fun it => CfP it f S QL) := by
  refine ItMap_q (g := dWork) (h := fun w : Wk => dS w.1) e2 (by omega) (fun w hw => step w hw) ?_
  rw [map_nms]; exact stop
theorem bads_w {S : Store} {dh dw d : D} {hs : List (List Nat)} {ws : List Wk} (e1 : seqL S dh = some (hs.map dS)) (e2 : seqL S dw = some (ws.map dWork)) (ok : okW hs ws) (hb : BadS hs (nms ws) S d) {Qd : D → Store → Prop} {E : EX} (hE : E "BadStart" S) : W (m_check_start [.tup [dh, dw], d] S) Qd E := by
  have w5 := ok.w5
  apply w_check_start
  unfold z_check_start
  cases hb with
  | nt d h =>
    (repeat' (first | refine checkw_w e1 e2 ok ?_ | refine Is_by h ?_ | fail "q1" | fail "q2" | fail "q3" | fail))
    exact finX_same hE
  | len xs h =>
    (repeat' (first | refine checkw_w e1 e2 ok ?_ | refine Br_t (by rw [decide_eq_false h]; rfl) ?_ | fail "q1" | fail "q2" | fail "q3" | fail))
    exact finX_same hE
  | hS a y z sa h =>
    (repeat' (first | refine checkw_w e1 e2 ok ?_ | refine Cp_ninS e1 sa ok.s1 ?_ | fail "q1" | fail "q2" | fail "q3" | fail))
    all_goals first | exact finX_same hE | (rename_i q; exact absurd q h)
  | hO x y z h =>
    (repeat' (first | refine checkw_w e1 e2 ok ?_ | refine Cp_nino e1 h ok.s1 ?_ | fail "q1" | fail "q2" | fail "q3" | fail))
    exact finX_same hE
  | nS a b z ha sb h =>
    (repeat' (first | refine checkw_w e1 e2 ok ?_ | refine Cp_ninS e1 (ok.s1 _ ha) ok.s1 ?_ | fail "q1" | fail "q2" | fail "q3" | fail))
    refine names_comp e2 w5 (fun w hw => by (repeat' (first | fail "q1" | fail "q2" | fail "q3" | fail)); exact ⟨rfl, rfl⟩) ?_
    (repeat' (first | refine Cp_ninS (d := .lst ((nms ws).map dS)) (ns := nms ws) rfl sb ok.s2 ?_ | fail "q1" | fail "q2" | fail "q3" | fail))
    all_goals first | exact finX_same hE | (rename_i q; exact absurd q h)
  | nO a x z ha h =>
    (repeat' (first | refine checkw_w e1 e2 ok ?_ | refine Cp_ninS e1 (ok.s1 _ ha) ok.s1 ?_ | fail "q1" | fail "q2" | fail "q3" | fail))
    refine names_comp e2 w5 (fun w hw => by (repeat' (first | fail "q1" | fail "q2" | fail "q3" | fail)); exact ⟨rfl, rfl⟩) ?_
    (repeat' (first | refine Cp_nino (d := .lst ((nms ws).map dS)) (ns := nms ws) rfl h ok.s2 ?_ | fail "q1" | fail "q2" | fail "q3" | fail))
    exact finX_same hE
  | kI a b i ha hb h =>
    (repeat' (first | refine checkw_w e1 e2 ok ?_ | refine Cp_ninS e1 (ok.s1 _ ha) ok.s1 ?_ | fail "q1" | fail "q2" | fail "q3" | fail))
    refine names_comp e2 w5 (fun w hw => by (repeat' (first | fail "q1" | fail "q2" | fail "q3" | fail)); exact ⟨rfl, rfl⟩) ?_
    (repeat' (first | refine Cp_ninS (d := .lst ((nms ws).map dS)) (ns := nms ws) rfl (ok.s2 _ hb) ok.s2 ?_ | (with_reducible refine int_w ?_) | fail "q1" | fail "q2" | fail "q3" | fail))
    all_goals first | exact finX_same hE | omega
  | kB a b k ha hb =>
    (repeat' (first | refine checkw_w e1 e2 ok ?_ | refine Cp_ninS e1 (ok.s1 _ ha) ok.s1 ?_ | fail "q1" | fail "q2" | fail "q3" | fail))
    refine names_comp e2 w5 (fun w hw => by (repeat' (first | fail "q1" | fail "q2" | fail "q3" | fail)); exact ⟨rfl, rfl⟩) ?_
    (repeat' (first | refine Cp_ninS (d := .lst ((nms ws).map dS)) (ns := nms ws) rfl (ok.s2 _ hb) ok.s2 ?_ | fail "q1" | fail "q2" | fail "q3" | fail))
    apply w_is_int
    unfold z_is_int
    (repeat' (first | fail "q1" | fail "q2" | fail "q3" | fail))
    exact finX_same hE
  | kO a b z ha hb h =>
    (repeat' (first | refine checkw_w e1 e2 ok ?_ | refine Cp_ninS e1 (ok.s1 _ ha) ok.s1 ?_ | fail "q1" | fail "q2" | fail "q3" | fail))
    refine names_comp e2 w5 (fun w hw => by (repeat' (first | fail "q1" | fail "q2" | fail "q3" | fail)); exact ⟨rfl, rfl⟩) ?_
    (repeat' (first | refine Cp_ninS (d := .lst ((nms ws).map dS)) (ns := nms ws) rfl (ok.s2 _ hb) ok.s2 ?_ | fail "q1" | fail "q2" | fail "q3" | fail))
    apply w_is_int
    unfold z_is_int
    (repeat' (first | refine Is_by h ?_ | fail "q1" | fail "q2" | fail "q3" | fail))
    exact finX_same hE
end QL

namespace QL
open PySem Q
/-! ### works and a start that are written: what the program's check says -/
def smN : Sm → Prop
  | .call _ h n => okName h = true ∧ okName n = true
  | _ => True
structure WrOk (hs : List (List Nat)) (ws : List Wk) : Prop where
  h1 : 1 ≤ hs.length
  hg : ∀ a ∈ hs, okName a = true
  wg : ∀ a ∈ nms ws, okName a = true
  sm : ∀ w ∈ ws, ∀ m ∈ w.2, smN m
section
variable {S : Store} {dh dn : D} {hs ns : List (List Nat)}
theorem sm_v (e1 : seqL S dh = some (hs.map dS)) (e2 : seqL S dn = some (ns.map dS)) (s1 : ∀ b ∈ hs, sOk b = true) (s2 : ∀ b ∈ ns, sOk b = true) {m : Sm} (hm : smN m) : SmV S dh dn (dSm m) (okSmB hs ns m) := by
  intro Qd E hQ
  cases m with
  | own => exact smv_good e1 e2 s1 s2 (m := .own) trivial hQ
  | add i =>
    by_cases c : -1000 ≤ i ∧ i ≤ 1000
    · have : okSmB hs ns (.add i) = true := decide_eq_true c
      rw [this] at hQ
      exact smv_good e1 e2 s1 s2 (m := .add i) c hQ
    · have : okSmB hs ns (.add i) = false := decide_eq_false c
      rw [this] at hQ
      exact smv_addI (by omega) hQ
  | spin i =>
    by_cases c : 1 ≤ i ∧ i ≤ 4
    · have : okSmB hs ns (.spin i) = true := decide_eq_true c
      rw [this] at hQ
      exact smv_good e1 e2 s1 s2 (m := .spin i) c hQ
    · have : okSmB hs ns (.spin i) = false := decide_eq_false c
      rw [this] at hQ
      exact smv_spinI (by omega) hQ
  | call b h n =>
    have sh := okName_s hm.1
    have sn := okName_s hm.2
    have ne : NE S (.tup [dS (cCall b), dS h, dS n]) := NE.fine (n := 1) (by
      show (fine 0 (dS (cCall b)) && (fine 0 (dS h) && (fine 0 (dS n) && true))) = true
      rw [fine_S (cCall_s b), fine_S sh, fine_S sn]; rfl) (by decide)
    by_cases c1 : h ∈ hs
    · by_cases c2 : n ∈ ns
      · have : okSmB hs ns (.call b h n) = true := decide_eq_true ⟨c1, c2⟩
        rw [this] at hQ
        exact smv_good e1 e2 s1 s2 (m := .call b h n) ⟨c1, c2⟩ hQ
      · have : okSmB hs ns (.call b h n) = false := decide_eq_false (fun z => c2 z.2)
        rw [this] at hQ
        exact smv_callN ne (fun hq => Cp_inS e1 sh s1 (by rw [decide_eq_true c1]; exact hq)) (fun hq => Cp_inS e2 sn s2 (by rw [decide_eq_false c2]; exact hq)) hQ
    · have : okSmB hs ns (.call b h n) = false := decide_eq_false (fun z => c1 z.1)
      rw [this] at hQ
      exact smv_callH ne (fun hq => Cp_inS e1 sh s1 (by rw [decide_eq_false c1]; exact hq)) hQ
theorem okSmB_ok {m : Sm} (h : okSmB hs ns m = true) : okSm hs ns m := by
  cases m with
  | own => exact trivial
  | add i =>
    have h : decide (-1000 ≤ i ∧ i ≤ 1000) = true := h
    have h2 := of_decide_eq_true h
    exact h2
  | spin i =>
    have h : decide (1 ≤ i ∧ i ≤ 4) = true := h
    have h2 := of_decide_eq_true h
    exact h2
  | call b x y =>
    have h : decide (x ∈ hs ∧ y ∈ ns) = true := h
    have h2 := of_decide_eq_true h
    exact h2
theorem bd_v (e1 : seqL S dh = some (hs.map dS)) (e2 : seqL S dn = some (ns.map dS)) (s1 : ∀ b ∈ hs, sOk b = true) (s2 : ∀ b ∈ ns, sOk b = true) {b : List Sm} (hm : ∀ m ∈ b, smN m) : BdV S dh dn (dBody b) (okBdB hs ns b) := by
  intro Qd E hQ
  unfold okBdB at hQ
  by_cases c1 : b.length ≤ 6
  · rw [decide_eq_true c1, Bool.true_and] at hQ
    cases q : b.all (okSmB hs ns) with
    | false =>
      rw [q, Bool.and_false] at hQ
      have e : dBody b = .tup ((b.map fun m => (dSm m, okSmB hs ns m)).map (·.1)) := by unfold dBody; rw [List.map_map]; rfl
      rw [e]
      refine bdv_st (ps := b.map fun m => (dSm m, okSmB hs ns m)) (by rw [List.length_map]; exact c1) (fun p hp => ?_) ?_ hQ
      · obtain ⟨m, h, rfl⟩ := List.mem_map.mp hp
        exact sm_v e1 e2 s1 s2 (hm m h)
      · obtain ⟨m, h, z⟩ := List.all_eq_false.mp q
        refine ⟨(dSm m, okSmB hs ns m), List.mem_map_of_mem h, ?_⟩
        show okSmB hs ns m = false
        cases g : okSmB hs ns m with
        | false => rfl
        | true => exact absurd g z
    | true =>
      have ha : ∀ m ∈ b, okSm hs ns m := fun m h => okSmB_ok (List.all_eq_true.mp q m h)
      rw [q, Bool.and_true] at hQ
      by_cases c2 : (b.filter isCall).length ≤ 3
      · rw [decide_eq_true c2] at hQ
        exact bdv_good e1 e2 s1 s2 ⟨c1, ha, c2⟩ hQ
      · rw [decide_eq_false c2] at hQ
        exact bdv_calls e1 e2 s1 s2 c1 ha (by omega) hQ
  · rw [decide_eq_false c1, Bool.false_and] at hQ
    exact bdv_long (by rw [List.length_map]; omega) hQ
end
theorem dSm_inj {m m' : Sm} (h : dSm m = dSm m') : m = m' := by
  cases m with
  | own =>
    cases m' with
    | own => rfl
    | add i => injection h with h; injection h with h1 h2; cases h2
    | spin i => injection h with h; injection h with h1 h2; cases h2
    | call b x y => injection h with h; injection h with h1 h2; cases h2
  | add i =>
    cases m' with
    | own => injection h with h; injection h with h1 h2; cases h2
    | add j => injection h with h; injection h with h1 h2; injection h2 with h3 h4; injection h3 with h3; rw [h3]
    | spin j => injection h with h; injection h with h1 h2; exact absurd (dS_inj h1) (by decide)
    | call b x y => injection h with h; injection h with h1 h2; injection h2 with h3 h4; cases h3
  | spin i =>
    cases m' with
    | own => injection h with h; injection h with h1 h2; cases h2
    | add j => injection h with h; injection h with h1 h2; exact absurd (dS_inj h1) (by decide)
    | spin j => injection h with h; injection h with h1 h2; injection h2 with h3 h4; injection h3 with h3; rw [h3]
    | call b x y => injection h with h; injection h with h1 h2; injection h2 with h3 h4; cases h3
  | call b x y =>
    cases m' with
    | own => injection h with h; injection h with h1 h2; cases h2
    | add j => injection h with h; injection h with h1 h2; injection h2 with h3 h4; cases h3
    | spin j => injection h with h; injection h with h1 h2; injection h2 with h3 h4; cases h3
    | call b' x' y' =>
      injection h with h
      injection h with h1 h2
      injection h2 with h2 h3
      injection h3 with h3 h4
      have e := dS_inj h1
      have : b = b' := by cases b <;> cases b' <;> first | rfl | exact absurd e (by decide)
      rw [this, dS_inj h2, dS_inj h3]
theorem maps_inj : ∀ {b b' : List Sm}, b.map dSm = b'.map dSm → b = b'
  | [], [], _ => rfl
  | [], _ :: _, h => by cases h
  | _ :: _, [], h => by cases h
  | x :: b, y :: b', h => by
    rw [List.map_cons, List.map_cons] at h
    injection h with h1 h2
    rw [dSm_inj h1, maps_inj h2]
theorem dWork_inj {w w' : Wk} (h : dWork w = dWork w') : w = w' := by
  obtain ⟨n, b⟩ := w
  obtain ⟨n', b'⟩ := w'
  have h : D.tup [dS n, .tup (b.map dSm)] = D.tup [dS n', .tup (b'.map dSm)] := h
  simp only [D.tup.injEq, List.cons.injEq, and_true] at h
  rw [dS_inj h.1, maps_inj h.2]
theorem vB_ex (ws : List Wk) (g : Wk → Bool) : ∃ v : D → Bool, ∀ w ∈ ws, v (dWork w) = g w := by
  classical
  refine ⟨fun d => decide (∃ w ∈ ws, dWork w = d ∧ g w = true), fun w hw => ?_⟩
  rw [Bool.eq_iff_iff, decide_eq_true_eq]
  exact ⟨fun ⟨v, _, e, z⟩ => by rw [← dWork_inj (w := v) (w' := w) e]; exact z, fun z => ⟨w, hw, rfl, z⟩⟩
theorem badw {S : Store} {hs : List (List Nat)} {ws : List Wk} (o : WrOk hs ws) (h : okWB hs ws = false) : BadAt S (.tup [.lst (hs.map dS), .lst (ws.map dWork)]) := by
  intro Q0 E0 hE0
  have s1 : ∀ b ∈ hs, sOk b = true := fun b hb => okName_s (o.hg b hb)
  have s2 : ∀ b ∈ nms ws, sOk b = true := fun b hb => okName_s (o.wg b hb)
  have h1 := o.h1
  by_cases c1 : hs.length ≤ 4
  · by_cases c2 : hs.Nodup
    · have oh : okH hs := ⟨h1, c1, c2, o.hg⟩
      by_cases c3 : 1 ≤ ws.length ∧ ws.length ≤ 5
      · have ep : ws.map dWork = (ws.map fun w => (dS w.1, dBody w.2)).map dP := by rw [List.map_map]; rfl
        have en : (ws.map fun w => (dS w.1, dBody w.2)).map (·.1) = (nms ws).map dS := by rw [← map_nms, List.map_map]; rfl
        by_cases c4 : (nms ws).Nodup
        · have hb : ws.all (fun w => okBdB hs (nms ws) w.2) = false := by
            unfold okWB at h
            rw [decide_eq_true ⟨c1, c2, c3.1, c3.2, c4⟩, Bool.true_and] at h
            exact h
          obtain ⟨v, hv⟩ := vB_ex ws (fun w => okBdB hs (nms ws) w.2)
          refine badat_wb (S := S) (dh := .lst (hs.map dS)) (dw := .lst (ws.map dWork)) (ps := ws.map fun w => (dS w.1, dBody w.2)) rfl oh (by rw [← ep]; rfl) (by rw [List.length_map]; exact c3.1) (by rw [List.length_map]; exact c3.2) en c4 o.wg v (fun p hp => ?_) ?_ hE0
          · obtain ⟨w, hw, rfl⟩ := List.mem_map.mp hp
            intro Qd E hQ
            have e : v (dP (dS w.1, dBody w.2)) = okBdB hs (nms ws) w.2 := hv w hw
            rw [e] at hQ
            exact bd_v rfl rfl s1 s2 (o.sm w hw) hQ
          · obtain ⟨w, hw, z⟩ := List.all_eq_false.mp hb
            refine ⟨(dS w.1, dBody w.2), List.mem_map_of_mem hw, ?_⟩
            have e : v (dP (dS w.1, dBody w.2)) = okBdB hs (nms ws) w.2 := hv w hw
            rw [e]
            cases q : okBdB hs (nms ws) w.2 with
            | false => rfl
            | true => exact absurd q z
        · refine badat_wn (S := S) (dh := .lst (hs.map dS)) (dw := .lst (ws.map dWork)) (ps := ws.map fun w => (dS w.1, dBody w.2)) rfl oh (by rw [← ep]; rfl) (by rw [List.length_map]; exact c3.1) (by rw [List.length_map]; exact c3.2) (fun hQ => ?_) hE0
          rw [en]
          exact unlikeD_w (d := .lst ((nms ws).map dS)) rfl c4 o.wg (by rw [nms_len]; omega) hQ
      · refine badat_wl (S := S) (dh := .lst (hs.map dS)) (dw := .lst (ws.map dWork)) rfl oh (.inr ⟨_, rfl, ?_⟩) hE0
        rw [List.length_map]
        omega
    · refine badat_hu (S := S) (x := .lst (hs.map dS)) (y := .lst (ws.map dWork)) (xs := hs.map dS) rfl (by rw [List.length_map]; exact h1) (by rw [List.length_map]; exact c1) (fun hQ => ?_) hE0
      exact unlikeD_w (d := .lst (hs.map dS)) rfl c2 o.hg (by omega) hQ
  · refine badat_hl (S := S) (x := .lst (hs.map dS)) (y := .lst (ws.map dWork)) (.inr ⟨_, rfl, ?_⟩) hE0
    rw [List.length_map]
    omega
theorem okWB_ok {hs : List (List Nat)} {ws : List Wk} (o : WrOk hs ws) (h : okWB hs ws = true) : okW hs ws := by
  unfold okWB at h
  rw [Bool.and_eq_true, decide_eq_true_eq] at h
  obtain ⟨⟨h4, hn, w1, w5, wn⟩, hb⟩ := h
  refine ⟨o.h1, h4, hn, o.hg, w1, w5, wn, o.wg, fun w hw => ?_⟩
  have := List.all_eq_true.mp hb w hw
  unfold okBdB at this
  rw [Bool.and_eq_true, Bool.and_eq_true, decide_eq_true_eq, decide_eq_true_eq] at this
  exact ⟨this.1, fun m hm => okSmB_ok (List.all_eq_true.mp this.2.2 m hm), this.2.1⟩
theorem chk_w {S : Store} {hs : List (List Nat)} {ws : List Wk} {a n : List Nat} {k : Int} (o : WrOk hs ws) (oa : okName a = true) (on : okName n = true) {Qd : D → Store → Prop} {E : EX} (hQ : verd hs ws a n k = none → Qd .non S) (hE : ∀ c, verd hs ws a n k = some c → E c S) : W (m_check_start [.tup [.lst (hs.map dS), .lst (ws.map dWork)], .tup [dS a, dS n, .int k]] S) Qd E := by
  unfold verd at hQ hE
  cases q : okWB hs ws with
  | false =>
    rw [if_neg (by rw [q]; decide)] at hE
    apply w_check_start
    unfold z_check_start
    (repeat' (first | refine badw o q ?_ | fail "q1" | fail "q2" | fail "q4" | fail))
    exact finX_same (hE _ rfl)
  | true =>
    have ok := okWB_ok o q
    rw [if_pos q] at hE hQ
    by_cases c1 : a ∈ hs
    · by_cases c2 : n ∈ nms ws
      · by_cases c3 : 0 ≤ k ∧ k ≤ 3
        · rw [if_pos ⟨c1, c2, c3⟩] at hQ
          exact checks_w (dh := .lst (hs.map dS)) (dw := .lst (ws.map dWork)) rfl rfl ok c1 c2 c3.1 c3.2 (hQ rfl)
        · rw [if_neg (fun z => c3 z.2.2)] at hE
          exact bads_w (dh := .lst (hs.map dS)) (dw := .lst (ws.map dWork)) rfl rfl ok (.kI a n k c1 c2 (by omega)) (hE _ rfl)
      · rw [if_neg (fun z => c2 z.2.1)] at hE
        exact bads_w (dh := .lst (hs.map dS)) (dw := .lst (ws.map dWork)) rfl rfl ok (.nS a n _ c1 (okName_s on) c2) (hE _ rfl)
    · rw [if_neg (fun z => c1 z.1)] at hE
      exact bads_w (dh := .lst (hs.map dS)) (dw := .lst (ws.map dWork)) rfl rfl ok (.hS a _ _ (okName_s oa) c1) (hE _ rfl)
end QL

namespace QL
open PySem Q
/-! ### what is written holds names; the program's reading whole -/
theorem stW_smN {ws : List (List Nat)} {m : Sm} (h : stW ws = some m) : smN m := by
  rcases ws with _ | ⟨w, _ | ⟨x, _ | ⟨y, _ | ⟨z, t⟩⟩⟩⟩
  · cases h
  · have h : (if w = cOwn then some Sm.own else none) = some m := h
    split at h
    · cases h; exact trivial
    · cases h
  · rw [stW_2] at h
    split at h
    · cases e : numOf 9 x with
      | none => rw [e] at h; cases h
      | some i => rw [e] at h; cases h; exact trivial
    · split at h
      · cases e : numOf 9 x with
        | none => rw [e] at h; cases h
        | some i => rw [e] at h; cases h; exact trivial
      · cases h
  · rw [stW_3] at h
    split at h
    · split at h
      · rename_i o; cases h; exact o
      · cases h
    · split at h
      · split at h
        · rename_i o; cases h; exact o
        · cases h
      · cases h
  · cases h
theorem workOf_ok {row : List Nat} {w : Wk} (h : workOf row = some w) : okName w.1 = true ∧ ∀ m ∈ w.2, smN m := by
  obtain ⟨p, b, ep⟩ := spl_cons (S := [32, 59, 32]) (a := row) (by decide)
  have eo : workOf row = workW (TL.spl [32] 0 [] p) b := by unfold workOf; rw [ep]
  rw [eo] at h
  generalize TL.spl [32] 0 [] p = ws at h
  rcases ws with _ | ⟨c, _ | ⟨n, _ | ⟨x, t⟩⟩⟩
  · cases h
  · cases h
  · have h : (if c = cWork ∧ okName n = true then (mapO stOf b).map (fun ss => (n, ss)) else none) = some w := h
    split at h
    · rename_i o
      cases q : mapO stOf b with
      | none => rw [q] at h; cases h
      | some ys =>
        rw [q] at h
        cases h
        refine ⟨o.2, fun m hm => ?_⟩
        obtain ⟨z, _, ez⟩ := mapO_mem q m hm
        exact stW_smN ez
    · cases h
  · cases h
theorem wr_some {x : Option (List (List Nat))} {y : Option (List Wk)} {z : Option (List Nat × List Nat × Int)} {hs : List (List Nat)} {ws : List Wk} {a n : List Nat} {k : Int} (h : wr x y z = some (hs, ws, a, n, k)) : x = some hs ∧ y = some ws ∧ z = some (a, n, k) := by
  cases x with
  | none => rw [wr_h] at h; cases h
  | some x =>
    cases y with
    | none => rw [wr_w] at h; cases h
    | some y =>
      cases z with
      | none => rw [wr_s] at h; cases h
      | some z => obtain ⟨a', n', k'⟩ := z; cases h; exact ⟨rfl, rfl, rfl⟩
theorem written_ok {tx : List Nat} {hs : List (List Nat)} {ws : List Wk} {a n : List Nat} {k : Int} (h : written tx = some (hs, ws, a, n, k)) : WrOk hs ws ∧ okName a = true ∧ okName n = true := by
  obtain ⟨f, r, ep⟩ := spl_cons (S := [10]) (a := tx) (by decide)
  have eo : written tx = wr (housesW (TL.spl [32] 0 [] f)) (mapO workOf r.dropLast) (r.getLast?.bind startOf) := by unfold written; rw [ep]
  rw [eo] at h
  obtain ⟨h1, h2, h3⟩ := wr_some h
  have hh : 1 ≤ hs.length ∧ ∀ x ∈ hs, okName x = true := by
    generalize TL.spl [32] 0 [] f = fw at h1
    rcases fw with _ | ⟨w, _ | ⟨x, t⟩⟩
    · cases h1
    · cases h1
    · rw [housesW_c] at h1
      split at h1
      · rename_i o
        cases h1
        exact ⟨by simp, fun y hy => List.all_eq_true.mp o.2 y hy⟩
      · cases h1
  have hw : ∀ w ∈ ws, okName w.1 = true ∧ ∀ m ∈ w.2, smN m := fun w hw => by
    obtain ⟨z, _, ez⟩ := mapO_mem h2 w hw
    exact workOf_ok ez
  have hst : okName a = true ∧ okName n = true := by
    cases e : r.getLast? with
    | none => rw [e] at h3; cases h3
    | some z =>
      rw [e] at h3
      have h3 : startW (TL.spl [32] 0 [] z) = some (a, n, k) := h3
      generalize TL.spl [32] 0 [] z = zw at h3
      rcases zw with _ | ⟨v, t⟩
      · cases h3
      by_cases t3 : t.length = 3
      · obtain ⟨a', n', x, rfl⟩ : ∃ a n x, t = [a, n, x] := by
          rcases t with _ | ⟨a, _ | ⟨n, _ | ⟨x, _ | ⟨y, t⟩⟩⟩⟩
          · cases t3
          · cases t3
          · cases t3
          · exact ⟨_, _, _, rfl⟩
          · simp only [List.length_cons] at t3; omega
        rw [startW_4] at h3
        split at h3
        · rename_i o
          cases q : numOf 9 x with
          | none => rw [q] at h3; cases h3
          | some i => rw [q] at h3; cases h3; exact o.2
        · cases h3
      · rw [startW_n t3] at h3; cases h3
  refine ⟨⟨hh.1, hh.2, fun x hx => ?_, fun w hw' => (hw w hw').2⟩, hst⟩
  unfold nms at hx
  obtain ⟨w, h, rfl⟩ := List.mem_map.mp hx
  exact (hw w h).1
/-- the program's reading, whole -/
theorem read16_w {S : Store} {tx : List Nat} (hl : tx.length ≤ 90000) (sx : sOk tx = true) {Qd : D → Store → Prop} {E : EX}
    (hQ : ∀ hs ws a n k, written tx = some (hs, ws, a, n, k) → verd hs ws a n k = none → Qd (dWr (some (hs, ws, a, n, k))) S)
    (hE : ∀ hs ws a n k, written tx = some (hs, ws, a, n, k) → ∀ c, verd hs ws a n k = some c → E c S)
    (hN : written tx = none → E "NoText" S) : W (m_read_works [dS tx] S) Qd E :=
  readw_w hl sx (fun hs ws a n k h {Q'} {E'} h1 h2 => by
    obtain ⟨o, oa, on⟩ := written_ok h
    exact chk_w o oa on h1 h2) hQ hE hN
end QL

namespace QL
open PySem Q
/-! ### what is written is the text shown -/
theorem stW_words {ws : List (List Nat)} {m : Sm} (h : stW ws = some m) : wordsSm m = ws := by
  rcases ws with _ | ⟨w, _ | ⟨x, _ | ⟨y, _ | ⟨z, t⟩⟩⟩⟩
  · cases h
  · have h : (if w = cOwn then some Sm.own else none) = some m := h
    split at h
    · rename_i c; cases h; rw [c]; rfl
    · cases h
  · rw [stW_2] at h
    split at h
    · rename_i c
      cases e : numOf 9 x with
      | none => rw [e] at h; cases h
      | some i =>
        rw [e] at h; cases h
        rw [c]
        show [cAdd, num i] = _
        rw [(numOf_some e).num]
    · split at h
      · rename_i c
        cases e : numOf 9 x with
        | none => rw [e] at h; cases h
        | some i =>
          rw [e] at h; cases h
          rw [c]
          show [cSpin, num i] = _
          rw [(numOf_some e).num]
      · cases h
  · rw [stW_3] at h
    split at h
    · rename_i c
      split at h
      · cases h; rw [c]; rfl
      · cases h
    · split at h
      · rename_i c
        split at h
        · cases h; rw [c]; rfl
        · cases h
      · cases h
  · cases h
theorem stOf_txt {q : List Nat} {m : Sm} (h : stOf q = some m) : txtSm m = q := by
  unfold stOf at h
  unfold txtSm
  rw [stW_words h, join_spl (by decide) q.length q [] (Nat.le_refl _), List.nil_append]
theorem mapO_txt {β : Type} {f : List Nat → Option β} {g : β → List Nat} (hg : ∀ q y, f q = some y → g y = q) : ∀ {xs : List (List Nat)} {ys : List β}, mapO f xs = some ys → ys.map g = xs
  | [], ys, h => by cases h; rfl
  | x :: xs, ys, h => by
    unfold mapO at h
    cases e1 : f x with
    | none => simp only [e1] at h; cases h
    | some v =>
      cases e2 : mapO f xs with
      | none => simp only [e1, e2] at h; cases h
      | some zs =>
        simp only [e1, e2] at h
        cases h
        rw [List.map_cons, hg x v e1, mapO_txt hg e2]
theorem workOf_txt {row : List Nat} {w : Wk} (h : workOf row = some w) : txtWork w = row := by
  obtain ⟨p, b, ep⟩ := spl_cons (S := [32, 59, 32]) (a := row) (by decide)
  have eo : workOf row = workW (TL.spl [32] 0 [] p) b := by unfold workOf; rw [ep]
  have jr := join_spl (S := [32, 59, 32]) (by decide) row.length row [] (Nat.le_refl _)
  have jp := join_spl (S := [32]) (by decide) p.length p [] (Nat.le_refl _)
  rw [List.nil_append] at jr jp
  rw [ep] at jr
  rw [eo] at h
  generalize TL.spl [32] 0 [] p = ws at h jp
  rcases ws with _ | ⟨c, _ | ⟨n, _ | ⟨x, t⟩⟩⟩
  · cases h
  · cases h
  · have h : (if c = cWork ∧ okName n = true then (mapO stOf b).map (fun ss => (n, ss)) else none) = some w := h
    split at h
    · rename_i o
      cases q : mapO stOf b with
      | none => rw [q] at h; cases h
      | some ys =>
        rw [q] at h
        cases h
        have e1 : ys.map txtSm = b := mapO_txt (fun q y h => stOf_txt h) q
        have e2 : cWorkS ++ n = p := by rw [← jp, o.1]; rfl
        show TL.joinL [32, 59, 32] ((cWorkS ++ n) :: ys.map txtSm) = row
        rw [e1, e2, jr]
    · cases h
  · cases h
theorem startOf_txt {row a n : List Nat} {k : Int} (h : startOf row = some (a, n, k)) : txtStart a n k = row := by
  have jr := join_spl (S := [32]) (by decide) row.length row [] (Nat.le_refl _)
  rw [List.nil_append] at jr
  unfold startOf at h
  generalize TL.spl [32] 0 [] row = ws at h jr
  rcases ws with _ | ⟨v, t⟩
  · cases h
  by_cases t3 : t.length = 3
  · obtain ⟨a', n', x, rfl⟩ : ∃ a n x, t = [a, n, x] := by
      rcases t with _ | ⟨a, _ | ⟨n, _ | ⟨x, _ | ⟨y, t⟩⟩⟩⟩
      · cases t3
      · cases t3
      · cases t3
      · exact ⟨_, _, _, rfl⟩
      · simp only [List.length_cons] at t3; omega
    rw [startW_4] at h
    split at h
    · rename_i o
      cases q : numOf 9 x with
      | none => rw [q] at h; cases h
      | some i =>
        rw [q] at h
        cases h
        unfold txtStart wordsSt
        rw [(numOf_some q).num, ← jr, o.1]
    · cases h
  · rw [startW_n t3] at h; cases h
theorem written_txt {tx : List Nat} {hs : List (List Nat)} {ws : List Wk} {a n : List Nat} {k : Int} (h : written tx = some (hs, ws, a, n, k)) : txtAll hs ws a n k = tx := by
  obtain ⟨f, r, ep⟩ := spl_cons (S := [10]) (a := tx) (by decide)
  have eo : written tx = wr (housesW (TL.spl [32] 0 [] f)) (mapO workOf r.dropLast) (r.getLast?.bind startOf) := by unfold written; rw [ep]
  have jr := join_spl (S := [10]) (by decide) tx.length tx [] (Nat.le_refl _)
  rw [List.nil_append, ep] at jr
  rw [eo] at h
  obtain ⟨h1, h2, h3⟩ := wr_some h
  have ef : txtHouses hs = f := by
    have jf := join_spl (S := [32]) (by decide) f.length f [] (Nat.le_refl _)
    rw [List.nil_append] at jf
    generalize TL.spl [32] 0 [] f = fw at h1 jf
    rcases fw with _ | ⟨w, _ | ⟨x, t⟩⟩
    · cases h1
    · cases h1
    · rw [housesW_c] at h1
      split at h1
      · rename_i o
        cases h1
        unfold txtHouses
        rw [← jf, o.1]
      · cases h1
  rcases List.eq_nil_or_concat r with rfl | ⟨mid, z, rfl⟩
  · cases h3
  · have e1 : (mid.concat z).dropLast = mid := by rw [List.concat_eq_append]; simp
    have e2 : (mid.concat z).getLast? = some z := by rw [List.concat_eq_append]; simp
    rw [e1] at h2
    rw [e2] at h3
    have ew : ws.map txtWork = mid := mapO_txt (fun q y h => workOf_txt h) h2
    have es : txtStart a n k = z := startOf_txt h3
    unfold txtAll rowsA
    rw [ef, ew, es, ← jr, List.concat_eq_append]
    rfl
end QL

namespace QL
open PySem Q
/-! ### what is due, by the law -/
theorem lgood_w {S : Store} {hs ns : List (List Nat)} {m : Sm} (s1 : ∀ b ∈ hs, sOk b = true) (s2 : ∀ b ∈ ns, sOk b = true) (hm : smN m) {Qd : D → Store → Prop} {E : EX} (hQ : Qd (.bl (okSmB hs ns m)) S) : W (m__law_good_statement [dSm m, .lst (hs.map dS), .lst (ns.map dS)] S) Qd E := by
  apply w__law_good_statement
  unfold z__law_good_statement
  rw [kAdd, kSpin, kOwn]
  cases m with
  | own =>
    (repeat' (first | refine Ix_by (x' := dS cOwn) rfl ?_ | refine Cp_eqS (by decide) (by decide) ?_ | fail "q1" | fail "q2" | fail "q4" | fail))
    exact hQ
  | add i =>
    have e : okSmB hs ns (.add i) = decide (-1000 ≤ i ∧ i ≤ 1000) := rfl
    rw [e] at hQ
    (repeat' (first | refine Ix_by (x' := dS cAdd) rfl ?_ | refine Ix_by (x' := .int i) rfl ?_ | refine Cp_eqS (by decide) (by decide) ?_ | fail "q1" | fail "q2" | fail "q3" | fail))
    all_goals
      refine Eq.mp ?_ hQ
      congr 2
      first | exact decide_eq_decide.mpr (by omega) | (rw [decide_eq_false (by omega)])
  | spin i =>
    have e : okSmB hs ns (.spin i) = decide (1 ≤ i ∧ i ≤ 4) := rfl
    rw [e] at hQ
    (repeat' (first | refine Ix_by (x' := dS cSpin) rfl ?_ | refine Ix_by (x' := .int i) rfl ?_ | refine Cp_eqS (by decide) (by decide) ?_ | fail "q1" | fail "q2" | fail "q3" | fail))
    all_goals
      refine Eq.mp ?_ hQ
      congr 2
      first | exact decide_eq_decide.mpr (by omega) | (rw [decide_eq_false (by omega)])
  | call b h n =>
    have sh := okName_s hm.1
    have sn := okName_s hm.2
    have e : okSmB hs ns (.call b h n) = decide (h ∈ hs ∧ n ∈ ns) := rfl
    rw [e] at hQ
    have n1 : decide (cCall b = cAdd) = false := callN2 b
    have n2 : decide (cCall b = cSpin) = false := callN3 b
    have n3 : decide (cCall b = cOwn) = false := callN1 b
    have ix0 : ∀ {R : D → Prop}, R (dS (cCall b)) → IxP S (dSm (.call b h n)) (.int 0) R := fun hr => Ix_by (x' := dS (cCall b)) rfl hr
    have ix1 : ∀ {R : D → Prop}, R (dS h) → IxP S (dSm (.call b h n)) (.int 1) R := fun hr => Ix_by (x' := dS h) rfl hr
    have ix2 : ∀ {R : D → Prop}, R (dS n) → IxP S (dSm (.call b h n)) (.int 2) R := fun hr => Ix_by (x' := dS n) rfl hr
    (repeat' (first | (with_reducible refine ix0 ?_) | (with_reducible refine ix1 ?_) | (with_reducible refine ix2 ?_) | refine Cp_eqS (cCall_s b) (by decide) ?_ | refine Br_f n1 ?_ | refine Br_f n2 ?_ | refine Br_f n3 ?_ | refine Cp_inS (d := .lst (hs.map dS)) (ns := hs) rfl sh s1 ?_ | refine Cp_inS (d := .lst (ns.map dS)) (ns := ns) rfl sn s2 ?_ | fail "q1" | fail "q2" | fail "q4" | fail))
    by_cases c1 : h ∈ hs
    · refine Br_t (decide_eq_true c1) ?_
      have e2 : decide (h ∈ hs ∧ n ∈ ns) = decide (n ∈ ns) := decide_eq_decide.mpr ⟨fun z => z.2, fun z => ⟨c1, z⟩⟩
      rw [e2] at hQ
      (repeat' (first | (with_reducible refine ix2 ?_) | refine Cp_inS (d := .lst (ns.map dS)) (ns := ns) rfl sn s2 ?_ | fail "q1" | fail "q2" | fail "q4" | fail))
      exact hQ
    · rw [decide_eq_false (fun z => c1 z.1)] at hQ
      refine Br_f (decide_eq_false c1) ?_
      rw [decide_eq_false c1]
      (repeat' (first | fail "q1" | fail "q2" | fail "q4" | fail))
      exact hQ
end QL

namespace QL
open PySem Q
/-! ### what is due, by the law -/
def cText : List Nat := [116, 101, 120, 116]
def cWks : List Nat := [119, 111, 114, 107, 115]
theorem kText : Str.ofString "text" = SX.S cText := by decide +kernel
theorem kWks : Str.ofString "works" = SX.S cWks := by decide +kernel
theorem okWB_f {hs : List (List Nat)} {ws : List Wk} (h : ¬ (hs.length ≤ 4 ∧ hs.Nodup ∧ 1 ≤ ws.length ∧ ws.length ≤ 5 ∧ (nms ws).Nodup)) : okWB hs ws = false := by
  unfold okWB
  rw [decide_eq_false h, Bool.false_and]
theorem written_len {tx : List Nat} (hl : tx.length ≤ 90000) (sx : sOk tx = true) {hs : List (List Nat)} {ws : List Wk} {a n : List Nat} {k : Int} (h : written tx = some (hs, ws, a, n, k)) : ws.length ≤ 90001 := by
  obtain ⟨f, r, ep⟩ := spl_cons (S := [10]) (a := tx) (by decide)
  have sp := spl_parts (S := [10]) (by decide) hl sx
  rw [ep] at sp
  have eo : written tx = wr (housesW (TL.spl [32] 0 [] f)) (mapO workOf r.dropLast) (r.getLast?.bind startOf) := by unfold written; rw [ep]
  rw [eo] at h
  have e := mapO_len (wr_some h).2.1
  have := sp.1
  rw [List.length_cons] at this
  rw [e, List.length_dropLast]
  omega
theorem okWB_b {hs : List (List Nat)} {ws : List Wk} {w : Wk} (hm : w ∈ ws) (h : okBdB hs (nms ws) w.2 = false) : okWB hs ws = false := by
  unfold okWB
  have : ws.all (fun w => okBdB hs (nms ws) w.2) = false := by
    rw [List.all_eq_false]
    exact ⟨w, hm, by rw [h]; decide⟩
  rw [this, Bool.and_false]
theorem call_len (b : List Sm) : (b.filterMap fun m => if isCall m = true then some (dSm m) else none).length = (b.filter isCall).length := by
  induction b with
  | nil => rfl
  | cons m b ih =>
    cases h : isCall m with
    | true => rw [List.filterMap_cons, if_pos h, List.filter_cons, if_pos h, List.length_cons, List.length_cons, ih]
    | false => rw [List.filterMap_cons, if_neg (by rw [h]; decide), List.filter_cons, if_neg (by rw [h]; decide), ih]
/-- False in a list of truths -/
theorem toPys_bl : ∀ bs : List Bool, toPys (bs.map D.bl) = some (bs.map PyData.bool)
  | [] => rfl
  | b :: bs => by
    show (match toPy (.bl b), toPys (bs.map D.bl) with | some y, some ys => some (y :: ys) | _, _ => none) = _
    rw [toPys_bl bs]; rfl
theorem res_bls (S : Store) (k : Nat) (bs : List Bool) : (bs.map D.bl).map (res k S) = bs.map D.bl := by
  rw [List.map_map]
  refine List.map_congr_left fun b _ => ?_
  cases k <;> rfl
theorem lay_bls (bs : List Bool) : PyData.canLayAll0 (bs.map PyData.bool) = true ∧ PyData.depthAll (bs.map PyData.bool) = 0 := by
  induction bs with
  | nil => exact ⟨rfl, rfl⟩
  | cons b bs ih =>
    refine ⟨?_, ?_⟩
    · show (PyData.canLay0 (.bool b) && PyData.canLayAll0 (bs.map PyData.bool)) = true
      rw [ih.1]; rfl
    · show max (PyData.depth (.bool b)) (PyData.depthAll (bs.map PyData.bool)) = 0
      rw [ih.2]; rfl
theorem fIn_w {S : Store} {ms : List Sm} {g : Sm → Bool} {PB : Bool → Prop} (h : PB (!ms.all g)) : Cp S .In (.bl false) (.lst (ms.map fun m => .bl (g m))) PB := by
  refine ⟨⟨!ms.all g, ?_, h⟩⟩
  have e : ms.map (fun m => D.bl (g m)) = (ms.map g).map D.bl := by rw [List.map_map]; rfl
  rw [e]
  show inSeq S (.bl false) (.lst ((ms.map g).map D.bl)) = _
  have e1 : toPyS S (.lst ((ms.map g).map D.bl)) = some (.list ((ms.map g).map PyData.bool)) := by
    show toPy (.lst (((ms.map g).map D.bl).map (res 7 S))) = _
    rw [res_bls]
    show (match toPys ((ms.map g).map D.bl) with | some ys => some (PyData.list ys) | none => none) = _
    rw [toPys_bl]
  have e0 : toPyS S (.bl false) = some (.bool false) := rfl
  unfold inSeq
  rw [e0, e1]
  have s2 : SeqAt.shaped (.list ((ms.map g).map PyData.bool)) = true := by
    unfold SeqAt.shaped
    rw [PyData.canLay0, (lay_bls _).1, decide_eq_true (by simp only [PyData.depth]; rw [(lay_bls _).2]; decide)]; rfl
  show (if _ then some _ else none) = _
  rw [if_pos ⟨rfl, s2⟩]
  congr 1
  clear e e1 e0 s2 h
  induction ms with
  | nil => rfl
  | cons m ms ih =>
    rw [List.map_cons, List.map_cons, List.any_cons, ih, List.all_cons]
    cases g m <;> simp [PyData.eqv]
theorem written_bl {tx : List Nat} (hl : tx.length ≤ 90000) (sx : sOk tx = true) {hs : List (List Nat)} {ws : List Wk} {a n : List Nat} {k : Int} (h : written tx = some (hs, ws, a, n, k)) : ∀ w ∈ ws, w.2.length ≤ 90001 := by
  obtain ⟨f, r, ep⟩ := spl_cons (S := [10]) (a := tx) (by decide)
  have sp := spl_parts (S := [10]) (by decide) hl sx
  rw [ep] at sp
  have eo : written tx = wr (housesW (TL.spl [32] 0 [] f)) (mapO workOf r.dropLast) (r.getLast?.bind startOf) := by unfold written; rw [ep]
  rw [eo] at h
  intro w hw
  obtain ⟨z, hz, ez⟩ := mapO_mem (wr_some h).2.1 w hw
  have hz2 := sp.2 z (List.mem_cons_of_mem _ (List.dropLast_subset _ hz))
  obtain ⟨p, b, eb⟩ := spl_cons (S := [32, 59, 32]) (a := z) (by decide)
  have sb := spl_parts (S := [32, 59, 32]) (by decide) hz2.1 hz2.2
  rw [eb] at sb
  have e2 : workOf z = workW (TL.spl [32] 0 [] p) b := by unfold workOf; rw [eb]
  rw [e2] at ez
  generalize TL.spl [32] 0 [] p = pw at ez
  rcases pw with _ | ⟨c, _ | ⟨n, _ | ⟨x, t⟩⟩⟩
  · cases ez
  · cases ez
  · have ez : (if c = cWork ∧ okName n = true then (mapO stOf b).map (fun ss => (n, ss)) else none) = some w := ez
    split at ez
    · cases q : mapO stOf b with
      | none => rw [q] at ez; cases ez
      | some ys =>
        rw [q] at ez
        cases ez
        have := mapO_len q
        have h2 := sb.1
        rw [List.length_cons] at h2
        show ys.length ≤ _
        omega
    · cases ez
  · cases ez
theorem ldue_w {S : Store} {tx : List Nat} (hl : tx.length ≤ 90000) (sx : sOk tx = true) {Qd : D → Store → Prop} {E : EX}
    (hQ : ∀ hs ws a n k, written tx = some (hs, ws, a, n, k) → verd hs ws a n k = none → Qd (dWr (some (hs, ws, a, n, k))) S)
    (hB : ∀ hs ws a n k, written tx = some (hs, ws, a, n, k) → verd hs ws a n k = some (Str.ofString "BadWorks") → Qd (dS cWks) S)
    (hS : ∀ hs ws a n k, written tx = some (hs, ws, a, n, k) → verd hs ws a n k = some (Str.ofString "BadStart") → Qd (dS cStart) S)
    (hN : written tx = none → Qd (dS cText) S) : W (m__law_due [dS tx] S) Qd E := by
  apply w__law_due
  unfold z__law_due
  rw [kText, kWks, kStart, kMake, kAsk]
  (repeat' (first | fail "q1" | fail "q2" | fail "q4" | fail))
  refine lwritten_w hl sx ?_
  cases hw : written tx with
  | none =>
    (repeat' (first | refine Cp_by (k := true) rfl ?_ | fail "q1" | fail "q2" | fail "q4" | fail))
    exact hN hw
  | some r =>
    obtain ⟨hs, ws, a, n, k⟩ := r
    obtain ⟨o, oa, on⟩ := written_ok hw
    have s1 : ∀ b ∈ hs, sOk b = true := fun b hb => okName_s (o.hg b hb)
    have s2 : ∀ b ∈ nms ws, sOk b = true := fun b hb => okName_s (o.wg b hb)
    have bad : okWB hs ws = false → Qd (dS cWks) S := fun h => hB hs ws a n k hw (by unfold verd; rw [if_neg (by rw [h]; decide)])
    have lh : (hs.map dS).length = hs.length := List.length_map ..
    have lw : (ws.map dWork).length = ws.length := List.length_map ..
    have ix0 : ∀ {R : D → Prop}, R (.tup [.lst (hs.map dS), .lst (ws.map dWork)]) → IxP S (dWr (some (hs, ws, a, n, k))) (.int 0) R := fun hr => Ix_by (x' := .tup [.lst (hs.map dS), .lst (ws.map dWork)]) rfl hr
    (repeat' (first | refine Cp_by (k := false) rfl ?_ | (with_reducible refine ix0 ?_) | fail "q1" | fail "q2" | fail "q4" | fail))
    refine CfMap (g := dWork) (h := fun w : Wk => dS w.1) (by have := written_len hl sx hw; omega) (fun w hw2 => ?_) ?_
    · (repeat' (first | fail "q1" | fail "q2" | fail "q4" | fail))
      exact ⟨rfl, rfl⟩
    rw [map_nms]
    (repeat' (first | fail "q1" | fail "q2" | fail "q4" | fail))
    have ln : ((nms ws).map dS).length = ws.length := by rw [List.length_map, nms_len]
    by_cases c1 : hs.length ≤ 4
    case neg =>
      refine Br_t (decide_eq_true (by rw [lh]; omega)) ?_
      (repeat' (first | fail "q1" | fail "q2" | fail "q4" | fail))
      exact bad (okWB_f (fun z => c1 z.1))
    refine Br_f (decide_eq_false (by rw [lh]; omega)) ?_
    by_cases c2 : hs.Nodup
    case neg =>
      (repeat' (first | refine Ls_D (d := .lst (hs.map dS)) rfl c2 (by omega) (fun j hj => ?_) | fail "q1" | fail "q2" | fail "q4" | fail))
      exact bad (okWB_f (fun z => c2 z.2.1))
    have sH : ∀ {R : D → Prop}, R (.int hs.length) → LsP S (.lst (hs.map dS)) R := fun h => Ls_S (d := .lst (hs.map dS)) rfl c2 (by omega) h
    by_cases c3 : 1 ≤ ws.length
    case neg =>
      (repeat' (first | (with_reducible refine sH ?_) | fail "q1" | fail "q2" | fail "q4" | fail))
      exact bad (okWB_f (fun z => c3 z.2.2.1))
    by_cases c4 : ws.length ≤ 5
    case neg =>
      (repeat' (first | (with_reducible refine sH ?_) | fail "q1" | fail "q2" | fail "q4" | fail))
      all_goals first | exact bad (okWB_f (fun z => c4 z.2.2.2.1)) | skip
    have nl := nms_len ws
    by_cases c5 : (nms ws).Nodup
    case neg =>
      (repeat' (first | (with_reducible refine sH ?_) | refine Ls_D (d := .lst ((nms ws).map dS)) rfl c5 (by omega) (fun j hj => ?_) | refine Br_t (decide_eq_true (by rw [List.length_map]; omega)) ?_ | fail "q1" | fail "q2" | fail "q4" | fail))
      exact bad (okWB_f (fun z => c5 z.2.2.2.2))
    have sN : ∀ {R : D → Prop}, R (.int (nms ws).length) → LsP S (.lst ((nms ws).map dS)) R := fun h => Ls_S (d := .lst ((nms ws).map dS)) rfl c5 (by omega) h
    have eNone : okWB hs ws = false ∨ okWB hs ws = true := by cases okWB hs ws <;> simp
    (repeat' (first | (with_reducible refine sH ?_) | (with_reducible refine sN ?_) | refine Br_f (decide_eq_false (by rw [List.length_map]; omega)) ?_ | fail "q1" | fail "q2" | fail "q4" | fail))
    refine Lp_inv (fun i σ S' => S' = S ∧ (∀ w ∈ ws.take i, okBdB hs (nms ws) w.2 = true) ∧ ∃ x5 x6 x7 x8 : Option D, σ = [some (dS tx), some (dWr (some (hs, ws, a, n, k))), some (.lst (hs.map dS)), some (.lst (ws.map dWork)), some (.lst ((nms ws).map dS)), x5, x6, x7, x8, none, none, none]) ⟨rfl, by simp, _, _, _, _, rfl⟩ ?_ ?_ (by show (ws.map dWork).length < 100000; rw [List.length_map]; omega)
    · rintro i d σ S' hd ⟨rfl, hg, x5, x6, x7, x8, rfl⟩
      have hd : (ws.map dWork)[i]? = some d := hd
      rw [List.getElem?_map, Option.map_eq_some_iff] at hd
      obtain ⟨w, hw2, rfl⟩ := hd
      have hm := List.mem_of_getElem? hw2
      have bl := written_bl hl sx hw w hm
      dsimp only [dWork]
      unfold dBody
      (repeat' (first | fail "q1" | fail "q2" | fail "q4" | fail))
      refine CfFM (xs := w.2) (g := dSm) (fun m => if isCall m = true then some (dSm m) else none) (by omega) (fun m hm2 => ?_) ?_
      · cases hcall : isCall m with
        | true =>
          obtain ⟨x, ⟨d, q1, rfl⟩, q2⟩ := fst_call (S := S') (m := m) (PB := fun k => k = true) hcall
          obtain ⟨k, q3, rfl⟩ := q2.out
          (repeat' (first | refine Ix_by q1 ?_ | refine Cp_by q3 ?_ | fail "q1" | fail "q2" | fail "q4" | fail))
          exact ⟨rfl, rfl⟩
        | false =>
          obtain ⟨x, ⟨d, q1, rfl⟩, q2⟩ := fst_call (S := S') (m := m) (PB := fun k => k = false) hcall
          obtain ⟨k, q3, rfl⟩ := q2.out
          (repeat' (first | refine Ix_by q1 ?_ | refine Cp_by q3 ?_ | fail "q1" | fail "q2" | fail "q4" | fail))
          exact ⟨rfl, rfl⟩
      (repeat' (first | fail "q1" | fail "q2" | fail "q4" | fail))
      refine CfMap (g := dSm) (h := fun m => .bl (okSmB hs (nms ws) m)) (by omega) (fun m hm2 => ?_) ?_
      · (repeat' (first | refine lgood_w s1 s2 (o.sm w hm m hm2) ?_ | fail "q1" | fail "q2" | fail "q4" | fail))
        exact ⟨rfl, rfl⟩
      have cl : (w.2.filterMap fun m => if isCall m = true then some (dSm m) else none).length = (w.2.filter isCall).length := call_len w.2
      have ml : (w.2.map dSm).length = w.2.length := List.length_map ..
      by_cases d1 : w.2.length ≤ 6
      case neg =>
        (repeat' (first | fail "q1" | fail "q2" | fail "q4" | fail))
        exact bad (okWB_b hm (by unfold okBdB; rw [decide_eq_false d1]; rfl))
      by_cases d2 : (w.2.filter isCall).length ≤ 3
      case neg =>
        (repeat' (first | fail "q1" | fail "q2" | fail "q4" | fail))
        exact bad (okWB_b hm (by unfold okBdB; rw [decide_eq_false d2, decide_eq_true d1]; rfl))
      have eb : okBdB hs (nms ws) w.2 = w.2.all (okSmB hs (nms ws)) := by unfold okBdB; rw [decide_eq_true d1, decide_eq_true d2]; rfl
      (repeat' (first | (with_reducible refine fIn_w ?_) | fail "q1" | fail "q2" | fail "q4" | fail))
      cases q : w.2.all (okSmB hs (nms ws)) with
      | false =>
        (repeat' (first | fail "q1" | fail "q2" | fail "q4" | fail))
        exact bad (okWB_b hm (by rw [eb, q]))
      | true =>
        (repeat' (first | fail "q1" | fail "q2" | fail "q4" | fail))
        refine ⟨rfl, fun v hv => ?_, _, _, _, _, rfl⟩
        have ht : ws.take (i + 1) = ws.take i ++ [w] := by rw [List.take_succ, hw2]; rfl
        rw [ht] at hv
        rcases List.mem_append.mp hv with h | h
        · exact hg v h
        · rw [List.mem_singleton.mp h, eb, q]
    · rintro σ S' ⟨rfl, hg, x5, x6, x7, x8, rfl⟩
      have e2 : ws.take (Items.mk (ws.map dWork) none false).xs.length = ws := List.take_of_length_le (by show _ ≤ (ws.map dWork).length; rw [List.length_map]; exact Nat.le_refl _)
      rw [e2] at hg
      have ok : okWB hs ws = true := by
        unfold okWB
        rw [decide_eq_true ⟨c1, c2, c3, c4, c5⟩, Bool.true_and, List.all_eq_true]
        exact hg
      have st : ¬ (a ∈ hs ∧ n ∈ nms ws ∧ 0 ≤ k ∧ k ≤ 3) → Qd (dS cStart) S' := fun h => hS hs ws a n k hw (by unfold verd; rw [if_pos ok, if_neg h])
      have ix1 : ∀ {R : D → Prop}, R (.tup [dS a, dS n, .int k]) → IxP S' (dWr (some (hs, ws, a, n, k))) (.int 1) R := fun hr => Ix_by (x' := .tup [dS a, dS n, .int k]) rfl hr
      (repeat' (first | (with_reducible refine ix1 ?_) | refine Cp_ninS (d := .lst (hs.map dS)) (ns := hs) rfl (okName_s oa) s1 ?_ | fail "q1" | fail "q2" | fail "q4" | fail))
      by_cases d1 : a ∈ hs
      case neg =>
        refine Br_f (decide_eq_false d1) ?_
        (repeat' (first | fail "q1" | fail "q2" | fail "q4" | fail))
        exact st (fun z => d1 z.1)
      refine Br_t (decide_eq_true d1) ?_
      (repeat' (first | refine Cp_ninS (d := .lst ((nms ws).map dS)) (ns := nms ws) rfl (okName_s on) s2 ?_ | fail "q1" | fail "q2" | fail "q4" | fail))
      by_cases d2 : n ∈ nms ws
      case neg =>
        refine Br_f (decide_eq_false d2) ?_
        (repeat' (first | fail "q1" | fail "q2" | fail "q4" | fail))
        exact st (fun z => d2 z.2.1)
      refine Br_t (decide_eq_true d2) ?_
      (repeat' (first | fail "q1" | fail "q2" | fail "q3" | fail))
      all_goals first | exact st (fun z => by omega) | exact hQ hs ws a n k hw (by unfold verd; rw [if_pos ok, if_pos ⟨d1, d2, by omega, by omega⟩])
end QL

namespace QL
open PySem Q
/-! ### told -/
def cTold : List Nat := [116, 111, 108, 100]
def cRef : List Nat := [114, 101, 102, 117, 115, 101, 100]
def cOther : List Nat := [111, 116, 104, 101, 114]
theorem kTold : Str.ofString "told" = SX.S cTold := by decide +kernel
theorem kRef : Str.ofString "refused" = SX.S cRef := by decide +kernel
theorem kOther : Str.ofString "other" = SX.S cOther := by decide +kernel
theorem Mt_by {S : Store} {i : MId} {x d : D} {xs : List D} {QD : D → Store → Prop} (e : mthD S i x xs = some (d, S)) (h : QD d S) : MtP S i x xs QD := ⟨⟨d, S, e, h⟩⟩
theorem Md_by {S : Store} {m : Str} {x : D} {i : MId} {q : MId → Prop} (e : mIdD S x m = some i) (h : q i) : MdP S x m q := ⟨⟨i, e, h⟩⟩
theorem verd_some {hs : List (List Nat)} {ws : List Wk} {a n : List Nat} {k : Int} {c : Str} (h : verd hs ws a n k = some c) : c = "BadWorks" ∨ c = "BadStart" := by
  unfold verd at h
  split at h
  · split at h
    · cases h
    · cases h; exact .inr rfl
  · cases h; exact .inl rfl
/-- the word of a refusal -/
theorem exc_w {S : Store} {x : D} {c : Str} {w : List Nat} {b1 b2 b3 : Bool} {Qd : D → Store → Prop} {E : EX} (rd : ∀ {Q' : D → Store → Prop} {E' : EX}, E' c S → W (m_read_works [x] S) Q' E')
    (t : kitOf kt c "QuietError" = some true) (k0 : kitS (kitOf kt) c ["BadWay", "NoPaper", "NoPick", "NoRow", "TooMany"] = some false) (k1 : kitS (kitOf kt) c ["NoText"] = some b1) (k2 : kitS (kitOf kt) c ["BadWorks"] = some b2) (k3 : kitS (kitOf kt) c ["BadStart"] = some b3) (k4 : kitS (kitOf kt) c ["ValueError"] = some true)
    (hb : (b1, b2, b3, w) = (true, false, false, cText) ∨ (b1, b2, b3, w) = (false, true, false, cWks) ∨ (b1, b2, b3, w) = (false, false, true, cStart)) (hQ : Qd (.tup [dS cRef, dS w]) S) : W (m__law_told [x] S) Qd E := by
  apply w__law_told
  unfold z__law_told
  rw [kTold, kRef, kOther, kText, kWks, kStart]
  (repeat' (first | refine rd ?_ | fail "q1" | fail "q2" | fail "q4" | fail))
  refine Ty_yes t rfl ?_
  (repeat' (first | refine G_isE k0 ?_ | refine G_isE k1 ?_ | refine G_isE k2 ?_ | refine G_isE k3 ?_ | fail "q1" | fail "q2" | fail "q4" | fail))
  rcases hb with h | h | h <;> (
    cases h
    (repeat' (first | refine Md_by (i := .countL) rfl ?_ | refine Mt_by (d := .int 1) rfl ?_ | refine G_isE k4 ?_ | fail "q1" | fail "q2" | fail "q4" | fail)))
  · (repeat' (first | refine Md_by (i := .index) rfl ?_ | refine Mt_by (d := .int 0) rfl ?_ | fail "q1" | fail "q2" | fail "q4" | fail))
    exact hQ
  · (repeat' (first | refine Md_by (i := .index) rfl ?_ | refine Mt_by (d := .int 1) rfl ?_ | fail "q1" | fail "q2" | fail "q4" | fail))
    exact hQ
  · (repeat' (first | refine Md_by (i := .index) rfl ?_ | refine Mt_by (d := .int 2) rfl ?_ | fail "q1" | fail "q2" | fail "q4" | fail))
    exact hQ
/-- what is due, what is told -/
def dueOf (tx : List Nat) : D := match written tx with
  | none => dS cText
  | some (hs, ws, a, n, k) => (match verd hs ws a n k with
    | none => dWr (some (hs, ws, a, n, k))
    | some c => if c = "BadWorks" then dS cWks else dS cStart)
def isRef (tx : List Nat) : Bool := match written tx with
  | none => true
  | some (hs, ws, a, n, k) => (verd hs ws a n k).isSome
def toldOf (tx : List Nat) : D := .tup [dS (if isRef tx = true then cRef else cTold), dueOf tx]
theorem ldue16_w {S : Store} {tx : List Nat} (hl : tx.length ≤ 90000) (sx : sOk tx = true) {Qd : D → Store → Prop} {E : EX} (hQ : Qd (dueOf tx) S) : W (m__law_due [dS tx] S) Qd E := by
  unfold dueOf at hQ
  refine ldue_w hl sx (fun hs ws a n k h v => ?_) (fun hs ws a n k h v => ?_) (fun hs ws a n k h v => ?_) (fun h => ?_)
  · rw [h] at hQ; simp only [v] at hQ; exact hQ
  · rw [h] at hQ; simp only [v] at hQ; exact hQ
  · rw [h] at hQ; simp only [v] at hQ
    rw [if_neg (by decide)] at hQ
    exact hQ
  · rw [h] at hQ; exact hQ
theorem told16_w {S : Store} {tx : List Nat} (hl : tx.length ≤ 90000) (sx : sOk tx = true) {Qd : D → Store → Prop} {E : EX} (hQ : Qd (toldOf tx) S) : W (m__law_told [dS tx] S) Qd E := by
  unfold toldOf dueOf isRef at hQ
  cases hw : written tx with
  | none =>
    rw [hw] at hQ
    refine exc_w (c := "NoText") (w := cText) (fun hE => ?_) rfl rfl rfl rfl rfl rfl (.inl rfl) hQ
    exact read16_w hl sx (fun hs ws a n k h => by rw [hw] at h; cases h) (fun hs ws a n k h => by rw [hw] at h; cases h) (fun _ => hE)
  | some r =>
    obtain ⟨hs, ws, a, n, k⟩ := r
    rw [hw] at hQ
    cases v : verd hs ws a n k with
    | none =>
      simp only [v] at hQ
      apply w__law_told
      unfold z__law_told
      rw [kTold, kRef, kOther]
      (repeat' (first | fail "q1" | fail "q2" | fail "q4" | fail))
      refine read16_w hl sx (fun hs' ws' a' n' k' h _ => ?_) (fun hs' ws' a' n' k' h c z => ?_) (fun h => by rw [hw] at h; cases h)
      · rw [hw] at h
        cases h
        (repeat' (first | fail "q1" | fail "q2" | fail "q4" | fail))
        exact hQ
      · rw [hw] at h
        cases h
        rw [v] at z; cases z
    | some c =>
      simp only [v] at hQ
      have rd : ∀ {S : Store} {Q' : D → Store → Prop} {E' : EX}, E' c S → W (m_read_works [dS tx] S) Q' E' := fun {S Q' E'} hE => by
        refine read16_w hl sx (fun hs' ws' a' n' k' h z => ?_) (fun hs' ws' a' n' k' h c' z => ?_) (fun h => by rw [hw] at h; cases h)
        · rw [hw] at h
          cases h
          rw [v] at z; cases z
        · rw [hw] at h
          cases h
          rw [v] at z
          cases z
          exact hE
      rcases verd_some v with rfl | rfl
      · exact exc_w (c := "BadWorks") (w := cWks) rd rfl rfl rfl rfl rfl rfl (.inr (.inl rfl)) hQ
      · have e : (if Str.ofString "BadStart" = Str.ofString "BadWorks" then dS cWks else dS cStart) = dS cStart := if_neg (by decide)
        rw [e] at hQ
        exact exc_w (c := "BadStart") (w := cStart) rd rfl rfl rfl rfl rfl rfl (.inr (.inr rfl)) hQ
theorem told16N_w {S : Store} {x : D} (h : NoS S x) {Qd : D → Store → Prop} {E : EX} (hQ : Qd (.tup [dS cRef, dS cText]) S) : W (m__law_told [x] S) Qd E := by
  have rd : ∀ {Qd : D → Store → Prop} {E : EX}, E "NoText" S → W (m_read_works [x] S) Qd E := fun hE => by
    apply w_read_works
    unfold z_read_works
    cases h with
    | ref l xs h =>
      (repeat' (first | (refine Is_ref h ?_) | fail "q1" | fail "q2" | fail "q4" | fail))
      refine needF_w ?_
      exact finX_same hE
    | dic l kvs h =>
      (repeat' (first | (refine Is_dic h ?_) | fail "q1" | fail "q2" | fail "q4" | fail))
      refine needF_w ?_
      exact finX_same hE
    | _ =>
      (repeat' (first | fail "q1" | fail "q2" | fail "q4" | fail))
      refine needF_w ?_
      exact finX_same hE
  exact exc_w (c := "NoText") (w := cText) rd rfl rfl rfl rfl rfl rfl (.inl rfl) hQ
end QL

namespace QL
open PySem Q
/-! ### a text of works changed -/
theorem Bn_rep {S : Store} {c : Nat} {n : Nat} {Q : D → Prop} (hn : n < 10000) (h : Q (dS (List.replicate (n + 1) c))) : Bn S .Mult (dS [c]) (.int ((n : Int) + 1)) Q := by
  refine Bn_strN ⟨by omega, by omega, ?_⟩ ?_
  · rw [SX.S_len, List.length_singleton]; omega
  rw [times_S]
  exact h
theorem Bn_r4k {S : Store} {c : Nat} {Q : D → Prop} (h : Q (dS (List.replicate 4000 c))) : Bn S .Mult (dS [c]) (.int 4000) Q := Bn_rep (n := 3999) (by decide) h
theorem kOne : Str.ofString "1" = SX.S [49] := by decide +kernel
def strP : D → Bool
  | .str z => decide (z.length ≤ 4100) && PyData.strOk z
  | _ => false
theorem strP_S {d : D} (h : strP d = true) : ∃ a, d = dS a ∧ a.length ≤ 4100 ∧ sOk a = true := by
  cases d with
  | str z =>
    obtain ⟨a, rfl⟩ : ∃ a, z = SX.S a := ⟨z.cps.toList, (SX.S_tl z).symm⟩
    have h : (decide ((SX.S a).length ≤ 4100) && PyData.strOk (SX.S a)) = true := h
    rw [Bool.and_eq_true, decide_eq_true_eq, SX.S_len] at h
    refine ⟨a, rfl, h.1, ?_⟩
    have hz : a.toArray.all (fun c => decide (c < 0x110000)) = true := h.2
    rw [List.all_toArray] at hz
    exact hz
  | _ => cases h
theorem strP_app {a : List Nat} (ha : sOk a = true) (hl : a.length ≤ 4100) : strP (dS a) = true := by
  show (decide ((SX.S a).length ≤ 4100) && PyData.strOk (SX.S a)) = true
  rw [SX.S_len, decide_eq_true hl, strOk_S ha]; rfl
theorem rep_s {n c : Nat} (hc : c < 1114112) : sOk (List.replicate n c) = true := by
  unfold sOk
  rw [List.all_eq_true]
  intro x hx
  rw [List.eq_of_mem_replicate hx]
  exact decide_eq_true hc
theorem sOk_app {a b : List Nat} (ha : sOk a = true) (hb : sOk b = true) : sOk (a ++ b) = true := by
  unfold sOk at *
  rw [List.all_append, ha, hb]; rfl
theorem tot_at : ∀ {ws : List (List Nat)} {i : Nat} {w : List Nat} (x : List Nat), ws[i]? = some w → tot (ws.set i x) + w.length = tot ws + x.length
  | [], _, _, _, h => by simp at h
  | v :: ws, 0, w, x, h => by
    have h : v = w := by simpa using h
    subst h
    rw [List.set_cons_zero, tot_cons, tot_cons]; omega
  | v :: ws, i + 1, w, x, h => by
    have := tot_at (ws := ws) (i := i) x (by simpa using h)
    rw [List.set_cons_succ, tot_cons, tot_cons]; omega
theorem tot_two {ws : List (List Nat)} {i j : Nat} {a b : List Nat} (ha : ws[i]? = some a) (hb : ws[j]? = some b) : tot ((ws.set i b).set j a) = tot ws := by
  have h1 := tot_at b ha
  have h2 : (ws.set i b)[j]? = some b := by
    by_cases c : i = j
    · subst c
      rw [List.getElem?_set_self (List.getElem?_eq_some_iff.mp ha).1]
    · rw [List.getElem?_set_ne c]; exact hb
  have h3 := tot_at a h2
  omega
theorem tot_drop1 (ws : List (List Nat)) (i : Nat) : tot (ws.drop (i + 1)) ≤ tot (ws.drop i) := by
  have : ws.drop (i + 1) = (ws.drop i).drop 1 := by rw [List.drop_drop]
  rw [this]
  cases ws.drop i with
  | nil => exact Nat.le_refl _
  | cons w r => rw [tot_cons]; show tot r ≤ _; omega
theorem join_len {c : Nat} (ws : List (List Nat)) : (TL.joinL [c] ws).length ≤ tot ws := by
  cases ws with
  | nil => exact Nat.zero_le _
  | cons w r => have := tot_join (c := c) (ws := w :: r) (by simp); omega
theorem join_s {c : Nat} (hc : c < 1114112) {ws : List (List Nat)} (h : ∀ a ∈ ws, sOk a = true) : sOk (TL.joinL [c] ws) = true := by
  cases ws with
  | nil => rfl
  | cons w r =>
    induction r generalizing w with
    | nil => exact h w (List.mem_cons_self ..)
    | cons v r ih =>
      rw [joinL_cons (by simp)]
      exact sOk_app (h w (List.mem_cons_self ..)) (sOk_app (by unfold sOk; simp [hc]) (ih v (fun a ha => h a (List.mem_cons_of_mem _ ha))))
theorem tot_spl {c : Nat} (a : List Nat) : tot (TL.spl [c] 0 [] a) = a.length + 1 := by
  rw [← tot_join (c := c) (spl_ne (by simp) a []), join_spl (by simp) a.length a [] (Nat.le_refl _), List.nil_append]
theorem spl_s {c : Nat} {a : List Nat} (h : sOk a = true) : ∀ p ∈ TL.spl [c] 0 [] a, sOk p = true := fun p hp => sOk_sub (fun x hx => by
  rcases spl_mem (S := [c]) (by simp) a.length a [] (Nat.le_refl _) p hp x hx with z | z
  · simp at z
  · exact z) h
theorem sum_tot (ws : List (List Nat)) : (ws.map (·.length)).sum + ws.length = tot ws := by
  induction ws with
  | nil => rfl
  | cons w ws ih => rw [List.map_cons, List.sum_cons, List.length_cons, tot_cons]; omega
theorem Mt_joinC {S : Store} {d : D} {c : Nat} {ws : List (List Nat)} {QD : D → Store → Prop} (e : seqO S d = some (ws.map dS)) (hb : tot ws ≤ 16777216) (h : QD (dS (TL.joinL [c] ws)) S) : MtP S .join (dS [c]) [d] QD := by
  refine ⟨⟨dS (TL.joinL [c] ws), S, ?_, h⟩⟩
  have e2 : ws.map dS = (ws.map SX.S).map D.str := by rw [List.map_map]; rfl
  rw [e2] at e
  have z : ((ws.map SX.S).map (·.length)).sum + (ws.map SX.S).length * (SX.S [c]).length ≤ 16777216 := by
    rw [SX.lens, List.length_map, SX.S_len]
    have := sum_tot ws
    show _ + ws.length * 1 ≤ _
    omega
  simp only [mthD, e, strs_map]
  rw [if_pos z, SX.join_S]
section
variable {S : Store} {l : Nat} {xs : List D}
theorem Md_ins {q : MId → Prop} (e : S[l]? = some (.lst xs)) (h : q .insert) : MdP S (.ref l) "insert" q :=
  ⟨⟨.insert, by simp only [mIdD, seqL_ref e]; rfl, h⟩⟩
theorem Mt_popI {i : Nat} {QD : D → Store → Prop} (e : S[l]? = some (.lst xs)) (h1 : i < xs.length) (h2 : xs.length < 1000000) (h : ∀ y S', S'[l]? = some (.lst (xs.take i ++ xs.drop (i + 1))) → S'.length = S.length → (∀ j, j ≠ l → S'[j]? = S[j]?) → QD y S') : MtP S .pop (.ref l) [.int (i : Nat)] QD := by
  refine ⟨⟨xs[i], S.set l (.lst (xs.eraseIdx i)), ?_, h _ _ ?_ (by simp) fun j hj => by rw [List.getElem?_set_ne (Ne.symm hj)]⟩⟩
  · show (match S[l]? with | some (.lst ys) => if 0 ≤ (i : Int) ∧ (i : Int) < ys.length ∧ (i : Int) < 2 ^ 62 then (match ys[((i : Int)).toNat]? with | some y => some (y, S.set l (.lst (ys.eraseIdx ((i : Int)).toNat))) | none => none) else none | _ => none) = _
    rw [e]
    show (if 0 ≤ (i : Int) ∧ (i : Int) < xs.length ∧ (i : Int) < 2 ^ 62 then _ else none) = _
    rw [if_pos ⟨by omega, by omega, by omega⟩, Int.toNat_natCast, List.getElem?_eq_getElem h1]
  · rw [List.getElem?_set_self (List.getElem?_eq_some_iff.mp e).1, List.eraseIdx_eq_take_drop_succ]
theorem Mt_insI {i : Nat} {y : D} {QD : D → Store → Prop} (e : S[l]? = some (.lst xs)) (h1 : i ≤ xs.length) (h2 : xs.length < 1000000) (h : ∀ S', S'[l]? = some (.lst (xs.take i ++ [y] ++ xs.drop i)) → S'.length = S.length → (∀ j, j ≠ l → S'[j]? = S[j]?) → QD .non S') : MtP S .insert (.ref l) [.int (i : Nat), y] QD := by
  refine ⟨⟨.non, S.set l (.lst (xs.take i ++ [y] ++ xs.drop i)), ?_, h _ ?_ (by simp) fun j hj => by rw [List.getElem?_set_ne (Ne.symm hj)]⟩⟩
  · show (match S[l]? with | some (.lst ys) => if ys.length < 16777216 ∧ 0 ≤ (i : Int) ∧ (i : Int) < 2 ^ 62 then some (D.non, S.set l (.lst (ys.take ((i : Int)).toNat ++ [y] ++ ys.drop ((i : Int)).toNat))) else none | _ => none) = _
    rw [e]
    show (if xs.length < 16777216 ∧ 0 ≤ (i : Int) ∧ (i : Int) < 2 ^ 62 then _ else none) = _
    rw [if_pos ⟨by omega, by omega, by omega⟩, Int.toNat_natCast]
  · rw [List.getElem?_set_self (List.getElem?_eq_some_iff.mp e).1]
end
theorem some_w {S : Store} {l : Nat} {k : Int} {dh : D} {ws : List (List Nat)} {os : List D} (h : Src S l k) (hk : k ≤ 10000) (e : seqL S dh = some (ws.map dS)) (hd : dh ≠ .ref l) (ne : ws ≠ []) (tt : tot ws ≤ 60000) (sg : ∀ a ∈ ws, sOk a = true) (p0 : 0 < os.length) (p1 : os.length ≤ 1000) (op : ∀ d ∈ os, strP d = true) {Qd : D → Store → Prop} {E : EX}
    (hQ : ∀ ws' m S', tot ws' ≤ 2 * tot ws + 4200 → (∀ a ∈ ws', sOk a = true) → S.length ≤ m → S'[m]? = some (.lst (ws'.map dS)) → Src S' l (k + 10) → Kp l S S' → Qd (.ref m) S') : W (m__law_some_changed [.ref l, dh, .lst os] S) Qd E := by
  have hlt := h.lt
  have wl := tot_len ws
  have w0 : 0 < ws.length := by
    cases e : ws with
    | nil => exact absurd e ne
    | cons _ _ => simp
  have lm : (ws.map dS).length = ws.length := List.length_map ..
  apply w__law_some_changed
  unfold z__law_some_changed
  (repeat' (first | fail "q1" | fail "q2" | fail "q4" | fail))
  refine draw_w h (by omega) (by decide) (by decide) (fun way S1 a0 a1 hs1 l1 o1 => ?_)
  have K1 : Kp l S S1 := Kp.same l1 o1
  (repeat' (first | refine Bs_lenq (K1.seq e hd) ?_ | fail "q1" | fail "q2" | fail "q4" | fail))
  refine draw_w hs1 (by omega) (by omega) (by omega) (fun at_ S2 b0 b1 hs2 l2 o2 => ?_)
  have K2 : Kp l S S2 := K1.trans (Kp.same l2 o2)
  (repeat' (first | refine Bs_lenq (K2.seq e hd) ?_ | fail "q1" | fail "q2" | fail "q4" | fail))
  refine draw_w hs2 (by omega) (by omega) (by omega) (fun oth S3 c0 c1 hs3 l3 o3 => ?_)
  have K3 : Kp l S S3 := K2.trans (Kp.same l3 o3)
  obtain ⟨i, rfl⟩ : ∃ i : Nat, at_ = i := ⟨at_.toNat, by omega⟩
  obtain ⟨j, rfl⟩ : ∃ j : Nat, oth = j := ⟨oth.toNat, by omega⟩
  have hi : i < ws.length := by omega
  have hj : j < ws.length := by omega
  obtain ⟨a, ha⟩ : ∃ a, ws[i]? = some a := ⟨ws[i], List.getElem?_eq_getElem hi⟩
  obtain ⟨b, hb⟩ : ∃ b, ws[j]? = some b := ⟨ws[j], List.getElem?_eq_getElem hj⟩
  have ti := tot_take ws i
  have tj := tot_take ws j
  have td := tot_drop1 ws i
  have ma := tot_mem (List.mem_of_getElem? ha)
  have sa := sg a (List.mem_of_getElem? ha)
  have sb := sg b (List.mem_of_getElem? hb)
  have g4 : (S3 ++ [Ob.lst (ws.map dS)])[S3.length]? = some (.lst (ws.map dS)) := by simp
  have hs4 : Src (S3 ++ [Ob.lst (ws.map dS)]) l (k + 1 + 1 + 1) := hs3.app
  have K4 : Kp l S (S3 ++ [Ob.lst (ws.map dS)]) := K3.trans .app
  have l4 : (S3 ++ [Ob.lst (ws.map dS)]).length = S3.length + 1 := by simp
  have h3 : l < S3.length := hs3.lt
  (repeat' (first | refine Li_q (xs := ws.map dS) (K3.seq e hd) ?_ | fail "q1" | fail "q2" | fail "q4" | fail))
  have hle : S.length ≤ S3.length := K3.len
  have hne : l ≠ S3.length := by omega
  generalize S3 ++ [Ob.lst (ws.map dS)] = S4 at *
  generalize S3.length = m at *
  have ixi : ∀ {R : D → Prop}, R (dS a) → IxP S4 (.ref m) (.int (i : Int)) R := fun hr => Ix_q (xs := ws.map dS) (by omega) (by omega) (seqL_ref g4) (fun y hy => by
    rw [Int.toNat_natCast, List.getElem?_map, ha] at hy
    cases hy; exact hr)
  have ixj : ∀ {R : D → Prop}, R (dS b) → IxP S4 (.ref m) (.int (j : Int)) R := fun hr => Ix_q (xs := ws.map dS) (by omega) (by omega) (seqL_ref g4) (fun y hy => by
    rw [Int.toNat_natCast, List.getElem?_map, hb] at hy
    cases hy; exact hr)
  have ixN : ∀ {n i : Nat}, i < n → L2.ixN n (i : Int) = some i := fun h => by
    unfold L2.ixN
    rw [if_pos (by omega), if_pos (by omega)]
    simp
  have done : ∀ (ws' : List (List Nat)) (S' : Store), tot ws' ≤ 2 * tot ws + 4200 → (∀ a ∈ ws', sOk a = true) → S'[m]? = some (.lst (ws'.map dS)) → Src S' l (k + 10) → Kp l S S' → FnP false S.length (.ref m) S' Qd E := fun ws' S' q1 q2 q3 q4 q5 =>
    Fn_ref hle (by have := (List.getElem?_eq_some_iff.mp q3).1; omega) (hQ ws' m S' q1 q2 hle q3 q4 q5)
  have src : ∀ {S' : Store}, (∀ x, x ≠ m → S'[x]? = S4[x]?) → Src S' l (k + 10) := fun {S'} o => by
    obtain ⟨u, v, w, h1, h2, h3⟩ := hs4.out
    exact ⟨⟨u, v, w, by rw [o l hne]; exact h1, h2, by omega⟩⟩
  have kp : ∀ {S' : Store}, S'.length = S4.length → (∀ x, x ≠ m → S'[x]? = S4[x]?) → Kp l S S' := fun {S'} q o => ⟨by rw [q]; exact K4.len, fun x hx hl => by rw [o x (by omega), K4.get x hx hl]⟩
  (repeat' (first | refine Md_pop g4 ?_ | refine Md_ins g4 ?_ | (with_reducible refine ixi ?_) | (with_reducible refine ixj ?_) | fail "q1" | fail "q2" | fail "q3" | fail))
  · refine Mt_popI g4 (by omega) (by omega) (fun y S5 g5 l5 o5 => ?_)
    (repeat' (first | fail "q1" | fail "q2" | fail "q4" | fail))
    rw [← List.map_take, ← List.map_drop, ← List.map_append] at g5
    refine done _ S5 (by rw [tot_app]; omega) (fun x hx => ?_) g5 (src o5) (kp l5 o5)
    rcases List.mem_append.mp hx with hx | hx
    · exact sg x (List.mem_of_mem_take hx)
    · exact sg x (List.mem_of_mem_drop hx)
  · refine Mt_insI g4 (by omega) (by omega) (fun S5 g5 l5 o5 => ?_)
    (repeat' (first | fail "q1" | fail "q2" | fail "q4" | fail))
    have e5 : (ws.map dS).take j ++ [dS a] ++ (ws.map dS).drop j = (ws.take j ++ [a] ++ ws.drop j).map dS := by simp
    rw [e5] at g5
    refine done _ S5 (by rw [tot_app, tot_app, tot_cons]; show _ + (a.length + 1 + 0) + _ ≤ _; omega) (fun x hx => ?_) g5 (src o5) (kp l5 o5)
    rcases List.mem_append.mp hx with hx | hx
    · rcases List.mem_append.mp hx with hx | hx
      · exact sg x (List.mem_of_mem_take hx)
      · rw [List.mem_singleton.mp hx]; exact sa
    · exact sg x (List.mem_of_mem_drop hx)
  · refine Sd_ref (j := i) g4 (ixN (by omega)) (fun S5 g5 l5 o5 => ?_)
    (repeat' (first | fail "q1" | fail "q2" | fail "q4" | fail))
    refine Sd_ref (j := j) g5 (ixN (by rw [List.length_set]; omega)) (fun S6 g6 l6 o6 => ?_)
    (repeat' (first | fail "q1" | fail "q2" | fail "q4" | fail))
    have o46 : ∀ x, x ≠ m → S6[x]? = S4[x]? := fun x hx => by rw [o6 x hx, o5 x hx]
    rw [← List.map_set, ← List.map_set] at g6
    refine done _ S6 (by rw [tot_two ha hb]; omega) (fun x hx => ?_) g6 (src o46) (kp (by omega) o46)
    rcases List.mem_or_eq_of_mem_set hx with hx | rfl
    · rcases List.mem_or_eq_of_mem_set hx with hx | rfl
      · exact sg x hx
      · exact sb
    · exact sa
  · refine draw_w hs4 (by omega) (by omega) (by omega) (fun n S5 d0 d1 hs5 l5 o5 => ?_)
    have g5 : S5[m]? = some (.lst (ws.map dS)) := by rw [o5 m (Ne.symm hne)]; exact g4
    (repeat' (first | fail "q1" | fail "q2" | fail "q4" | fail))
    refine Ix_pick (fun d => strP d = true) d0 d1 op (fun d hd => ?_)
    obtain ⟨c, rfl, cl, sc⟩ := strP_S hd
    (repeat' (first | fail "q1" | fail "q2" | fail "q4" | fail))
    refine Sd_ref (j := i) g5 (ixN (by omega)) (fun S6 g6 l6 o6 => ?_)
    (repeat' (first | fail "q1" | fail "q2" | fail "q4" | fail))
    rw [← List.map_set] at g6
    have ta := tot_at c ha
    have hs6 : Src S6 l (k + 10) := by
      obtain ⟨u, v, w, h1, h2, h3⟩ := hs5.out
      exact ⟨⟨u, v, w, by rw [o6 l hne]; exact h1, h2, by omega⟩⟩
    refine done _ S6 (by omega) (fun x hx => ?_) g6 hs6 ⟨by rw [l6, l5]; exact K4.len, fun x hx hl => by rw [o6 x (by omega), o5 x hx, K4.get x hx hl]⟩
    rcases List.mem_or_eq_of_mem_set hx with hx | rfl
    · exact sg x hx
    · exact sc
end QL

namespace QL
open PySem Q
theorem str_ok {z : Str} (h : (decide (0 < z.length ∧ z.length ≤ 1000) && PyData.strOk z) = true) : ∃ a, D.str z = dS a ∧ 0 < a.length ∧ a.length ≤ 1000 ∧ sOk a = true := by
  obtain ⟨a, rfl⟩ : ∃ a, z = SX.S a := ⟨z.cps.toList, (SX.S_tl z).symm⟩
  rw [Bool.and_eq_true, decide_eq_true_eq, SX.S_len] at h
  refine ⟨a, rfl, h.1.1, h.1.2, ?_⟩
  have hz : a.toArray.all (fun c => decide (c < 0x110000)) = true := h.2
  rw [List.all_toArray] at hz
  exact hz
theorem pickZ_w {S : Store} {l : Nat} {k : Int} {d0 : D} {xs : List D} {Qd : D → Store → Prop} {E : EX} (h : Src S l k) (hk : k ≤ 100000000) (hx : d0 = .lst xs) (x0 : 0 < xs.length) (x1 : xs.length < 1000) (hz : ∀ d ∈ xs, ∃ a, d = dS a ∧ 0 < a.length ∧ a.length ≤ 1000 ∧ sOk a = true)
    (hQ : ∀ a S', 0 < a.length → a.length ≤ 1000 → sOk a = true → Src S' l (k + 1) → S'.length = S.length → (∀ i, i ≠ l → S'[i]? = S[i]?) → Qd (dS a) S') : W (m__law_pick [.ref l, d0] S) Qd E := by
  subst hx
  refine pick_w (P := fun d => ∃ a, d = dS a ∧ 0 < a.length ∧ a.length ≤ 1000 ∧ sOk a = true) h hk x0 (by omega) hz (fun d S4 hd hs4 l4 o4 => ?_)
  obtain ⟨a, rfl, h1, h2, h3⟩ := hd
  exact hQ a S4 h1 h2 h3 hs4 l4 o4
theorem changed_w {S : Store} {l : Nat} {k : Int} {tx : List Nat} (h : Src S l k) (hk : k ≤ 9000) (tl : tx.length ≤ 25000) (st : sOk tx = true) {Qd : D → Store → Prop} {E : EX}
    (hQ : ∀ tx' S', tx'.length ≤ 2 * tx.length + 4210 → sOk tx' = true → Src S' l (k + 20) → Qd (dS tx') S') : W (m__law_changed [.ref l, dS tx] S) Qd E := by
  have hlt := h.lt
  have tr := tot_spl (c := 10) tx
  have rne := spl_ne (S := [10]) (by decide) tx []
  have rs := spl_s (c := 10) st
  have done : ∀ (tx' : List Nat) (S' : Store) (k' : Int), tx'.length ≤ 2 * tx.length + 4210 → sOk tx' = true → Src S' l k' → k' ≤ k + 20 → FnP false S.length (dS tx') S' Qd E := fun tx' S' k' q1 q2 q3 q4 =>
    Fn_any (hQ tx' S' q1 q2 (q3.mono q4)) (fun _ => hQ tx' _ q1 q2 ((q3.mono q4).take hlt))
  apply w__law_changed
  unfold z__law_changed
  rw [kNl, kSp, kOne, kNil']
  generalize er : TL.spl [10] 0 [] tx = rows at *
  have r0 : 0 < rows.length := by
    cases e : rows with
    | nil => exact absurd e rne
    | cons _ _ => simp
  have rl := tot_len rows
  have lm : (rows.map dS).length = rows.length := List.length_map ..
  (repeat' (first | fail "q1" | fail "q2" | fail "q4" | fail))
  refine draw_w h (by omega) (by decide) (by decide) (fun way S1 a0 a1 hs1 l1 o1 => ?_)
  have g2 : (S1 ++ [Ob.lst (rows.map dS)])[S1.length]? = some (.lst (rows.map dS)) := by simp
  have hs2 : Src (S1 ++ [Ob.lst (rows.map dS)]) l (k + 1) := hs1.app
  have l2 : (S1 ++ [Ob.lst (rows.map dS)]).length = S1.length + 1 := by simp
  have hne : l ≠ S1.length := by have := hs1.lt; omega
  have spm : ∀ {S : Store} {R : List D → Prop}, R (rows.map dS) → MmP S (dS tx) [dS [10]] R := fun {S R} hr => ⟨⟨rows.map dS, by
    have z : ((SX.S [10]).length == 0) = false := by rw [SX.S_len]; rfl
    show (if ((SX.S [10]).length == 0) = false ∧ (SX.S tx).length + 2 ≤ 16777216 then some (D.lst ((Txt.split (SX.S tx) (SX.S [10])).map D.str), S) else none) = _
    rw [if_pos ⟨z, by rw [SX.S_len]; omega⟩, SX.split_S (by simp) (by decide), er, List.map_map]; rfl, hr⟩⟩
  (repeat' (first | (with_reducible apply G_meM) | refine ⟨rfl, ?_⟩ | (with_reducible refine spm ?_) | fail "q1" | fail "q2" | fail "q4" | fail))
  generalize S1 ++ [Ob.lst (rows.map dS)] = S2 at *
  generalize S1.length = m at *
  (repeat' (first | fail "q1" | fail "q2" | fail "q3" | fail))
  · -- rows
    refine some_w (ws := rows) hs2 (by omega) (seqL_ref g2) (fun z => by injection z with z; omega) rne (by omega) rs (by decide) (by decide) (fun d hd => ?_) (fun ws' m' S3 q1 q2 q3 q4 q5 q6 => ?_)
    · have : ∀ d ∈ ([D.str (Str.ofString "work x"), D.str (Str.ofString "houses a b"), D.str (Str.ofString "start a b 0"), dS [], D.str (Str.ofString "work own ; own")] : List D), strP d = true := by
        rw [← List.all_eq_true]
        decide +kernel
      exact this d hd
    have jl := join_len (c := 10) ws'
    (repeat' (first | refine Mt_joinC (seqL_seqO (seqL_ref q4)) (by omega) ?_ | fail "q1" | fail "q2" | fail "q4" | fail))
    exact done _ _ _ (by omega) (join_s (by decide) q2) q5 (by omega)
  · -- words
    (repeat' (first | refine Bs_lenq (seqL_ref g2) ?_ | fail "q1" | fail "q2" | fail "q4" | fail))
    refine draw_w hs2 (by omega) (by omega) (by omega) (fun at_ S3 b0 b1 hs3 l3 o3 => ?_)
    have g3 : S3[m]? = some (.lst (rows.map dS)) := by rw [o3 m (Ne.symm hne)]; exact g2
    obtain ⟨i, rfl⟩ : ∃ i : Nat, at_ = i := ⟨at_.toNat, by omega⟩
    have hi : i < rows.length := by omega
    obtain ⟨r, hr⟩ : ∃ r, rows[i]? = some r := ⟨rows[i], List.getElem?_eq_getElem hi⟩
    have mr := tot_mem (List.mem_of_getElem? hr)
    have sr := rs r (List.mem_of_getElem? hr)
    have ixr : ∀ {R : D → Prop}, R (dS r) → IxP S3 (.ref m) (.int (i : Int)) R := fun hq => Ix_q (xs := rows.map dS) (by omega) (by omega) (seqL_ref g3) (fun y hy => by
      rw [Int.toNat_natCast, List.getElem?_map, hr] at hy
      cases hy; exact hq)
    have tp := tot_spl (c := 32) r
    have pne := spl_ne (S := [32]) (by decide) r []
    have ps := spl_s (c := 32) sr
    generalize ep : TL.spl [32] 0 [] r = ws at *
    have rl4 : (List.replicate 4000 49).length = 4000 := List.length_replicate ..
    (repeat' (first | refine Bn_lst (by decide) ?_ | (with_reducible refine Bn_r4k ?_) | (with_reducible refine ixr ?_) | refine Mt_splitq (by decide) (by decide) (by omega) ep ?_ | fail "q1" | fail "q2" | fail "q4" | fail))
    refine some_w (ws := ws) hs3 (by omega) (dh := .lst (ws.map dS)) rfl (fun z => by cases z) pne (by omega) ps (by simp) (by simp) (fun d hd => ?_) (fun ws' m' S4 q1 q2 q3 q4 q5 q6 => ?_)
    · rcases List.mem_append.mp hd with hd | hd
      · have : ∀ d ∈ ([dS [], D.str (Str.ofString "own"), D.str (Str.ofString "add"), D.str (Str.ofString "spin"), D.str (Str.ofString "make"), D.str (Str.ofString "ask"), D.str (Str.ofString ";"), D.str (Str.ofString "work"), D.str (Str.ofString "start"), D.str (Str.ofString "houses"), D.str (Str.ofString "0"), dS [49], D.str (Str.ofString "3")] ++ [D.str (Str.ofString "4"), D.str (Str.ofString "5"), D.str (Str.ofString "-1"), D.str (Str.ofString "1000"), D.str (Str.ofString "1001"), D.str (Str.ofString "-1000"), D.str (Str.ofString "-1001"), D.str (Str.ofString "01"), D.str (Str.ofString "-0"), D.str (Str.ofString "a"), D.str (Str.ofString "A")] : List D), strP d = true := by
          rw [← List.all_eq_true]
          decide +kernel
        exact this d hd
      · simp only [List.mem_cons, List.not_mem_nil, or_false] at hd
        rcases hd with rfl | rfl | rfl | rfl
        · decide +kernel
        · decide +kernel
        · decide +kernel
        · exact strP_app (rep_s (by decide)) (by rw [rl4]; decide)
    have jl := join_len (c := 32) ws'
    have js := join_s (c := 32) (by decide) q2
    have g4 : S4[m]? = some (.lst (rows.map dS)) := by rw [q6.get m (Ne.symm hne) (List.getElem?_eq_some_iff.mp g3).1]; exact g3
    (repeat' (first | refine Mt_joinC (seqL_seqO (seqL_ref q4)) (by omega) ?_ | fail "q1" | fail "q2" | fail "q4" | fail))
    generalize TL.joinL [32] ws' = w at *
    have ixN : L2.ixN (rows.map dS).length (i : Int) = some i := by
      unfold L2.ixN
      rw [if_pos (by omega), if_pos (by omega)]
      simp
    refine Sd_ref (j := i) g4 ixN (fun S5 g5 l5 o5 => ?_)
    rw [← List.map_set] at g5
    have ta := tot_at w hr
    have jl2 := join_len (c := 10) (rows.set i w)
    (repeat' (first | refine Mt_joinC (seqL_seqO (seqL_ref g5)) (by omega) ?_ | fail "q1" | fail "q2" | fail "q4" | fail))
    have hs5 : Src S5 l (k + 1 + 1 + 10) := by
      obtain ⟨u, v, x, h1, h2, h3⟩ := q5.out
      exact ⟨⟨u, v, x, by rw [o5 l hne]; exact h1, h2, by omega⟩⟩
    refine done _ _ _ (by omega) (join_s (by decide) (fun x hx => ?_)) hs5 (by omega)
    rcases List.mem_or_eq_of_mem_set hx with hx | rfl
    · exact rs x hx
    · exact js
  · -- a sign
    (repeat' (first | refine Bn_str (by decide +kernel) ?_ | fail "q1" | fail "q2" | fail "q4" | fail))
    refine pickZ_w hs2 (by omega) rfl (by decide) (by decide) (fun d hd => ?_) (fun a S3 al ah sa hs3 l3 o3 => ?_)
    · simp only [List.mem_cons, List.not_mem_nil, or_false] at hd
      rcases hd with rfl | rfl
      · exact str_ok (by decide +kernel)
      · exact str_ok (by decide +kernel)
    obtain ⟨n3, rfl⟩ : ∃ n : Nat, n = a.length := ⟨_, rfl⟩
    (repeat' (first | refine Bs_lenS (by omega) ?_ | fail "q1" | fail "q2" | fail "q4" | fail))
    refine draw_w hs3 (by omega) (by omega) (by omega) (fun sx S4 b0 b1 hs4 l4 o4 => ?_)
    refine Ix_strS (by omega) b0 b1 (fun c hc => ?_)
    have sc : sOk [c] = true := sOk_sub (fun x hx => by rw [List.mem_singleton.mp hx]; exact hc) sa
    (repeat' (first | refine Bs_lenS (by omega) ?_ | fail "q1" | fail "q2" | fail "q4" | fail))
    refine draw_w hs4 (by omega) (by omega) (by omega) (fun sp S5 d0 d1 hs5 l5 o5 => ?_)
    (repeat' (first | fail "q1" | fail "q2" | fail "q4" | fail))
    refine draw_w hs5 (by omega) (by decide) (by decide) (fun wy S6 e0 e1 hs6 l6 o6 => ?_)
    obtain ⟨n, rfl⟩ : ∃ n : Nat, sp = n := ⟨sp.toNat, by omega⟩
    (repeat' (first | refine Sl_to (by omega) d0 ?_ | fail "q1" | fail "q2" | fail "q4" | fail))
    refine Ix_pick (fun d => ∃ a : List Nat, d = dS a ∧ a.length ≤ 1 ∧ sOk a = true) e0 (by show wy < 3; omega) (fun d hd => ?_) ?_
    · simp only [List.mem_cons, List.not_mem_nil, or_false] at hd
      rcases hd with rfl | rfl | rfl
      · exact ⟨[c], rfl, by simp, sc⟩
      · exact ⟨[c], rfl, by simp, sc⟩
      · exact ⟨[], rfl, by decide, rfl⟩
    rintro d ⟨z, rfl, zl, sz⟩
    rw [Int.toNat_natCast]
    have tk : (tx.take n).length ≤ tx.length := by rw [List.length_take]; omega
    refine Bn_catS (by omega) ?_
    (repeat' (first | fail "q1" | fail "q2" | fail "q4" | fail))
    refine Ix_pick (fun d => ∃ x : Nat, d = .int x ∧ x ≤ 1) e0 (by show wy < 3; omega) (fun d hd => ?_) ?_
    · simp only [List.mem_cons, List.not_mem_nil, or_false] at hd
      rcases hd with rfl | rfl | rfl
      · exact ⟨1, rfl, by decide⟩
      · exact ⟨0, rfl, by decide⟩
      · exact ⟨1, rfl, by decide⟩
    rintro d ⟨x, rfl, hx⟩
    (repeat' (first | refine Sl_from (by omega) (by omega) ?_ | fail "q1" | fail "q2" | fail "q4" | fail))
    rw [show ((n : Int) + (x : Int)).toNat = n + x from by omega]
    have l2' : (tx.take n ++ z).length + (tx.drop (n + x)).length ≤ tx.length + 1 := by rw [List.length_append, List.length_take, List.length_drop]; omega
    refine Bn_catS (by omega) ?_
    exact done _ _ _ (by rw [List.length_append]; omega) (sOk_app (sOk_app (sOk_sub (fun c hc => List.mem_of_mem_take hc) st) sz) (sOk_sub (fun c hc => List.mem_of_mem_drop hc) st)) hs6 (by omega)
end QL

namespace QL
open PySem Q
/-! ### the law -/
theorem fine_both {hs : List (List Nat)} {ws : List Wk} {a n : List Nat} {k : Int} (x : okX hs ws a n k) : fine 6 (.tup [.tup [.lst (hs.map dS), .lst (ws.map dWork)], .tup [dS a, dS n, .int k]]) = true := by
  have f : fine 5 (.tup [.lst (hs.map dS), .lst (ws.map dWork)]) = true := by
    show (fine 4 (.lst (hs.map dS)) && (fine 4 (.lst (ws.map dWork)) && true)) = true
    rw [fine_names x.w.s1, fine_works x.w]; rfl
  show (fine 5 (.tup [.lst (hs.map dS), .lst (ws.map dWork)]) && ((fine 4 (dS a) && (fine 4 (dS n) && (fine 4 (.int k) && true))) && true)) = true
  rw [f, fine_S (x.w.s1 _ x.ha), fine_S (x.w.s2 _ x.hn)]; rfl
def LB : Nat → Nat
  | 0 => 3000
  | n + 1 => 2 * LB n + 4210
theorem LB_2 {i : Nat} (h : i ≤ 2) : LB i ≤ 25000 := by
  rcases i with _ | _ | _ | i <;> first | decide | omega
theorem LB_3 {i : Nat} (h : i ≤ 3) : LB i ≤ 60000 := by
  rcases i with _ | _ | _ | _ | i <;> first | decide | omega
theorem verd_none {hs : List (List Nat)} {ws : List Wk} {a n : List Nat} {k : Int} (o : WrOk hs ws) (h : verd hs ws a n k = none) : okX hs ws a n k := by
  unfold verd at h
  split at h
  · rename_i c
    split at h
    · rename_i d
      exact ⟨okWB_ok o c, d.1, d.2.1, d.2.2.1, d.2.2.2⟩
    · cases h
  · cases h
theorem due_cases (tx : List Nat) : (isRef tx = true ∧ ∃ w, dueOf tx = dS w ∧ sOk w = true) ∨ (isRef tx = false ∧ ∃ hs ws a n k, written tx = some (hs, ws, a, n, k) ∧ verd hs ws a n k = none ∧ dueOf tx = dWr (some (hs, ws, a, n, k))) := by
  unfold isRef dueOf
  cases hw : written tx with
  | none => exact .inl ⟨rfl, _, rfl, by decide⟩
  | some r =>
    obtain ⟨hs, ws, a, n, k⟩ := r
    cases v : verd hs ws a n k with
    | none => exact .inr ⟨by simp only [v]; rfl, hs, ws, a, n, k, rfl, v, by simp only [v]⟩
    | some c =>
      refine .inl ⟨by simp only [v]; rfl, ?_⟩
      simp only [v]
      by_cases q : c = "BadWorks"
      · rw [if_pos q]; exact ⟨_, rfl, by decide⟩
      · rw [if_neg q]; exact ⟨_, rfl, by decide⟩
theorem told_fine (tx : List Nat) : fine 7 (toldOf tx) = true := by
  unfold toldOf
  have hw : sOk (if isRef tx = true then cRef else cTold) = true := by split <;> decide
  have hd : fine 6 (dueOf tx) = true := by
    rcases due_cases tx with ⟨_, w, e, s⟩ | ⟨_, hs, ws, a, n, k, hw, hv, e⟩
    · rw [e]; exact fine_S s
    · rw [e]; exact fine_both (verd_none (written_ok hw).1 hv)
  show (fine 6 (dS _) && (fine 6 (dueOf tx) && true)) = true
  rw [fine_S hw, hd]; rfl
theorem told_same {S : Store} {tx : List Nat} {PB : Bool → Prop} (h : PB false) : Cp S .NotEq (toldOf tx) (toldOf tx) PB :=
  Cp_ne (EqOk.of (told_fine tx) (by decide)) (EqOk.of (told_fine tx) (by decide)) (fun _ => h) (fun z => absurd rfl z)
theorem lawx {ns : List Int} (hl : ns.length ≤ 63) : W (m_law [.lst (ns.map D.int)] []) (fun d _ => d = .bl true) noX := by
  apply w_law
  unfold z_law
  rw [kTold, kRef, kText, kWks, kNil']
  (repeat' (first | fail "q1" | apply cell_w; intro _ | refine Bn_lst ?_ ?_ | fail "q2" | fail "q3" | fail))
  · rw [List.length_singleton]
    have := cut_len (xs := ns.map D.int) (lo := some 1) (hi := some 20)
    rw [List.length_map] at this
    omega
  rename_i c0
  refine Lp_inv (fun i σ S' => ∃ x1 x2 x3 x4 x5 x6 x7 : Option D, σ = [some (.lst (ns.map D.int)), x1, x2, x3, x4, x5, x6, x7, none, none]) ⟨_, _, _, _, _, _, _, rfl⟩ ?_ ?_ ?_
  · rintro i d σ S hd ⟨x1, x2, x3, x4, x5, x6, x7, rfl⟩
    have : ∃ c, d = .int c := by
      have := List.mem_of_getElem? hd
      rcases List.mem_append.mp this with h | h
      · exact ⟨c0, List.mem_singleton.mp h⟩
      · obtain ⟨a, _, rfl⟩ := List.mem_map.mp (cut_mem h)
        exact ⟨a, rfl⟩
    obtain ⟨c, rfl⟩ := this
    (repeat' (first | fail "q1" | fail "q2" | fail "q4" | fail))
    refine begin_w (fun S1 hs1 l1 o1 => ?_)
    (repeat' (first | fail "q1" | fail "q2" | fail "q4" | fail))
    refine works_w hs1 (by omega) (fun hs ws j S2 ok od hs2 K2 jl g2 => ?_)
    have jn : j ≠ S.length := by omega
    (repeat' (first | fail "q1" | fail "q2" | fail "q4" | fail))
    refine start_w hs2 (by omega) ok g2 jn (fun a n k S3 ha hn k0 k3 hs3 l3 o3 => ?_)
    have g3 : S3[j]? = some (.lst (hs.map dS)) := by rw [o3 j jn]; exact g2
    have x : okX hs ws a n k := ⟨ok, ha, hn, k0, k3⟩
    (repeat' (first | fail "q1" | fail "q2" | fail "q4" | fail))
    refine lawT_w (l := 0) (seqL_ref g3) x (fun T => ?_)
    have hs4 : Src (S3 ++ T) S.length (0 + 200 + 3) := hs3.app
    have t0 := txtAll_len x
    have s0 := txtAll_s x
    generalize txtAll hs ws a n k = tx0 at *
    generalize S3 ++ T = S4 at *
    (repeat' (first | fail "q1" | fail "q2" | fail "q4" | fail))
    refine draw_w hs4 (by omega) (by decide) (by decide) (fun m S5 a0 a1 hs5 l5 o5 => ?_)
    (repeat' (first | fail "q1" | fail "q2" | fail "q4" | fail))
    refine Lp_inv (fun i σ S' => Src S' S.length (204 + 20 * i) ∧ ∃ tx x5, tx.length ≤ LB i ∧ sOk tx = true ∧ σ = [some (.lst (ns.map D.int)), some (.int c), some (.ref S.length), some (.tup [.ref j, .lst (ws.map dWork)]), some (dS tx), x5, x6, x7, none, none]) ⟨hs5.mono (by omega), tx0, _, t0, s0, rfl⟩ ?_ ?_ (by rw [range_len]; omega)
    · rintro i d σ S6 hd ⟨hs6, tx, x5, tl, st, rfl⟩
      obtain ⟨rfl, hi⟩ := range_get hd
      have b2 := LB_2 (i := i) (by omega)
      (repeat' (first | fail "q1" | fail "q2" | fail "q4" | fail))
      refine changed_w hs6 (by omega) (by omega) st (fun tx' S7 q1 q2 q3 => ?_)
      (repeat' (first | fail "q1" | fail "q2" | fail "q4" | fail))
      exact ⟨q3.mono (by omega), tx', _, by show _ ≤ 2 * LB i + 4210; omega, q2, rfl⟩
    · rintro σ S6 ⟨hs6, tx, x5, tl, st, rfl⟩
      rw [range_len] at tl
      have b3 := LB_3 (i := (1 + m).toNat) (by omega)
      have hl : tx.length ≤ 90000 := by omega
      have ix : ∀ {S : Store} {R : D → Prop}, R (dS (if isRef tx = true then cRef else cTold)) → IxP S (.lst [dS cTold, dS cRef]) (.int (if isRef tx = true then 1 else 0)) R := fun {S R} hr => by
        cases q : isRef tx with
        | true => rw [q] at hr; exact Ix_by (x' := dS cRef) rfl hr
        | false => rw [q] at hr; exact Ix_by (x' := dS cTold) rfl hr
      have isS : ∀ {S : Store} {PB : Bool → Prop}, PB (isRef tx) → IsP S (dueOf tx) "str" PB := fun {S PB} hp => by
        rcases due_cases tx with ⟨r, w, e, s⟩ | ⟨r, hs, ws, a, n, k, hw, hv, e⟩
        · rw [e]; rw [r] at hp; exact Is_by rfl hp
        · rw [e]; rw [r] at hp; exact Is_by rfl hp
      have isT : ∀ {S : Store} {PB : Bool → Prop}, PB (!isRef tx) → IsP S (dueOf tx) "tuple" PB := fun {S PB} hp => by
        rcases due_cases tx with ⟨r, w, e, s⟩ | ⟨r, hs, ws, a, n, k, hw, hv, e⟩
        · rw [e]; rw [r] at hp; exact Is_by rfl hp
        · rw [e]; rw [r] at hp; exact Is_by rfl hp
      (repeat' (first | (with_reducible refine ldue16_w hl st ?_) | (with_reducible refine isS ?_) | refine Bs_intb ?_ | (with_reducible refine ix ?_) | fail "q1" | fail "q2" | fail "q4" | fail))
      have eT : D.tup [dS (if isRef tx = true then cRef else cTold), dueOf tx] = toldOf tx := rfl
      rw [eT]
      (repeat' (first | (with_reducible refine told16_w hl st ?_) | (with_reducible refine told_same ?_) | (with_reducible refine isT ?_) | fail "q1" | fail "q2" | fail "q4" | fail))
      rcases due_cases tx with ⟨r, w, e, s⟩ | ⟨r, hs, ws, a, n, k, hw, hv, e⟩
      · refine Br_t r ?_
        (repeat' (first | fail "q1" | fail "q2" | fail "q4" | fail))
        exact ⟨_, _, _, _, _, _, _, rfl⟩
      · refine Br_f r ?_
        rw [e]
        have ix0 : ∀ {R : D → Prop}, R (.tup [.lst (hs.map dS), .lst (ws.map dWork)]) → IxP S6 (dWr (some (hs, ws, a, n, k))) (.int 0) R := fun hr => Ix_by (x' := .tup [.lst (hs.map dS), .lst (ws.map dWork)]) rfl hr
        have ix1 : ∀ {R : D → Prop}, R (.tup [dS a, dS n, .int k]) → IxP S6 (dWr (some (hs, ws, a, n, k))) (.int 1) R := fun hr => Ix_by (x' := .tup [dS a, dS n, .int k]) rfl hr
        have x := verd_none (written_ok hw).1 hv
        (repeat' (first | (with_reducible refine ix0 ?_) | (with_reducible refine ix1 ?_) | refine worksT_w (dh := .lst (hs.map dS)) rfl x ?_ | fail "q1" | fail "q2" | fail "q4" | fail))
        rw [written_txt hw]
        (repeat' (first | (with_reducible refine Cp_neS st st ?_) | refine Br_f (by rw [decide_eq_true rfl]; rfl) ?_ | fail "q1" | fail "q2" | fail "q4" | fail))
        exact ⟨_, _, _, _, _, _, _, rfl⟩
  · rintro σ S ⟨x1, x2, x3, x4, x5, x6, x7, rfl⟩
    have ref_same : ∀ {S : Store} {PB : Bool → Prop}, PB false → Cp S .NotEq (.tup [dS cRef, dS cText]) (.tup [dS cRef, dS cText]) PB := fun h => Cp_ne (EqOk.of (n := 4) (by decide +kernel) (by decide)) (EqOk.of (n := 4) (by decide +kernel) (by decide)) (fun _ => h) (fun z => absurd rfl z)
    (repeat' (first | fail "q1" | fail "q2" | fail "q4" | fail))
    refine Lp_inv (fun i σ S' => S'[S.length]? = some (.dic []) ∧ ∃ x8, σ = [some (.lst (ns.map D.int)), x1, x2, x3, x4, x5, x6, x7, x8, none]) ⟨by simp, _, rfl⟩ ?_ ?_ (by show (6 : Nat) < 100000; decide)
    · rintro i d σ S' hd ⟨g, x8, rfl⟩
      have hm := List.mem_of_getElem? hd
      have nos : NoS S' d := by
        simp only [List.mem_cons, List.not_mem_nil, or_false] at hm
        rcases hm with rfl | rfl | rfl | rfl | rfl | rfl
        · exact .non
        · exact .int _
        · exact .bl _
        · exact .lst _
        · exact .tup _
        · exact .dic _ _ g
      (repeat' (first | (with_reducible refine told16N_w nos ?_) | (with_reducible refine ref_same ?_) | fail "q1" | fail "q2" | fail "q4" | fail))
      exact ⟨g, _, rfl⟩
    · rintro σ S' ⟨g, x8, rfl⟩
      have k2 : Str.ofString "houses a\nstart a a 0" = SX.S [104, 111, 117, 115, 101, 115, 32, 97, 10, 115, 116, 97, 114, 116, 32, 97, 32, 97, 32, 48] := by decide +kernel
      rw [k2]
      (repeat' (first | fail "q1" | fail "q2" | fail "q4" | fail))
      refine CfMap (xs := [([] : List Nat), [104, 111, 117, 115, 101, 115, 32, 97, 10, 115, 116, 97, 114, 116, 32, 97, 32, 97, 32, 48]]) (g := dS) (h := dueOf) (by decide) (fun w hw => ?_) ?_
      · have sw : w.length ≤ 90000 ∧ sOk w = true := by
          simp only [List.mem_cons, List.not_mem_nil, or_false] at hw
          rcases hw with rfl | rfl <;> decide
        have ix1 : ∀ {S : Store} {R : D → Prop}, R (dueOf w) → IxP S (toldOf w) (.int 1) R := fun hr => Ix_by (x' := dueOf w) rfl hr
        (repeat' (first | (with_reducible refine told16_w sw.1 sw.2 ?_) | (with_reducible refine ix1 ?_) | fail "q1" | fail "q2" | fail "q4" | fail))
        exact ⟨rfl, rfl⟩
      have d1 : dueOf [] = dS cText := rfl
      have d2 : dueOf [104, 111, 117, 115, 101, 115, 32, 97, 10, 115, 116, 97, 114, 116, 32, 97, 32, 97, 32, 48] = dS cWks := by rfl
      rw [List.map_cons, List.map_cons, List.map_nil, d1, d2]
      (repeat' (first | fail "q1" | fail "q2" | fail "q4" | fail))
      exact Cp_eq (EqOk.of (n := 2) (by decide +kernel) (by decide)) (EqOk.of (n := 2) (by decide +kernel) (by decide)) (fun _ => Fn_law (fun _ => rfl)) (fun z => absurd rfl z)
  · rw [List.length_append, List.length_singleton]
    have := cut_len (xs := ns.map D.int) (lo := some 1) (hi := some 20)
    rw [List.length_map] at this
    omega
theorem plain (ns : List Int) (h : ns.length ≤ 63) : ∃ S, RL.φ [.lst (ns.map D.int)] [] = .ok (.bl true) S := law_true (lawx h)
end QL

open PySem PySem.W PySem.Calls PyProof.Rows
theorem PySem.Challenge.cw_allquiet_k16_texts_of_works_spoilt_holds : PySem.Challenge.rw_allquiet_k16_texts_of_works_spoilt.Holds := by
  w_on; o_law
  refine HandSHeadRun.head_any (r := OpenLaw.row PySem.Challenge.rw_allquiet_k16_texts_of_works_spoilt) (q := view (OpenLaw.row PySem.Challenge.rw_allquiet_k16_texts_of_works_spoilt).prog [60]) (H := QL.hk) (ob := QL.ob) (M := 8000) (loose := QL.loose) (d := HandSHeadRun.topDef (OpenLaw.row PySem.Challenge.rw_allquiet_k16_texts_of_works_spoilt).prog 60) (kwd := []) QL.ob_eq
    (by kernel_rfl) (fun s => by kernel_rfl) QL.run (by kernel_rfl) (by kernel_rfl) (by kernel_rfl) (by rfl) (by first | assumption | decide +kernel) (by decide +kernel) ⟨rfl, rfl, rfl, rfl, rfl, by decide +kernel⟩ ?hw ?hc
  case hw => w_witness2
  case hc => exact Q.law_walk (l := PySem.Challenge.rw_allquiet_k16_texts_of_works_spoilt) (n := 63) (k := 4) (x := "_law_script") (fuel := 100) (rs := QL.rs) (r := QL.R37) (cs := QL.cs) (frees := QL.frees) (excs := QL.excs) (muts := QL.muts) (kt := QL.kt) (ft := QL.ft) (mb := QL.mb) (ts := QL.ts) rfl (by decide) (by kernel_rfl) ⟨rfl, by decide, by decide⟩ (by kernel_rfl) rfl QL.steps QL.k37 rfl rfl (by decide) QL.e37 QL.plain
