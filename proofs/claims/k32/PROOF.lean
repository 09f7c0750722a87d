import PyProof.Rows.All
import Wide.All
import OpenK.AllK
import Wide.FinOn
import HandS.ForMost
import HandS.Strs
import HandS.Flow
import HandS.IsInst
import HandS.TupAny
import HandS.Wide
import HandS.Style
import HandS.Exc
import HandS.HeadHook1
import HandS.WordsDict
import HandS.More
import PyProof.TupleOfGen
import HandS.TryOnly
import HandS.DictEq
import PyProof.ZipIter
import HandS.Zip
import KE.KDictZip
import HandS.Dict
import HandS.CallSlots
import HandS.CallRecv
import HandS.HeadWalk
import HandS.ExcInit
import HandS.ExcField
import HandS.ClsMeth
import HandS.Small
import HandS.HeadHook4
import HandS.HeadEnd
import HandS.Head0
import HandS.Head1
import HandS.Head2
import PySem.Challenge.RW_onedoer_k32_worths_written
set_option Elab.async false
set_option linter.all false
set_option maxRecDepth 100000
namespace Ev
open PySem
/-- each text once, in the order in which they are met -/
def once (y : Str) (met : List Str) : List Str := if met.any (· == y) then met else met ++ [y]
def metOf : List Str → List Str → List Str
  | met, [] => met
  | met, y :: r => metOf (once y met) r
end Ev
set_option Elab.async false
set_option linter.all false
set_option maxRecDepth 100000
set_option maxHeartbeats 8000000
namespace Ev
open PySem L2 PyProof.Rows PySem.Spec
theorem metOf_snoc {y : Str} : ∀ {xs met : List Str}, metOf met (xs ++ [y]) = once y (metOf met xs)
  | [], _ => rfl
  | _ :: xs, _ => metOf_snoc (xs := xs)
theorem once_any {met : List Str} {y k : Str} : (once y met).any (· == k) = (met.any (· == k) || decide (k = y)) := by
  unfold once
  split
  · rename_i h
    by_cases e : k = y
    · subst e; simp [h]
    · simp [e]
  · by_cases e : k = y
    · subst e; simp
    · have e2 : (y == k) = false := by simpa using fun z : y = k => e z.symm
      simp [e, e2]
theorem once_len {met : List Str} {y : Str} : (once y met).length = if met.any (· == y) then met.length else met.length + 1 := by
  unfold once; split <;> simp
theorem metOf_le : ∀ {xs met : List Str}, (metOf met xs).length ≤ met.length + xs.length
  | [], _ => Nat.le_refl _
  | y :: xs, met => by
    have h := metOf_le (xs := xs) (met := once y met)
    have h2 := once_len (met := met) (y := y)
    show (metOf (once y met) xs).length ≤ _
    rw [List.length_cons]
    split at h2 <;> omega
section
variable {prog : Program} {w : World} {A : Around}
theorem set_fill {R : Result → Shared → Prop} {I : Addr} {fp wr : List Addr} {G : Array GenState → Array GenState → Prop} {n : Nat} {P : Nat → Value → Prop} {St : Nat → Shared → Prop}
    (wk : WalksS prog w A.in1 I fp wr G n P St) {c : Addr} (hc : c ∉ fp) {xs : List Str} (hx : xs.length = n) (hb : n + 1 < scanBound) (get : ∀ i v, P i v → ∃ t, v = .str (xs.getD i Str.empty) t) :
    ∀ (d i : Nat) (s : Shared), i + d = n → St i s → s.heap.SetOf (strKind prog w) c (fun y => (metOf [] (xs.take i)).any (· == y)) (metOf [] (xs.take i)).length →
      (∀ s', Moved (c :: wr) G s s' → s'.heap.SetOf (strKind prog w) c (fun y => (metOf [] xs).any (· == y)) (metOf [] xs).length → R (.ok (.ret .none)) s') →
      codeAny (model prog w) A (.builtin "set.update.loop" ⟨[.ref c, .ref I], []⟩) R s
  | 0, i, s, hd, st, so, k => by
    obtain rfl : i = n := by omega
    refine codeAny_builtin F.entry_set_update_loop (by
      rw [Around.under_plainId F.plain_set_update_loop _]
      refine wpAny_bind (m := pyNext (.ref I)) (wk.done s _ _ st fun s' mv => ?_)
      refine wpAny_pure (k s' (mv.mono fun b hb => List.mem_cons_of_mem _ hb) ?_)
      rw [← hx, List.take_length] at so
      obtain ⟨o, es, ep, tb, ho, z⟩ := so
      exact ⟨o, es, ep, tb, mv.heap c _ (fun hm => hc (wk.sub _ hm)) ho, z⟩)
  | d + 1, i, s, hd, st, so, k => by
    have hi : i < xs.length := by omega
    refine codeAny_builtin F.entry_set_update_loop (by
      rw [Around.under_plainId F.plain_set_update_loop _]
      refine wpAny_bind (m := pyNext (.ref I)) (wk.item i s _ _ (by omega) st fun v s' pv st' mv => ?_)
      obtain ⟨t, rfl⟩ := get i v pv
      have so' : s'.heap.SetOf (strKind prog w) c (fun y => (metOf [] (xs.take i)).any (· == y)) (metOf [] (xs.take i)).length := by
        obtain ⟨o, es, ep, tb, ho, z⟩ := so
        exact ⟨o, es, ep, tb, mv.heap c _ (fun hm => hc (wk.sub _ hm)) ho, z⟩
      have hy : xs.getD i Str.empty = xs[i] := by rw [List.getD_eq_getElem?_getD, List.getElem?_eq_getElem hi]; rfl
      have ht : xs.take (i + 1) = xs.take i ++ [xs[i]] := by rw [List.take_succ, List.getElem?_eq_getElem hi]; rfl
      have hl : (metOf [] (xs.take i)).length ≤ i := by
        have := metOf_le (xs := xs.take i) (met := [])
        rw [List.length_take] at this
        simp at this
        omega
      rw [hy]
      refine wpAny_bind (wpAny_holding (m := setAdd c (.str xs[i] t)) ?_)
      unfold setAdd
      refine wpAny_holding (wpAny_bind ((strKind prog w).pyHash (k := xs[i]) (strKind_is _ _ _ _) ?_))
      refine wpAny_setAddHashed_of (knd := strKind prog w) (s := { s' with toks := s'.toks + 1 }) (strKind_is _ _ _ _) rfl so' (by omega) fun h' sb so2 => ?_
      have so3 : h'.SetOf (strKind prog w) c (fun y => (metOf [] (xs.take (i + 1))).any (· == y)) (metOf [] (xs.take (i + 1))).length := by
        rw [ht, metOf_snoc]
        exact SetOf_congr so2 (fun y => once_any.symm) once_len.symm
      refine wpAny_pure ⟨plainId_quiet F.plain_set_update_loop _, set_fill wk hc hx hb get d (i + 1) _ (by omega) (wk.frame _ s' _ _ st' (Nat.le_succ _) fun b hb o e => ?_) so3 fun s2 mv2 so4 => ?_⟩
      · rw [sb.2 b fun z => hc (z ▸ hb)]; exact e
      · refine k s2 (Moved.trans wk.gtrans ((mv.mono fun b hb => List.mem_cons_of_mem _ hb).then_heap (Nat.le_succ _) fun b o hb e => ?_) mv2) so4
        rw [sb.2 b fun z => hb (by rw [z]; exact List.mem_cons_self)]; exact e)
/-- a new empty set -/
abbrev set0 (led : Bool) : Obj := { cls := .type "set", dict := none, data := .set #[] 0 (.fresh 0 0 led) }
theorem set_tup {E : Value → Shared → Prop} {s : Shared} {l : Addr} {its : Array Value} {xs : List Str} {Q : Value → Shared → Prop} (hh : A.handled = none) (tl : s.heap.IsTuple l its) (sa : StrsAre its.toList xs) (hb : xs.length + 1 < scanBound)
    (q : ∀ (h' : Heap) (tk : Nat), h'.SetOf (strKind prog w) s.heap.objs.size (fun y => (metOf [] xs).any (· == y)) (metOf [] xs).length → (∀ b o, s.heap.get? b = some o → h'.get? b = some o) → Q (.ref s.heap.objs.size) { s with heap := h', toks := tk }) :
    wpAny (model prog w) A (call (.type "set") [.ref l]) Q E s := by
  have ⟨_, _, mro⟩ := PySem.F.called_set.mro
  have made := PySem.F.called_set.made
  have sub := PySem.F.called_set.sub
  have nt := PySem.F.called_set.notType
  have cc := PySem.F.called_set.canCreate
  have tc := PySem.F.typeCall_set_1 (.ref l)
  refine wpAny_call (codeAny_of_tree (show wpAny _ _ (callAny (.type "set") _) _ _ _ from ?_))
  refine wpAny_pure ⟨Code.quiet_builtin _ (by decide +kernel), codeAny_builtin PySem.F.entry_type_call (by
    rw [Around.under_plain (weight_type_call_type "set" [.ref l] []) rfl]
    repeat (any_goals (first | assumption | wp_step))
    refine codeAny_mono (code_set_new_1 (.ref l) (E := E) (Q₁ := fun z s1 => ∃ led, z = .ref s.heap.objs.size ∧ s1 = { s with heap := s.heap.push (set0 led) }) fun led => ⟨led, rfl, rfl⟩) fun r s1 hr => ?_
    rcases r with e | fl
    · exact hr
    · cases fl with
      | ret z =>
        obtain ⟨led, rfl, rfl⟩ := hr
        have new : (s.heap.push (set0 led)).get? s.heap.objs.size = some (set0 led) := Heap.get?_push_size _ rfl
        have ty : Shared.TypeIs { s with heap := s.heap.push (set0 led) } (.ref s.heap.objs.size) "set" := ⟨_, new, rfl⟩
        have lk := PySem.F.called_set.init.lookup
        have bi := PySem.F.called_set.init.bind (.ref s.heap.objs.size)
        repeat (any_goals (first | assumption | wp_step))
        refine codeAny_mono (codeAny_call_builtin (R := wants (fun r s2 => r = .none ∧ ∃ h' tk, s2 = { s with heap := h', toks := tk } ∧ h'.SetOf (strKind prog w) s.heap.objs.size (fun y => (metOf [] xs).any (· == y)) (metOf [] xs).length ∧
          (∀ b o, s.heap.get? b = some o → h'.get? b = some o)) E) PySem.F.called_set.init.plain PySem.F.entry_set_init (check_set_init_1 ty ?_)) fun r s2 hr => ?_
        · obtain ⟨⟨oc, od, oD, os⟩, ol, cl, nl, dl⟩ := tl
          simp only at cl dl
          subst cl; subst dl
          have ol2 : (s.heap.push (set0 led)).get? l = some { cls := .type "tuple", dict := od, data := .seq its nl, slots := os } := Heap.get?_push_of_some _ ol
          have tl2 : (s.heap.push (set0 led)).IsTuple l its := ⟨_, ol2, rfl, nl, rfl⟩
          have n1 := PySem.F.sub_tuple_set
          have n2 := PySem.F.sub_tuple_frozenset
          have n3 : (Value.type "tuple" == Value.type "dict") = false := by decide
          unfold Builtin.«set.__init__» noKeywords Builtin.Frozenset.updateFrom
          generalize hPI : pyIter = PI
          wp_walk
          subst hPI
          refine wpAny_pyIter_tuple tl2 (wpAny_bind (wpAny_runValue ?_))
          have lt : l < s.heap.objs.size := Heap.lt_size ol
          have hz : (s.heap.push (set0 led)).objs.size = s.heap.objs.size + 1 := Heap.size_push _ _
          have xz : xs.length = its.size := by rw [← StrsAre.len_eq sa, Array.length_toList]
          refine set_fill ((Walks.tuple (by simp [hh]) _ l (Nat.ne_of_lt (by rw [hz]; exact Nat.lt_succ_of_lt lt)) its).toS) (c := s.heap.objs.size) ?_ xz (by omega) (fun i v hv => SS.strs_at sa i v (by rw [Array.getElem?_toList]; exact hv)) its.size 0 _ (by omega)
            ⟨⟨_, Heap.get?_push_size _ rfl, rfl, rfl⟩, tl2.push _⟩ ?_ ?_
          · simp only [List.mem_cons, List.not_mem_nil, or_false, not_or]
            exact ⟨Nat.ne_of_lt (by rw [hz]; exact Nat.lt_succ_self _), Nat.ne_of_gt lt⟩
          · exact SetOf_congr ((setObjOf_fresh (knd := strKind prog w) led).setOf (Heap.get?_push_of_some _ new) (by unfold scanBound; omega)) (fun _ => rfl) rfl
          · rintro ⟨h2, g2, d2, t2, o2⟩ mv so
            obtain rfl : g2 = s.gens := mv.gens
            obtain rfl : d2 = s.drawn := mv.drawn
            obtain rfl : o2 = s.os := mv.os
            show wpAny _ _ _ _ _ _
            refine wpAny_pure ?_
            show wpAny _ _ (PySem.ret Value.none) _ _ _
            refine wpAny_pure ⟨rfl, h2, t2, rfl, so, fun b o e => ?_⟩
            have bl := Heap.lt_size e
            refine mv.heap b o ?_ (Heap.get?_push_of_some _ (Heap.get?_push_of_some _ e))
            simp only [List.mem_cons, List.not_mem_nil, or_false, not_or]
            exact ⟨Nat.ne_of_lt bl, Nat.ne_of_lt (by rw [hz]; exact Nat.lt_succ_of_lt bl)⟩
        · rcases r with e | fl
          · exact hr
          · cases fl with
            | ret z =>
              obtain ⟨rfl, h2, t2, rfl, so, kp⟩ := hr
              repeat (any_goals (first | assumption | wp_step))
              exact q h2 t2 so kp
            | _ => exact hr.elim
      | _ => exact hr.elim)⟩
theorem set_lst {E : Value → Shared → Prop} {s : Shared} {l : Addr} {its : Array Value} {xs : List Str} {Q : Value → Shared → Prop} (hh : A.handled = none) (tl : s.heap.IsList l its) (sa : StrsAre its.toList xs) (hb : xs.length + 1 < scanBound)
    (q : ∀ (h' : Heap) (tk : Nat), h'.SetOf (strKind prog w) s.heap.objs.size (fun y => (metOf [] xs).any (· == y)) (metOf [] xs).length → (∀ b o, s.heap.get? b = some o → h'.get? b = some o) → Q (.ref s.heap.objs.size) { s with heap := h', toks := tk }) :
    wpAny (model prog w) A (call (.type "set") [.ref l]) Q E s := by
  have ⟨_, _, mro⟩ := PySem.F.called_set.mro
  have made := PySem.F.called_set.made
  have sub := PySem.F.called_set.sub
  have nt := PySem.F.called_set.notType
  have cc := PySem.F.called_set.canCreate
  have tc := PySem.F.typeCall_set_1 (.ref l)
  refine wpAny_call (codeAny_of_tree (show wpAny _ _ (callAny (.type "set") _) _ _ _ from ?_))
  refine wpAny_pure ⟨Code.quiet_builtin _ (by decide +kernel), codeAny_builtin PySem.F.entry_type_call (by
    rw [Around.under_plain (weight_type_call_type "set" [.ref l] []) rfl]
    repeat (any_goals (first | assumption | wp_step))
    refine codeAny_mono (code_set_new_1 (.ref l) (E := E) (Q₁ := fun z s1 => ∃ led, z = .ref s.heap.objs.size ∧ s1 = { s with heap := s.heap.push (set0 led) }) fun led => ⟨led, rfl, rfl⟩) fun r s1 hr => ?_
    rcases r with e | fl
    · exact hr
    · cases fl with
      | ret z =>
        obtain ⟨led, rfl, rfl⟩ := hr
        have new : (s.heap.push (set0 led)).get? s.heap.objs.size = some (set0 led) := Heap.get?_push_size _ rfl
        have ty : Shared.TypeIs { s with heap := s.heap.push (set0 led) } (.ref s.heap.objs.size) "set" := ⟨_, new, rfl⟩
        have lk := PySem.F.called_set.init.lookup
        have bi := PySem.F.called_set.init.bind (.ref s.heap.objs.size)
        repeat (any_goals (first | assumption | wp_step))
        refine codeAny_mono (codeAny_call_builtin (R := wants (fun r s2 => r = .none ∧ ∃ h' tk, s2 = { s with heap := h', toks := tk } ∧ h'.SetOf (strKind prog w) s.heap.objs.size (fun y => (metOf [] xs).any (· == y)) (metOf [] xs).length ∧
          (∀ b o, s.heap.get? b = some o → h'.get? b = some o)) E) PySem.F.called_set.init.plain PySem.F.entry_set_init (check_set_init_1 ty ?_)) fun r s2 hr => ?_
        · obtain ⟨⟨oc, od, oD, os⟩, ol, cl, nl, dl⟩ := tl
          simp only at cl dl
          subst cl; subst dl
          have ol2 : (s.heap.push (set0 led)).get? l = some { cls := .type "list", dict := od, data := .seq its nl, slots := os } := Heap.get?_push_of_some _ ol
          have tl2 : (s.heap.push (set0 led)).IsList l its := ⟨_, ol2, rfl, nl, rfl⟩
          have n1 := PySem.F.sub_list_set
          have n2 := PySem.F.sub_list_frozenset
          have n3 : (Value.type "list" == Value.type "dict") = false := by decide
          unfold Builtin.«set.__init__» noKeywords Builtin.Frozenset.updateFrom
          generalize hPI : pyIter = PI
          wp_walk
          subst hPI
          refine wpAny_pyIter_list tl2 (wpAny_bind (wpAny_runValue ?_))
          have lt : l < s.heap.objs.size := Heap.lt_size ol
          have hz : (s.heap.push (set0 led)).objs.size = s.heap.objs.size + 1 := Heap.size_push _ _
          have xz : xs.length = its.size := by rw [← StrsAre.len_eq sa, Array.length_toList]
          refine set_fill ((Walks.list (by simp [hh]) _ l (Nat.ne_of_lt (by rw [hz]; exact Nat.lt_succ_of_lt lt)) its).toS) (c := s.heap.objs.size) ?_ xz (by omega) (fun i v hv => SS.strs_at sa i v (by rw [Array.getElem?_toList]; exact hv)) its.size 0 _ (by omega)
            ⟨⟨_, Heap.get?_push_size _ rfl, rfl, rfl⟩, tl2.push _⟩ ?_ ?_
          · simp only [List.mem_cons, List.not_mem_nil, or_false, not_or]
            exact ⟨Nat.ne_of_lt (by rw [hz]; exact Nat.lt_succ_self _), Nat.ne_of_gt lt⟩
          · exact SetOf_congr ((setObjOf_fresh (knd := strKind prog w) led).setOf (Heap.get?_push_of_some _ new) (by unfold scanBound; omega)) (fun _ => rfl) rfl
          · rintro ⟨h2, g2, d2, t2, o2⟩ mv so
            obtain rfl : g2 = s.gens := mv.gens
            obtain rfl : d2 = s.drawn := mv.drawn
            obtain rfl : o2 = s.os := mv.os
            show wpAny _ _ _ _ _ _
            refine wpAny_pure ?_
            show wpAny _ _ (PySem.ret Value.none) _ _ _
            refine wpAny_pure ⟨rfl, h2, t2, rfl, so, fun b o e => ?_⟩
            have bl := Heap.lt_size e
            refine mv.heap b o ?_ (Heap.get?_push_of_some _ (Heap.get?_push_of_some _ e))
            simp only [List.mem_cons, List.not_mem_nil, or_false, not_or]
            exact ⟨Nat.ne_of_lt bl, Nat.ne_of_lt (by rw [hz]; exact Nat.lt_succ_of_lt bl)⟩
        · rcases r with e | fl
          · exact hr
          · cases fl with
            | ret z =>
              obtain ⟨rfl, h2, t2, rfl, so, kp⟩ := hr
              repeat (any_goals (first | assumption | wp_step))
              exact q h2 t2 so kp
            | _ => exact hr.elim
      | _ => exact hr.elim)⟩
end
theorem pe_nset {X : Cx} {a : Expr} {ta : TE} {p p2 q pos : Pos} (calm : X.calm = true) (gLen : Gl X "len") (mLen : X.mg "len" = none) (gSet : Gl X "set") (mSet : X.mg "set" = none) (ha : PE X a ta)
    (ns : starEach [a] X.env = (false, eval a X.env) :: starEach [] X.env) :
    PE X (.Call (.Name "len" p) [.Call (.Name "set" p2) [a] [] q] [] pos) (fun σ H Q => ta σ H fun x H1 => ∃ (l : Addr) (xs : List Str), x = .ref l ∧ (SqT X.K H1 l (xs.map V.str) ∨ SqL X.K H1 l (xs.map V.str)) ∧ xs.length ≤ 1000 ∧ Q (.int (metOf [] xs).length) H1) := by
  refine ⟨fun pins s σ H Q I h => Call_ (ld_blt I gLen mLen boot_len (callWith_builtin1 (args_cons (Call_ (ld_blt I gSet mSet boot_set ?_)) rfl) rfl rfl))⟩
  refine callWith_type1 (args_cons (thn (ha.run pins s σ H _ I h) fun v s1 ⟨x, H1, I1, r1, z⟩ => args_nil ?_) ns) ns rfl
  obtain ⟨l, xs, rfl, tp, few, z⟩ := z
  cases r1
  rcases tp with tp | tp
  · obtain ⟨its, rv, pl, _⟩ := I1.tuple tp
    refine set_tup (I1.ok.hd calm) pl (xs := xs) (by simpa using L2.strsAre_of rv) (by unfold scanBound; omega) fun h' tk so kp => args_nil ?_
    obtain ⟨o, es, ep, t, ho, hex, hd, _, _, _, hf, hn⟩ := so
    have few2 := metOf_le (xs := xs) (met := [])
    have I2 : Inv X pins σ H1 { s1 with heap := h', toks := tk } := I1.kept kp
    exact call_len_set ho hex hd hf (by rw [hn]; simp at few2; omega) ⟨.int (metOf [] xs).length, H1, I2.tok _, ⟨_, by rw [hn]⟩, z⟩
  · obtain ⟨its, rv, ⟨o, n, h1, h2, h3, h4⟩, _⟩ := I1.list tp
    refine set_lst (I1.ok.hd calm) ⟨o, h1, h2, n, h4⟩ (xs := xs) (by simpa using L2.strsAre_of rv) (by unfold scanBound; omega) fun h' tk so kp => args_nil ?_
    obtain ⟨o, es, ep, t, ho, hex, hd, _, _, _, hf, hn⟩ := so
    have few2 := metOf_le (xs := xs) (met := [])
    have I2 : Inv X pins σ H1 { s1 with heap := h', toks := tk } := I1.kept kp
    exact call_len_set ho hex hd hf (by rw [hn]; simp at few2; omega) ⟨.int (metOf [] xs).length, H1, I2.tok _, ⟨_, by rw [hn]⟩, z⟩
end Ev
set_option Elab.async false
set_option linter.all false
set_option maxRecDepth 100000
namespace Ev
open PySem
abbrev Key := Sum Int Str
/-- data: what cannot change is told by value; what can is told by its number in the store -/
inductive D where
  | non | bl (b : Bool) | int (i : Int) | str (s : Str)
  | tup (xs : List D) | lst (xs : List D) | frz (xs : List D)
  | dct (kvs : List (Key × D))
  | obj (i : Nat)
  deriving Inhabited
/-- what stands in the store -/
inductive Ob where
  | lst (xs : List D)
  | dct (kvs : List (Key × D))
  | ins (c : Str) (fs : List (Str × D))
  deriving Inhabited
structure Exc where
  cls : Str
  fs : List (Str × D)
inductive R (α : Type) where
  | ok (a : α) (S : List Ob)
  | exc (e : Exc) (S : List Ob)
  | bad
abbrev M (α : Type) := List Ob → R α
def ret {α : Type} (a : α) : M α := fun S => .ok a S
def bnd {α β : Type} (m : M α) (k : α → M β) : M β := fun S => match m S with
  | .ok a S1 => k a S1
  | .exc e S1 => .exc e S1
  | .bad => .bad
def bad {α : Type} : M α := fun _ => .bad
def ofO {α : Type} (o : Option α) : M α := fun S => match o with
  | some a => .ok a S
  | none => .bad
/-- reads the store -/
def ask {α : Type} (f : List Ob → Option α) : M α := fun S => match f S with
  | some a => .ok a S
  | none => .bad
/-- where nothing may be raised -/
def noX {α : Type} (m : M α) : M α := fun S => match m S with
  | .exc _ _ => .bad
  | r => r
inductive Slot where
  | un
  | val (d : D)
  | own (xs : List D)
  | ownd (kvs : List (Key × D))
  | exn (e : Exc)
  deriving Inhabited
abbrev Sl := List Slot
def keyD : Key → D
  | .inl i => .int i
  | .inr s => .str s
def keyOf : D → Option Key
  | .int i => some (.inl i)
  | .str s => some (.inr s)
  | _ => none
def kGet (kvs : List (Key × D)) (k : Key) : Option D := (kvs.find? fun kv => decide (kv.1 = k)).map (·.2)
def kPut (kvs : List (Key × D)) (k : Key) (v : D) : List (Key × D) :=
  if kvs.any (fun kv => decide (kv.1 = k)) then kvs.map (fun kv => if kv.1 = k then (kv.1, v) else kv) else kvs ++ [(k, v)]
def kMerge (kvs more : List (Key × D)) : List (Key × D) := more.foldl (fun acc kv => kPut acc kv.1 kv.2) kvs
def fGet (fs : List (Str × D)) (f : Str) : Option D := fs.lookup f
def fPut (f : Str) (v : D) : List (Str × D) → List (Str × D)
  | [] => [(f, v)]
  | (g, w) :: r => if g = f then (g, v) :: r else (g, w) :: fPut f v r
def seqOf (S : List Ob) : D → Option (List D)
  | .tup xs => some xs
  | .lst xs => some xs
  | .frz xs => some xs
  | .obj i => match S[i]? with
    | some (.lst xs) => some xs
    | _ => none
  | _ => none
def lstOf (S : List Ob) : D → Option (List D)
  | .lst xs => some xs
  | .obj i => match S[i]? with
    | some (.lst xs) => some xs
    | _ => none
  | _ => none
/-- a list of any kind, the script too -/
def lstF (S : List Ob) : D → Option (List D)
  | .frz xs => some xs
  | d => lstOf S d
def dctOf (S : List Ob) : D → Option (List (Key × D))
  | .dct kvs => some kvs
  | .obj i => match S[i]? with
    | some (.dct kvs) => some kvs
    | _ => none
  | _ => none
def strChars (s : Str) : List D := s.cps.toList.map fun c => .str ⟨#[c]⟩
def truth (S : List Ob) : D → Option Bool
  | .non => some false
  | .bl b => some b
  | .int i => some (i != 0)
  | .str s => if s.length ≤ sizeLine then some ((s.length : Int) != 0) else none
  | d => match seqOf S d with
    | some xs => some !xs.isEmpty
    | none => match dctOf S d with
      | some kvs => some !kvs.isEmpty
      | none => none
mutual
/-- as plain data (for ==) -/
def toPy0 : D → Option PyData
  | .non => some .none
  | .bl b => some (.bool b)
  | .int i => some (.int i)
  | .str s => some (.str s)
  | .tup xs => match toPy0s xs with
    | some ds => some (.tuple ds)
    | none => none
  | .lst xs => match toPy0s xs with
    | some ds => some (.list ds)
    | none => none
  | .frz xs => match toPy0s xs with
    | some ds => some (.list ds)
    | none => none
  | .obj _ => none
  | .dct _ => none
def toPy0s : List D → Option (List PyData)
  | [] => some []
  | x :: xs => match toPy0 x, toPy0s xs with
    | some d, some ds => some (d :: ds)
    | _, _ => none
end
/-- things of the store read through, once -/
def toPy (S : List Ob) : D → Option PyData
  | .obj i => match S[i]? with
    | some (.lst xs) => match toPy0s xs with
      | some ds => some (.list ds)
      | none => none
    | _ => none
  | d => toPy0 d
/-- beside an empty list, an empty dict: only the length matters -/
def nilL (S : List Ob) (a b : D) : Option Bool := match lstF S a, lstF S b with
  | some xs, some [] => some xs.isEmpty
  | _, _ => none
def nilK (S : List Ob) (a b : D) : Option Bool := match dctOf S a, dctOf S b with
  | some xs, some [] => some xs.isEmpty
  | _, _ => none
/-- None beside a dict; a dict beside an empty one: whether they differ -/
def neK (S : List Ob) (a b : D) : Option Bool := match a with
  | .non => match dctOf S b with
    | some _ => some true
    | none => none
  | _ => match nilK S a b with
    | some k => some !k
    | none => none
/-- a == b -/
def eqD (S : List Ob) (a b : D) : Option Bool := match nilL S a b with
  | some k => some k
  | none => match toPy S a, toPy S b with
    | some p, some q => if SeqAt.shaped p && SeqAt.shaped q then some (PyData.eqv p q) else none
    | _, _ => none
inductive BO where
  | add | sub | mul | fdiv | mod | pow
  deriving DecidableEq
def binS (S : List Ob) : BO → D → D → Option D
  | .add, .int i, .int j => some (.int (i + j))
  | .add, .str x, .str y => if x.length + y.length ≤ sizeLine then some (.str (x ++ y)) else none
  | .add, .tup xs, .tup ys => if xs.length + ys.length ≤ sizeLine then some (.tup (xs ++ ys)) else none
  | .add, a, b => match lstOf S a, lstOf S b with
    | some xs, some ys => if xs.length + ys.length ≤ sizeLine then some (.lst (xs ++ ys)) else none
    | _, _ => none
  | .sub, .int i, .int j => some (.int (i - j))
  | .mul, .int i, .int j => if i.natAbs.log2 + j.natAbs.log2 < 1000000 then some (.int (i * j)) else none
  | .mul, .str x, .int k => if 2 ≤ k ∧ k ≤ 1000 ∧ 1 ≤ x.length ∧ x.length ≤ 1000 then some (.str ⟨(List.replicate k.toNat x.cps).foldl (· ++ ·) #[]⟩) else none
  | .mul, a, .int k => match lstOf S a with
    | some xs => if -(2 ^ 63) ≤ k ∧ k < 2 ^ 63 ∧ xs.length * k.toNat ≤ sizeLine then some (.lst (List.replicate k.toNat xs).flatten) else none
    | none => none
  | .fdiv, .int i, .int j => if 0 < j ∧ j.natAbs.log2 < 9000 then some (.int (i / j)) else none
  | .mod, .int i, .int j => if 0 < j then some (.int (i % j)) else none
  | .pow, .int i, .int j => if 0 ≤ j ∧ j ≤ 1000000 ∧ i.natAbs < 2 ^ 64 then some (.int (i ^ j.toNat)) else none
  | _, _, _ => none
inductive CO where
  | eq | ne | lt | le | gt | ge | isin | notin | is_ | isnot
  deriving DecidableEq
/-- the flat ones, for in -/
def flatD : D → Bool
  | .non => true
  | .bl _ => true
  | .int _ => true
  | .str _ => true
  | _ => false
def vOf : D → L2.V
  | .bl b => .bl b
  | .int i => .int i
  | .str s => .str s
  | _ => .non
def inD (x : D) (xs : List D) : Option Bool := if flatD x && xs.all flatD then some (L2.inV (vOf x) (xs.map vOf)) else none
def inS (S : List Ob) (x y : D) : Option Bool := match y with
  | .str z => match x with
    | .str c => if c.length = 1 then some (decide (c.cps.getD 0 0 ∈ z.cps.toList)) else some (!(Builtin.Str.occurrences z c 0 z.length 1).isEmpty)
    | _ => none
  | _ => match dctOf S y with
    | some kvs => match keyOf x with
      | some k => some (kGet kvs k).isSome
      | none => none
    | none => match seqOf S y with
      | some ys => inD x ys
      | none => none
def isS (x y : D) : Option Bool := match y with
  | .non => match x with
    | .non => some true
    | _ => some false
  | .bl c => match x with
    | .bl b => some (b == c)
    | .non => some false
    | _ => none
  | _ => none
def cmpS (S : List Ob) : CO → D → D → Option D
  | .eq, .str a, .str b => some (.bl (decide (a = b)))
  | .ne, .str a, .str b => some (.bl (!decide (a = b)))
  | .eq, a, b => match nilK S a b with
    | some k => some (.bl k)
    | none => (eqD S a b).map .bl
  | .ne, a, b => match neK S a b with
    | some k => some (.bl k)
    | none => (eqD S a b).map fun k => .bl !k
  | .lt, .int i, .int j => some (.bl (decide (i < j)))
  | .le, .int i, .int j => some (.bl (decide (i ≤ j)))
  | .gt, .int i, .int j => some (.bl (decide (j < i)))
  | .ge, .int i, .int j => some (.bl (decide (j ≤ i)))
  | .isin, a, b => (inS S a b).map .bl
  | .notin, a, b => (inS S a b).map fun k => .bl !k
  | .is_, a, b => (isS a b).map .bl
  | .isnot, a, b => (isS a b).map fun k => .bl !k
  | _, _, _ => none
def ixS (S : List Ob) (a b : D) : Option D := match a with
  | .str z => match b with
    | .int i => if z.length ≤ sizeLine then (L2.atI z.cps.toList i).map fun c => .str ⟨#[c]⟩ else none
    | _ => none
  | _ => match dctOf S a with
    | some kvs => match keyOf b with
      | some k => kGet kvs k
      | none => none
    | none => match seqOf S a, b with
      | some xs, .int i => L2.atI xs i
      | _, _ => none
def cutD (xs : List D) (lo hi : Option Int) : List D := (xs.drop (HT.sIx xs.length 0 lo)).take (HT.sIx xs.length xs.length hi - HT.sIx xs.length 0 lo)
def slS (S : List Ob) (a : D) (lo hi : Option Int) : Option D := match a with
  | .str z => if z.length ≤ sizeLine then some (.str (L2.cutS z lo hi)) else none
  | .tup xs => some (.tup (cutD xs lo hi))
  | _ => match lstF S a with
    | some xs => some (.lst (cutD xs lo hi))
    | none => none
def revS (S : List Ob) (a : D) : Option D := match a with
  | .tup xs => some (.tup xs.reverse)
  | _ => match lstOf S a with
    | some xs => some (.lst xs.reverse)
    | none => none
inductive BF where
  | len | list | tuple | int | bool | abs | all | any | sum | max | min | str | dict
  deriving DecidableEq
inductive Ty where
  | int | str | bool | tuple | list | dict
  deriving DecidableEq
def boolsOf : List D → Option (List Bool)
  | [] => some []
  | .bl b :: r => (boolsOf r).map (b :: ·)
  | _ => none
def intsOf : List D → Option (List Int)
  | [] => some []
  | .int b :: r => (intsOf r).map (b :: ·)
  | _ => none
def strsOf : List D → Option (List Str)
  | [] => some []
  | .str b :: r => (strsOf r).map (b :: ·)
  | _ => none
def lenS (S : List Ob) : D → Option Nat
  | .str z => if z.length ≤ sizeLine then some z.length else none
  | d => match seqOf S d with
    | some xs => some xs.length
    | none => match dctOf S d with
      | some kvs => some kvs.length
      | none => none
def keysD (kvs : List (Key × D)) : List D := kvs.map fun kv => keyD kv.1
/-- a list of pairs of a key and a value -/
def prsOf : List D → Option (List (Key × D))
  | [] => some []
  | .tup [k, v] :: r => match keyOf k, prsOf r with
    | some q, some l => some ((q, v) :: l)
    | _, _ => none
  | _ => none
/-- keys and values by turns -/
def altOf : List D → Option (List (Key × D))
  | [] => some []
  | k :: v :: r => match keyOf k, altOf r with
    | some q, some l => some ((q, v) :: l)
    | _, _ => none
  | _ => none
def bfS (S : List Ob) : BF → List D → Option D
  | .len, [d] => (lenS S d).map fun n => .int n
  | .list, [d] => match dctOf S d with
    | some kvs => some (.lst (keysD kvs))
    | none => match seqOf S d with
      | some xs => some (.lst xs)
      | none => none
  | .tuple, [d] => match dctOf S d with
    | some kvs => some (.tup (keysD kvs))
    | none => match seqOf S d with
      | some xs => some (.tup xs)
      | none => none
  | .int, [.int i] => some (.int i)
  | .int, [.bl b] => some (.int (if b then 1 else 0))
  | .int, [.str s] => match PySem.intText? s with
    | some n => if s.length ≤ 640 then some (.int n) else none
    | none => none
  | .bool, [.int i] => some (.bl (i != 0))
  | .bool, [.bl b] => some (.bl b)
  | .abs, [.int i] => some (.int (if i < 0 then -i else i))
  | .all, [d] => match lstF S d with
    | some xs => (boolsOf xs).map fun bs => .bl (bs.all id)
    | none => none
  | .any, [d] => match lstF S d with
    | some xs => (boolsOf xs).map fun bs => .bl (bs.any id)
    | none => none
  | .sum, [d] => match lstF S d with
    | some xs => (intsOf xs).map fun ns => .int ns.sum
    | none => none
  | .max, [.int i, .int j] => some (.int (if j > i then j else i))
  | .min, [.int i, .int j] => some (.int (if j < i then j else i))
  | .str, [.int i] => if i.natAbs.log2 < 1920 then some (.str (toString i)) else none
  | .dict, [d] => match dctOf S d with
    | some kvs => some (.dct kvs)
    | none => match lstOf S d with
      | some xs => (prsOf xs).map fun ps => .dct (kMerge [] ps)
      | none => none
  | _, _ => none
/-- isinstance; an instance's own class is asked elsewhere -/
def isiS (S : List Ob) (d : D) (t : Ty) : Option Bool := match d with
  | .non => some false
  | .bl _ => some (t == .bool || t == .int)
  | .int _ => some (t == .int)
  | .str _ => some (t == .str)
  | .tup _ => some (t == .tuple)
  | .lst _ => some (t == .list)
  | .frz _ => some (t == .list)
  | .dct _ => some (t == .dict)
  | .obj i => match S[i]? with
    | some (.lst _) => some (t == .list)
    | some (.dct _) => some (t == .dict)
    | _ => none
/-- methods of built-in types that change nothing -/
inductive VM where
  | join | split | startswith | get
  deriving DecidableEq
def lensOf (xs : List Str) : Nat := (xs.map (·.length)).sum
def vmS (S : List Ob) : VM → D → List D → Option D
  | .join, .str s, [d] => match seqOf S d with
    | some xs => match strsOf xs with
      | some ys => if lensOf ys + ys.length * s.length ≤ 16777216 then some (.str (Txt.join s ys)) else none
      | none => none
    | none => none
  | .split, .str s, [.str t] => if (t.length == 0) = false ∧ s.length + 2 ≤ sizeLine then some (.lst ((Txt.split s t).map .str)) else none
  | .startswith, .str s, [.str t] => some (.bl (Txt.startswith s t))
  | .get, d, [k, e] => match dctOf S d, keyOf k with
    | some kvs, some k => some ((kGet kvs k).getD e)
    | _, _ => none
  | _, _, _ => none
/-- the receiver is of the method's kind -/
def vmK (S : List Ob) (m : VM) (x : D) : Option Unit := match m with
  | .get => match dctOf S x with
    | some _ => some ()
    | none => none
  | _ => match x with
    | .str _ => some ()
    | _ => none
def omK (S : List Ob) (x : D) : Option Unit := match x with
  | .obj i => match S[i]? with
    | some (.lst _) => some ()
    | _ => none
  | _ => none
/-- methods that change a thing of the store -/
inductive OM where
  | append | extend | pop | popAt | insert | clear | update | setdefault
  deriving DecidableEq
def omS : OM → D → List D → M D
  | .append, .obj i, [x] => fun S => match S[i]? with
    | some (.lst xs) => if xs.length < sizeLine then .ok .non (S.set i (.lst (xs ++ [x]))) else .bad
    | _ => .bad
  | .extend, .obj i, [.lst ys] => fun S => match S[i]? with
    | some (.lst xs) => if xs.length + ys.length ≤ sizeLine then .ok .non (S.set i (.lst (xs ++ ys))) else .bad
    | _ => .bad
  | .pop, .obj i, [] => fun S => match S[i]? with
    | some (.lst xs) => match xs[xs.length - 1]? with
      | some x => .ok x (S.set i (.lst xs.dropLast))
      | none => .bad
    | _ => .bad
  | _, _, _ => bad
/-- how many unlike texts stand in a tuple -/
def nsetS (x : D) : Option D := match x with
  | .tup xs => match strsOf xs with
    | some ys => if ys.length ≤ 1000 then some (.int (metOf [] ys).length) else none
    | none => none
  | .lst xs => match strsOf xs with
    | some ys => if ys.length ≤ 1000 then some (.int (metOf [] ys).length) else none
    | none => none
  | _ => none
inductive Tg where
  | one (i : Nat)
  | tup (is : List Nat)
def setMany (σ : Sl) : List Nat → List D → Option Sl
  | [], [] => some σ
  | i :: is, d :: ds => setMany (σ.set i (.val d)) is ds
  | _, _ => none
def tgS (tg : Tg) (d : D) (σ : Sl) : Option Sl := match tg with
  | .one i => some (σ.set i (.val d))
  | .tup is => match d with
    | .tup xs => setMany σ is xs
    | _ => none
def wipeS (σ : Sl) : List Nat → Sl
  | [] => σ
  | i :: is => (wipeS σ is).set i .un
mutual
inductive E where
  | loc (i : Nat)
  | rd (i : Nat)
  | cst (d : D)
  | glob (x : Str)
  | bin (op : BO) (a b : E)
  | neg (a : E)
  | not (a : E)
  | and (a b : E)
  | or (a b : E)
  | cmp (op : CO) (a b : E)
  | cmp2 (o1 o2 : CO) (a b c : E)
  | ife (t a b : E)
  | tup (es : Es)
  | lst (es : Es)
  | newL (es : Es)
  | dic (ks : List Key) (es : Es)
  | newD (ks : List Key) (es : Es)
  | ix (a b : E)
  | slc (a : E) (lo hi : OE)
  | rev (a : E)
  | isi (a : E) (t : Ty)
  | bi (f : BF) (es : Es)
  | vm (m : VM) (a : E) (es : Es)
  | om (m : OM) (a : E) (es : Es)
  | call (f : Str) (es : Es)
  | mk (c : Str) (es : Es)
  | meth (m : Str) (a : E) (es : Es)
  | fld (a : E) (f : Str)
  | efld (i : Nat) (f : Str)
  | comp (elt : E) (vs : List Nat) (tg : Tg) (it : It) (c : OE)
  | gix (y : Str) (a : E)
  | gin (y : Str) (a : E)
  | nset (a : E)
  | newDo (a : E)
  | newDk (es : Es)
  | compZ (elt : E) (vs : List Nat) (tg : Tg) (e f : E) (c : OE)
  | isiO (a : E) (t : Ty)
  | binit (c : Str) (es : Es)
  | zdic (a b : E)
  | newDz (a b : E)
inductive Es where
  | nil
  | cons (e : E) (es : Es)
inductive OE where
  | none
  | some (e : E)
inductive It where
  | seq (e : E)
  | rng (e : E)
  | rng2 (e f : E)
  | zip (e f : E)
  | enm (e : E)
  | items (e : E)
end
/-- what the defs of the program mean -/
structure Gs where
  call : Str → List D → M D
  meth : Str → Str → List D → M D
  glob : Str → Option D
  exm : Str → Str → Option Bool
  hasF : Str → Str → Bool
  hasM : Str → Str → Bool
  fuel : Nat
  tab : Str → Str → Option Int
  /-- __init__ where an instance is made -/
  init : Str → List D → M D
  /-- classes whose instances are looked at by isinstance -/
  hasI : Str → Bool
  /-- classes whose __init__ is called off the class -/
  hasB : Str → Bool
  /-- fields of errors: class and name -/
  efl : Str → Str → Bool
/-- a new instance: __init__ is run on it -/
def Gs.make (G : Gs) (c : Str) (ds : List D) : M D := fun S => match G.init c (.obj S.length :: ds) (S ++ [.ins c []]) with
  | .ok .non S2 => .ok (.obj S.length) S2
  | .ok _ _ => .bad
  | .exc e S2 => .exc e S2
  | .bad => .bad
/-- a sequence by value -/
def sqD : D → Option (List D)
  | .tup xs => some xs
  | .lst xs => some xs
  | _ => none
def keysOf : List D → Option (List Key)
  | [] => some []
  | x :: xs => match keyOf x, keysOf xs with
    | some k, some ks => some (k :: ks)
    | _, _ => none
/-- dict(zip(x, y)) -/
def zdS (x y : D) : Option (List (Key × D)) := match sqD x, sqD y with
  | some xs, some ys => (keysOf xs).map fun ks => kMerge [] (ks.zip ys)
  | _, _ => none
/-- isinstance of what may be an instance of our own -/
def isiG (G : Gs) (S : List Ob) (x : D) (t : Ty) : Option Bool := match x with
  | .obj i => match S[i]? with
    | some (.ins c _) => if G.hasI c = true then some false else none
    | _ => isiS S x t
  | _ => isiS S x t
def collect (f : D → M (Option D)) : List D → M (List D)
  | [] => ret []
  | x :: xs => bnd (f x) fun o => bnd (collect f xs) fun ys => ret (match o with
    | some y => y :: ys
    | none => ys)
def seqIt : D → Option (List D)
  | .str z => some (strChars z)
  | .dct kvs => some (keysD kvs)
  | .tup xs => some xs
  | .lst xs => some xs
  | .frz xs => some xs
  | _ => none
def enumD : Nat → List D → List D
  | _, [] => []
  | n, x :: xs => .tup [.int n, x] :: enumD (n + 1) xs
def rngD (lo : Int) (n : Nat) : List D := (List.range n).map fun (k : Nat) => .int (lo + (k : Int))
def zipD : List D → List D → List D
  | x :: xs, y :: ys => .tup [x, y] :: zipD xs ys
  | _, _ => []
mutual
/-- alike, and no dict in it -/
def beqD : D → D → Bool
  | .non, .non => true
  | .bl a, .bl b => decide (a = b)
  | .int a, .int b => decide (a = b)
  | .str a, .str b => decide (a = b)
  | .tup xs, .tup ys => beqDs xs ys
  | .lst xs, .lst ys => beqDs xs ys
  | .obj i, .obj j => decide (i = j)
  | _, _ => false
def beqDs : List D → List D → Bool
  | [], [] => true
  | x :: xs, y :: ys => beqD x y && beqDs xs ys
  | _, _ => false
end
def gdS (l : List (Nat × List D)) (S : List Ob) : Bool := l.all fun p => match S[p.1]? with
  | some (.lst ys) => beqDs p.2 ys
  | _ => false
def gdF {α : Type} (l : List (Nat × List D)) (f : D → M α) : D → M α := fun x S => match f x S with
  | .ok o S' => if gdS l S' = true then .ok o S' else .bad
  | r => r
def lstG (S : List Ob) : D → Option (List D × List (Nat × List D))
  | .lst xs => some (xs, [])
  | .obj i => match S[i]? with
    | some (.lst xs) => if beqDs xs xs = true then some (xs, [(i, xs)]) else none
    | _ => none
  | _ => none
def zipG (S : List Ob) (x y : D) : Option (List D × List (Nat × List D)) := match x, y with
  | .tup xs, .tup ys => some (zipD xs ys, [])
  | _, _ => match lstG S x, lstG S y with
    | some (xs, l), some (ys, m) => some (zipD xs ys, l ++ m)
    | _, _ => none
mutual
def evE (G : Gs) (σ : Sl) : E → M D
  | .loc i => ofO (match σ[i]? with
    | some (.val d) => some d
    | _ => none)
  | .rd i => ofO (match σ[i]? with
    | some (.val d) => some d
    | some (.own xs) => some (.lst xs)
    | some (.ownd kvs) => some (.dct kvs)
    | _ => none)
  | .cst d => ret d
  | .glob x => ofO (G.glob x)
  | .bin op a b => bnd (evE G σ a) fun x => bnd (evE G σ b) fun y => ask fun S => binS S op x y
  | .neg a => bnd (evE G σ a) fun x => ofO (match x with
    | .int i => some (.int (-i))
    | _ => none)
  | .not a => bnd (evE G σ a) fun x => ask fun S => (truth S x).map fun b => .bl !b
  | .and a b => bnd (evE G σ a) fun x => bnd (ask fun S => truth S x) fun k => if k = true then evE G σ b else ret x
  | .or a b => bnd (evE G σ a) fun x => bnd (ask fun S => truth S x) fun k => if k = true then ret x else evE G σ b
  | .cmp op a b => bnd (evE G σ a) fun x => bnd (evE G σ b) fun y => ask fun S => cmpS S op x y
  | .cmp2 o1 o2 a b c => bnd (evE G σ a) fun x => bnd (evE G σ b) fun y => bnd (ask fun S => cmpS S o1 x y) fun k => match k with
    | .bl true => bnd (evE G σ c) fun z => ask fun S => cmpS S o2 y z
    | .bl false => ret (.bl false)
    | _ => bad
  | .ife t a b => bnd (evE G σ t) fun x => bnd (ask fun S => truth S x) fun k => if k = true then evE G σ a else evE G σ b
  | .tup es => bnd (evEs G σ es) fun ds => if ds.length ≤ sizeLine then ret (.tup ds) else bad
  | .lst es => bnd (evEs G σ es) fun ds => if ds.length ≤ sizeLine then ret (.lst ds) else bad
  | .newL es => bnd (evEs G σ es) fun ds => fun S => if ds.length ≤ sizeLine then .ok (.obj S.length) (S ++ [.lst ds]) else .bad
  | .dic ks es => bnd (evEs G σ es) fun ds => if ks.length = ds.length ∧ ds.length ≤ 15 then ret (.dct (kMerge [] (ks.zip ds))) else bad
  | .newD ks es => bnd (evEs G σ es) fun ds => fun S => if ks.length = ds.length ∧ ds.length ≤ 15 then .ok (.obj S.length) (S ++ [.dct (kMerge [] (ks.zip ds))]) else .bad
  | .ix a b => bnd (evE G σ a) fun x => bnd (evE G σ b) fun y => ask fun S => ixS S x y
  | .slc a lo hi => bnd (evE G σ a) fun x => bnd (evO G σ lo) fun l => bnd (evO G σ hi) fun h => ask fun S => slS S x l h
  | .rev a => bnd (evE G σ a) fun x => ask fun S => revS S x
  | .isi a t => bnd (evE G σ a) fun x => ask fun S => (isiS S x t).map .bl
  | .bi f es => bnd (evEs G σ es) fun ds => ask fun S => bfS S f ds
  | .vm m a es => bnd (evE G σ a) fun x => bnd (ask fun S => vmK S m x) fun _ => bnd (evEs G σ es) fun ds => ask fun S => vmS S m x ds
  | .om m a es => bnd (evE G σ a) fun x => bnd (ask fun S => omK S x) fun _ => bnd (evEs G σ es) fun ds => omS m x ds
  | .call f es => bnd (evEs G σ es) fun ds => G.call f ds
  | .mk c es => bnd (evEs G σ es) fun ds => G.make c ds
  | .meth m a es => bnd (evE G σ a) fun x => bnd (ask fun S => match x with
      | .obj i => match S[i]? with
        | some (.ins c fs) => if (fGet fs m).isNone && G.hasM c m then some c else none
        | _ => none
      | _ => none) fun c => bnd (evEs G σ es) fun ds => G.meth c m (x :: ds)
  | .fld a f => bnd (evE G σ a) fun x => ask fun S => match x with
      | .obj i => match S[i]? with
        | some (.ins c fs) => if G.hasF c f then fGet fs f else none
        | _ => none
      | _ => none
  | .efld i f => ofO (match σ[i]? with
    | some (.exn e) => if G.efl e.cls f = true then fGet e.fs f else none
    | _ => none)
  | .comp elt vs tg it c => bnd (evIt G σ it) fun xs => if xs.length ≤ sizeLine then
      bnd (collect (fun x => match tgS tg x (wipeS σ vs) with
        | some σ1 => noX (match c with
          | .none => bnd (evE G σ1 elt) fun y => ret (some y)
          | .some t => bnd (evE G σ1 t) fun k => bnd (ask fun S => truth S k) fun k => if k = true then bnd (evE G σ1 elt) fun y => ret (some y) else ret none)
        | none => bad) xs) fun ys => ret (.lst ys) else bad
  | .compZ elt vs tg e f c => bnd (bnd (evE G σ e) fun x => bnd (evE G σ f) fun y => ask fun S => zipG S x y) fun xg => if xg.1.length ≤ sizeLine then
      bnd (collect (gdF xg.2 (fun x => match tgS tg x (wipeS σ vs) with
        | some σ1 => noX (match c with
          | .none => bnd (evE G σ1 elt) fun y => ret (some y)
          | .some t => bnd (evE G σ1 t) fun k => bnd (ask fun S => truth S k) fun k => if k = true then bnd (evE G σ1 elt) fun y => ret (some y) else ret none)
        | none => bad)) xg.1) fun ys => ret (.lst ys) else bad
  | .gix y a => bnd (evE G σ a) fun x => ofO (match x with
    | .str z => (G.tab y z).map .int
    | _ => none)
  | .gin y a => bnd (evE G σ a) fun x => ofO (match x with
    | .str z => some (.bl (G.tab y z).isSome)
    | _ => none)
  | .nset a => bnd (evE G σ a) fun x => ofO (nsetS x)
  | .newDo a => bnd (evE G σ a) fun x => fun S => match bfS S .dict [x] with
    | some (.dct kvs) => .ok (.obj S.length) (S ++ [.dct kvs])
    | _ => .bad
  | .newDk es => bnd (evEs G σ es) fun ds => fun S => match altOf ds with
    | some ps => if ps.length ≤ 15 then .ok (.obj S.length) (S ++ [.dct (kMerge [] ps)]) else .bad
    | none => .bad
  | .isiO a t => bnd (evE G σ a) fun x => ask fun S => (isiG G S x t).map .bl
  | .binit c es => bnd (evEs G σ es) fun ds => if G.hasB c = true then G.meth c "__init__" ds else bad
  | .zdic a b => bnd (evE G σ a) fun x => bnd (evE G σ b) fun y => ask fun _ => (zdS x y).map .dct
  | .newDz a b => bnd (evE G σ a) fun x => bnd (evE G σ b) fun y => fun S => match zdS x y with
    | some kvs => .ok (.obj S.length) (S ++ [.dct kvs])
    | none => .bad
def evEs (G : Gs) (σ : Sl) : Es → M (List D)
  | .nil => ret []
  | .cons e es => bnd (evE G σ e) fun x => bnd (evEs G σ es) fun xs => ret (x :: xs)
def evO (G : Gs) (σ : Sl) : OE → M (Option Int)
  | .none => ret none
  | .some e => bnd (evE G σ e) fun x => ofO (match x with
    | .int i => some (some i)
    | _ => none)
def evIt (G : Gs) (σ : Sl) : It → M (List D)
  | .seq e => bnd (evE G σ e) fun x => ofO (seqIt x)
  | .rng e => bnd (evE G σ e) fun x => ofO (match x with
    | .int n => if -(2 ^ 62) ≤ n ∧ n < 2 ^ 62 then some (rngD 0 n.toNat) else none
    | _ => none)
  | .rng2 e f => bnd (evE G σ e) fun x => bnd (evE G σ f) fun y => ofO (match x, y with
    | .int m, .int n => if -(2 ^ 62) ≤ m ∧ m < 2 ^ 62 ∧ -(2 ^ 62) ≤ n ∧ n < 2 ^ 62 then some (rngD m (n - m).toNat) else none
    | _, _ => none)
  | .zip e f => bnd (evE G σ e) fun x => bnd (evE G σ f) fun y => ofO (match x, y with
    | .tup xs, .tup ys => some (zipD xs ys)
    | .lst xs, .lst ys => some (zipD xs ys)
    | .tup xs, .lst ys => some (zipD xs ys)
    | .lst xs, .tup ys => some (zipD xs ys)
    | _, _ => none)
  | .enm e => bnd (evE G σ e) fun x => ofO (match x with
    | .lst xs => some (enumD 0 xs)
    | _ => none)
  | .items e => bnd (evE G σ e) fun x => ofO (match x with
    | .dct kvs => some (kvs.map fun kv => .tup [keyD kv.1, kv.2])
    | _ => none)
end
mutual
/-- no dict and no thing of the store stands in it -/
def noD : D → Bool
  | .dct _ => false
  | .tup xs => noDs xs
  | .lst xs => noDs xs
  | .frz xs => noDs xs
  | .non => true
  | .bl _ => true
  | .int _ => true
  | .str _ => true
  | .obj _ => false
def noDs : List D → Bool
  | [] => true
  | x :: xs => noD x && noDs xs
end
def noDk : List (Key × D) → Bool
  | [] => true
  | x :: xs => noD x.2 && noDk xs
def noDf : List (Str × D) → Bool
  | [] => true
  | x :: xs => noD x.2 && noDf xs
def obN : Ob → Bool
  | .lst xs => noDs xs
  | .dct kvs => noDk kvs
  | .ins _ fs => noDf fs
mutual
/-- no dict stands in it -/
def noW : D → Bool
  | .dct _ => false
  | .tup xs => noWs xs
  | .lst xs => noWs xs
  | .frz xs => noWs xs
  | .non => true
  | .bl _ => true
  | .int _ => true
  | .str _ => true
  | .obj _ => true
def noWs : List D → Bool
  | [] => true
  | x :: xs => noW x && noWs xs
end
def noWk : List (Key × D) → Bool
  | [] => true
  | x :: xs => noW x.2 && noWk xs
def noWf : List (Str × D) → Bool
  | [] => true
  | x :: xs => noW x.2 && noWf xs
def obW : Ob → Bool
  | .lst xs => noWs xs
  | .dct kvs => noWk kvs
  | .ins _ fs => noWf fs
inductive RS where
  | next (σ : Sl) (S : List Ob)
  | ret (d : D) (S : List Ob)
  | exc (e : Exc) (σ : Sl) (S : List Ob)
  | bad
/-- what makes a new list or dict that a name owns -/
inductive Fr where
  | lst (es : Es)
  | listOf (e : E)
  | dic (ks : List Key) (es : Es)
  | dictOf (e : E)
  | cat (a b : E)
  | lc (e : E)
  | zdic (a b : E)
mutual
inductive Sm where
  | pass
  | set (tg : Tg) (e : E)
  | own (i : Nat) (f : Fr)
  | fz (is : List Nat) (s : Sm)
  | expr (e : E)
  | app (i : Nat) (e : E)
  | ext (i : Nat) (e : E)
  | pop (tg : Nat) (i : Nat)
  | ownIx (i : Nat) (k v : E)
  | setIx (o k v : E)
  | setF (o : E) (f : Str) (v : E)
  | ret (e : E)
  | retO (i : Nat)
  | retN
  | ife (t : E) (a b : Sms)
  | whl (t : E) (b : Sms)
  | fo (tg : Tg) (it : It) (b : Sms)
  | rais (c : Str) (f : Option Str) (es : Es)
  | tr (b : Sms) (c : Str) (v : Option Nat) (h : Sms)
  | bad
  | upd (i : Nat) (es : Es)
  | lend (i : Nat) (tg : Tg) (e : E)
  | retB (f : Fr)
  | retOb (i : Nat)
  | loan (i : Nat) (e : E)
  | pub (is : List Nat) (s : Sm)
inductive Sms where
  | nil
  | cons (s : Sm) (ss : Sms)
end
def lift {α : Type} (σ : Sl) (r : R α) (k : α → List Ob → RS) : RS := match r with
  | .ok a S => k a S
  | .exc e S => .exc e σ S
  | .bad => .bad
def whlN (c : Sl → List Ob → R Bool) (b : Sl → List Ob → RS) : Nat → Sl → List Ob → RS
  | 0, _, _ => .bad
  | n + 1, σ, S => lift σ (c σ S) fun k S1 => if k = true then match b σ S1 with
      | .next σ2 S2 => whlN c b n σ2 S2
      | r => r
    else .next σ S1
def forL (b : D → Sl → List Ob → RS) : List D → Sl → List Ob → RS
  | [], σ, S => .next σ S
  | x :: xs, σ, S => match b x σ S with
    | .next σ2 S2 => forL b xs σ2 S2
    | r => r
def freeze (σ : Sl) : List Nat → Sl
  | [] => σ
  | i :: is => freeze (match σ[i]? with
    | some (.own xs) => σ.set i (.val (.lst xs))
    | some (.ownd kvs) => σ.set i (.val (.dct kvs))
    | _ => σ) is
def testE (G : Gs) (σ : Sl) (t : E) : M Bool := bnd (evE G σ t) fun x => ask fun S => truth S x
def catS (S : List Ob) (x y : D) : Option Slot := match lstOf S x, lstOf S y with
  | some xs, some ys => if xs.length + ys.length ≤ sizeLine then some (.own (xs ++ ys)) else none
  | _, _ => none
def lcS : D → Option Slot
  | .lst xs => some (.own xs)
  | _ => none
def evFr (G : Gs) (σ : Sl) : Fr → M Slot
  | .lst es => bnd (evEs G σ es) fun ds => if ds.length ≤ sizeLine then ret (.own ds) else bad
  | .listOf e => bnd (evE G σ e) fun x => ask fun S => match bfS S .list [x] with
    | some (.lst xs) => some (.own xs)
    | _ => none
  | .dic ks es => bnd (evEs G σ es) fun ds => if ks.length = ds.length ∧ ds.length ≤ 15 then ret (.ownd (kMerge [] (ks.zip ds))) else bad
  | .dictOf e => bnd (evE G σ e) fun x => ask fun S => match bfS S .dict [x] with
    | some (.dct kvs) => some (.ownd kvs)
    | _ => none
  | .cat a b => bnd (evE G σ a) fun x => bnd (evE G σ b) fun y => ask fun S => catS S x y
  | .lc e => bnd (evE G σ e) fun x => ofO (lcS x)
  | .zdic a b => bnd (evE G σ a) fun x => bnd (evE G σ b) fun y => ask fun _ => (zdS x y).map .ownd
/-- what a slot owns becomes a new thing of the store, which is told -/
def retBS (sl : Slot) (S : List Ob) : RS := match sl with
  | .own xs => .ret (.obj S.length) (S ++ [.lst xs])
  | .ownd kvs => .ret (.obj S.length) (S ++ [.dct kvs])
  | _ => .bad
/-- what a slot owns, as a thing of the store, and back -/
def obSl : Option Slot → Option Ob
  | some (.own xs) => some (.lst xs)
  | some (.ownd kvs) => some (.dct kvs)
  | _ => none
def slOb : Option Ob → Option Slot
  | some (.lst xs) => if noDs xs = true then some (.own xs) else none
  | some (.dct kvs) => if noDk kvs = true then some (.ownd kvs) else none
  | _ => none
/-- what slots own becomes things of the store -/
def pubS (σ : Sl) (S : List Ob) : List Nat → Sl × List Ob
  | [] => (σ, S)
  | i :: is => match obSl σ[i]? with
    | some b => pubS (σ.set i (.val (.obj S.length))) (S ++ [b]) is
    | none => pubS σ S is
mutual
def evS (G : Gs) : Sm → Sl → List Ob → RS
  | .pass, σ, S => .next σ S
  | .set tg e, σ, S => lift σ (evE G σ e S) fun d S1 => match tgS tg d σ with
    | some σ1 => .next σ1 S1
    | none => .bad
  | .own i f, σ, S => lift σ (evFr G σ f S) fun sl S1 => .next (σ.set i sl) S1
  | .fz is s, σ, S => evS G s (freeze σ is) S
  | .expr e, σ, S => lift σ (evE G σ e S) fun _ S1 => .next σ S1
  | .app i e, σ, S => match σ[i]? with
    | some (.own xs) => lift σ (evE G σ e S) fun d S1 => if xs.length < sizeLine then .next (σ.set i (.own (xs ++ [d]))) S1 else .bad
    | _ => .bad
  | .ext i e, σ, S => match σ[i]? with
    | some (.own xs) => lift σ (evE G σ e S) fun d S1 => match lstOf S1 d with
      | some ys => if xs.length + ys.length ≤ sizeLine then .next (σ.set i (.own (xs ++ ys))) S1 else .bad
      | none => .bad
    | _ => .bad
  | .pop t i, σ, S => match σ[i]? with
    | some (.own xs) => match xs[xs.length - 1]? with
      | some x => if t ≠ i then .next ((σ.set i (.own xs.dropLast)).set t (.val x)) S else .bad
      | none => .bad
    | _ => .bad
  | .ownIx i k v, σ, S => match σ[i]? with
    | some (.own xs) => lift σ (evE G σ v S) fun d S1 => lift σ (evE G σ k S1) fun y S2 => match y with
      | .int j => match L2.ixN xs.length j with
        | some p => .next (σ.set i (.own (xs.set p d))) S2
        | none => .bad
      | _ => .bad
    | some (.ownd kvs) => lift σ (evE G σ v S) fun d S1 => lift σ (evE G σ k S1) fun y S2 => match keyOf y with
      | some q => if kvs.length < sizeLine then .next (σ.set i (.ownd (kPut kvs q d))) S2 else .bad
      | none => .bad
    | _ => .bad
  | .setIx o k v, σ, S => lift σ (evE G σ v S) fun d S1 => lift σ (evE G σ o S1) fun x S2 => lift σ (evE G σ k S2) fun y S3 => match x with
    | .obj i => match S3[i]? with
      | some (.lst xs) => match y with
        | .int j => match L2.ixN xs.length j with
          | some p => .next σ (S3.set i (.lst (xs.set p d)))
          | none => .bad
        | _ => .bad
      | some (.dct kvs) => match keyOf y with
        | some q => if kvs.length < sizeLine then .next σ (S3.set i (.dct (kPut kvs q d))) else .bad
        | none => .bad
      | _ => .bad
    | _ => .bad
  | .setF o f v, σ, S => lift σ (evE G σ v S) fun d S1 => lift σ (evE G σ o S1) fun x S2 => match x with
    | .obj i => match S2[i]? with
      | some (.ins c fs) => if fs.length < 1000 ∧ G.hasF c f = true then .next σ (S2.set i (.ins c (fPut f d fs))) else .bad
      | _ => .bad
    | _ => .bad
  | .ret e, σ, S => lift σ (evE G σ e S) fun d S1 => .ret d S1
  | .retO i, σ, S => match σ[i]? with
    | some (.val d) => .ret d S
    | some (.own xs) => .ret (.lst xs) S
    | some (.ownd kvs) => .ret (.dct kvs) S
    | _ => .bad
  | .retN, _, S => .ret .non S
  | .ife t a b, σ, S => lift σ (testE G σ t S) fun k S1 => if k = true then evSs G a σ S1 else evSs G b σ S1
  | .whl t b, σ, S => whlN (fun σ => testE G σ t) (evSs G b) G.fuel σ S
  | .fo tg it b, σ, S => lift σ (evIt G σ it S) fun xs S1 => forL (fun x σ S => match tgS tg x σ with
      | some σ1 => evSs G b σ1 S
      | none => .bad) xs σ S1
  | .rais c f es, σ, S => lift σ (evEs G σ es S) fun ds S1 => match f, ds with
    | none, _ => .exc ⟨c, []⟩ σ S1
    | some f, [d] => .exc ⟨c, [(f, d)]⟩ σ S1
    | _, _ => .bad
  | .tr b c v h, σ, S => match evSs G b σ S with
    | .exc e σ1 S1 => match G.exm e.cls c with
      | some true => match v with
        | none => evSs G h σ1 S1
        | some i => match evSs G h (σ1.set i (.exn e)) S1 with
          | .next σ2 S2 => .next (σ2.set i .un) S2
          | .ret d S2 => .ret d S2
          | _ => .bad
      | some false => .exc e σ1 S1
      | none => .bad
    | r => r
  | .bad, _, _ => .bad
  | .upd i es, σ, S => match σ[i]? with
    | some (.ownd kvs) => lift σ (evEs G σ es S) fun ds S1 => match altOf ds with
      | some ps => if kvs.length + ps.length ≤ sizeLine ∧ ps.length ≤ 15 then .next (σ.set i (.ownd (kMerge kvs (kMerge [] ps)))) S1 else .bad
      | none => .bad
    | _ => .bad
  | .lend i tg e, σ, S => match σ[i]? with
    | some (.ownd kvs) => lift (σ.set i (.val (.dct kvs))) (evE G (σ.set i (.val (.dct kvs))) e S) fun d S1 => match tgS tg d (if noW d && S1.all obW then σ else σ.set i (.val (.dct kvs))) with
      | some σ1 => .next σ1 S1
      | none => .bad
    | _ => lift (freeze σ [i]) (evE G (freeze σ [i]) e S) fun d S1 => match tgS tg d (freeze σ [i]) with
      | some σ1 => .next σ1 S1
      | none => .bad
  | .retB f, σ, S => lift σ (evFr G σ f S) fun sl S1 => retBS sl S1
  | .retOb i, σ, S => match σ[i]? with
    | some sl => retBS sl S
    | none => .bad
  | .loan i e, σ, S => match obSl σ[i]? with
    | some b => match evE G (σ.set i (.val (.obj S.length))) e (S ++ [b]) with
      | .ok _ S' => match slOb S'[S.length]? with
        | some sl => if (S'.take S.length).all obN = true then .next (σ.set i sl) (S'.take S.length) else .bad
        | none => .bad
      | _ => .bad
    | none => .bad
  | .pub is s, σ, S => evS G s (pubS σ S is).1 (pubS σ S is).2
def evSs (G : Gs) : Sms → Sl → List Ob → RS
  | .nil, σ, S => .next σ S
  | .cons s ss, σ, S => match evS G s σ S with
    | .next σ1 S1 => evSs G ss σ1 S1
    | r => r
end
end Ev
set_option Elab.async false
set_option linter.all false
set_option maxRecDepth 100000
namespace Ev
open PySem L2
/-- what a def's text is compiled with: its names by slots, the running scope, which slots own their lists, which displays make things of the store (by line and column), slots that hold a caught error, names whose cells are the frame's own, the program's defs, classes, methods, constants -/
structure CC where
  N : List Str
  sc : Scope
  ow : List Nat
  ids : List (Nat × Nat)
  exn : List Nat
  fnc : List Str
  fns : List Str
  cls : List Str
  mths : List Str
  consts : List Str
  tabs : List Str
  /-- classes whose __init__ is called off the class; classes that are raised, with their field; classes that are caught -/
  bas : List Str
  excs : List (Str × Str)
  cat : List Str
def idx (x : Str) : List Str → Nat → Option Nat
  | [], _ => none
  | y :: r, i => if x = y then some i else idx x r (i + 1)
def isVis : Option NameKind → Bool
  | some .local => true
  | some .cell => true
  | some .free => true
  | _ => false
def isGl : Option NameKind → Bool
  | some .globalImplicit => true
  | _ => false
def CC.slot (c : CC) (x : Str) : Option Nat := if isVis (c.sc.names.lookup x) && (x != "__debug__") && (x != "__classdict__") then idx x c.N 0 else none
def CC.gl (c : CC) (x : Str) : Bool := isGl (c.sc.names.lookup x) && (x != "__debug__")
def CC.canSet (c : CC) (x : Str) : Bool := match c.sc.names.lookup x with
  | some .local => true
  | some .cell => c.fnc.contains x
  | _ => false
def CC.isId (c : CC) (p : Pos) : Bool := c.ids.any fun q => q.1 == p.line && q.2 == p.col
/-- what stands ahead of a dot is no call without arguments (super() is one) -/
def attrOk : Expr → Bool
  | .Call (.Name _ _) [] [] _ => false
  | _ => true
/-- a dict that the program's top holds -/
def tabName (c : CC) : Expr → Option Str
  | .Name y _ => if c.gl y && c.tabs.contains y then some y else none
  | _ => none
def isStar : Expr → Bool
  | .Starred _ _ => true
  | _ => false
def bfTab : List (Str × BF) := [("len", .len), ("list", .list), ("tuple", .tuple), ("int", .int), ("bool", .bool), ("abs", .abs), ("all", .all), ("any", .any), ("sum", .sum), ("max", .max), ("min", .min), ("str", .str), ("dict", .dict)]
def tyTab : List (Str × Ty) := [("int", .int), ("str", .str), ("bool", .bool), ("tuple", .tuple), ("list", .list), ("dict", .dict)]
def vmTab : List (Str × VM) := [("join", .join), ("split", .split), ("startswith", .startswith), ("get", .get)]
def omTab : List (Str × OM) := [("append", .append), ("extend", .extend), ("pop", .pop)]
def vmAr : VM → Nat
  | .join => 1
  | .split => 1
  | .startswith => 1
  | .get => 2
def omAr : OM → Nat
  | .append => 1
  | .extend => 1
  | .pop => 0
  | _ => 100
def boOf : Operator → Option BO
  | .Add => some .add
  | .Sub => some .sub
  | .Mult => some .mul
  | .FloorDiv => some .fdiv
  | .Mod => some .mod
  | .Pow => some .pow
  | _ => none
def coOf : CmpOp → Option CO
  | .Eq => some .eq
  | .NotEq => some .ne
  | .Lt => some .lt
  | .LtE => some .le
  | .Gt => some .gt
  | .GtE => some .ge
  | .In => some .isin
  | .NotIn => some .notin
  | .Is => some .is_
  | .IsNot => some .isnot
def cstOf : Const → Option D
  | .int i => some (.int i)
  | .str s => some (.str s)
  | .bool b => some (.bl b)
  | .none => some .non
  | _ => none
def keyOfE : Option Expr → Option Key
  | some (.Constant (.int i) _ _) => some (.inl i)
  | some (.Constant (.str s) _ _) => some (.inr s)
  | _ => none
def mapO {α β : Type} (f : α → Option β) : List α → Option (List β)
  | [] => some []
  | x :: xs => match f x, mapO f xs with
    | some y, some ys => some (y :: ys)
    | _, _ => none
def esOf : List E → Es
  | [] => .nil
  | e :: r => .cons e (esOf r)
def tgOf (c : CC) : Expr → Option Tg
  | .Name x _ => match c.slot x with
    | some i => if c.canSet x then some (.one i) else none
    | none => none
  | .Tuple es _ _ => match mapO (fun e => match e with
      | .Name x _ => match c.slot x with
        | some i => if c.canSet x then some i else none
        | none => none
      | _ => none) es with
    | some is => some (.tup is)
    | none => none
  | _ => none
def tgSlots : Tg → List Nat
  | .one i => [i]
  | .tup is => is
def isIn : CmpOp → Bool
  | .In => true
  | _ => false
/-- the scope that runs in a comprehension's block -/
def cellNames (scope : Scope) : List Str := (scope.names.filter fun y => match y.2 with
  | .cell => true
  | _ => false).map (·.1)
def CC.blk (c : CC) (scope : Scope) : CC := { c with sc := relS scope c.sc, fnc := cellNames scope }
/-- the own names of a block, with their slots -/
def ownOf (c : CC) (scope : Scope) : List (Str × Nat) := scope.names.filterMap fun y => match y.2 with
  | .local => (idx y.1 c.N 0).map fun i => (y.1, i)
  | .cell => (idx y.1 c.N 0).map fun i => (y.1, i)
  | _ => none
/-- len(set(a)) -/
def setArg (c : CC) (x : Str) : List Expr → Option Expr
  | [.Call (.Name y _) [a] [] _] => if x = "len" ∧ y = "set" ∧ c.gl y = true ∧ isStar a = false then some a else none
  | _ => none
/-- keys and values of a display by turns -/
def altE : List (Option Expr) → List Expr → Option (List Expr)
  | [], [] => some []
  | some k :: ks, v :: vs => (altE ks vs).map fun r => k :: v :: r
  | _, _ => none
/-- a walk of two lists, perhaps of the store -/
def zipArg (c : CC) (tg : Expr) : Expr → Option (Expr × Expr)
  | .Call (.Name x _) [a, b] [] p => match tg with
    | .Tuple _ _ _ => if x = "zip" ∧ c.gl x = true ∧ c.isId p = true ∧ isStar a = false ∧ isStar b = false then some (a, b) else none
    | _ => none
  | _ => none
/-- dict(zip(a, b)) -/
def zdArg (c : CC) (x : Str) : List Expr → Option (Expr × Expr)
  | [.Call (.Name y _) [a, b] [] _] => if x = "dict" ∧ y = "zip" ∧ c.gl y = true ∧ isStar a = false ∧ isStar b = false then some (a, b) else none
  | _ => none
/-- C.__init__(self, ..) -/
def basArg (c : CC) (o : Expr) (m : Str) : Option Str := match o with
  | .Name x _ => if m = "__init__" ∧ c.gl x = true ∧ c.bas.contains x = true then some x else none
  | _ => none
mutual
/-- r: the value is read only, where the expression stands -/
def compE : Nat → CC → Bool → Expr → Option E
  | 0, _, _, _ => none
  | n + 1, c, r, e => match e with
    | .Constant k _ _ => (cstOf k).map .cst
    | .Name x _ => match c.slot x with
      | some i => if c.ow.contains i && r then some (.rd i) else some (.loc i)
      | none => if c.gl x && c.consts.contains x then some (.glob x) else none
    | .BinOp a op b _ => match boOf op, compE n c true a, compE n c true b with
      | some o, some x, some y => some (.bin o x y)
      | _, _, _ => none
    | .UnaryOp .Not a _ => (compE n c true a).map .not
    | .UnaryOp .USub a _ => (compE n c true a).map .neg
    | .BoolOp op vs p => match vs with
      | [] => none
      | [a] => compE n c r a
      | a :: b :: rest => match compE n c r a, compE n c r (.BoolOp op (b :: rest) p) with
        | some x, some y => match op with
          | .And => some (.and x y)
          | .Or => some (.or x y)
        | _, _ => none
    | .Compare a ops bs _ => match ops, bs with
      | [o], [b] => if behindInMarks o b then none else match tabName c b with
        | some y => if isIn o then (compE n c true a).map (.gin y) else none
        | none => match coOf o, compE n c true a, compE n c true b with
          | some k, some x, some y => some (.cmp k x y)
          | _, _, _ => none
      | [o, o'], [b, d] => if lastMarks [o, o'] [b, d] then none else match coOf o, coOf o', compE n c true a, compE n c true b, compE n c true d with
        | some k, some k', some x, some y, some z => some (.cmp2 k k' x y z)
        | _, _, _, _, _ => none
      | _, _ => none
    | .IfExp t a b _ => match compE n c true t, compE n c r a, compE n c r b with
      | some x, some y, some z => some (.ife x y z)
      | _, _, _ => none
    | .Tuple es _ _ => (compEs n c false es).map .tup
    | .List es p => if c.isId p then (compEs n c false es).map .newL else (compEs n c false es).map .lst
    | .Dict ks vs p => match mapO keyOfE ks, compEs n c false vs with
      | some qs, some xs => if ks.length = vs.length ∧ ks.length ≤ 15 then (if c.isId p then some (.newD qs xs) else some (.dic qs xs)) else none
      | _, _ => if c.isId p then match altE ks vs with
        | some es => if ks.length ≤ 15 ∧ ks.isEmpty = false then (compEs n c false es).map .newDk else none
        | none => none
        else none
    | .Subscript a s _ => match s with
      | .Slice none none (some (.UnaryOp .USub (.Constant (.int 1) _ _) _)) _ => (compE n c true a).map .rev
      | .Slice lo hi none _ => match compE n c true a, compO n c lo, compO n c hi with
        | some x, some l, some h => some (.slc x l h)
        | _, _, _ => none
      | .Slice _ _ _ _ => none
      | _ => match tabName c a with
        | some y => (compE n c true s).map (.gix y)
        | none => match compE n c true a, compE n c true s with
          | some x, some y => some (.ix x y)
          | _, _ => none
    | .Attribute a f _ => match a with
      | .Name x _ => match c.slot x with
        | some i => if c.exn.contains i then none else some (.fld (.loc i) f)
        | none => none
      | _ => if attrOk a then (compE n c true a).map fun x => .fld x f else none
    | .Call f args kws cp => if kws.isEmpty = false then none else match f with
      | .Name x _ => if c.gl x = false then none else
        if x = "isinstance" then match args with
          | [a, .Name t _] => if c.gl t then match compE n c true a, tyTab.lookup t with
              | some y, some ty => if c.isId cp then some (.isiO y ty) else some (.isi y ty)
              | _, _ => none
            else none
          | _ => none
        else match setArg c x args with
        | some a => (compE n c true a).map .nset
        | none => match zdArg c x args with
        | some (a, b) => match compE n c false a, compE n c false b with
          | some y, some z => if c.isId cp then some (.newDz y z) else some (.zdic y z)
          | _, _ => none
        | none => if x = "dict" ∧ c.isId cp = true then match args with
            | [a] => if isStar a then none else (compE n c true a).map .newDo
            | _ => none
          else match bfTab.lookup x with
          | some b => if args.isEmpty then none else (compEs n c true args).map (.bi b)
          | none => if c.fns.contains x then (compEs n c false args).map (.call x)
            else if c.cls.contains x then (compEs n c false args).map (.mk x) else none
      | .Attribute o m ap => if attrOk o = false || (ap.endLine == cp.line) == false then none else match basArg c o m with
        | some x => if args.isEmpty || decide (args.length ≥ 29) then none else (compEs n c false args).map (.binit x)
        | none => match vmTab.lookup m with
        | some v => if decide (args.length = vmAr v) then match compE n c true o, compEs n c (v != .get) args with
            | some y, some ys => some (.vm v y ys)
            | _, _ => none
          else none
        | none => match omTab.lookup m with
          | some v => if decide (args.length = omAr v) then match compE n c false o, compEs n c false args with
              | some y, some ys => some (.om v y ys)
              | _, _ => none
            else none
          | none => if c.mths.contains m && decide (args.length < 29) then match compE n c false o, compEs n c false args with
              | some y, some ys => some (.meth m y ys)
              | _, _ => none
            else none
      | _ => none
    | .ListComp elt gens scope _ => match gens with
      | [⟨tg, iter, ifs, 0⟩] => if blkC c.N c.sc scope (ownOf c scope) = false then none else match zipArg c tg iter with
        | some (a, b) => match compE n c false a, compE n c false b, tgOf (c.blk scope) tg, compE n (c.blk scope) false elt with
          | some y, some z, some t, some x => if ((ownOf c scope).map (·.2)).any (fun i => c.ow.contains i) || !((tgSlots t).all fun i => ((ownOf c scope).map (·.2)).contains i) then none else match ifs with
            | [] => some (.compZ x ((ownOf c scope).map (·.2)) t y z .none)
            | [k] => (compE n (c.blk scope) true k).map fun k => .compZ x ((ownOf c scope).map (·.2)) t y z (.some k)
            | _ => none
          | _, _, _, _ => none
        | none =>
        match compIt n c tg iter, tgOf (c.blk scope) tg, compE n (c.blk scope) false elt with
        | some it, some t, some x => if ((ownOf c scope).map (·.2)).any (fun i => c.ow.contains i) || !((tgSlots t).all fun i => ((ownOf c scope).map (·.2)).contains i) then none else match ifs with
          | [] => some (.comp x ((ownOf c scope).map (·.2)) t it .none)
          | [k] => (compE n (c.blk scope) true k).map fun k => .comp x ((ownOf c scope).map (·.2)) t it (.some k)
          | _ => none
        | _, _, _ => none
      | _ => none
    | _ => none
def compEs : Nat → CC → Bool → List Expr → Option Es
  | 0, _, _, _ => none
  | n + 1, c, r, es => match es with
    | [] => some .nil
    | e :: rest => if isStar e then none else match compE n c r e, compEs n c r rest with
      | some x, some xs => some (.cons x xs)
      | _, _ => none
def compO : Nat → CC → Option Expr → Option OE
  | 0, _, _ => none
  | n + 1, c, o => match o with
    | none => some .none
    | some e => (compE n c true e).map .some
/-- what is walked; tg: the target (for the walks that make tuples it is a written tuple) -/
def compIt : Nat → CC → Expr → Expr → Option It
  | 0, _, _, _ => none
  | n + 1, c, tg, e => match e with
    | .Call (.Name x _) args [] _ => if c.gl x = false then none else
      if x = "range" then match args with
        | [a] => if isStar a then none else (compE n c false a).map .rng
        | [a, b] => if isStar a || isStar b then none else match compE n c false a, compE n c false b with
          | some y, some z => some (.rng2 y z)
          | _, _ => none
        | _ => none
      else if x = "zip" then match args, tg with
        | [a, b], .Tuple _ _ _ => if isStar a || isStar b then none else match compE n c false a, compE n c false b with
          | some y, some z => some (.zip y z)
          | _, _ => none
        | _, _ => none
      else if x = "enumerate" then match args, tg with
        | [a], .Tuple _ _ _ => if isStar a then none else (compE n c false a).map .enm
        | _, _ => none
      else (compE n c false e).map .seq
    | .Call (.Attribute o m ap) [] [] cp => if m = "items" then match tg with
        | .Tuple _ _ _ => if attrOk o = false || (ap.endLine == cp.line) == false then none else (compE n c false o).map .items
        | _ => none
      else (compE n c false e).map .seq
    | _ => (compE n c false e).map .seq
end
mutual
/-- slots that are read as values of their own -/
def locE : E → List Nat
  | .loc i => [i]
  | .rd _ => []
  | .cst _ => []
  | .glob _ => []
  | .bin _ a b => locE a ++ locE b
  | .neg a => locE a
  | .not a => locE a
  | .and a b => locE a ++ locE b
  | .or a b => locE a ++ locE b
  | .cmp _ a b => locE a ++ locE b
  | .cmp2 _ _ a b c => locE a ++ (locE b ++ locE c)
  | .ife t a b => locE t ++ (locE a ++ locE b)
  | .tup es => locEs es
  | .lst es => locEs es
  | .newL es => locEs es
  | .dic _ es => locEs es
  | .newD _ es => locEs es
  | .ix a b => locE a ++ locE b
  | .slc a l h => locE a ++ (locO l ++ locO h)
  | .rev a => locE a
  | .isi a _ => locE a
  | .bi _ es => locEs es
  | .vm _ a es => locE a ++ locEs es
  | .om _ a es => locE a ++ locEs es
  | .call _ es => locEs es
  | .mk _ es => locEs es
  | .meth _ a es => locE a ++ locEs es
  | .fld a _ => locE a
  | .efld _ _ => []
  | .comp x _ _ it c => locE x ++ (locIt it ++ locO c)
  | .gix _ a => locE a
  | .gin _ a => locE a
  | .nset a => locE a
  | .newDo a => locE a
  | .newDk es => locEs es
  | .compZ x _ _ e f c => locE x ++ (locE e ++ (locE f ++ locO c))
  | .isiO a _ => locE a
  | .binit _ es => locEs es
  | .zdic a b => locE a ++ locE b
  | .newDz a b => locE a ++ locE b
def locEs : Es → List Nat
  | .nil => []
  | .cons e es => locE e ++ locEs es
def locO : OE → List Nat
  | .none => []
  | .some e => locE e
def locIt : It → List Nat
  | .seq e => locE e
  | .rng e => locE e
  | .rng2 e f => locE e ++ locE f
  | .zip e f => locE e ++ locE f
  | .enm e => locE e
  | .items e => locE e
end
def CC.fz (c : CC) (l : List Nat) (s : Sm) : Sm := match (c.ow.filter fun i => l.contains i) with
  | [] => s
  | is => .fz is s
/-- what is owned becomes a thing of the store -/
def CC.pb (c : CC) (l : List Nat) (s : Sm) : Sm := match (c.ow.filter fun i => l.contains i) with
  | [] => s
  | is => .pub is s
/-- what is owned is given for a call that changes it, and had back -/
def CC.lo (c : CC) (b : Bool) (l : List Nat) (y : E) : Sm := match b, (c.ow.filter fun i => l.contains i) with
  | true, [i] => .loan i y
  | _, [] => .expr y
  | _, is => .fz is (.expr y)
/-- what a dict is lent for: it may be had back -/
def CC.lz (c : CC) (l : List Nat) (g : Tg) (y : E) : Sm := match (c.ow.filter fun i => l.contains i) with
  | [] => .set g y
  | [i] => .lend i g y
  | is => .fz is (.set g y)
def ownSlot (c : CC) (x : Str) : Option Nat := match c.slot x with
  | some i => if c.ow.contains i then some i else none
  | none => none
def isComp : Expr → Bool
  | .ListComp _ _ _ _ => true
  | .SetComp _ _ _ _ => true
  | .DictComp _ _ _ _ _ => true
  | _ => false
def isTupD : Expr → Bool
  | .Tuple _ _ _ => true
  | _ => false
/-- a new list or dict for a name that owns it -/
def compFr (n : Nat) (c : CC) : Expr → Option (Fr × List Nat)
  | .List es p => if c.isId p then none else (compEs n c false es).map fun xs => (.lst xs, locEs xs)
  | .Dict ks vs p => if c.isId p then none else match mapO keyOfE ks, compEs n c false vs with
    | some qs, some xs => if ks.length = vs.length ∧ ks.length ≤ 15 then some (.dic qs xs, locEs xs) else none
    | _, _ => none
  | .Call (.Name x _) [a] [] _ => if c.gl x = false ∨ isStar a then none else
      if x = "list" then (compE n c true a).map fun y => (.listOf y, locE y)
      else if x = "dict" then match zdArg c x [a] with
        | some (p, q) => match compE n c false p, compE n c false q with
          | some y, some z => some (.zdic y z, locE y ++ locE z)
          | _, _ => none
        | none => (compE n c true a).map fun y => (.dictOf y, locE y) else none
  | .BinOp a .Add b _ => match compE n c true a, compE n c true b with
    | some x, some y => some (.cat x y, locE x ++ locE y)
    | _, _ => none
  | _ => none
/-- what is told as a new thing of the store -/
def compFrR (n : Nat) (c : CC) (e : Expr) : Option (Fr × List Nat) := match e with
  | .ListComp _ _ _ _ => (compE n c false e).map fun y => (.lc y, locE y)
  | _ => compFr n c e
/-- what an except clause tells: constants, the error's field, fields of a name -/
def sufE (c : CC) (nm : Str) (i : Nat) : Expr → Option E
  | .Constant k _ _ => (cstOf k).map .cst
  | .Attribute (.Name y _) f _ => if y = nm then some (.efld i f) else match c.slot y with
    | some j => if j = i then none else some (.fld (.loc j) f)
    | none => none
  | _ => none
def sufEs (c : CC) (nm : Str) (i : Nat) : List Expr → Option Es
  | [] => some .nil
  | e :: es => match sufE c nm i e, sufEs c nm i es with
    | some x, some xs => some (.cons x xs)
    | _, _ => none
/-- raise C(a) -/
def raisArg (c : CC) : Option Expr → Option Expr → Option (Str × Str × Expr)
  | some (.Call (.Name x _) [a] [] _), none => match c.excs.lookup x with
    | some f => if c.gl x && !isStar a then some (x, f, a) else none
    | none => none
  | _, _ => none
/-- except C as n: return (..) -/
def tryArg (c : CC) : List ExceptHandler → List Stmt → List Stmt → Option (Str × Nat × Es)
  | [.ExceptHandler (some (.Name x _)) (some nm) [.Return (some (.Tuple es _ _)) _] _], [], [] => match c.slot nm, sufEs c nm ((c.slot nm).getD 0) es with
    | some i, some ys => if c.gl x && c.cat.contains x && decide (c.sc.names.lookup nm = some .local) && decide (es.length ≤ 100) then some (x, i, ys) else none
    | _, _ => none
  | _, _, _ => none
def stsOf : List Sm → Sms
  | [] => .nil
  | s :: r => .cons s (stsOf r)
mutual
def compS : Nat → CC → Stmt → Option Sm
  | 0, _, _ => none
  | n + 1, c, s => match s with
    | .Pass _ => some .pass
    | .Expr e p => match e with
      | .Constant (.str _) _ _ => some .pass
      | .Call (.Attribute (.Name x _) m ap) [a] [] cp => match ownSlot c x with
        | some i => if isStar a || (ap.endLine == cp.line) == false then none else
          if m = "append" then (compE n c false a).map fun y => c.fz (locE y) (.app i y)
          else if m = "extend" then (compE n c true a).map fun y => c.fz (locE y) (.ext i y)
          else if m = "update" then match a with
            | .Dict ks vs _ => match altE ks vs with
              | some es => if ks.length ≤ 15 ∧ ks.isEmpty = false then (compEs n c false es).map fun ys => c.fz (locEs ys) (.upd i ys) else none
              | none => none
            | _ => none
          else none
        | none => (compE n c false e).map fun y => c.fz (locE y) (.expr y)
      | _ => if isComp e then none else (compE n c false e).map fun y => c.lo (c.isId p) (locE y) y
    | .Assign [t] e _ => match t with
      | .Name x px => match ownSlot c x with
        | some i => if c.canSet x then (compFr n c e).map fun f => c.fz f.2 (.own i f.1) else none
        | none => match e with
          | .Call (.Attribute (.Name l _) m ap) [] [] cp => match ownSlot c l with
            | some i => if m = "pop" && (ap.endLine == cp.line) then match tgOf c t with
                | some (.one k) => some (.pop k i)
                | _ => none
              else none
            | none => match tgOf c t, compE n c false e with
              | some g, some y => some (c.fz (locE y) (.set g y))
              | _, _ => none
          | .ListComp _ _ scope pl => if px.line == pl.line && decide (c.sc.names.lookup x = some .local) && (scope.names.any fun (m, k) => m == x && (k == .local || k == .cell)) == false then
              match tgOf c t, compE n c false e with
              | some g, some y => some (c.fz (locE y) (.set g y))
              | _, _ => none
            else none
          | _ => if isComp e then none else match tgOf c t, compE n c false e with
            | some g, some y => some (c.fz (locE y) (.set g y))
            | _, _ => none
      | .Tuple _ _ _ => if isComp e || isTupD e then none else match tgOf c t, compE n c false e with
        | some g, some y => if (tgSlots g).any (fun i => c.ow.contains i) then none else some (c.lz (locE y) g y)
        | _, _ => none
      | .Subscript o k _ => if isComp e then none else match k with
        | .Slice _ _ _ _ => none
        | _ => match o with
          | .Name x _ => match ownSlot c x with
            | some i => match compE n c true k, compE n c false e with
              | some y, some v => some (c.fz (locE y ++ locE v) (.ownIx i y v))
              | _, _ => none
            | none => match compE n c false o, compE n c true k, compE n c false e with
              | some z, some y, some v => some (c.fz (locE z ++ (locE y ++ locE v)) (.setIx z y v))
              | _, _, _ => none
          | _ => match compE n c false o, compE n c true k, compE n c false e with
            | some z, some y, some v => some (c.fz (locE z ++ (locE y ++ locE v)) (.setIx z y v))
            | _, _, _ => none
      | .Attribute o f _ => if isComp e then none else match compE n c false o, compE n c false e with
        | some z, some v => some (c.fz (locE z ++ locE v) (.setF z f v))
        | _, _ => none
      | _ => none
    | .Return none _ => some .retN
    | .Return (some e) p => match e with
      | .Name x _ => match c.slot x with
        | some i => if c.isId p && c.ow.contains i then some (.retOb i) else some (.retO i)
        | none => (compE n c false e).map fun y => c.fz (locE y) (.ret y)
      | _ => if c.isId p then match compFrR n c e with
          | some f => some (c.fz f.2 (.retB f.1))
          | none => (compE n c false e).map fun y => c.pb (locE y) (.ret y)
        else (compE n c false e).map fun y => c.fz (locE y) (.ret y)
    | .If t a b _ => match compE n c true t, compSs n c a, compSs n c b with
      | some y, some p, some q => some (c.fz (locE y) (.ife y p q))
      | _, _, _ => none
    | .While t b orelse _ => if orelse.isEmpty = false then none else match compE n c true t, compSs n c b with
      | some y, some p => if (c.ow.filter fun i => (locE y).contains i).isEmpty then some (.whl y p) else none
      | _, _ => none
    | .For t it b orelse _ => if orelse.isEmpty = false then none else match tgOf c t, compIt n c t it, compSs n c b with
      | some g, some i, some p => if (tgSlots g).any (fun i => c.ow.contains i) then none else some (c.fz (locIt i) (.fo g i p))
      | _, _, _ => none
    | .Raise eo co _ => match raisArg c eo co with
      | some (x, fl, a) => (compE n c false a).map fun y => c.fz (locE y) (.rais x (some fl) (.cons y .nil))
      | none => none
    | .Try body hs oe fe _ => match tryArg c hs oe fe with
      | some (x, i, ys) => (compSs n c body).map fun b => .tr b x (some i) (.cons (.ret (.tup ys)) .nil)
      | none => none
    | _ => none
def compSs : Nat → CC → List Stmt → Option Sms
  | 0, _, _ => none
  | n + 1, c, ss => match ss with
    | [] => some .nil
    | s :: r => match compSs n c r with
      | some xs => some (.cons ((compS n c s).getD .bad) xs)
      | none => none
end
end Ev
set_option Elab.async false
set_option linter.all false
set_option maxRecDepth 100000
namespace Ev
open PySem L2
/-- the world: what never changes again (F), where the things of the store stand, how many there are -/
structure Wd where
  F : Hp
  m : Nat → Addr
  n : Nat
section
variable (K : PySem.W.Frag) (W : Wd)
mutual
inductive Rep : D → V → Prop
  | non : Rep .non .non
  | bl (b : Bool) : Rep (.bl b) (.bl b)
  | int (i : Int) : Rep (.int i) (.int i)
  | str (s : Str) : Rep (.str s) (.str s)
  | tup {xs : List D} {a : Addr} {vs : List V} : SqT K W.F a vs → RepL xs vs → Rep (.tup xs) (.ref a)
  | lst {xs : List D} {a : Addr} {vs : List V} : W.F a = some (.lst vs) → RepL xs vs → Rep (.lst xs) (.ref a)
  | frz {xs : List D} {a : Addr} {vs : List V} : SqL K W.F a vs → RepL xs vs → Rep (.frz xs) (.ref a)
  | dct {kvs : List (Key × D)} {a : Addr} {od : Obj} {kv : List (Key × V)} : W.F a = some (.frz od (.dK kv)) → RepK kvs kv → Rep (.dct kvs) (.ref a)
  | obj {i : Nat} : i < W.n → Rep (.obj i) (.ref (W.m i))
inductive RepL : List D → List V → Prop
  | nil : RepL [] []
  | cons {x : D} {xs : List D} {v : V} {vs : List V} : Rep x v → RepL xs vs → RepL (x :: xs) (v :: vs)
inductive RepK : List (Key × D) → List (Key × V) → Prop
  | nil : RepK [] []
  | cons {k : Key} {x : D} {xs : List (Key × D)} {v : V} {vs : List (Key × V)} : Rep x v → RepK xs vs → RepK ((k, x) :: xs) ((k, v) :: vs)
end
/-- named fields -/
inductive RepF : List (Str × D) → List (Str × V) → Prop
  | nil : RepF [] []
  | cons {k : Str} {x : D} {xs : List (Str × D)} {v : V} {vs : List (Str × V)} : Rep K W x v → RepF xs vs → RepF ((k, x) :: xs) ((k, v) :: vs)
end
/-- a world that goes on from another -/
structure Le (W W' : Wd) : Prop where
  F : ∀ b o, W.F b = some o → W'.F b = some o
  n : W.n ≤ W'.n
  m : ∀ i, i < W.n → W'.m i = W.m i
theorem Le.refl {W : Wd} : Le W W := ⟨fun _ _ h => h, Nat.le_refl _, fun _ _ => rfl⟩
theorem Le.trans {A B C : Wd} (p : Le A B) (q : Le B C) : Le A C :=
  ⟨fun b o h => q.F b o (p.F b o h), Nat.le_trans p.n q.n, fun i h => (q.m i (Nat.lt_of_lt_of_le h p.n)).trans (p.m i h)⟩
theorem Rd.sub {F H : Hp} (h : ∀ b o, F b = some o → H b = some o) {a : Addr} {u : HO} (r : Rd F a u) : Rd H a u := by
  rcases r with r | ⟨o, r⟩
  · exact .inl (h _ _ r)
  · exact .inr ⟨o, h _ _ r⟩
theorem SqT.sub {K : PySem.W.Frag} {F H : Hp} (h : ∀ b o, F b = some o → H b = some o) {a : Addr} {vs : List V} (r : SqT K F a vs) : SqT K H a vs := by
  rcases r with r | r
  · exact .inl (Rd.sub h r)
  · exact .inr r
theorem SqL.sub {K : PySem.W.Frag} {F H : Hp} (h : ∀ b o, F b = some o → H b = some o) {a : Addr} {vs : List V} (r : SqL K F a vs) : SqL K H a vs := by
  rcases r with r | r
  · exact .inl (Rd.sub h r)
  · exact .inr r
section
variable {K : PySem.W.Frag} {W W' : Wd}
mutual
theorem Rep.mono (l : Le W W') : ∀ {d : D} {v : V}, Rep K W d v → Rep K W' d v
  | _, _, .non => .non
  | _, _, .bl b => .bl b
  | _, _, .int i => .int i
  | _, _, .str s => .str s
  | _, _, .tup h r => .tup (SqT.sub l.F h) (RepL.mono l r)
  | _, _, .lst h r => .lst (l.F _ _ h) (RepL.mono l r)
  | _, _, .frz h r => .frz (SqL.sub l.F h) (RepL.mono l r)
  | _, _, .dct h r => .dct (l.F _ _ h) (RepK.mono l r)
  | _, _, .obj h => by
    rw [← l.m _ h]
    exact .obj (Nat.lt_of_lt_of_le h l.n)
theorem RepL.mono (l : Le W W') : ∀ {ds : List D} {vs : List V}, RepL K W ds vs → RepL K W' ds vs
  | _, _, .nil => .nil
  | _, _, .cons h r => .cons (Rep.mono l h) (RepL.mono l r)
theorem RepK.mono (l : Le W W') : ∀ {ds : List (Key × D)} {vs : List (Key × V)}, RepK K W ds vs → RepK K W' ds vs
  | _, _, .nil => .nil
  | _, _, .cons h r => .cons (Rep.mono l h) (RepK.mono l r)
end
theorem RepF.mono (l : Le W W') : ∀ {ds : List (Str × D)} {vs : List (Str × V)}, RepF K W ds vs → RepF K W' ds vs
  | _, _, .nil => .nil
  | _, _, .cons h r => .cons (Rep.mono l h) (RepF.mono l r)
end
section
variable {K : PySem.W.Frag} {W : Wd}
theorem RepL.length {xs : List D} {vs : List V} (h : RepL K W xs vs) : xs.length = vs.length := by
  induction xs generalizing vs with
  | nil => cases h; rfl
  | cons x xs ih => cases h with | cons h r => simp [ih r]
theorem RepL.get {xs : List D} {vs : List V} {i : Nat} {x : D} (h : RepL K W xs vs) (e : xs[i]? = some x) : ∃ v, vs[i]? = some v ∧ Rep K W x v := by
  induction xs generalizing vs i with
  | nil => simp at e
  | cons y xs ih =>
    cases h with
    | cons h r =>
      cases i with
      | zero => simp at e; subst e; exact ⟨_, rfl, h⟩
      | succ i => simpa using ih r (by simpa using e)
theorem RepL.append {xs ys : List D} {vs ws : List V} (h : RepL K W xs vs) (g : RepL K W ys ws) : RepL K W (xs ++ ys) (vs ++ ws) := by
  induction xs generalizing vs with
  | nil => cases h; exact g
  | cons y xs ih => cases h with | cons h r => exact .cons h (ih r)
theorem RepL.drop {xs : List D} {vs : List V} (n : Nat) (h : RepL K W xs vs) : RepL K W (xs.drop n) (vs.drop n) := by
  induction xs generalizing vs n with
  | nil => cases h; simp; exact .nil
  | cons y xs ih =>
    cases n with
    | zero => exact h
    | succ n => cases h with | cons h r => simpa using ih n r
theorem RepL.take {xs : List D} {vs : List V} (n : Nat) (h : RepL K W xs vs) : RepL K W (xs.take n) (vs.take n) := by
  induction xs generalizing vs n with
  | nil => cases h; simp; exact .nil
  | cons y xs ih =>
    cases n with
    | zero => simp; exact .nil
    | succ n => cases h with | cons h r => simpa using RepL.cons h (ih n r)
theorem RepL.set {xs : List D} {vs : List V} {x : D} {v : V} (n : Nat) (h : RepL K W xs vs) (r : Rep K W x v) : RepL K W (xs.set n x) (vs.set n v) := by
  induction xs generalizing vs n with
  | nil => cases h; simp; exact .nil
  | cons y xs ih =>
    cases h with
    | cons h q =>
      cases n with
      | zero => exact .cons r q
      | succ n => exact .cons h (ih n q)
theorem RepL.one {x : D} {v : V} (r : Rep K W x v) : RepL K W [x] [v] := .cons r .nil
theorem RepL.dropLast {xs : List D} {vs : List V} (h : RepL K W xs vs) : RepL K W xs.dropLast vs.dropLast := by
  rw [List.dropLast_eq_take, List.dropLast_eq_take, ← h.length]
  exact h.take _
theorem RepL.reverse {xs : List D} {vs : List V} (h : RepL K W xs vs) : RepL K W xs.reverse vs.reverse := by
  induction xs generalizing vs with
  | nil => cases h; exact .nil
  | cons y xs ih =>
    cases h with
    | cons h r =>
      rw [List.reverse_cons, List.reverse_cons]
      exact (ih r).append (.one h)
theorem RepL.rep {xs : List D} {vs : List V} (h : RepL K W xs vs) : ∀ k : Nat, RepL K W (List.replicate k xs).flatten (List.replicate k vs).flatten
  | 0 => .nil
  | k + 1 => by
    rw [List.replicate_succ, List.flatten_cons, List.replicate_succ, List.flatten_cons]
    exact h.append (RepL.rep h k)
theorem RepK.length {xs : List (Key × D)} {vs : List (Key × V)} (h : RepK K W xs vs) : xs.length = vs.length := by
  induction xs generalizing vs with
  | nil => cases h; rfl
  | cons x xs ih => cases h with | cons h r => simp [ih r]
theorem RepK.get {xs : List (Key × D)} {vs : List (Key × V)} (h : RepK K W xs vs) (k : Key) : (kGet xs k = none ∧ valV vs k = none) ∨ ∃ x v, kGet xs k = some x ∧ valV vs k = some v ∧ Rep K W x v := by
  induction xs generalizing vs with
  | nil => cases h; exact .inl ⟨rfl, rfl⟩
  | cons p xs ih =>
    cases h with
    | @cons k' x _ v _ h r =>
      by_cases e : k' = k
      · refine .inr ⟨x, v, ?_, valV_pos e, h⟩
        simp [kGet, List.find?_cons, e]
      · rw [valV_neg (p := (k', v)) e]
        have : kGet ((k', x) :: xs) k = kGet xs k := by simp [kGet, List.find?_cons, e]
        rw [this]
        exact ih r
theorem RepK.any {xs : List (Key × D)} {vs : List (Key × V)} (h : RepK K W xs vs) (k : Key) : (xs.any fun kv => decide (kv.1 = k)) = vs.any fun kv => decide (kv.1 = k) := by
  induction xs generalizing vs with
  | nil => cases h; rfl
  | cons p xs ih => cases h with | cons h r => simp only [List.any_cons, ih r]
theorem RepK.repl {xs : List (Key × D)} {vs : List (Key × V)} (h : RepK K W xs vs) (k : Key) {x : D} {v : V} (r : Rep K W x v) :
    RepK K W (xs.map fun kv => if kv.1 = k then (kv.1, x) else kv) (vs.map fun kv => if kv.1 = k then (kv.1, v) else kv) := by
  induction xs generalizing vs with
  | nil => cases h; exact .nil
  | cons p xs ih =>
    cases h with
    | @cons k' x _ v _ h q =>
      by_cases e : k' = k
      · simpa [e] using RepK.cons r (ih q)
      · simpa [e] using RepK.cons h (ih q)
theorem RepK.snoc {xs : List (Key × D)} {vs : List (Key × V)} (h : RepK K W xs vs) (k : Key) {x : D} {v : V} (r : Rep K W x v) : RepK K W (xs ++ [(k, x)]) (vs ++ [(k, v)]) := by
  induction xs generalizing vs with
  | nil => cases h; exact .cons r .nil
  | cons p xs ih => cases h with | cons h q => exact .cons h (ih q)
theorem RepK.put {xs : List (Key × D)} {vs : List (Key × V)} (h : RepK K W xs vs) (k : Key) {x : D} {v : V} (r : Rep K W x v) : RepK K W (kPut xs k x) (putK vs k v) := by
  unfold kPut putK
  rw [h.any k]
  split
  · exact h.repl k r
  · exact h.snoc k r
theorem RepK.merge {ys : List (Key × D)} {ws : List (Key × V)} (g : RepK K W ys ws) : ∀ {xs : List (Key × D)} {vs : List (Key × V)}, RepK K W xs vs → RepK K W (kMerge xs ys) (mergeK vs ws) := by
  induction ys generalizing ws with
  | nil => intro xs vs h; cases g; exact h
  | cons p ys ih =>
    intro xs vs h
    cases g with
    | cons r g => exact ih g (h.put _ r)
theorem RepK.keys {xs : List (Key × D)} {vs : List (Key × V)} (h : RepK K W xs vs) : RepL K W (keysD xs) (vs.map fun kv => kV kv.1) := by
  induction xs generalizing vs with
  | nil => cases h; exact .nil
  | cons p xs ih =>
    cases h with
    | @cons k' x _ v _ h q =>
      refine .cons ?_ (ih q)
      cases k' with
      | inl i => exact .int i
      | inr s => exact .str s
theorem RepF.get {xs : List (Str × D)} {vs : List (Str × V)} (h : RepF K W xs vs) (k : Str) : (fGet xs k = none ∧ vs.lookup k = none) ∨ ∃ x v, fGet xs k = some x ∧ vs.lookup k = some v ∧ Rep K W x v := by
  induction xs generalizing vs with
  | nil => cases h; exact .inl ⟨rfl, rfl⟩
  | cons p xs ih =>
    cases h with
    | @cons k' x _ v _ h r =>
      unfold fGet at ih ⊢
      rw [List.lookup_cons, List.lookup_cons]
      cases e : k == k' with
      | true => exact .inr ⟨x, v, rfl, rfl, h⟩
      | false => exact ih r
theorem RepF.length {xs : List (Str × D)} {vs : List (Str × V)} (h : RepF K W xs vs) : xs.length = vs.length := by
  induction xs generalizing vs with
  | nil => cases h; rfl
  | cons x xs ih => cases h with | cons h r => simp [ih r]
theorem RepF.put {xs : List (Str × D)} {vs : List (Str × V)} (h : RepF K W xs vs) (k : Str) {x : D} {v : V} (r : Rep K W x v) : RepF K W (fPut k x xs) (putF k v vs) := by
  induction xs generalizing vs with
  | nil => cases h; exact .cons r .nil
  | cons p xs ih =>
    cases h with
    | @cons k' y _ w _ h q =>
      show RepF K W (if k' = k then (k', x) :: xs else (k', y) :: fPut k x xs) (if k' = k then (k', v) :: _ else (k', w) :: putF k v _)
      by_cases e : k' = k
      · rw [if_pos e, if_pos e]; exact .cons r q
      · rw [if_neg e, if_neg e]; exact .cons h (ih q)
end
def ObR (K : PySem.W.Frag) (W : Wd) (H : Hp) : Ob → Addr → Prop
  | .lst xs, a => ∃ vs, H a = some (.lst vs) ∧ RepL K W xs vs
  | .dct kvs, a => ∃ kv, H a = some (.dK kv) ∧ RepK K W kvs kv
  | .ins c fs, a => ∃ dx vs, H a = some (.ins (He.ga K c) dx vs) ∧ RepF K W fs vs
structure Rel (K : PySem.W.Frag) (W : Wd) (S : List Ob) (H : Hp) : Prop where
  n : W.n = S.length
  fz : ∀ b o, W.F b = some o → H b = some o
  ob : ∀ i o, S[i]? = some o → ObR K W H o (W.m i)
  nf : ∀ i, i < W.n → W.F (W.m i) = none
  inj : ∀ i j, i < W.n → j < W.n → W.m i = W.m j → i = j
theorem ObR.some {K : PySem.W.Frag} {W : Wd} {H : Hp} {o : Ob} {a : Addr} (h : ObR K W H o a) : ∃ u, H a = .some u := by
  cases o with
  | lst xs => obtain ⟨_, e, _⟩ := h; exact ⟨_, e⟩
  | dct xs => obtain ⟨_, e, _⟩ := h; exact ⟨_, e⟩
  | ins c fs => obtain ⟨_, _, e, _⟩ := h; exact ⟨_, e⟩
theorem Rel.live {K : PySem.W.Frag} {W : Wd} {S : List Ob} {H : Hp} (r : Rel K W S H) {i : Nat} (h : i < W.n) : ∃ u, H (W.m i) = some u := by
  have h' : i < S.length := by rw [← r.n]; exact h
  exact (r.ob i S[i] (List.getElem?_eq_getElem h')).some
/-- a step: what never changes stays, what was there stays but for the store's things -/
structure Ext (W : Wd) (H : Hp) (W' : Wd) (H' : Hp) : Prop where
  le : Le W W'
  Fn : ∀ b o, W'.F b = some o → W.F b = some o ∨ H b = none
  mn : ∀ i, W.n ≤ i → i < W'.n → H (W'.m i) = none
  keep : ∀ b o, H b = some o → (∀ i, i < W.n → b ≠ W.m i) → H' b = some o
theorem Ext.refl {W : Wd} {H : Hp} : Ext W H W H := ⟨Le.refl, fun _ _ h => .inl h, fun i h1 h2 => absurd (Nat.lt_of_lt_of_le h2 h1) (Nat.lt_irrefl _), fun _ _ h _ => h⟩
theorem Ext.noneOf {K : PySem.W.Frag} {W W' : Wd} {H H' : Hp} {S' : List Ob} (e : Ext W H W' H') (r : Rel K W' S' H') {b : Addr} (h : H' b = Option.none) : H b = Option.none := by
  cases q : H b with
  | none => rfl
  | some o =>
    by_cases z : ∃ i, i < W.n ∧ b = W.m i
    · obtain ⟨i, hi, e1⟩ := z
      obtain ⟨u, hu⟩ := r.live (Nat.lt_of_lt_of_le hi e.le.n)
      rw [e.le.m i hi, ← e1, h] at hu
      cases hu
    · have := e.keep b o q fun i hi e1 => z ⟨i, hi, e1⟩
      rw [h] at this
      cases this
theorem Ext.trans {K : PySem.W.Frag} {A B C : Wd} {H H1 H2 : Hp} {S1 : List Ob} (p : Ext A H B H1) (r : Rel K B S1 H1) (q : Ext B H1 C H2) : Ext A H C H2 := by
  refine ⟨p.le.trans q.le, fun b o h => ?_, fun i h1 h2 => ?_, fun b o h1 h2 => ?_⟩
  · rcases q.Fn b o h with z | z
    · exact p.Fn b o z
    · exact .inr (p.noneOf r z)
  · by_cases hi : i < B.n
    · rw [q.le.m i hi]
      exact p.mn i h1 hi
    · exact p.noneOf r (q.mn i (Nat.le_of_not_lt hi) h2)
  · refine q.keep b o (p.keep b o h1 h2) fun i hi e => ?_
    by_cases hA : i < A.n
    · exact h2 i hA (e.trans (p.le.m i hA))
    · have z := p.mn i (Nat.le_of_not_lt hA) hi
      rw [← e, h1] at z
      cases z
/-- a new thing that never changes -/
theorem Rel.alloc {K : PySem.W.Frag} {W : Wd} {S : List Ob} {H : Hp} (r : Rel K W S H) {p : Addr} {o : HO} (hp : H p = none) :
    Ext W H ⟨upd W.F p o, W.m, W.n⟩ (upd H p o) ∧ Rel K ⟨upd W.F p o, W.m, W.n⟩ S (upd H p o) := by
  have fp : W.F p = none := by
    cases q : W.F p with
    | none => rfl
    | some u => rw [r.fz p u q] at hp; cases hp
  have mp : ∀ i, i < W.n → W.m i ≠ p := fun i hi e => by
    obtain ⟨u, hu⟩ := r.live hi
    rw [e, hp] at hu
    cases hu
  have le : Le W ⟨upd W.F p o, W.m, W.n⟩ := ⟨fun b u h => by
    show upd W.F p o b = some u
    rw [upd_ne (ne_of_none h fp)]
    exact h, Nat.le_refl _, fun _ _ => rfl⟩
  refine ⟨⟨le, fun b u h => ?_, fun i h1 h2 => absurd (Nat.lt_of_lt_of_le h2 h1) (Nat.lt_irrefl _), fun b u h _ => ?_⟩, ⟨r.n, fun b u h => ?_, fun i u h => ?_, fun i hi => ?_, r.inj⟩⟩
  · have h : upd W.F p o b = some u := h
    by_cases e : b = p
    · exact .inr (by rw [e]; exact hp)
    · rw [upd_ne e] at h
      exact .inl h
  · rw [upd_ne (ne_of_none h hp)]
    exact h
  · have h : upd W.F p o b = some u := h
    by_cases e : b = p
    · rw [e, upd_same] at h ⊢
      exact h
    · rw [upd_ne e] at h ⊢
      exact r.fz b u h
  · have q := r.ob i u h
    have hi : i < W.n := by
      rw [r.n]
      exact (List.getElem?_eq_some_iff.mp h).1
    cases u with
    | lst xs =>
      obtain ⟨vs, e, g⟩ := q
      exact ⟨vs, by show upd H p o (W.m i) = _; rw [upd_ne (mp i hi)]; exact e, g.mono le⟩
    | dct xs =>
      obtain ⟨vs, e, g⟩ := q
      exact ⟨vs, by show upd H p o (W.m i) = _; rw [upd_ne (mp i hi)]; exact e, g.mono le⟩
    | ins c fs =>
      obtain ⟨dx, vs, e, g⟩ := q
      exact ⟨dx, vs, by show upd H p o (W.m i) = _; rw [upd_ne (mp i hi)]; exact e, g.mono le⟩
  · show upd W.F p o (W.m i) = none
    rw [upd_ne (mp i hi)]
    exact r.nf i hi
def SlR (K : PySem.W.Frag) (W : Wd) (H : Hp) : Slot → Option (Option V) → Prop
  | .un, _ => True
  | .val d, o => ∃ v, o = some (some v) ∧ Rep K W d v
  | .own xs, o => ∃ a vs, o = some (some (.ref a)) ∧ H a = some (.lst vs) ∧ RepL K W xs vs ∧ W.F a = none ∧ ∀ j, j < W.n → W.m j ≠ a
  | .ownd kvs, o => ∃ a kv, o = some (some (.ref a)) ∧ H a = some (.dK kv) ∧ RepK K W kvs kv ∧ W.F a = none ∧ ∀ j, j < W.n → W.m j ≠ a
  | .exn e, o => ∃ (a d : Addr) (vs : List (Str × V)), o = some (some (.ref a)) ∧ W.F d = some (.xd vs) ∧ RepF K W e.fs vs
def isOwn : Slot → Bool
  | .own _ => true
  | .ownd _ => true
  | _ => false
theorem SlR.ext {K : PySem.W.Frag} {W W' : Wd} {H H' : Hp} {s : Slot} {o : Option (Option V)} (h : SlR K W H s o) (e : Ext W H W' H') : SlR K W' H' s o := by
  cases s with
  | un => exact True.intro
  | val d =>
    obtain ⟨v, e1, r⟩ := h
    exact ⟨v, e1, r.mono e.le⟩
  | own xs =>
    obtain ⟨a, vs, e1, e2, r, f, n⟩ := h
    refine ⟨a, vs, e1, e.keep a _ e2 fun i hi q => n i hi q.symm, r.mono e.le, ?_, fun j hj q => ?_⟩
    · cases z : W'.F a with
      | none => rfl
      | some u =>
        rcases e.Fn a u z with z | z
        · rw [f] at z; cases z
        · rw [e2] at z; cases z
    · by_cases hi : j < W.n
      · rw [e.le.m j hi] at q
        exact n j hi q
      · have z := e.mn j (Nat.le_of_not_lt hi) hj
        rw [q, e2] at z
        cases z
  | ownd xs =>
    obtain ⟨a, vs, e1, e2, r, f, n⟩ := h
    refine ⟨a, vs, e1, e.keep a _ e2 fun i hi q => n i hi q.symm, r.mono e.le, ?_, fun j hj q => ?_⟩
    · cases z : W'.F a with
      | none => rfl
      | some u =>
        rcases e.Fn a u z with z | z
        · rw [f] at z; cases z
        · rw [e2] at z; cases z
    · by_cases hi : j < W.n
      · rw [e.le.m j hi] at q
        exact n j hi q
      · have z := e.mn j (Nat.le_of_not_lt hi) hj
        rw [q, e2] at z
        cases z
  | exn x =>
    obtain ⟨a, d, vs, e1, e2, r⟩ := h
    exact ⟨a, d, vs, e1, e.le.F _ _ e2, r.mono e.le⟩
structure Sg (K : PySem.W.Frag) (W : Wd) (τ : Sl) (S : List Ob) (σ : L2.St) (H : Hp) : Prop where
  rel : Rel K W S H
  len : τ.length = σ.length
  sl : ∀ (i : Nat) (s : Slot), τ[i]? = some s → SlR K W H s σ[i]?
  dis : ∀ (i j : Nat) (s t : Slot) (a : Addr), i ≠ j → τ[i]? = some s → τ[j]? = some t → isOwn s = true → isOwn t = true → σ[i]? = some (some (.ref a)) → σ[j]? = some (some (.ref a)) → False
theorem Sg.ext {K : PySem.W.Frag} {W W' : Wd} {τ : Sl} {S S' : List Ob} {σ : L2.St} {H H' : Hp} (g : Sg K W τ S σ H) (e : Ext W H W' H') (r : Rel K W' S' H') : Sg K W' τ S' σ H' :=
  ⟨r, g.len, fun i s h => (g.sl i s h).ext e, g.dis⟩
/-- read only: a value, or what a slot owns -/
inductive RepA (K : PySem.W.Frag) (W : Wd) (H : Hp) : D → V → Prop
  | rep {d : D} {v : V} : Rep K W d v → RepA K W H d v
  | own {xs : List D} {a : Addr} {vs : List V} : H a = some (.lst vs) → RepL K W xs vs → (∀ j, j < W.n → W.m j ≠ a) → RepA K W H (.lst xs) (.ref a)
  | ownd {kvs : List (Key × D)} {a : Addr} {kv : List (Key × V)} : H a = some (.dK kv) → RepK K W kvs kv → (∀ j, j < W.n → W.m j ≠ a) → RepA K W H (.dct kvs) (.ref a)
theorem RepA.ext {K : PySem.W.Frag} {W W' : Wd} {H H' : Hp} {d : D} {v : V} (h : RepA K W H d v) (e : Ext W H W' H') : RepA K W' H' d v := by
  have nn : ∀ {a : Addr} {u : HO}, H a = some u → (∀ j, j < W.n → W.m j ≠ a) → ∀ j, j < W'.n → W'.m j ≠ a := fun {a u} q n j hj z => by
    by_cases hi : j < W.n
    · rw [e.le.m j hi] at z
      exact n j hi z
    · have y := e.mn j (Nat.le_of_not_lt hi) hj
      rw [z, q] at y
      cases y
  cases h with
  | rep h => exact .rep (h.mono e.le)
  | own q r n => exact .own (e.keep _ _ q fun i hi z => n i hi z.symm) (r.mono e.le) (nn q n)
  | ownd q r n => exact .ownd (e.keep _ _ q fun i hi z => n i hi z.symm) (r.mono e.le) (nn q n)
inductive RepAL (K : PySem.W.Frag) (W : Wd) (H : Hp) : List D → List V → Prop
  | nil : RepAL K W H [] []
  | cons {x : D} {xs : List D} {v : V} {vs : List V} : RepA K W H x v → RepAL K W H xs vs → RepAL K W H (x :: xs) (v :: vs)
section
variable {K : PySem.W.Frag} {W : Wd} {S : List Ob} {H : Hp} {d : D} {v : V}
theorem RepA.lstOf (r : Rel K W S H) (h : RepA K W H d v) {xs : List D} (e : lstOf S d = some xs) : ∃ a vs, v = .ref a ∧ H a = some (.lst vs) ∧ RepL K W xs vs := by
  cases h with
  | rep h =>
    cases h with
    | lst q g =>
      cases e
      exact ⟨_, _, rfl, r.fz _ _ q, g⟩
    | @obj i hi =>
      obtain ⟨o, z⟩ : ∃ o, S[i]? = some o := ⟨_, List.getElem?_eq_getElem (by rw [← r.n]; exact hi)⟩
      have y := r.ob i _ z
      simp only [Ev.lstOf, z] at e
      cases o with
      | lst ys =>
        cases e
        obtain ⟨vs, q, g⟩ := y
        exact ⟨_, vs, rfl, q, g⟩
      | dct ys => cases e
      | ins c fs => cases e
    | _ => cases e
  | own q g n =>
    cases e
    exact ⟨_, _, rfl, q, g⟩
  | ownd q g n => cases e
theorem RepA.lstF (r : Rel K W S H) (h : RepA K W H d v) {xs : List D} (e : lstF S d = some xs) : ∃ a vs, v = .ref a ∧ SqL K H a vs ∧ RepL K W xs vs := by
  by_cases z : ∃ ys, d = .frz ys
  · obtain ⟨ys, z⟩ := z
    subst z
    cases e
    cases h with
    | rep h =>
      cases h with
      | frz q g => exact ⟨_, _, rfl, SqL.sub r.fz q, g⟩
  · have e' : Ev.lstOf S d = some xs := by
      cases d <;> first | exact e | exact absurd ⟨_, rfl⟩ z
    obtain ⟨a, vs, e1, e2, g⟩ := RepA.lstOf r h e'
    exact ⟨a, vs, e1, SqL.of e2, g⟩
theorem RepA.seqOf (r : Rel K W S H) (h : RepA K W H d v) {xs : List D} (e : seqOf S d = some xs) : ∃ a vs, v = .ref a ∧ (SqL K H a vs ∨ SqT K H a vs) ∧ RepL K W xs vs := by
  by_cases z : ∃ ys, d = .tup ys
  · obtain ⟨ys, z⟩ := z
    subst z
    cases e
    cases h with
    | rep h =>
      cases h with
      | tup q g => exact ⟨_, _, rfl, .inr (SqT.sub r.fz q), g⟩
  · have e' : Ev.lstF S d = some xs := by
      cases d <;> first | exact e | exact absurd ⟨_, rfl⟩ z
    obtain ⟨a, vs, e1, e2, g⟩ := RepA.lstF r h e'
    exact ⟨a, vs, e1, .inl e2, g⟩
theorem RepA.dctOf (r : Rel K W S H) (h : RepA K W H d v) {xs : List (Key × D)} (e : dctOf S d = some xs) : ∃ a vs, v = .ref a ∧ Rd H a (.dK vs) ∧ RepK K W xs vs := by
  cases h with
  | rep h =>
    cases h with
    | dct q g =>
      cases e
      exact ⟨_, _, rfl, .inr ⟨_, r.fz _ _ q⟩, g⟩
    | @obj i hi =>
      obtain ⟨o, z⟩ : ∃ o, S[i]? = some o := ⟨_, List.getElem?_eq_getElem (by rw [← r.n]; exact hi)⟩
      have y := r.ob i _ z
      simp only [Ev.dctOf, z] at e
      cases o with
      | dct ys =>
        cases e
        obtain ⟨vs, q, g⟩ := y
        exact ⟨_, vs, rfl, .inl q, g⟩
      | lst ys => cases e
      | ins c fs => cases e
    | _ => cases e
  | ownd q g n =>
    cases e
    exact ⟨_, _, rfl, .inl q, g⟩
  | own q g n => cases e
theorem RepA.tup (r : Rel K W S H) {xs : List D} (h : RepA K W H (.tup xs) v) : ∃ a vs, v = .ref a ∧ SqT K H a vs ∧ RepL K W xs vs := by
  cases h with
  | rep h => cases h with | tup q g => exact ⟨_, _, rfl, SqT.sub r.fz q, g⟩
theorem RepA.tup' {xs : List D} (h : RepA K W H (.tup xs) v) : Rep K W (.tup xs) v := by
  cases h with
  | rep h => exact h
theorem RepA.int {i : Int} (h : RepA K W H (.int i) v) : v = .int i := by
  cases h with
  | rep h => cases h; rfl
theorem RepA.str {i : Str} (h : RepA K W H (.str i) v) : v = .str i := by
  cases h with
  | rep h => cases h; rfl
theorem RepA.bl {i : Bool} (h : RepA K W H (.bl i) v) : v = .bl i := by
  cases h with
  | rep h => cases h; rfl
theorem RepA.non (h : RepA K W H .non v) : v = .non := by
  cases h with
  | rep h => cases h; rfl
end
end Ev
set_option Elab.async false
set_option linter.all false
set_option maxRecDepth 100000
set_option maxHeartbeats 8000000
namespace Ev
open PySem L2 PyProof.Rows PySem.Spec
section
variable {prog : Program} {w : World} {A : Around} {E : Value → Shared → Prop} {s : Shared}
theorem tuple_dict {r : Addr} {kd : KeyKind prog w L2.Key} {kvs : List (L2.Key × Value)} {ep : Nat} {Q : Value → Shared → Prop} (lo : (r == sysModules) = false) (hh : A.handled = none) (hat : s.heap.DictAt kd r kvs ep) (hn : kvs.length ≤ sizeLine)
    (h : ∀ (h' : Heap) (tk : Nat) (acc : Array Value), (∀ b o, s.heap.get? b = some o → h'.get? b = some o) → ItemsOf (fun i v => ∃ k x, kvs[i]? = some (k, x) ∧ kd.is k v = true) acc kvs.length → Q (.ref h'.objs.size) { s with heap := h'.push { cls := .type "tuple", data := .seq acc }, toks := tk }) :
    wpAny (model prog w) A (call (.type "tuple") [.ref r]) Q E s := by
  refine callType_codes (Q₁ := fun obj s₁ => s₁.TypeIs obj "tuple" ∧ Q obj s₁) PySem.F.called_tuple (PySem.F.typeCall_tuple_1 _) PySem.F.entry_object_init ?_ fun obj s₁ h₁ => ?_
  · refine codeAny_of_tree ?_
    show wpAny _ A.in1.in1 (do checkBuiltinCall "tuple.__new__" ⟨[.type "tuple", .ref r], []⟩; again (.builtin "tuple.__new__" ⟨[.type "tuple", .ref r], []⟩)) _ _ s
    refine wpAny_bind (wpAny_of_eq (PySem.F.newCall_tuple_1 _) (wpAny_pure ⟨plainId_quiet PySem.F.plain_tuple_new _, codeAny_builtin PySem.F.entry_tuple_new ?_⟩))
    rw [Around.under_plainId PySem.F.plain_tuple_new _]
    have hsub := sub_tuple_self
    have hinit := init_tuple_lookup
    have hmh := madeHere_tuple
    have hTI : s.TypeIs (.ref r) "dict" := hat.dictOf.typeIs
    unfold Builtin.«tuple.__new__»
    generalize hC : PySem.collect = CO
    wp_walk using wpAny_typeOf hTI
    subst hC
    refine PySem.W.kdu_collect (A := A.in1.in1) (PySem.W.kdl_dict (knd := kd) (kvs := kvs) (ep := ep) lo) hh hat hn fun h' tk acc hk hacc => ?_
    show wpAny _ _ (Builtin.Tuple.tupleExact acc.toList.toArray >>= fun v => PySem.ret v) _ _ _
    unfold Builtin.Tuple.tupleExact
    refine wpAny_bind (wpAny_newObj_type ?_ (by show acc.toList.toArray.size ≤ sizeLine; simp only [Array.toArray_toList]; rw [hacc.1]; exact hn))
    refine wpAny_pure ?_
    have e : acc.toList.toArray = acc := by simp
    rw [e]
    exact ⟨⟨_, Heap.get?_push_size _ rfl, rfl⟩, h h' tk acc hk hacc⟩
  · exact ⟨h₁.1, PySem.F.args_object_init_2 obj _, object_init_meets PySem.F.called_tuple.init.lookup PySem.F.called_tuple.made (by decide) prog w A.in1 _ s₁ ⟨h₁.1, rfl, h₁.2⟩⟩
end
section
variable {X : Cx}
theorem call_tupleD (hcalm : X.calm = true) : CallR X (.type "tuple") (fun xs H Q => ∃ (a : Addr) (kvs : List (L2.Key × V)), xs = [.ref a] ∧ Rd H a (.dK kvs) ∧ ∀ p, H p = none → Q (.ref p) (upd H p (.tup (kvs.map fun kv => kV kv.1)))) := by
  intro pins s σ H xs us Q I r q
  obtain ⟨a, kvs, ex, hd, q⟩ := q
  subst ex
  obtain ⟨u, eu, rx⟩ := vals1 r
  subst eu
  cases rx
  obtain ⟨z, lo, vs, rel, dd⟩ := dk_rd I.hok hd
  obtain ⟨ep, hat⟩ := dd.dictAt
  have ek : (kvs.map fun kv => kV kv.1) = vs.map fun p => kV p.1 := by
    have e := congrArg (List.map kV) rel.keys
    rw [List.map_map, List.map_map] at e
    exact e
  refine tuple_dict lo (I.ok.hd hcalm) hat (by rw [← rel.length]; exact z) fun h' tk acc hk hacc => ?_
  have hv : Vals (vs.map fun p => kV p.1) acc.toList := keys_at (by rw [Array.length_toList]; exact hacc.1) fun j v e => hacc.2 j v (by rw [← Array.getElem?_toList]; exact e)
  have I1 : Inv X pins σ H { s with heap := h', toks := tk } := I.kept hk
  have I2 : Inv X pins σ (upd H h'.objs.size (.tup (kvs.map fun kv => kV kv.1))) { s with heap := h'.push { cls := .type "tuple", data := .seq acc }, toks := tk } :=
    I1.laid (t' := tk) (fun b o e => Heap.get?_push_of_some _ e) (Nat.le_refl _) (show ObjOk X.prog X.w _ _ _ (.tup (kvs.map fun kv => kV kv.1)) from ⟨by rw [List.length_map]; exact z, acc.toList, by rw [ek]; exact hv, by rw [Array.toArray_toList]; exact IsTup.new _ _⟩)
  exact ⟨.ref h'.objs.size, _, I2, rfl, q _ (I1.hok.fresh (Nat.le_refl _))⟩
end
end Ev
set_option Elab.async false
set_option linter.all false
set_option maxRecDepth 100000
set_option maxHeartbeats 1000000
namespace Ev
open PySem L2
def RG (X : Cx) (f : Value → Value → Sem Value) : R2 := fun x y H Q => ∃ r, OpR X f r ∧ r x y H Q
theorem opR_RG {X : Cx} {f : Value → Value → Sem Value} : OpR X f (RG X f) := fun pins s σ H x y v u Q I rx ry ⟨_, h, q⟩ => h pins s σ H x y v u Q I rx ry q
def CG (X : Cx) (f : Value) : List V → Hp → VK → Prop := fun xs H Q => ∃ r, CallR X f r ∧ r xs H Q
theorem callR_CG {X : Cx} {f : Value} : CallR X f (CG X f) := fun pins s σ H xs us Q I rx ⟨_, h, q⟩ => h pins s σ H xs us Q I rx q
def IG (X : Cx) : R2 := fun x y H Q => ∃ r, IxR X r ∧ r x y H Q
theorem ixR_IG {X : Cx} : IxR X (IG X) := fun value slice pins s σ H x y v u Q I rx ry ⟨_, h, q⟩ => h value slice pins s σ H x y v u Q I rx ry q
def SG (X : Cx) : V → Option Int → Option Int → Hp → VK → Prop := fun x lo hi H Q => ∃ r, L2.SlR X r ∧ r x lo hi H Q
theorem slR_SG {X : Cx} : L2.SlR X (SG X) := fun pins s σ H x v vl vu lo hi sl Q I rx hs pl pu ⟨_, h, q⟩ => h pins s σ H x v vl vu lo hi sl Q I rx hs pl pu q
def MG (X : Cx) (id : String) : V → List V → Hp → VK → Prop := fun x xs H Q => ∃ r, MtR X id r ∧ r x xs H Q
theorem mtR_MG {X : Cx} {id : String} : MtR X id (MG X id) := fun pins s σ H x xs v us Q I rx rs ⟨_, h, q⟩ => h pins s σ H x xs v us Q I rx rs q
section
variable {X : Cx} {W : Wd} {S : List Ob} {H : Hp} {Q : VK}
/-- what is wanted of a value that a step gives -/
def Fin (X : Cx) (W : Wd) (S : List Ob) (H : Hp) (d : D) (Q : VK) : Prop := ∀ W' H' v, Ext W H W' H' → Rel X.K W' S H' → Rep X.K W' d v → Q v H'
theorem Fin.int (r : Rel X.K W S H) {i : Int} (q : Fin X W S H (.int i) Q) : Q (.int i) H := q W H _ .refl r (.int i)
theorem Fin.str (r : Rel X.K W S H) {i : Str} (q : Fin X W S H (.str i) Q) : Q (.str i) H := q W H _ .refl r (.str i)
theorem Fin.bl (r : Rel X.K W S H) {i : Bool} (q : Fin X W S H (.bl i) Q) : Q (.bl i) H := q W H _ .refl r (.bl i)
theorem Fin.at (r : Rel X.K W S H) {d : D} {v : V} (q : Fin X W S H d Q) (h : Rep X.K W d v) : Q v H := q W H v .refl r h
theorem Fin.lst (r : Rel X.K W S H) {xs : List D} {vs : List V} (q : Fin X W S H (.lst xs) Q) (g : RepL X.K W xs vs) {p : Addr} (hp : H p = none) : Q (.ref p) (upd H p (.lst vs)) := by
  obtain ⟨e, r'⟩ := r.alloc (o := .lst vs) hp
  exact q _ _ _ e r' (.lst upd_same (g.mono e.le))
theorem Fin.tup (r : Rel X.K W S H) {xs : List D} {vs : List V} (q : Fin X W S H (.tup xs) Q) (g : RepL X.K W xs vs) {p : Addr} (hp : H p = none) : Q (.ref p) (upd H p (.tup vs)) := by
  obtain ⟨e, r'⟩ := r.alloc (o := .tup vs) hp
  exact q _ _ _ e r' (.tup (.inl (.inl upd_same)) (g.mono e.le))
theorem Fin.dct (r : Rel X.K W S H) {xs : List (Key × D)} {vs : List (Key × V)} (q : Fin X W S H (.dct xs) Q) (g : RepK X.K W xs vs) {p : Addr} {od : Obj} (hp : H p = none) : Q (.ref p) (upd H p (.frz od (.dK vs))) := by
  obtain ⟨e, r'⟩ := r.alloc (o := .frz od (.dK vs)) hp
  exact q _ _ _ e r' (.dct upd_same (g.mono e.le))
theorem op_mul_str : OpR X (binaryOp .Mult) (fun x y H Q => ∃ i k, x = .str i ∧ y = .int k ∧ (2 ≤ k ∧ k ≤ 1000 ∧ 1 ≤ i.length ∧ i.length ≤ 1000) ∧ Q (.str ⟨(List.replicate k.toNat i.cps).foldl (· ++ ·) #[]⟩) H) := by
  intro pins s σ H x y v u Q I rx ry h
  obtain ⟨i, k, rfl, rfl, ⟨h1, h2, h3, h4⟩, q⟩ := h
  obtain ⟨t, rfl⟩ := rx
  obtain ⟨t', rfl⟩ := ry
  have hz : i.length * k.toNat ≤ 1000 * 1000 := Nat.mul_le_mul h4 (by omega)
  have hs : (sizeLine : Nat) = 16777216 := by decide
  refine PySem.P.mul_str ?_ (fun _ _ => ?_) (fun _ _ => ?_) ?_
  · have a1 : ¬ k < -(2 ^ 63) := by omega
    have a2 : ¬ k ≥ 2 ^ 63 := by omega
    rw [decide_eq_false a1, decide_eq_false a2]; rfl
  · have : (1000 : Int) ≤ (2 ^ 63 - 1) / k := Int.le_ediv_of_mul_le (by omega) (by omega)
    omega
  · exact decide_eq_false (by omega)
  · have a1 : ¬ k < 1 := by omega
    have a2 : (k == 1 || i.length == 0) = false := by
      have b1 : (k == 1) = false := by simp; omega
      have b2 : (i.length == 0) = false := by simp; omega
      rw [b1, b2]; rfl
    rw [if_neg a1, if_neg (by rw [a2]; exact Bool.false_ne_true)]
    refine ⟨?_, ⟨.str _, H, I.tok _, ⟨_, rfl⟩, q⟩⟩
    have : ∀ (n : Nat) (acc : Array Nat), ((List.replicate n i.cps).foldl (· ++ ·) acc).size = acc.size + n * i.cps.size := by
      intro n
      induction n with
      | zero => intro acc; simp
      | succ n ih =>
        intro acc
        rw [List.replicate_succ, List.foldl_cons, ih, Array.size_append, Nat.succ_mul]
        omega
    have e := this k.toNat #[]
    have e2 : i.cps.size * k.toNat ≤ 1000 * 1000 := hz
    rw [Nat.mul_comm] at e2
    show ((List.replicate k.toNat i.cps).foldl (· ++ ·) #[]).size ≤ _
    rw [e]
    simp only [List.size_toArray, List.length_nil]
    omega
theorem bin_ok (r : Rel X.K W S H) {a b d : D} {x y : V} {o : BO} {p : Operator} (ho : boOf p = some o) (ra : RepA X.K W H a x) (rb : RepA X.K W H b y) (e : binS S o a b = some d) (q : Fin X W S H d Q) : RG X (binaryOp p) x y H Q := by
  unfold binS at e
  split at e
  · cases p <;> cases ho
    cases e; cases ra.int; cases rb.int
    exact ⟨_, op_add, _, _, rfl, rfl, q.int r⟩
  · cases p <;> cases ho
    cases ra.str; cases rb.str
    split at e
    · cases e
      exact ⟨_, op_add_str, _, _, rfl, rfl, by assumption, q.str r⟩
    · cases e
  · cases p <;> cases ho
    split at e
    · rename_i hz
      cases e
      have ka := ra.tup'
      have kb := rb.tup'
      obtain ⟨a1, vs, rfl, h1, g1⟩ := ra.tup r
      obtain ⟨a2, ws, rfl, h2, g2⟩ := rb.tup r
      have l1 := g1.length
      have l2 := g2.length
      refine ⟨_, op_catA, a1, a2, vs, ws, rfl, rfl, h1, h2, by omega, fun z => ?_, fun _ z => ?_, fun _ _ p hp => q.tup r (g1.append g2) hp⟩
      · rw [z] at l1
        have z' := List.length_eq_zero_iff.mp l1
        rw [z', List.nil_append] at q
        exact q.at r kb
      · rw [z] at l2
        have z' := List.length_eq_zero_iff.mp l2
        rw [z', List.append_nil] at q
        exact q.at r ka
    · cases e
  · cases p <;> cases ho
    split at e
    · rename_i xs ys h1 h2
      split at e
      · rename_i hz
        cases e
        obtain ⟨a1, vs, rfl, k1, g1⟩ := ra.lstOf r h1
        obtain ⟨a2, ws, rfl, k2, g2⟩ := rb.lstOf r h2
        have l1 := g1.length
        have l2 := g2.length
        exact ⟨_, op_cat, a1, a2, vs, ws, rfl, rfl, k1, k2, by omega, fun p hp => q.lst r (g1.append g2) hp⟩
      · cases e
    · cases e
  · cases p <;> cases ho
    cases e; cases ra.int; cases rb.int
    exact ⟨_, op_sub, _, _, rfl, rfl, q.int r⟩
  · cases p <;> cases ho
    cases ra.int; cases rb.int
    split at e
    · cases e
      exact ⟨_, op_mulW, _, _, rfl, rfl, by assumption, q.int r⟩
    · cases e
  · cases p <;> cases ho
    cases ra.str; cases rb.int
    split at e
    · cases e
      exact ⟨_, op_mul_str, _, _, rfl, rfl, by assumption, q.str r⟩
    · cases e
  · cases p <;> cases ho
    cases rb.int
    split at e
    · rename_i xs h1
      split at e
      · rename_i hz
        cases e
        obtain ⟨a1, vs, rfl, k1, g1⟩ := ra.lstOf r h1
        have l1 := g1.length
        exact ⟨_, op_rep, a1, _, vs, rfl, rfl, k1, hz.1, hz.2.1, by rw [← l1]; exact hz.2.2, fun p hp => q.lst r (g1.rep _) hp⟩
      · cases e
    · cases e
  · cases p <;> cases ho
    cases ra.int; cases rb.int
    split at e
    · cases e
      exact ⟨_, op_fdivW, _, _, rfl, rfl, by assumption, q.int r⟩
    · cases e
  · cases p <;> cases ho
    cases ra.int; cases rb.int
    split at e
    · cases e
      exact ⟨_, op_mod, _, _, rfl, rfl, by assumption, q.int r⟩
    · cases e
  · cases p <;> cases ho
    cases ra.int; cases rb.int
    split at e
    · cases e
      exact ⟨_, op_pow, _, _, rfl, rfl, by assumption, q.int r⟩
    · cases e
  · cases e
def TruA (K : PySem.W.Frag) (v : V) (H : Hp) (k : Bool) : Prop := TruV K v H k ∨ ∃ p kvs, v = .ref p ∧ Rd H p (.dK kvs) ∧ k = !kvs.isEmpty
theorem truA_ok {pins : List (Addr × Obj)} {s : Shared} {σ : L2.St} {v : V} {u : Value} {k : Bool} {Q : Bool → Hp → Prop} (I : Inv X pins σ H s) (rx : RelV v u) (t : TruA X.K v H k) (q : Q k H) : wpAny (model X.prog X.w) X.A (truthy u) (TP X pins σ Q) X.xe s := by
  rcases t with t | ⟨p, kvs, rfl, h, rfl⟩
  · exact tru_ok pins s σ H v u Q I rx ⟨k, t, q⟩
  · cases rx
    exact d_truth I h fun s' I' => ⟨H, I', q⟩
theorem truth_ok (r : Rel X.K W S H) {d : D} {v : V} {k : Bool} (ra : RepA X.K W H d v) (e : truth S d = some k) : TruA X.K v H k := by
  unfold truth at e
  split at e
  · cases e; cases ra.non; exact .inl rfl
  · cases e; cases ra.bl; exact .inl rfl
  · cases e; cases ra.int; exact .inl rfl
  · cases ra.str
    split at e
    · cases e
      exact .inl ⟨by assumption, rfl⟩
    · cases e
  · split at e
    · rename_i xs h
      cases e
      obtain ⟨a, vs, rfl, k, g⟩ := ra.seqOf r h
      have l := g.length
      have z : (!xs.isEmpty) = !vs.isEmpty := by
        cases xs <;> cases vs <;> simp at l <;> rfl
      rcases k with k | k
      · exact .inl (.inl ⟨vs, k, z⟩)
      · exact .inl (.inr (.inl ⟨vs, k, z⟩))
    · split at e
      · rename_i xs h
        cases e
        obtain ⟨a, vs, rfl, k, g⟩ := ra.dctOf r h
        have l := g.length
        have z : (!xs.isEmpty) = !vs.isEmpty := by
          cases xs <;> cases vs <;> simp at l <;> rfl
        exact .inr ⟨a, vs, rfl, k, z⟩
      · cases e
mutual
theorem dp0 {K : PySem.W.Frag} (fz : ∀ b o, W.F b = some o → H b = some o) : ∀ {d : D} {v : V} {p : PyData}, Rep K W d v → toPy0 d = some p → Dp K H v p
  | _, _, _, .non, e => by cases e; exact .non
  | _, _, _, .bl b, e => by cases e; exact .bl b
  | _, _, _, .int b, e => by cases e; exact .int b
  | _, _, _, .str b, e => by cases e; exact .str b
  | .tup xs, _, _, .tup h g, e => by
    simp only [toPy0] at e
    cases z : toPy0s xs with
    | none => rw [z] at e; cases e
    | some ds =>
      rw [z] at e
      cases e
      exact .tup (SqT.sub fz h) (dp0s fz g z)
  | .lst xs, _, _, .lst h g, e => by
    simp only [toPy0] at e
    cases z : toPy0s xs with
    | none => rw [z] at e; cases e
    | some ds =>
      rw [z] at e
      cases e
      exact .lst (SqL.of (fz _ _ h)) (dp0s fz g z)
  | .frz xs, _, _, .frz h g, e => by
    simp only [toPy0] at e
    cases z : toPy0s xs with
    | none => rw [z] at e; cases e
    | some ds =>
      rw [z] at e
      cases e
      exact .lst (SqL.sub fz h) (dp0s fz g z)
  | _, _, _, .dct h g, e => by simp only [toPy0] at e; cases e
  | _, _, _, .obj h, e => by simp only [toPy0] at e; cases e
theorem dp0s {K : PySem.W.Frag} (fz : ∀ b o, W.F b = some o → H b = some o) : ∀ {ds : List D} {vs : List V} {ps : List PyData}, RepL K W ds vs → toPy0s ds = some ps → DpAll K H vs ps
  | _, _, _, .nil, e => by cases e; exact .nil
  | x :: xs, _, _, .cons h g, e => by
    simp only [toPy0s] at e
    cases z : toPy0 x with
    | none => rw [z] at e; cases e
    | some d =>
      cases z2 : toPy0s xs with
      | none => rw [z, z2] at e; cases e
      | some ds =>
        rw [z, z2] at e
        cases e
        exact .cons (dp0 fz h z) (dp0s fz g z2)
end
theorem dp_of (r : Rel X.K W S H) {d : D} {v : V} {p : PyData} (ra : RepA X.K W H d v) (e : toPy S d = some p) : Dp X.K H v p := by
  cases ra with
  | rep h =>
    by_cases z : ∃ i, d = .obj i
    · obtain ⟨i, z⟩ := z
      subst z
      cases h with
      | obj hi =>
        obtain ⟨o, z⟩ : ∃ o, S[i]? = some o := ⟨_, List.getElem?_eq_getElem (by rw [← r.n]; exact hi)⟩
        have y := r.ob i _ z
        simp only [toPy, z] at e
        cases o with
        | lst ys =>
          obtain ⟨vs, q, g⟩ := y
          cases z2 : toPy0s ys with
          | none => simp only [z2] at e; cases e
          | some ds =>
            simp only [z2] at e
            cases e
            exact .lst (SqL.of q) (dp0s r.fz g z2)
        | dct ys => cases e
        | ins c fs => cases e
    · have e' : toPy0 d = some p := by
        cases d <;> first | exact e | exact absurd ⟨_, rfl⟩ z
      exact dp0 r.fz h e'
  | @own xs a vs q g n =>
    have e : toPy0 (.lst xs) = some p := e
    simp only [toPy0] at e
    cases z2 : toPy0s xs with
    | none => simp only [z2] at e; cases e
    | some ds =>
      simp only [z2] at e
      cases e
      exact .lst (SqL.of q) (dp0s r.fz g z2)
  | ownd q g n => cases e
theorem flat_of {d : D} {v : V} (ra : RepA X.K W H d v) (f : flatD d = true) : v = vOf d ∧ flatV v = true := by
  cases d with
  | non => cases ra.non; exact ⟨rfl, rfl⟩
  | bl b => cases ra.bl; exact ⟨rfl, rfl⟩
  | int b => cases ra.int; exact ⟨rfl, rfl⟩
  | str b => cases ra.str; exact ⟨rfl, rfl⟩
  | _ => cases f
theorem flats_of : ∀ {ds : List D} {vs : List V}, RepL X.K W ds vs → ds.all flatD = true → vs = ds.map vOf ∧ vs.all flatV = true
  | _, _, .nil, _ => ⟨rfl, rfl⟩
  | _, _, .cons h g, f => by
    rw [List.all_cons, Bool.and_eq_true] at f
    obtain ⟨e1, f1⟩ := flat_of (X := X) (H := fun _ => none) (.rep h) f.1
    obtain ⟨e2, f2⟩ := flats_of g f.2
    refine ⟨by rw [List.map_cons, ← e1, ← e2], ?_⟩
    rw [List.all_cons, f1, f2]
    rfl
theorem key_of {d : D} {v : V} {k : Key} (ra : RepA X.K W H d v) (e : keyOf d = some k) : v = kV k := by
  cases d with
  | int b => cases e; cases ra.int; rfl
  | str b => cases e; cases ra.str; rfl
  | _ => cases e
theorem in_ok (hu : X.A.units + 64 < cLine) (r : Rel X.K W S H) {a b : D} {x y : V} {k : Bool} (neg : Bool) {op : CmpOp} (hop : op = if neg then .NotIn else .In) (ra : RepA X.K W H a x) (rb : RepA X.K W H b y) (e : inS S a b = some k)
    (q : Q (.bl (if neg then !k else k)) H) : RG X (compareOp op) x y H Q := by
  unfold inS at e
  split at e
  · rename_i z
    cases rb.str
    split at e
    · rename_i c
      cases ra.str
      split at e
      · rename_i h1
        cases e
        obtain ⟨n, hc⟩ : ∃ n, c = (⟨#[n]⟩ : Str) := by
          obtain ⟨cps⟩ := c
          have h1 : cps.size = 1 := h1
          obtain ⟨l⟩ := cps
          match l, h1 with
          | [n], _ => exact ⟨n, rfl⟩
        subst hc
        cases neg with
        | true => subst hop; exact ⟨_, op_notIn_sign, n, z, rfl, rfl, q⟩
        | false => subst hop; exact ⟨_, op_in_sign, n, z, rfl, rfl, q⟩
      · cases e
        cases neg with
        | true => subst hop; exact ⟨_, op_notin_str, c, z, rfl, rfl, q⟩
        | false => subst hop; exact ⟨_, op_in_str, c, z, rfl, rfl, q⟩
    · cases e
  · split at e
    · rename_i kvs h1
      split at e
      · rename_i kk h2
        cases e
        have e2 := key_of ra h2
        subst e2
        obtain ⟨d, kv, rfl, hd, g⟩ := rb.dctOf r h1
        have g0 : DGet H d (kV kk) (valV kv kk) := .inl ⟨kv, kk, hd, rfl, rfl⟩
        have e3 : (kGet kvs kk).isSome = (valV kv kk).isSome := by
          rcases g.get kk with ⟨z1, z2⟩ | ⟨x1, v1, z1, z2, _⟩ <;> rw [z1, z2] <;> rfl
        rw [e3] at q
        cases neg with
        | true => subst hop; exact ⟨fun x y H Q => ∃ a o, y = .ref a ∧ DGet H a x o ∧ Q (.bl (!o.isSome)) H, fun pins s σ H x y v u Q I rx ry ⟨a, o, ey, gg, qq⟩ => by
            subst ey
            cases ry
            exact d_notIn (by omega) I gg rx fun s' I' => ⟨.bl _, H, I', rfl, qq⟩, d, _, rfl, g0, q⟩
        | false => subst hop; exact ⟨fun x y H Q => ∃ a o, y = .ref a ∧ DGet H a x o ∧ Q (.bl o.isSome) H, fun pins s σ H x y v u Q I rx ry ⟨a, o, ey, gg, qq⟩ => by
            subst ey
            cases ry
            exact d_in (by omega) I gg rx fun s' I' => ⟨.bl _, H, I', rfl, qq⟩, d, _, rfl, g0, q⟩
      · cases e
    · split at e
      · rename_i ys h1
        obtain ⟨p, vs, rfl, hp, g⟩ := rb.seqOf r h1
        unfold inD at e
        split at e
        · rename_i hf
          rw [Bool.and_eq_true] at hf
          cases e
          obtain ⟨e1, f1⟩ := flat_of ra hf.1
          obtain ⟨e2, f2⟩ := flats_of g hf.2
          rw [← e1, ← e2] at q
          cases neg with
          | true => subst hop; exact ⟨_, op_notIn_seq, p, vs, rfl, hp, f1, f2, q⟩
          | false => subst hop; exact ⟨_, op_in_seq, p, vs, rfl, hp, f1, f2, q⟩
        · cases e
      · cases e
theorem is_ok (r : Rel X.K W S H) {a b : D} {x y : V} {k : Bool} (neg : Bool) {op : CmpOp} (hop : op = if neg then .IsNot else .Is) (ra : RepA X.K W H a x) (rb : RepA X.K W H b y) (e : isS a b = some k)
    (q : Q (.bl (if neg then !k else k)) H) : RG X (compareOp op) x y H Q := by
  unfold isS at e
  split at e
  · cases rb.non
    have ek : k = decide (x = .non) := by
      split at e
      · cases e
        cases ra.non
        rfl
      · rename_i hne
        cases e
        refine (decide_eq_false fun z => hne ?_).symm
        subst z
        cases ra with
        | rep h => cases h; rfl
    subst ek
    cases neg with
    | true => subst hop; exact ⟨_, op_notN, rfl, q⟩
    | false => subst hop; exact ⟨_, op_isN, rfl, q⟩
  · rename_i c
    cases rb.bl
    split at e
    · rename_i b'
      cases e
      cases ra.bl
      have ek : (b' == c) = decide (b' = c) := by cases b' <;> cases c <;> rfl
      rw [ek] at q
      cases neg with
      | true => subst hop; exact ⟨_, op_notBl, _, _, rfl, rfl, q⟩
      | false => subst hop; exact ⟨_, op_isBl, _, _, rfl, rfl, q⟩
    · cases e
      cases ra.non
      cases neg with
      | true => subst hop; exact ⟨fun x y H Q => x = .non ∧ (∃ b, y = .bl b) ∧ Q (.bl true) H, fun pins s σ H x y v u Q I rx ry ⟨e1, ⟨b, e2⟩, qq⟩ => by
          subst e1 e2
          cases rx
          cases ry
          exact wpAny_isNot_other rfl (fun z => by cases z) ⟨.bl _, H, I, rfl, qq⟩, rfl, ⟨_, rfl⟩, q⟩
      | false => subst hop; exact ⟨fun x y H Q => x = .non ∧ (∃ b, y = .bl b) ∧ Q (.bl false) H, fun pins s σ H x y v u Q I rx ry ⟨e1, ⟨b, e2⟩, qq⟩ => by
          subst e1 e2
          cases rx
          cases ry
          exact wpAny_is_other rfl (fun z => by cases z) ⟨.bl _, H, I, rfl, qq⟩, rfl, ⟨_, rfl⟩, q⟩
    · cases e
  · cases e
def rNilL (K : PySem.W.Frag) (neg : Bool) : R2 := fun x y H Q => ∃ a b xs, x = .ref a ∧ y = .ref b ∧ SqL K H a xs ∧ SqL K H b [] ∧ Q (.bl (if neg then !xs.isEmpty else xs.isEmpty)) H
theorem nil_size {xs : List V} {its : List Value} (r : Vals xs its) : its.toArray.size = xs.length := by
  rw [List.size_toArray, r.length]
theorem op_eqNil (hu : X.A.units + 64 < cLine) : OpR X (compareOp .Eq) (rNilL X.K false) := by
  intro pins s σ H x y v u Q I rx ry h
  obtain ⟨a, b, xs, rfl, rfl, h1, h2, q⟩ := h
  cases rx
  cases ry
  obtain ⟨its, rv, p1, _⟩ := I.list h1
  obtain ⟨its2, rv2, p2, _⟩ := I.list h2
  cases rv2
  have hu' : X.A.units < cLine := by omega
  cases xs with
  | nil =>
    cases rv
    have z := SeqAt.RcAt.lists (A := X.A) (e := fun _ => true) p1.isList p2.isList rfl hu' (fun j h1 _ => absurd h1 (Nat.not_lt_zero j))
    exact z X.prog X.w X.xe _ ⟨.bl true, H, I, rfl, q⟩
  | cons x xs =>
    have hs : (its.toArray.size != (#[] : Array Value).size) = true := by
      rw [nil_size rv]
      rfl
    have z := SeqAt.RcAt.lists_lengths (A := X.A) p1.isList p2.isList hs hu'
    exact z X.prog X.w X.xe _ ⟨.bl false, H, I, rfl, q⟩
theorem op_neNil (hu : X.A.units + 64 < cLine) : OpR X (compareOp .NotEq) (rNilL X.K true) := by
  intro pins s σ H x y v u Q I rx ry h
  obtain ⟨a, b, xs, rfl, rfl, h1, h2, q⟩ := h
  cases rx
  cases ry
  obtain ⟨its, rv, p1, _⟩ := I.list h1
  obtain ⟨its2, rv2, p2, _⟩ := I.list h2
  cases rv2
  have hu' : X.A.units < cLine := by omega
  cases xs with
  | nil =>
    cases rv
    have z := SeqAt.RcNeAt.lists (A := X.A) (e := fun _ => true) p1.isList p2.isList rfl hu' (fun j h1 _ => absurd h1 (Nat.not_lt_zero j))
    exact z X.prog X.w X.xe _ ⟨.bl false, H, I, rfl, q⟩
  | cons x xs =>
    have hs : (its.toArray.size != (#[] : Array Value).size) = true := by
      rw [nil_size rv]
      rfl
    have z := SeqAt.RcNeAt.lists_lengths (A := X.A) p1.isList p2.isList hs hu'
    exact z X.prog X.w X.xe _ ⟨.bl true, H, I, rfl, q⟩
def rNilK : R2 := fun x y H Q => ∃ a b kvs, x = .ref a ∧ y = .ref b ∧ Rd H a (.dK kvs) ∧ Rd H b (.dK []) ∧ Q (.bl kvs.isEmpty) H
theorem op_eqNilK (hu : X.A.units + 64 < cLine) : OpR X (compareOp .Eq) rNilK := by
  intro pins s σ H x y v u Q I rx ry h
  obtain ⟨a, b, kvs, rfl, rfl, h1, h2, q⟩ := h
  cases rx
  cases ry
  obtain ⟨_, hd1, vs, r1, d1⟩ := dk_rd I.hok h1
  obtain ⟨_, hd2, vs2, r2, d2⟩ := dk_rd I.hok h2
  cases r2
  refine PySem.W.rcP_dicts (r := true) hd1 hd2 d1 d2 (by omega) (fun e => ?_) _ _ ?_
  · cases vs with
    | nil => exact .nil
    | cons _ _ => cases e
  · refine ⟨.bl kvs.isEmpty, H, I, ?_, q⟩
    cases r1 <;> rfl
theorem dict_ne_none {prog : Program} {w : World} {A : Around} {E : Value → Shared → Prop} {s : Shared} {b : Addr} (tb : s.TypeIs (.ref b) "dict") (Q : Value → Shared → Prop) (h : Q .notImplemented s) :
    wpAny (model prog w) A (call (.builtin "dict.__ne__") [.ref b, .none]) Q E s := by
  refine wpAny_call_entry PySem.F.slot_dict_ne tb PySem.F.entry_dict_ne ?_ (PySem.F.args_dict_ne_2 _ _)
  show wpAny _ _ (Builtin.Dict.dictSlotArgs "__ne__" ⟨[.ref b, .none], []⟩ >>= _) _ _ s
  refine wpAny_bind ?_
  unfold Builtin.Dict.dictSlotArgs
  refine wpAny_bind (wpAny_notOrdered_dict tb ?_)
  show wpAny _ _ (pure (Value.ref b, Value.none)) _ _ s
  refine wpAny_pure ?_
  refine wpAny_bind (wpAny_isInstance (T := "NoneType") rfl PySem.F.sub_NoneType_dict ?_)
  simp only [Bool.not_false, if_true]
  wp_walk
  exact ⟨_, rfl, h⟩
theorem op_neNonK (hu : X.A.units + 64 < cLine) : OpR X (compareOp .NotEq) (fun x y H Q => x = .non ∧ ∃ b kvs, y = .ref b ∧ Rd H b (.dK kvs) ∧ Q (.bl true) H) := by
  intro pins s σ H x y v u Q I rx ry h
  obtain ⟨rfl, b, kvs, rfl, h2, q⟩ := h
  cases rx
  cases ry
  obtain ⟨_, hd2, vs2, r2, d2⟩ := dk_rd I.hok h2
  have hu' : X.A.units < cLine := by omega
  exact SeqAt.rc_ne_decline_or (k := false) rfl d2.typeIs (by decide) PySem.F.sub_dict_NoneType PySem.F.slot_NoneType_ne PySem.F.slot_dict_ne
    (fun _ hq => call_gives PySem.F.slot_NoneType_ne rfl PySem.F.entry_NoneType_ne (PySem.F.args_NoneType_ne_2 _ _) (SeqAt.NoneType___ne___none_ref_0 b) hq)
    (fun _ hq => dict_ne_none d2.typeIs _ hq)
    (fun _ hq => wpAny_of_eq (rfl : isSame .none (.ref b) = pure false) hq) (.inr hu') ⟨.bl true, H, I, rfl, q⟩
theorem op_neNilK (hu : X.A.units + 64 < cLine) : OpR X (compareOp .NotEq) (fun x y H Q => ∃ a b kvs, x = .ref a ∧ y = .ref b ∧ Rd H a (.dK kvs) ∧ Rd H b (.dK []) ∧ Q (.bl !kvs.isEmpty) H) := by
  intro pins s σ H x y v u Q I rx ry h
  obtain ⟨a, b, kvs, rfl, rfl, h1, h2, q⟩ := h
  cases rx
  cases ry
  obtain ⟨_, hd1, vs, r1, d1⟩ := dk_rd I.hok h1
  obtain ⟨_, hd2, vs2, r2, d2⟩ := dk_rd I.hok h2
  cases r2
  refine wpAny_richCompare_same_room (op := .NotEq) d1.typeIs d2.typeIs PySem.F.slot_dict_ne (wpAny_call_entry PySem.F.slot_dict_ne d1.typeIs PySem.F.entry_dict_ne ?_ (PySem.F.args_dict_ne_2 _ _)) (by omega)
  show wpAny _ _ (Builtin.Dict.dictSlotArgs "__ne__" ⟨[.ref a, .ref b], []⟩ >>= _) _ _ s
  refine wpAny_bind ?_
  unfold Builtin.Dict.dictSlotArgs
  refine wpAny_bind (wpAny_notOrdered_dict d1.typeIs ?_)
  show wpAny _ _ (pure (Value.ref a, Value.ref b)) _ _ s
  refine wpAny_pure (wpAny_bind (wpAny_isInstance (T := "dict") d2.typeIs PySem.F.sub_dict_dict ?_))
  simp only [Bool.not_true, Bool.false_eq_true, if_false]
  refine wpAny_bind (wpAny_pure (wpAny_bind (wpAny_pure (wpAny_bind ?_))))
  refine PySem.W.samePairsP (r := true) hd1 hd2 d1 d2 (fun e => ?_) ?_
  · cases vs with
    | nil => exact .nil
    | cons _ _ => cases e
  · refine wpAny_pure ⟨_, rfl, (fun x => nomatch x), .bl !kvs.isEmpty, H, I, ?_, q⟩
    cases r1 <;> rfl
theorem cmp_ok (hu : X.A.units + 64 < cLine) (r : Rel X.K W S H) {a b d : D} {x y : V} {o : CO} {p : CmpOp} (ho : coOf p = some o) (ra : RepA X.K W H a x) (rb : RepA X.K W H b y) (e : cmpS S o a b = some d) (q : Fin X W S H d Q) : RG X (compareOp p) x y H Q := by
  unfold cmpS at e
  have hnil : ∀ {k : Bool}, nilL S a b = some k → ∃ a' b' xs, x = .ref a' ∧ y = .ref b' ∧ SqL X.K H a' xs ∧ SqL X.K H b' [] ∧ k = xs.isEmpty := fun {k} h => by
    unfold nilL at h
    split at h
    · rename_i xs h1 h2
      cases h
      obtain ⟨p1, vs, e1, s1, g1⟩ := ra.lstF r h1
      obtain ⟨p2, ws, e2, s2, g2⟩ := rb.lstF r h2
      cases g2
      refine ⟨p1, p2, vs, e1, e2, s1, s2, ?_⟩
      cases g1 <;> rfl
    · cases h
  have hnilk : ∀ {k : Bool}, nilK S a b = some k → ∃ a' b' xs, x = .ref a' ∧ y = .ref b' ∧ Rd H a' (.dK xs) ∧ Rd H b' (.dK []) ∧ k = xs.isEmpty := fun {k} h => by
    unfold nilK at h
    split at h
    · rename_i xs h1 h2
      cases h
      obtain ⟨p1, vs, e1, s1, g1⟩ := ra.dctOf r h1
      obtain ⟨p2, ws, e2, s2, g2⟩ := rb.dctOf r h2
      cases g2
      refine ⟨p1, p2, vs, e1, e2, s1, s2, ?_⟩
      cases g1 <;> rfl
    · cases h
  have hneK : ∀ {k : Bool}, neK S a b = some k → (x = .non ∧ k = true ∧ ∃ b' xs, y = .ref b' ∧ Rd H b' (.dK xs)) ∨ ∃ a' b' xs, x = .ref a' ∧ y = .ref b' ∧ Rd H a' (.dK xs) ∧ Rd H b' (.dK []) ∧ k = !xs.isEmpty := fun {k} h => by
    unfold neK at h
    split at h
    · split at h
      · rename_i xs h2
        cases h
        obtain ⟨p2, ws, e2, s2, g2⟩ := rb.dctOf r h2
        exact .inl ⟨ra.non, rfl, p2, ws, e2, s2⟩
      · cases h
    · split at h
      · rename_i k2 h2
        cases h
        obtain ⟨p1, p2, vs, e1, e2, s1, s2, e3⟩ := hnilk h2
        exact .inr ⟨p1, p2, vs, e1, e2, s1, s2, by rw [e3]⟩
      · cases h
  split at e
  · cases p <;> cases ho
    cases e; cases ra.str; cases rb.str
    rename_i z1 z2
    have h : decide (V.str z1 = V.str z2) = decide (z1 = z2) := by simp
    exact ⟨_, op_eq, rfl, by rw [h]; exact q.bl r⟩
  · cases p <;> cases ho
    cases e; cases ra.str; cases rb.str
    rename_i z1 z2
    have h : decide (V.str z1 = V.str z2) = decide (z1 = z2) := by simp
    exact ⟨_, op_ne, rfl, by rw [h]; exact q.bl r⟩
  · cases p <;> cases ho
    split at e
    · rename_i k hk
      cases e
      obtain ⟨p1, p2, vs, rfl, rfl, s1, s2, rfl⟩ := hnilk hk
      exact ⟨_, op_eqNilK hu, p1, p2, vs, rfl, rfl, s1, s2, q.bl r⟩
    · unfold eqD at e
      split at e
      · rename_i k hk
        cases e
        obtain ⟨p1, p2, vs, rfl, rfl, s1, s2, rfl⟩ := hnil hk
        exact ⟨_, op_eqNil hu, p1, p2, vs, rfl, rfl, s1, s2, q.bl r⟩
      · split at e
        · rename_i pa pb h1 h2
          split at e
          · rename_i hs
            rw [Bool.and_eq_true] at hs
            cases e
            exact ⟨_, op_eqD hu, pa, pb, dp_of r ra h1, dp_of r rb h2, hs.1, hs.2, q.bl r⟩
          · cases e
        · cases e
  · cases p <;> cases ho
    split at e
    · rename_i k hk
      cases e
      rcases hneK hk with ⟨rfl, rfl, p2, vs, rfl, s2⟩ | ⟨p1, p2, vs, rfl, rfl, s1, s2, rfl⟩
      · exact ⟨_, op_neNonK hu, rfl, p2, vs, rfl, s2, q.bl r⟩
      · exact ⟨_, op_neNilK hu, p1, p2, vs, rfl, rfl, s1, s2, q.bl r⟩
    · unfold eqD at e
      split at e
      · rename_i k hk
        cases e
        obtain ⟨p1, p2, vs, rfl, rfl, s1, s2, rfl⟩ := hnil hk
        exact ⟨_, op_neNil hu, p1, p2, vs, rfl, rfl, s1, s2, q.bl r⟩
      · split at e
        · rename_i pa pb h1 h2
          split at e
          · rename_i hs
            rw [Bool.and_eq_true] at hs
            cases e
            exact ⟨_, op_neD hu, pa, pb, dp_of r ra h1, dp_of r rb h2, hs.1, hs.2, q.bl r⟩
          · cases e
        · cases e
  · cases p <;> cases ho
    cases e; cases ra.int; cases rb.int
    exact ⟨_, op_lt, _, _, rfl, rfl, q.bl r⟩
  · cases p <;> cases ho
    cases e; cases ra.int; cases rb.int
    exact ⟨_, op_le, _, _, rfl, rfl, q.bl r⟩
  · cases p <;> cases ho
    cases e; cases ra.int; cases rb.int
    exact ⟨_, op_gt, _, _, rfl, rfl, q.bl r⟩
  · cases p <;> cases ho
    cases e; cases ra.int; cases rb.int
    exact ⟨_, op_ge, _, _, rfl, rfl, q.bl r⟩
  · cases p <;> cases ho
    cases h : inS S a b with
    | none => rw [h] at e; cases e
    | some k => rw [h] at e; cases e; exact in_ok hu r false rfl ra rb h (q.bl r)
  · cases p <;> cases ho
    cases h : inS S a b with
    | none => rw [h] at e; cases e
    | some k => rw [h] at e; cases e; exact in_ok hu r true rfl ra rb h (q.bl r)
  · cases p <;> cases ho
    cases h : isS a b with
    | none => rw [h] at e; cases e
    | some k => rw [h] at e; cases e; exact is_ok r false rfl ra rb h (q.bl r)
  · cases p <;> cases ho
    cases h : isS a b with
    | none => rw [h] at e; cases e
    | some k => rw [h] at e; cases e; exact is_ok r true rfl ra rb h (q.bl r)
  · cases e
end
end Ev
set_option Elab.async false
set_option linter.all false
set_option maxRecDepth 100000
set_option maxHeartbeats 2000000
namespace Ev
open PySem L2 PyProof.Rows
theorem ix_dict {X : Cx} (hu : X.A.units + 1 < cLine) : IxR X (fun x y H Q => ∃ a v, x = .ref a ∧ DGet H a y (some v) ∧ Q v H) := by
  intro value slice pins s σ H x y v u Q I rx ry h hs
  obtain ⟨a, z, rfl, g, q⟩ := h
  cases rx
  exact tail_any (dict_typeIs I g) PySem.F.slot_dict_getitem.lookup (d_getItem hu I g ry fun w' s3 I3 rw' => ⟨z, H, I3, rw', q⟩) hs
theorem call_lenR {X : Cx} : CallR X (.builtin "len") (fun xs H Q => ∃ a kvs, xs = [V.ref a] ∧ Rd H a (.dK kvs) ∧ Q (.int kvs.length) H) := by
  intro pins s σ H xs us Q I r h
  obtain ⟨a, kvs, rfl, e, q⟩ := h
  obtain ⟨u, rfl, rx⟩ := vals1 r
  cases rx
  exact d_len I e fun t s' I' => ⟨.int kvs.length, H, I', ⟨_, rfl⟩, q⟩
theorem call_dictL {X : Cx} : CallR X (.type "dict") (fun xs H Q => ∃ (a : Addr) (kvs : List (Key × V)), xs = [.ref a] ∧ Rd H a (.dK kvs) ∧ ∀ p od, H p = none → Q (.ref p) (upd H p (.frz od (.dK kvs)))) := by
  intro pins s σ H xs us Q I r h
  obtain ⟨a, kvs, rfl, e, q⟩ := h
  refine thn (call_dictD pins s σ H _ us (fun v H1 => ∃ p, v = .ref p ∧ H p = none ∧ H1 = upd H p (.dK kvs)) I r ⟨a, kvs, rfl, e, fun p hp => ⟨p, rfl, hp, rfl⟩⟩) fun u s1 ⟨v, H1, I1, r1, p, e1, hp, e2⟩ => ?_
  subst e1 e2
  obtain ⟨od, I2⟩ := I1.lock (d := p) upd_same True.intro
  rw [upd_upd] at I2
  exact ⟨_, _, I2, r1, q p od hp⟩
/-- dict(xs) of a list of pairs; the new dict is locked at once -/
theorem call_dictPL {X : Cx} (hc : X.calm = true) : CallR X (.type "dict") (fun xs H Q => ∃ (a : Addr) (as : List Addr) (kvs : List (L2.Key × V)), xs = [.ref a] ∧ SqL X.K H a (as.map V.ref) ∧ Paired (fun p kv => SqT X.K H p [kV kv.1, kv.2]) as kvs ∧
    ∀ p od, H p = none → Q (.ref p) (upd H p (.frz od (.dK (mergeK [] kvs))))) := by
  intro pins s σ H xs us Q I r h
  obtain ⟨a, as, kvs, rfl, e, hpp, q⟩ := h
  refine thn (call_dictP hc pins s σ H _ us (fun v H1 => ∃ p, v = .ref p ∧ H p = none ∧ H1 = upd H p (.dK (mergeK [] kvs))) I r ⟨a, as, kvs, rfl, e, hpp, fun p hp => ⟨p, rfl, hp, rfl⟩⟩) fun u s1 ⟨v, H1, I1, r1, p, e1, hp, e2⟩ => ?_
  subst e1 e2
  obtain ⟨od, I2⟩ := I1.lock (d := p) upd_same True.intro
  rw [upd_upd] at I2
  exact ⟨_, _, I2, r1, q p od hp⟩
theorem key_rep {K : PySem.W.Frag} {W : Wd} {k : D} {q : Key} {v : V} (h : Rep K W k v) (e : keyOf k = some q) : v = kV q := by
  unfold keyOf at e
  split at e
  · cases e; cases h; rfl
  · cases e; cases h; rfl
  · cases e
theorem prs_rep {K : PySem.W.Frag} {W : Wd} {H : Hp} (hs : ∀ b o, W.F b = some o → H b = some o) : ∀ {xs : List D} {vs : List V} {ps : List (Key × D)}, RepL K W xs vs → prsOf xs = some ps →
    ∃ (as : List Addr) (kvs : List (L2.Key × V)), vs = as.map V.ref ∧ Paired (fun p (kv : L2.Key × V) => SqT K H p [kV kv.1, kv.2]) as kvs ∧ RepK K W ps kvs
  | [], _, _, .nil, e => by cases e; exact ⟨[], [], rfl, .nil, .nil⟩
  | x :: xs, _, ps, .cons (v := v) (vs := vs) h r, e => by
    unfold prsOf at e
    split at e
    · rename_i heq
      cases heq
    · rename_i k d rest heq
      obtain ⟨rfl, rfl⟩ := List.cons.inj heq
      split at e
      · rename_i q l hk hl
        cases e
        obtain ⟨as, kvs, rfl, hp, hr⟩ := prs_rep hs r hl
        cases h with
        | @tup _ a us hq g =>
          cases g with
          | @cons _ _ u1 _ g1 g2 =>
            cases g2 with
            | @cons _ _ u2 _ g3 g4 =>
              cases g4
              have := key_rep g1 hk
              subst this
              exact ⟨a :: as, (q, u2) :: kvs, rfl, .cons (SqT.sub hs hq) hp, .cons g3 hr⟩
      · cases e
    · cases e
section
variable {X : Cx} {W : Wd} {S : List Ob} {H : Hp} {Q : VK}
theorem RepL.at {K : PySem.W.Frag} {W : Wd} {xs : List D} {vs : List V} {i : Int} {x : D} (h : RepL K W xs vs) (e : atI xs i = some x) : ∃ v, atI vs i = some v ∧ Rep K W x v := by
  unfold atI at e ⊢
  rw [← h.length]
  cases z : ixN xs.length i with
  | none => rw [z] at e; cases e
  | some j =>
    rw [z] at e
    exact h.get e
theorem ix_ok (hu : X.A.units + 64 < cLine) (r : Rel X.K W S H) {a b d : D} {x y : V} (ra : RepA X.K W H a x) (rb : RepA X.K W H b y) (e : ixS S a b = some d) (q : Fin X W S H d Q) : IG X x y H Q := by
  unfold ixS at e
  split at e
  · rename_i z
    cases ra.str
    split at e
    · rename_i i
      cases rb.int
      split at e
      · rename_i hz
        cases z2 : atI z.cps.toList i with
        | none => rw [z2] at e; cases e
        | some c =>
          rw [z2] at e
          cases e
          exact ⟨_, ix_str, z, i, c, rfl, rfl, hz, z2, q.str r⟩
      · cases e
    · cases e
  · split at e
    · rename_i kvs h1
      split at e
      · rename_i kk h2
        have e2 := key_of rb h2
        subst e2
        obtain ⟨p, kv, rfl, hd, g⟩ := ra.dctOf r h1
        have g0 : DGet H p (kV kk) (valV kv kk) := .inl ⟨kv, kk, hd, rfl, rfl⟩
        rcases g.get kk with ⟨z1, z2⟩ | ⟨x1, v1, z1, z2, hr⟩
        · rw [z1] at e; cases e
        · rw [z1] at e
          cases e
          rw [z2] at g0
          exact ⟨_, ix_dict (by omega), p, v1, rfl, g0, q.at r hr⟩
      · cases e
    · split at e
      · rename_i xs i h1
        cases rb.int
        obtain ⟨p, vs, rfl, hp, g⟩ := ra.seqOf r h1
        obtain ⟨v, ev, hr⟩ := g.at e
        rcases hp with hp | hp
        · exact ⟨_, ix_list, p, vs, i, v, rfl, rfl, hp, ev, q.at r hr⟩
        · exact ⟨_, ix_tup, p, vs, i, v, rfl, rfl, hp, ev, q.at r hr⟩
      · cases e
theorem RepL.cut {K : PySem.W.Frag} {W : Wd} {xs : List D} {vs : List V} (h : RepL K W xs vs) (lo hi : Option Int) : RepL K W (cutD xs lo hi) (cutV vs lo hi) := by
  unfold cutD cutV
  rw [← h.length]
  exact (h.drop _).take _
theorem sl_ok (r : Rel X.K W S H) {a d : D} {x : V} {lo hi : Option Int} (ra : RepA X.K W H a x) (e : slS S a lo hi = some d) (q : Fin X W S H d Q) : SG X x lo hi H Q := by
  unfold slS at e
  split at e
  · rename_i z
    cases ra.str
    split at e
    · rename_i hz
      cases e
      exact ⟨_, sl_str, z, rfl, hz, q.str r⟩
    · cases e
  · rename_i xs
    cases e
    have k := ra.tup'
    obtain ⟨p, vs, rfl, hp, g⟩ := ra.tup r
    refine ⟨_, sl_tupA, p, vs, rfl, hp, fun z => ?_, fun z p hp => q.tup r (g.cut lo hi) hp⟩
    have z2 : cutD xs lo hi = xs := by
      unfold cutD
      rw [g.length, z.1, z.2, List.drop_zero, ← g.length]
      exact List.take_length
    rw [z2] at q
    exact q.at r k
  · split at e
    · rename_i xs h1
      cases e
      obtain ⟨p, vs, rfl, hp, g⟩ := ra.lstF r h1
      exact ⟨_, sl_list, p, vs, rfl, hp, fun p hp => q.lst r (g.cut lo hi) hp⟩
    · cases e
theorem seqOf_cases {S : List Ob} {d : D} {xs : List D} (h : seqOf S d = some xs) : d = .tup xs ∨ Ev.lstF S d = some xs := by
  cases d <;> first | exact .inr h | (cases h; exact .inl rfl)
def bfV : BF → Value
  | .len => .builtin "len"
  | .abs => .builtin "abs"
  | .all => .builtin "all"
  | .any => .builtin "any"
  | .sum => .builtin "sum"
  | .max => .builtin "max"
  | .min => .builtin "min"
  | .list => .type "list"
  | .tuple => .type "tuple"
  | .int => .type "int"
  | .bool => .type "bool"
  | .str => .type "str"
  | .dict => .type "dict"
theorem RepAL.one {K : PySem.W.Frag} {d : D} {vs : List V} (h : RepAL K W H [d] vs) : ∃ v, vs = [v] ∧ RepA K W H d v := by
  cases h with
  | cons h t => cases t; exact ⟨_, rfl, h⟩
theorem RepAL.two {K : PySem.W.Frag} {d e : D} {vs : List V} (h : RepAL K W H [d, e] vs) : ∃ v w, vs = [v, w] ∧ RepA K W H d v ∧ RepA K W H e w := by
  cases h with
  | cons h t => cases t with | cons h2 t => cases t; exact ⟨_, _, rfl, h, h2⟩
theorem bools_of {K : PySem.W.Frag} : ∀ {ds : List D} {vs : List V} {bs : List Bool}, RepL K W ds vs → boolsOf ds = some bs → vs = bs.map V.bl
  | _, _, _, .nil, e => by cases e; rfl
  | d :: ds, _, _, .cons h g, e => by
    cases d with
    | bl b =>
      simp only [boolsOf] at e
      cases z : boolsOf ds with
      | none => rw [z] at e; cases e
      | some l =>
        rw [z] at e
        cases e
        cases h
        rw [bools_of g z]
        rfl
    | _ => cases e
theorem ints_of {K : PySem.W.Frag} : ∀ {ds : List D} {vs : List V} {bs : List Int}, RepL K W ds vs → intsOf ds = some bs → vs = bs.map V.int
  | _, _, _, .nil, e => by cases e; rfl
  | d :: ds, _, _, .cons h g, e => by
    cases d with
    | int b =>
      simp only [intsOf] at e
      cases z : intsOf ds with
      | none => rw [z] at e; cases e
      | some l =>
        rw [z] at e
        cases e
        cases h
        rw [ints_of g z]
        rfl
    | _ => cases e
theorem bf_ok (hc : X.calm = true) (r : Rel X.K W S H) {f : BF} {ds : List D} {vs : List V} {d : D} (ra : RepAL X.K W H ds vs) (e : bfS S f ds = some d) (q : Fin X W S H d Q) : CG X (bfV f) vs H Q := by
  unfold bfS at e
  split at e
  · -- len
    rename_i d1
    obtain ⟨v, rfl, rv⟩ := ra.one
    unfold lenS at e
    split at e
    · rename_i z
      cases rv.str
      split at e
      · rename_i hz
        cases e
        exact ⟨_, call_len, _, z.length, rfl, ⟨hz, rfl⟩, q.int r⟩
      · cases e
    · split at e
      · rename_i xs h1
        cases e
        obtain ⟨p, ws, rfl, hp, g⟩ := rv.seqOf r h1
        have l := g.length
        rw [l] at q
        rcases hp with hp | hp
        · exact ⟨_, call_len, _, ws.length, rfl, .inl ⟨ws, hp, rfl⟩, q.int r⟩
        · exact ⟨_, call_len, _, ws.length, rfl, .inr ⟨ws, hp, rfl⟩, q.int r⟩
      · split at e
        · rename_i xs h1
          cases e
          obtain ⟨p, ws, rfl, hp, g⟩ := rv.dctOf r h1
          have l := g.length
          rw [l] at q
          exact ⟨_, call_lenR, p, ws, rfl, hp, q.int r⟩
        · cases e
  · -- list
    obtain ⟨v, rfl, rv⟩ := ra.one
    split at e
    · rename_i kvs h1
      cases e
      obtain ⟨p, ws, rfl, hp, g⟩ := rv.dctOf r h1
      exact ⟨_, call_listD hc, p, ws, rfl, hp, fun p hp => q.lst r g.keys hp⟩
    · split at e
      · rename_i xs h1
        cases e
        obtain ⟨p, ws, rfl, hp, g⟩ := rv.seqOf r h1
        exact ⟨_, call_list_of, p, ws, rfl, hp, fun p hp => q.lst r g hp⟩
      · cases e
  · -- tuple
    obtain ⟨v, rfl, rv⟩ := ra.one
    split at e
    · rename_i kvs h1
      cases e
      obtain ⟨p, ws, rfl, hp, g⟩ := rv.dctOf r h1
      exact ⟨_, call_tupleD hc, p, ws, rfl, hp, fun p hp => q.tup r g.keys hp⟩
    · split at e
      · rename_i xs h1
        cases e
        rcases seqOf_cases h1 with h1 | h1
        · subst h1
          have k := rv.tup'
          obtain ⟨p, ws, rfl, hp, g⟩ := rv.tup r
          exact ⟨_, call_tuple_of, p, ws, rfl, .inr ⟨hp, q.at r k⟩⟩
        · obtain ⟨p, ws, rfl, hp, g⟩ := rv.lstF r h1
          exact ⟨_, call_tuple_of, p, ws, rfl, .inl ⟨hp, fun p hp => q.tup r g hp⟩⟩
      · cases e
  · -- int
    cases e
    obtain ⟨v, rfl, rv⟩ := ra.one
    cases rv.int
    exact ⟨_, call_int1, .inl ⟨_, rfl, q.int r⟩⟩
  · cases e
    obtain ⟨v, rfl, rv⟩ := ra.one
    cases rv.bl
    exact ⟨_, call_int1, .inr ⟨_, rfl, q.int r⟩⟩
  · obtain ⟨v, rfl, rv⟩ := ra.one
    cases rv.str
    split at e
    · rename_i n hn
      split at e
      · rename_i hl
        cases e
        exact ⟨_, call_int_str, _, n, rfl, hn, hl, q.int r⟩
      · cases e
    · cases e
  · cases e
    obtain ⟨v, rfl, rv⟩ := ra.one
    cases rv.int
    exact ⟨_, call_bool1, .inl ⟨_, rfl, q.bl r⟩⟩
  · cases e
    obtain ⟨v, rfl, rv⟩ := ra.one
    cases rv.bl
    exact ⟨_, call_bool1, .inr ⟨_, rfl, q.bl r⟩⟩
  · cases e
    obtain ⟨v, rfl, rv⟩ := ra.one
    cases rv.int
    exact ⟨_, call_abs, _, rfl, q.int r⟩
  · -- all
    obtain ⟨v, rfl, rv⟩ := ra.one
    split at e
    · rename_i xs h1
      obtain ⟨p, ws, rfl, hp, g⟩ := rv.lstF r h1
      cases z : boolsOf xs with
      | none => rw [z] at e; cases e
      | some bs =>
        rw [z] at e
        cases e
        rw [bools_of g z] at hp
        exact ⟨_, cr_all hc, p, bs, rfl, hp, q.bl r⟩
    · cases e
  · obtain ⟨v, rfl, rv⟩ := ra.one
    split at e
    · rename_i xs h1
      obtain ⟨p, ws, rfl, hp, g⟩ := rv.lstF r h1
      cases z : boolsOf xs with
      | none => rw [z] at e; cases e
      | some bs =>
        rw [z] at e
        cases e
        rw [bools_of g z] at hp
        exact ⟨_, cr_any hc, p, bs, rfl, hp, q.bl r⟩
    · cases e
  · obtain ⟨v, rfl, rv⟩ := ra.one
    split at e
    · rename_i xs h1
      obtain ⟨p, ws, rfl, hp, g⟩ := rv.lstF r h1
      cases z : intsOf xs with
      | none => rw [z] at e; cases e
      | some bs =>
        rw [z] at e
        cases e
        rw [ints_of g z] at hp
        exact ⟨_, cr_sum hc, p, bs, rfl, hp, q.int r⟩
    · cases e
  · cases e
    obtain ⟨v, w, rfl, rv, rw⟩ := ra.two
    cases rv.int
    cases rw.int
    exact ⟨_, call_max2 hc, _, _, rfl, q.int r⟩
  · cases e
    obtain ⟨v, w, rfl, rv, rw⟩ := ra.two
    cases rv.int
    cases rw.int
    exact ⟨_, call_min2 hc, _, _, rfl, q.int r⟩
  · obtain ⟨v, rfl, rv⟩ := ra.one
    cases rv.int
    split at e
    · cases e
      exact ⟨_, call_str_int, _, rfl, by assumption, q.str r⟩
    · cases e
  · obtain ⟨v, rfl, rv⟩ := ra.one
    split at e
    · rename_i kvs h1
      cases e
      obtain ⟨p, ws, rfl, hp, g⟩ := rv.dctOf r h1
      exact ⟨_, call_dictL, p, ws, rfl, hp, fun p od hp => q.dct r g hp⟩
    · split at e
      · rename_i xs h1
        obtain ⟨p, ws, rfl, hp, g⟩ := rv.lstOf r h1
        cases z : prsOf xs with
        | none => rw [z] at e; cases e
        | some ps =>
          rw [z] at e
          cases e
          obtain ⟨as, kvs, rfl, hpp, hr⟩ := prs_rep r.fz g z
          exact ⟨_, call_dictPL hc, p, as, kvs, rfl, .inl (.inl hp), hpp, fun p od hp => q.dct r (RepK.merge hr .nil) hp⟩
      · cases e
  · cases e
def tyS : Ty → String
  | .int => "int"
  | .str => "str"
  | .bool => "bool"
  | .tuple => "tuple"
  | .list => "list"
  | .dict => "dict"
theorem kit_all : ∀ t : Ty, kitB "NoneType" (tyS t) = some false ∧ kitB "bool" (tyS t) = some (t == .bool || t == .int) ∧ kitB "int" (tyS t) = some (t == .int) ∧ kitB "str" (tyS t) = some (t == .str) ∧ kitB "tuple" (tyS t) = some (t == .tuple) ∧
    kitB "list" (tyS t) = some (t == .list) ∧ kitB "dict" (tyS t) = some (t == .dict) := by
  intro t
  cases t <;> decide +kernel
theorem tyx_tup {K : PySem.W.Frag} {a : Addr} {vs : List V} (h : SqT K H a vs) : TyX K H (.ref a) (.type "tuple") := by
  rcases h with (h | ⟨o, h⟩) | ⟨o, its, n, h, c, _⟩
  · exact .base (.tup h)
  · exact .fTuple h
  · exact .kTuple h c
theorem tyx_lst {K : PySem.W.Frag} {a : Addr} {vs : List V} (h : SqL K H a vs) : TyX K H (.ref a) (.type "list") := by
  rcases h with (h | ⟨o, h⟩) | ⟨o, its, n, h, c, _⟩
  · exact .base (.lst h)
  · exact .base (.frz h)
  · exact .kList h c
theorem tyx_dct {K : PySem.W.Frag} {a : Addr} {vs : List (Key × V)} (h : Rd H a (.dK vs)) : TyX K H (.ref a) (.type "dict") := by
  rcases h with h | ⟨o, h⟩
  · exact .base (.dK h)
  · exact .fDict h
theorem isi_ok (r : Rel X.K W S H) {d : D} {v : V} {t : Ty} {k : Bool} (ra : RepA X.K W H d v) (e : isiS S d t = some k) : ∃ T : String, TyX X.K H v (.type T) ∧ kitB T (tyS t) = some k := by
  obtain ⟨k1, k2, k3, k4, k5, k6, k7⟩ := kit_all t
  unfold isiS at e
  split at e
  · cases e; cases ra.non; exact ⟨_, .base .non, k1⟩
  · cases e; cases ra.bl; exact ⟨_, .base (.bl _), k2⟩
  · cases e; cases ra.int; exact ⟨_, .base (.int _), k3⟩
  · cases e; cases ra.str; exact ⟨_, .base (.str _), k4⟩
  · cases e
    obtain ⟨p, ws, rfl, hp, g⟩ := ra.tup r
    exact ⟨_, tyx_tup hp, k5⟩
  · cases e
    obtain ⟨p, ws, rfl, hp, g⟩ := ra.lstOf r rfl
    exact ⟨_, .base (.lst hp), k6⟩
  · cases e
    obtain ⟨p, ws, rfl, hp, g⟩ := ra.lstF r rfl
    exact ⟨_, tyx_lst hp, k6⟩
  · cases e
    obtain ⟨p, ws, rfl, hp, g⟩ := ra.dctOf r rfl
    exact ⟨_, tyx_dct hp, k7⟩
  · rename_i i
    split at e
    · rename_i xs h
      cases e
      obtain ⟨p, ws, rfl, hp, g⟩ := ra.lstOf r (xs := xs) (by simp only [Ev.lstOf, h])
      exact ⟨_, .base (.lst hp), k6⟩
    · rename_i xs h
      cases e
      obtain ⟨p, ws, rfl, hp, g⟩ := ra.dctOf r (xs := xs) (by simp only [Ev.dctOf, h])
      exact ⟨_, tyx_dct hp, k7⟩
    · cases e
end
end Ev
set_option Elab.async false
set_option linter.all false
set_option maxRecDepth 100000
set_option maxHeartbeats 8000000
namespace Ev
open PySem PyProof.Rows L2
def zSq : Bool → Heap → Addr → Array Value → Prop
  | true => Heap.IsTuple
  | false => Heap.IsList
def zIt : Bool → Heap → Addr → Addr → Nat → Prop
  | true => Heap.IsTupleIter
  | false => Heap.IsListIter
def zItO (b : Bool) (l : Addr) : Obj := { cls := .type (if b then "tuple_iterator" else "list_iterator"), data := .fields #[.ref l, .int 0 0] }
section
variable {b c : Bool} {h h2 : Heap} {u v : Addr} {i : Nat} {xs : Array Value}
theorem zSq.stay (q : zSq b h u xs) (k : ∀ o, h.get? u = some o → h2.get? u = some o) : zSq b h2 u xs := by
  cases b
  · obtain ⟨o, e, r⟩ := q; exact ⟨o, k o e, r⟩
  · obtain ⟨o, e, r⟩ := q; exact ⟨o, k o e, r⟩
theorem zIt.stay (q : zIt b h u v i) (k : ∀ o, h.get? u = some o → h2.get? u = some o) : zIt b h2 u v i := by
  cases b
  · obtain ⟨o, e, r⟩ := q; exact ⟨o, k o e, r⟩
  · obtain ⟨o, e, r⟩ := q; exact ⟨o, k o e, r⟩
theorem zSq.but (q : zSq b h u xs) (k : Heap.ExtBut v h h2) (n : u ≠ v) : zSq b h2 u xs := q.stay fun o e => k u o n e
theorem zIt.but {w : Addr} (q : zIt b h u v i) (k : Heap.ExtBut w h h2) (n : u ≠ w) : zIt b h2 u v i := q.stay fun o e => k u o n e
theorem zSq.low (q : zSq b h u xs) : ∃ o, h.get? u = some o := by
  cases b
  · obtain ⟨o, e, _⟩ := q; exact ⟨o, e⟩
  · obtain ⟨o, e, _⟩ := q; exact ⟨o, e⟩
theorem zIt.low (q : zIt b h u v i) : ∃ o, h.get? u = some o ∧ ∀ z, o.data ≠ .cell z := by
  cases b
  · obtain ⟨o, e, _, d⟩ := q; exact ⟨o, e, fun z y => by rw [d] at y; cases y⟩
  · obtain ⟨o, e, _, d⟩ := q; exact ⟨o, e, fun z y => by rw [d] at y; cases y⟩
theorem zIt.new {l : Addr} (e : h.get? u = some (zItO b l)) : zIt b h u l 0 := by
  cases b
  · exact ⟨_, e, rfl, rfl⟩
  · exact ⟨_, e, rfl, rfl⟩
end
section
variable {prog : Program} {w : World} {A : Around} {E : Value → Shared → Prop} {s : Shared} {b c : Bool}
theorem z_give {j l : Addr} {i : Nat} {xs : Array Value} {x : Value} {Q : Value → Shared → Prop} (q : zIt b s.heap j l i) (hl : zSq b s.heap l xs) (hx : xs[i]? = some x)
    (k : ∀ h2, zIt b h2 j l (i + 1) → Heap.SameBut j s.heap h2 → Q x { s with heap := h2 }) : wpAny (model prog w) A (Builtin.SmallTypes.nextOf (.ref j)) Q E s := by
  cases b
  · exact wpAny_nextOf_list_item q hl hx k
  · exact RZ.nextOf_tuple_item q hl hx k
theorem z_over {j l : Addr} {i : Nat} {xs : Array Value} {Q : Value → Shared → Prop} (calm : A.handled = none) (q : zIt b s.heap j l i) (hl : zSq b s.heap l xs) (hx : xs[i]? = none)
    (k : ∀ h2 e, Heap.ExtBut j s.heap h2 → (∃ o, h2.get? e = some o ∧ o.cls = .type "StopIteration") → E (.ref e) { s with heap := h2 }) : wpAny (model prog w) A (Builtin.SmallTypes.nextOf (.ref j)) Q E s := by
  cases b
  · exact wpAny_nextOf_list_end calm q hl hx k
  · exact RZ.nextOf_tuple_end calm q hl hx k
/-- the next pair, in the zip's own tuple -/
theorem z_item {z TI TO i1 i2 l1 l2 : Addr} {k1 k2 : Nat} {xs ys : Array Value} {x y p q : Value} {Q : Value → Shared → Prop} (ap : ZipApart z TI TO i1 i2 l1 l2)
    (kz : IsZip s.heap z TI TO .none) (kI : IsPair s.heap TI (.ref i1) (.ref i2)) (kO : IsPair s.heap TO p q) (n1 : zIt b s.heap i1 l1 k1) (n2 : zIt c s.heap i2 l2 k2)
    (s1 : zSq b s.heap l1 xs) (s2 : zSq c s.heap l2 ys) (ex : xs[k1]? = some x) (ey : ys[k2]? = some y)
    (go : ∀ h2, IsZip h2 z TI TO (rawInt s.heap.objs.size) → IsPair h2 TO x y → zIt b h2 i1 l1 (k1 + 1) → zIt c h2 i2 l2 (k2 + 1) → IsPair h2 s.heap.objs.size x y → h2.objs.size = s.heap.objs.size + 1 →
      (∀ a o, a ≠ z → a ≠ TO → a ≠ i1 → a ≠ i2 → s.heap.get? a = some o → h2.get? a = some o) → Q (.ref s.heap.objs.size) { s with heap := h2 }) :
    wpAny (model prog w) A (Builtin.«zip.__next__» ⟨[.ref z], []⟩) (fun fin s' => ∃ v, fin = .done (.ret v) ∧ Q v s') E s := by
  show wpAny _ _ (field (.ref z) 2 >>= _) _ _ _; refine wpAny_bind (wpAny_field kz rfl (x := .bool false) rfl ?_)
  show wpAny _ _ (field (.ref z) 3 >>= _) _ _ _; refine wpAny_bind (wpAny_field kz rfl (x := .ref TI) rfl ?_)
  refine wpAny_bind (wpAny_seqItems kI rfl ?_); show wpAny _ _ (Builtin.SmallTypes.ownedTupleIsFree (.ref z) >>= _) _ _ _
  refine wpAny_bind ?_; unfold Builtin.SmallTypes.ownedTupleIsFree
  refine wpAny_bind (wpAny_field kz rfl (x := .none) rfl (wpAny_pure ?_)); simp only [if_true]
  refine wpAny_bind (wpAny_rule ?_); refine wpAny_bind (wpAny_field kz rfl (x := .ref TO) rfl ?_)
  refine wpAny_bind (wpAny_setField_rec kz (by simp) fun ha za sa => ?_)
  replace za : IsZip ha z TI TO .ellipsis := za
  refine wpAny_bind ?_; simp only [List.zipIdx_cons, List.zipIdx_nil, List.forIn_cons, List.forIn_nil]
  refine wpAny_bind (wpAny_bind (wpAny_onRaise ?_)); show wpAny _ _ (Builtin.SmallTypes.nextOf (.ref i1) >>= _) _ _ _
  refine wpAny_bind (z_give (n1.but sa.extBut ap.i1z) (s1.but sa.extBut ap.l1z) ex fun hb m1 sb => wpAny_pure ?_)
  have Ob : IsPair hb TO p q := sb.extBut _ _ ap.TOi1 (sa.extBut _ _ ap.TOz kO)
  refine wpAny_bind (wpAny_seqItems Ob rfl ?_); refine wpAny_bind (wpAny_updateSeq_pair Ob fun hc Oc sc => ?_)
  replace Oc : IsPair hc TO x q := Oc
  refine wpAny_bind (wpAny_letGo (wpAny_pure ?_)); refine wpAny_bind (wpAny_bind (wpAny_onRaise ?_)); show wpAny _ _ (Builtin.SmallTypes.nextOf (.ref i2) >>= _) _ _ _
  refine wpAny_bind (z_give (((n2.but sa.extBut ap.i2z).but sb.extBut ap.i12.symm).but sc.extBut ap.TOi2.symm) (((s2.but sa.extBut ap.l2z).but sb.extBut ap.l2i1).but sc.extBut ap.l2TO) ey fun hd m2 sd => wpAny_pure ?_)
  have Od : IsPair hd TO x q := sd.extBut _ _ ap.TOi2 Oc
  refine wpAny_bind (wpAny_seqItems Od rfl ?_); refine wpAny_bind (wpAny_updateSeq_pair Od fun he Oe se => ?_)
  replace Oe : IsPair he TO x y := Oe
  refine wpAny_bind (wpAny_letGo (wpAny_pure (wpAny_pure ?_))); refine wpAny_bind (wpAny_seqItems Oe rfl ?_); refine wpAny_bind (wpAny_newTuple ?_)
  have sz : he.objs.size = s.heap.objs.size := by rw [se.1, sd.1, sc.1, sb.1, sa.1]
  have ze : IsZip he z TI TO .ellipsis := se.extBut _ _ ap.TOz.symm (sd.extBut _ _ ap.i2z.symm (sc.extBut _ _ ap.TOz.symm (sb.extBut _ _ ap.i1z.symm za)))
  have ke : ∀ a o, a ≠ z → a ≠ TO → a ≠ i1 → a ≠ i2 → s.heap.get? a = some o → he.get? a = some o := fun a o c1 c2 c3 c4 e =>
    se.extBut _ _ c2 (sd.extBut _ _ c4 (sc.extBut _ _ c2 (sb.extBut _ _ c3 (sa.extBut _ _ c1 e))))
  have m1e : zIt b he i1 l1 (k1 + 1) := ((m1.but sc.extBut ap.TOi1.symm).but sd.extBut ap.i12).but se.extBut ap.TOi1.symm
  have m2e : zIt c he i2 l2 (k2 + 1) := m2.but se.extBut ap.TOi2.symm
  have zlt : z < he.objs.size := Heap.lt_size ze
  have Olt : TO < he.objs.size := Heap.lt_size Oe
  show wpAny _ _ (Builtin.SmallTypes.ownedTupleHandOut (.ref z) (.ref he.objs.size) >>= _) _ _ _; refine wpAny_bind ?_
  unfold Builtin.SmallTypes.ownedTupleHandOut
  have zf : IsZip (he.push { cls := .type "tuple", data := .seq #[x, y] }) z TI TO .ellipsis := Heap.get?_push_of_some _ ze
  refine wpAny_bind (wpAny_setField_rec zf (by simp) fun hg zg sg => ?_)
  replace zg : IsZip hg z TI TO (rawInt he.objs.size) := zg
  refine wpAny_setField_rec zg (by simp) fun hk zk sk => ?_
  replace zk : IsZip hk z TI TO (rawInt he.objs.size) := zk
  have up : ∀ a o, a ≠ z → he.get? a = some o → hk.get? a = some o := fun a o c1 e => sk.extBut _ _ c1 (sg.extBut _ _ c1 (Heap.get?_push_of_some _ e))
  have Tk : IsPair hk he.objs.size x y := sk.extBut _ _ (Nat.ne_of_gt zlt) (sg.extBut _ _ (Nat.ne_of_gt zlt) (Heap.get?_push_size _ rfl))
  have szk : hk.objs.size = he.objs.size + 1 := by rw [sk.1, sg.1, Heap.size_push]
  rw [sz] at zk Tk szk
  refine wpAny_pure ⟨_, rfl, ?_⟩; show Q (.ref he.objs.size) _; rw [sz]
  exact go hk zk (up _ _ ap.TOz Oe) (m1e.stay fun o e => up _ o ap.i1z e) (m2e.stay fun o e => up _ o ap.i2z e) Tk szk fun a o c1 c2 c3 c4 e => up a o c1 (ke a o c1 c2 c3 c4 e)
theorem z_end {z TI TO i1 i2 l1 l2 : Addr} {k1 k2 : Nat} {xs ys : Array Value} {p q : Value} {Q : PySem.Fin → Shared → Prop} (calm : A.handled = none) (ap : ZipApart z TI TO i1 i2 l1 l2)
    (kz : IsZip s.heap z TI TO .none) (kI : IsPair s.heap TI (.ref i1) (.ref i2)) (kO : IsPair s.heap TO p q) (n1 : zIt b s.heap i1 l1 k1) (n2 : zIt c s.heap i2 l2 k2)
    (s1 : zSq b s.heap l1 xs) (s2 : zSq c s.heap l2 ys) (out : xs[k1]? = none ∨ ys[k2]? = none)
    (go : ∀ h2 e, (∀ a o, a ≠ z → a ≠ TO → a ≠ i1 → a ≠ i2 → s.heap.get? a = some o → h2.get? a = some o) → (∃ o, h2.get? e = some o ∧ o.cls = .type "StopIteration") → E (.ref e) { s with heap := h2 }) :
    wpAny (model prog w) A (Builtin.«zip.__next__» ⟨[.ref z], []⟩) Q E s := by
  show wpAny _ _ (field (.ref z) 2 >>= _) _ _ _; refine wpAny_bind (wpAny_field kz rfl (x := .bool false) rfl ?_)
  show wpAny _ _ (field (.ref z) 3 >>= _) _ _ _; refine wpAny_bind (wpAny_field kz rfl (x := .ref TI) rfl ?_)
  refine wpAny_bind (wpAny_seqItems kI rfl ?_); show wpAny _ _ (Builtin.SmallTypes.ownedTupleIsFree (.ref z) >>= _) _ _ _
  refine wpAny_bind ?_; unfold Builtin.SmallTypes.ownedTupleIsFree
  refine wpAny_bind (wpAny_field kz rfl (x := .none) rfl (wpAny_pure ?_)); simp only [if_true]
  refine wpAny_bind (wpAny_rule ?_); refine wpAny_bind (wpAny_field kz rfl (x := .ref TO) rfl ?_)
  refine wpAny_bind (wpAny_setField_rec kz (by simp) fun ha za sa => ?_)
  replace za : IsZip ha z TI TO .ellipsis := za
  refine wpAny_bind ?_; simp only [List.zipIdx_cons, List.zipIdx_nil, List.forIn_cons, List.forIn_nil]
  refine wpAny_bind (wpAny_bind (wpAny_onRaise ?_)); show wpAny _ _ (Builtin.SmallTypes.nextOf (.ref i1) >>= _) _ _ _
  cases ex : xs[k1]? with
  | none =>
    refine wpAny_bind (z_over calm (n1.but sa.extBut ap.i1z) (s1.but sa.extBut ap.l1z) ex fun hb e sb ⟨oe, eo, ec⟩ => ?_)
    have zb : IsZip hb z TI TO .ellipsis := sb _ _ ap.i1z.symm za
    have ne : e ≠ z := fun y => by rw [y, zb] at eo; cases eo; simp at ec
    exact wpAny_setField_rec zb (by simp) fun hc _ sc => go hc e (fun a o c1 _ c3 _ y => sc.extBut _ _ c1 (sb _ _ c3 (sa.extBut _ _ c1 y))) ⟨oe, sc.extBut _ _ ne eo, ec⟩
  | some x =>
    have ey : ys[k2]? = none := out.resolve_left fun y => by rw [ex] at y; cases y
    refine wpAny_bind (z_give (n1.but sa.extBut ap.i1z) (s1.but sa.extBut ap.l1z) ex fun hb m1 sb => wpAny_pure ?_)
    have Ob : IsPair hb TO p q := sb.extBut _ _ ap.TOi1 (sa.extBut _ _ ap.TOz kO)
    refine wpAny_bind (wpAny_seqItems Ob rfl ?_); refine wpAny_bind (wpAny_updateSeq_pair Ob fun hc Oc sc => ?_)
    refine wpAny_bind (wpAny_letGo (wpAny_pure ?_)); refine wpAny_bind (wpAny_bind (wpAny_onRaise ?_)); show wpAny _ _ (Builtin.SmallTypes.nextOf (.ref i2) >>= _) _ _ _
    refine wpAny_bind (z_over calm (((n2.but sa.extBut ap.i2z).but sb.extBut ap.i12.symm).but sc.extBut ap.TOi2.symm) (((s2.but sa.extBut ap.l2z).but sb.extBut ap.l2i1).but sc.extBut ap.l2TO) ey fun hd e sd ⟨oe, eo, ec⟩ => ?_)
    have zd : IsZip hd z TI TO .ellipsis := sd _ _ ap.i2z.symm (sc.extBut _ _ ap.TOz.symm (sb.extBut _ _ ap.i1z.symm za))
    have ne : e ≠ z := fun y => by rw [y, zd] at eo; cases eo; simp at ec
    exact wpAny_setField_rec zd (by simp) fun hf _ sf => go hf e (fun a o c1 c2 c3 c4 y => sf.extBut _ _ c1 (sd _ _ c4 (sc.extBut _ _ c2 (sb.extBut _ _ c3 (sa.extBut _ _ c1 y))))) ⟨oe, sf.extBut _ _ ne eo, ec⟩
/-- the same while the pair that was given last is still there -/
theorem z_itemH {z TI TO T i1 i2 l1 l2 : Addr} {f : Bool} {oT : Obj} {k1 k2 : Nat} {xs ys : Array Value} {x y : Value} {Q : Value → Shared → Prop} (ap : ZipApart z TI TO i1 i2 l1 l2)
    (kz : IsZipHeld s.heap z TI TO T f) (kT : s.heap.get? T = some oT) (kI : IsPair s.heap TI (.ref i1) (.ref i2)) (n1 : zIt b s.heap i1 l1 k1) (n2 : zIt c s.heap i2 l2 k2)
    (s1 : zSq b s.heap l1 xs) (s2 : zSq c s.heap l2 ys) (ex : xs[k1]? = some x) (ey : ys[k2]? = some y)
    (go : ∀ h2, IsZipHeld h2 z TI TO T true → zIt b h2 i1 l1 (k1 + 1) → zIt c h2 i2 l2 (k2 + 1) → IsPair h2 s.heap.objs.size x y → h2.objs.size = s.heap.objs.size + 1 →
      (∀ a o, a ≠ z → a ≠ i1 → a ≠ i2 → s.heap.get? a = some o → h2.get? a = some o) → Q (.ref s.heap.objs.size) { s with heap := h2 }) :
    wpAny (model prog w) A (Builtin.«zip.__next__» ⟨[.ref z], []⟩) (fun fin s' => ∃ v, fin = .done (.ret v) ∧ Q v s') E s := by
  show wpAny _ _ (field (.ref z) 2 >>= _) _ _ _; refine wpAny_bind (wpAny_field kz rfl (x := .bool false) rfl ?_)
  show wpAny _ _ (field (.ref z) 3 >>= _) _ _ _; refine wpAny_bind (wpAny_field kz rfl (x := .ref TI) rfl ?_)
  refine wpAny_bind (wpAny_seqItems kI rfl ?_); show wpAny _ _ (Builtin.SmallTypes.ownedTupleIsFree (.ref z) >>= _) _ _ _
  refine wpAny_bind (wpAny_tupleHeld_zip kz kT fun ha za sa => ?_); simp only [Bool.false_eq_true, if_false]
  refine wpAny_bind ?_; rw [← Array.forIn_toList]; simp only [List.forIn_cons, List.forIn_nil]
  refine wpAny_bind (wpAny_bind (wpAny_holding ?_)); show wpAny _ _ (Builtin.SmallTypes.nextOf (.ref i1) >>= _) _ _ _
  refine wpAny_bind (z_give (s := { s with heap := ha }) (n1.but sa.extBut ap.i1z) (s1.but sa.extBut ap.l1z) ex fun hb m1 sb => wpAny_pure ?_)
  refine wpAny_pure ?_; refine wpAny_bind (wpAny_bind (wpAny_holding ?_)); show wpAny _ _ (Builtin.SmallTypes.nextOf (.ref i2) >>= _) _ _ _
  refine wpAny_bind (z_give (s := { s with heap := hb }) ((n2.but sa.extBut ap.i2z).but sb.extBut ap.i12.symm) ((s2.but sa.extBut ap.l2z).but sb.extBut ap.l2i1) ey fun hc m2 sc => wpAny_pure ?_)
  refine wpAny_pure (wpAny_pure ?_); show wpAny _ _ (newTuple [x, y] >>= _) _ _ _; refine wpAny_bind (wpAny_newTuple ?_)
  have sz : hc.objs.size = s.heap.objs.size := by rw [sc.1, sb.1, sa.1]
  have zc : IsZipHeld hc z TI TO T true := sc.extBut _ _ ap.i2z.symm (sb.extBut _ _ ap.i1z.symm za)
  have kc : ∀ a o, a ≠ z → a ≠ i1 → a ≠ i2 → s.heap.get? a = some o → hc.get? a = some o := fun a o c1 c2 c3 e => sc.extBut _ _ c3 (sb.extBut _ _ c2 (sa.extBut _ _ c1 e))
  have m1c : zIt b hc i1 l1 (k1 + 1) := m1.but sc.extBut ap.i12
  refine wpAny_pure ⟨_, rfl, ?_⟩; show Q (.ref hc.objs.size) _
  have pr : IsPair (hc.push { cls := .type "tuple", data := .seq #[x, y] }) hc.objs.size x y := Heap.get?_push_size _ rfl
  have sz2 : (hc.push { cls := .type "tuple", data := .seq #[x, y] }).objs.size = hc.objs.size + 1 := Heap.size_push ..
  rw [sz] at pr sz2 ⊢
  exact go _ (Heap.get?_push_of_some _ zc) (m1c.stay fun o e => Heap.get?_push_of_some _ e) (m2.stay fun o e => Heap.get?_push_of_some _ e) pr sz2 fun a o c1 c2 c3 e => Heap.get?_push_of_some _ (kc a o c1 c2 c3 e)
theorem z_endH {z TI TO T i1 i2 l1 l2 : Addr} {f : Bool} {oT : Obj} {k1 k2 : Nat} {xs ys : Array Value} {Q : PySem.Fin → Shared → Prop} (calm : A.handled = none) (ap : ZipApart z TI TO i1 i2 l1 l2)
    (kz : IsZipHeld s.heap z TI TO T f) (kT : s.heap.get? T = some oT) (kI : IsPair s.heap TI (.ref i1) (.ref i2)) (n1 : zIt b s.heap i1 l1 k1) (n2 : zIt c s.heap i2 l2 k2)
    (s1 : zSq b s.heap l1 xs) (s2 : zSq c s.heap l2 ys) (out : xs[k1]? = none ∨ ys[k2]? = none)
    (go : ∀ h2 e, (∀ a o, a ≠ z → a ≠ i1 → a ≠ i2 → s.heap.get? a = some o → h2.get? a = some o) → (∃ o, h2.get? e = some o ∧ o.cls = .type "StopIteration") → E (.ref e) { s with heap := h2 }) :
    wpAny (model prog w) A (Builtin.«zip.__next__» ⟨[.ref z], []⟩) Q E s := by
  show wpAny _ _ (field (.ref z) 2 >>= _) _ _ _; refine wpAny_bind (wpAny_field kz rfl (x := .bool false) rfl ?_)
  show wpAny _ _ (field (.ref z) 3 >>= _) _ _ _; refine wpAny_bind (wpAny_field kz rfl (x := .ref TI) rfl ?_)
  refine wpAny_bind (wpAny_seqItems kI rfl ?_); show wpAny _ _ (Builtin.SmallTypes.ownedTupleIsFree (.ref z) >>= _) _ _ _
  refine wpAny_bind (wpAny_tupleHeld_zip kz kT fun ha za sa => ?_); simp only [Bool.false_eq_true, if_false]
  refine wpAny_bind ?_; rw [← Array.forIn_toList]; simp only [List.forIn_cons, List.forIn_nil]
  refine wpAny_bind (wpAny_bind (wpAny_holding ?_)); show wpAny _ _ (Builtin.SmallTypes.nextOf (.ref i1) >>= _) _ _ _
  cases ex : xs[k1]? with
  | none => exact wpAny_bind (z_over (s := { s with heap := ha }) calm (n1.but sa.extBut ap.i1z) (s1.but sa.extBut ap.l1z) ex fun hb e sb he => go hb e (fun a o c1 c2 _ y => sb _ _ c2 (sa.extBut _ _ c1 y)) he)
  | some x =>
    have ey : ys[k2]? = none := out.resolve_left fun y => by rw [ex] at y; cases y
    refine wpAny_bind (z_give (s := { s with heap := ha }) (n1.but sa.extBut ap.i1z) (s1.but sa.extBut ap.l1z) ex fun hb m1 sb => wpAny_pure ?_)
    refine wpAny_pure ?_; refine wpAny_bind (wpAny_bind (wpAny_holding ?_)); show wpAny _ _ (Builtin.SmallTypes.nextOf (.ref i2) >>= _) _ _ _
    exact wpAny_bind (z_over (s := { s with heap := hb }) calm ((n2.but sa.extBut ap.i2z).but sb.extBut ap.i12.symm) ((s2.but sa.extBut ap.l2z).but sb.extBut ap.l2i1) ey fun hc e sc he => go hc e (fun a o c1 c2 c3 y => sc _ _ c3 (sb.extBut _ _ c2 (sa.extBut _ _ c1 y))) he)
theorem z_next {z TI TO i1 i2 l1 l2 : Addr} {k1 k2 : Nat} {xs ys : Array Value} {x y p q : Value} {Q : Option Value → Shared → Prop} (ap : ZipApart z TI TO i1 i2 l1 l2)
    (kz : IsZip s.heap z TI TO .none) (kI : IsPair s.heap TI (.ref i1) (.ref i2)) (kO : IsPair s.heap TO p q) (n1 : zIt b s.heap i1 l1 k1) (n2 : zIt c s.heap i2 l2 k2)
    (s1 : zSq b s.heap l1 xs) (s2 : zSq c s.heap l2 ys) (ex : xs[k1]? = some x) (ey : ys[k2]? = some y)
    (go : ∀ h2, IsZip h2 z TI TO (rawInt s.heap.objs.size) → IsPair h2 TO x y → zIt b h2 i1 l1 (k1 + 1) → zIt c h2 i2 l2 (k2 + 1) → IsPair h2 s.heap.objs.size x y → h2.objs.size = s.heap.objs.size + 1 →
      (∀ a o, a ≠ z → a ≠ TO → a ≠ i1 → a ≠ i2 → s.heap.get? a = some o → h2.get? a = some o) → Q (some (.ref s.heap.objs.size)) { s with heap := h2 }) : wpAny (model prog w) A (pyNext (.ref z)) Q E s := by
  have ty : s.TypeIs (.ref z) "zip" := ⟨_, kz, rfl⟩
  unfold pyNext
  exact wpAny_bind (wpAny_attempt (wpAny_callSpecial?_slot (name := Str.ofString "__next__") ty F.slot_zip_next
    (wpAny_call_entry F.slot_zip_next ty F.entry_zip_next (z_item ap kz kI kO n1 n2 s1 s2 ex ey fun h2 a1 a2 a3 a4 a5 a6 a7 => wpAny_pure (go h2 a1 a2 a3 a4 a5 a6 a7)) (F.args_zip_next_1 _))))
theorem z_nextH {z TI TO T i1 i2 l1 l2 : Addr} {f : Bool} {oT : Obj} {k1 k2 : Nat} {xs ys : Array Value} {x y : Value} {Q : Option Value → Shared → Prop} (ap : ZipApart z TI TO i1 i2 l1 l2)
    (kz : IsZipHeld s.heap z TI TO T f) (kT : s.heap.get? T = some oT) (kI : IsPair s.heap TI (.ref i1) (.ref i2)) (n1 : zIt b s.heap i1 l1 k1) (n2 : zIt c s.heap i2 l2 k2)
    (s1 : zSq b s.heap l1 xs) (s2 : zSq c s.heap l2 ys) (ex : xs[k1]? = some x) (ey : ys[k2]? = some y)
    (go : ∀ h2, IsZipHeld h2 z TI TO T true → zIt b h2 i1 l1 (k1 + 1) → zIt c h2 i2 l2 (k2 + 1) → IsPair h2 s.heap.objs.size x y → h2.objs.size = s.heap.objs.size + 1 →
      (∀ a o, a ≠ z → a ≠ i1 → a ≠ i2 → s.heap.get? a = some o → h2.get? a = some o) → Q (some (.ref s.heap.objs.size)) { s with heap := h2 }) : wpAny (model prog w) A (pyNext (.ref z)) Q E s := by
  have ty : s.TypeIs (.ref z) "zip" := ⟨_, kz, rfl⟩
  unfold pyNext
  exact wpAny_bind (wpAny_attempt (wpAny_callSpecial?_slot (name := Str.ofString "__next__") ty F.slot_zip_next
    (wpAny_call_entry F.slot_zip_next ty F.entry_zip_next (z_itemH ap kz kT kI n1 n2 s1 s2 ex ey fun h2 a1 a2 a3 a4 a5 a6 => wpAny_pure (go h2 a1 a2 a3 a4 a5 a6)) (F.args_zip_next_1 _))))
theorem z_stop {z TI TO i1 i2 l1 l2 : Addr} {k1 k2 : Nat} {xs ys : Array Value} {p q : Value} {Q : Option Value → Shared → Prop} (calm : A.handled = none) (ap : ZipApart z TI TO i1 i2 l1 l2)
    (kz : IsZip s.heap z TI TO .none) (kI : IsPair s.heap TI (.ref i1) (.ref i2)) (kO : IsPair s.heap TO p q) (n1 : zIt b s.heap i1 l1 k1) (n2 : zIt c s.heap i2 l2 k2)
    (s1 : zSq b s.heap l1 xs) (s2 : zSq c s.heap l2 ys) (out : xs[k1]? = none ∨ ys[k2]? = none)
    (go : ∀ h2, (∀ a o, a ≠ z → a ≠ TO → a ≠ i1 → a ≠ i2 → s.heap.get? a = some o → h2.get? a = some o) → Q none { s with heap := h2 }) : wpAny (model prog w) A (pyNext (.ref z)) Q E s := by
  have ty : s.TypeIs (.ref z) "zip" := ⟨_, kz, rfl⟩
  unfold pyNext
  refine wpAny_bind (wpAny_attempt (wpAny_callSpecial?_slot (name := Str.ofString "__next__") ty F.slot_zip_next
    (wpAny_call_entry F.slot_zip_next ty F.entry_zip_next (z_end calm ap kz kI kO n1 n2 s1 s2 out fun h2 e k ⟨o, eo, ec⟩ => ?_) (F.args_zip_next_1 _))))
  exact wpAny_bind (wpAny_isInstance (T := "StopIteration") (b := true) ⟨o, eo, ec⟩ isSubtype_stop (wpAny_pure (go _ k)))
theorem z_stopH {z TI TO T i1 i2 l1 l2 : Addr} {f : Bool} {oT : Obj} {k1 k2 : Nat} {xs ys : Array Value} {Q : Option Value → Shared → Prop} (calm : A.handled = none) (ap : ZipApart z TI TO i1 i2 l1 l2)
    (kz : IsZipHeld s.heap z TI TO T f) (kT : s.heap.get? T = some oT) (kI : IsPair s.heap TI (.ref i1) (.ref i2)) (n1 : zIt b s.heap i1 l1 k1) (n2 : zIt c s.heap i2 l2 k2)
    (s1 : zSq b s.heap l1 xs) (s2 : zSq c s.heap l2 ys) (out : xs[k1]? = none ∨ ys[k2]? = none)
    (go : ∀ h2, (∀ a o, a ≠ z → a ≠ i1 → a ≠ i2 → s.heap.get? a = some o → h2.get? a = some o) → Q none { s with heap := h2 }) : wpAny (model prog w) A (pyNext (.ref z)) Q E s := by
  have ty : s.TypeIs (.ref z) "zip" := ⟨_, kz, rfl⟩
  unfold pyNext
  refine wpAny_bind (wpAny_attempt (wpAny_callSpecial?_slot (name := Str.ofString "__next__") ty F.slot_zip_next
    (wpAny_call_entry F.slot_zip_next ty F.entry_zip_next (z_endH calm ap kz kT kI n1 n2 s1 s2 out fun h2 e k ⟨o, eo, ec⟩ => ?_) (F.args_zip_next_1 _))))
  exact wpAny_bind (wpAny_isInstance (T := "StopIteration") (b := true) ⟨o, eo, ec⟩ isSubtype_stop (wpAny_pure (go _ k)))
end
def zh1 (b : Bool) (h : Heap) (l1 : Addr) : Heap := h.push (zItO b l1)
def zh2 (b c : Bool) (h : Heap) (l1 l2 : Addr) : Heap := (zh1 b h l1).push (zItO c l2)
def zh3 (b c : Bool) (h : Heap) (l1 l2 : Addr) : Heap := (zh2 b c h l1 l2).push { cls := .type "tuple", data := .seq #[.ref h.objs.size, .ref (zh1 b h l1).objs.size] }
def zh4 (b c : Bool) (h : Heap) (l1 l2 : Addr) : Heap := (zh3 b c h l1 l2).push { cls := .type "tuple", data := .seq #[.none, .none] }
def zh5 (b c : Bool) (h : Heap) (l1 l2 : Addr) : Heap := (zh4 b c h l1 l2).push { cls := .type "zip", data := .fields #[.none, .bool false, .bool false, .ref (zh2 b c h l1 l2).objs.size, .ref (zh3 b c h l1 l2).objs.size] }
theorem z_iter {prog : Program} {w : World} {A : Around} {E : Value → Shared → Prop} {s : Shared} {b : Bool} {l : Addr} {xs : Array Value} {Q : Value → Shared → Prop} (hl : zSq b s.heap l xs)
    (k : Q (.ref s.heap.objs.size) { s with heap := s.heap.push (zItO b l) }) : wpAny (model prog w) A (pyIter (.ref l)) Q E s := by
  cases b
  · exact wpAny_pyIter_list hl k
  · exact wpAny_pyIter_tuple hl k
theorem z_new (b c : Bool) (l1 l2 : Addr) (xs ys : Array Value) :
    Meets (Builtin.«zip.__new__» ⟨[.type "zip", .ref l1, .ref l2], []⟩) (fun _ R s => zSq b s.heap l1 xs ∧ zSq c s.heap l2 ys ∧
      R (.ok (.ret (.ref (zh4 b c s.heap l1 l2).objs.size))) { s with heap := zh5 b c s.heap l1 l2 }) := by
  refine .of_wp fun prog w A R s h => ?_
  obtain ⟨hp, g, d, tk, os⟩ := s
  obtain ⟨q1, q2, h⟩ := h
  have isz := sub_zip
  have a1 : zSq b (Shared.heap ⟨hp, g, d, tk, os⟩) l1 xs := q1
  have a2 : zSq c (Shared.heap ⟨hp.push (zItO b l1), g, d, tk, os⟩) l2 ys := q2.stay fun o e => Heap.get?_push_of_some _ e
  wp_walk using z_iter a1, z_iter a2
  exact ⟨_, rfl, h⟩
section
variable {prog : Program} {w : World} {A : Around} {E : Value → Shared → Prop} {s : Shared} {b c : Bool}
theorem z_call {l1 l2 : Addr} {xs ys : Array Value} {Q : Value → Shared → Prop} (q1 : zSq b s.heap l1 xs) (q2 : zSq c s.heap l2 ys)
    (k : ∀ h2, IsZip h2 (s.heap.objs.size + 4) (s.heap.objs.size + 2) (s.heap.objs.size + 3) .none → IsPair h2 (s.heap.objs.size + 2) (.ref s.heap.objs.size) (.ref (s.heap.objs.size + 1)) →
      IsPair h2 (s.heap.objs.size + 3) .none .none → zIt b h2 s.heap.objs.size l1 0 → zIt c h2 (s.heap.objs.size + 1) l2 0 → h2.objs.size = s.heap.objs.size + 5 →
      (∀ a o, s.heap.get? a = some o → h2.get? a = some o) → Q (.ref (s.heap.objs.size + 4)) { s with heap := h2 }) : wpAny (model prog w) A (call (.type "zip") [.ref l1, .ref l2]) Q E s := by
  refine callType_new F.called_zip (by decide) (F.typeCall_zip_2 _ _) (F.newCall_zip_2 _ _) (fun obj => F.args_object_init_3 obj _ _) F.entry_zip_new (z_new b c l1 l2 xs ys) ⟨q1, q2, ?_⟩
  have e1 : (zh1 b s.heap l1).objs.size = s.heap.objs.size + 1 := Heap.size_push ..
  have e2 : (zh2 b c s.heap l1 l2).objs.size = s.heap.objs.size + 2 := (Heap.size_push ..).trans (by rw [e1])
  have e3 : (zh3 b c s.heap l1 l2).objs.size = s.heap.objs.size + 3 := (Heap.size_push ..).trans (by rw [e2])
  have e4 : (zh4 b c s.heap l1 l2).objs.size = s.heap.objs.size + 4 := (Heap.size_push ..).trans (by rw [e3])
  have e5 : (zh5 b c s.heap l1 l2).objs.size = s.heap.objs.size + 5 := (Heap.size_push ..).trans (by rw [e4])
  have p5 : ∀ a o, (zh4 b c s.heap l1 l2).get? a = some o → (zh5 b c s.heap l1 l2).get? a = some o := fun a o e => Heap.get?_push_of_some _ e
  have p4 : ∀ a o, (zh3 b c s.heap l1 l2).get? a = some o → (zh5 b c s.heap l1 l2).get? a = some o := fun a o e => p5 a o (Heap.get?_push_of_some _ e)
  have p3 : ∀ a o, (zh2 b c s.heap l1 l2).get? a = some o → (zh5 b c s.heap l1 l2).get? a = some o := fun a o e => p4 a o (Heap.get?_push_of_some _ e)
  have p2 : ∀ a o, (zh1 b s.heap l1).get? a = some o → (zh5 b c s.heap l1 l2).get? a = some o := fun a o e => p3 a o (Heap.get?_push_of_some _ e)
  have g5 : IsZip (zh5 b c s.heap l1 l2) (zh4 b c s.heap l1 l2).objs.size (zh2 b c s.heap l1 l2).objs.size (zh3 b c s.heap l1 l2).objs.size .none := Heap.get?_push_size _ rfl
  have g4 : IsPair (zh5 b c s.heap l1 l2) (zh3 b c s.heap l1 l2).objs.size .none .none := p5 _ _ (Heap.get?_push_size _ rfl)
  have g3 : IsPair (zh5 b c s.heap l1 l2) (zh2 b c s.heap l1 l2).objs.size (.ref s.heap.objs.size) (.ref (zh1 b s.heap l1).objs.size) := p4 _ _ (Heap.get?_push_size _ rfl)
  have fr : ∀ (b : Bool) (l : Addr), (zItO b l).isFreed = false := fun b l => rfl
  have g2 : (zh5 b c s.heap l1 l2).get? (zh1 b s.heap l1).objs.size = some (zItO c l2) := p3 _ _ (Heap.get?_push_size _ (fr _ _))
  have g1 : (zh5 b c s.heap l1 l2).get? s.heap.objs.size = some (zItO b l1) := p2 _ _ (Heap.get?_push_size _ (fr _ _))
  show _ ∧ _
  rw [e2, e3, e4] at g5
  rw [e1, e2] at g3
  rw [e3] at g4
  rw [e1] at g2
  rw [e4]
  exact ⟨⟨_, g5, rfl⟩, k _ g5 g3 g4 (.new g1) (.new g2) e5 fun a o x => p2 _ _ (Heap.get?_push_of_some _ x)⟩
end
end Ev
set_option Elab.async false
set_option linter.all false
set_option maxRecDepth 100000
set_option maxHeartbeats 8000000
namespace Ev
open PySem PyProof.Rows L2
def sqX : Bool → PySem.W.Frag → Hp → Addr → List V → Prop
  | true => SqT
  | false => SqL
theorem sqX.sub {b : Bool} {K : PySem.W.Frag} {F H : Hp} (h : ∀ a o, F a = some o → H a = some o) {a : Addr} {vs : List V} (r : sqX b K F a vs) : sqX b K H a vs := by
  cases b
  · exact SqL.sub h r
  · exact SqT.sub h r
section
variable {X : Cx} {pins : List (Addr × Obj)} {σ : L2.St} {H : Hp} {s : Shared} {a b : Addr} {u v : Bool}
theorem sqX.at (I : Inv X pins σ H s) {xs : List V} (q : sqX u X.K H a xs) : ∃ its : List Value, Vals xs its ∧ zSq u s.heap a its.toArray ∧ its.length ≤ sizeLine := by
  cases u
  · obtain ⟨its, rv, p, n⟩ := I.list q
    exact ⟨its, rv, p.isList, by rw [← rv.length]; exact n⟩
  · obtain ⟨its, rv, p, n⟩ := I.tuple q
    exact ⟨its, rv, p, by rw [← rv.length]; exact n⟩
theorem sqX.inj (I : Inv X pins σ H s) {xs ys : List V} (p : sqX u X.K H a xs) (q : sqX u X.K H a ys) : xs = ys := by
  cases u
  · exact I.list_inj p q
  · exact I.tuple_inj p q
end
/-- both sequences as they stand at each turn, the items in new pairs -/
def ItzM (u v : Bool) (K : PySem.W.Frag) (a b : Addr) : L2.It :=
  ⟨fun i H => ∃ (xs ys : List V) (x y : V), sqX u K H a xs ∧ sqX v K H b ys ∧ xs[i]? = some x ∧ ys[i]? = some y,
    fun i H w H2 => ∃ T x y, w = .ref T ∧ H T = none ∧ H2 = upd H T (.tup [x, y]) ∧ (∀ xs, sqX u K H a xs → xs[i]? = some x) ∧ ∀ ys, sqX v K H b ys → ys[i]? = some y,
    fun i H => ∃ xs ys : List V, sqX u K H a xs ∧ sqX v K H b ys ∧ (xs.length ≤ i ∨ ys.length ≤ i)⟩
theorem turn_zipM {P : Program} {w : World} {K : PySem.W.Frag} {elts : List Expr} {kk : Nat} {tpos : Pos} {a b z TI TO i1 i2 : Addr} {u v : Bool} (ap : ZipApart z TI TO i1 i2 a b) :
    Turn P w K (.Tuple elts kk tpos) (ItzM u v K a b) [z, TI, TO, i1, i2] z (fun i h => IsZip h z TI TO .none ∧ IsPair h TI (.ref i1) (.ref i2) ∧ (∃ x y, IsPair h TO x y) ∧ zIt u h i1 a i ∧ zIt v h i2 b i) where
  mem := by simp
  obj := fun i h st c hc => by
    obtain ⟨kz, kI, ⟨x, y, kO⟩, n1, n2⟩ := st
    simp only [List.mem_cons, List.not_mem_nil, or_false] at hc
    rcases hc with rfl | rfl | rfl | rfl | rfl
    · exact ⟨_, kz, fun v q => nomatch q⟩
    · exact ⟨_, kI, fun v q => nomatch q⟩
    · exact ⟨_, kO, fun v q => nomatch q⟩
    · exact n1.low
    · exact n2.low
  keep := fun i h h2 st k => by
    obtain ⟨kz, kI, ⟨x, y, kO⟩, n1, n2⟩ := st
    exact ⟨k z (by simp) _ kz, k TI (by simp) _ kI, ⟨x, y, k TO (by simp) _ kO⟩, n1.stay fun o q => k i1 (by simp) o q, n2.stay fun o q => k i2 (by simp) o q⟩
  item := by
    intro X hP hw hK hc i pins s σ H E I hf st hg
    subst hP hw hK
    obtain ⟨kz, kI, ⟨x0, y0, kO⟩, n1, n2⟩ := st
    obtain ⟨xs, ys, x, y, qx, qy, ex, ey⟩ := hg
    obtain ⟨its, rv, p, _⟩ := qx.at I
    obtain ⟨its2, rv2, p2, _⟩ := qy.at I
    obtain ⟨c, hcx, rc⟩ := rv.get ex
    obtain ⟨d, hdx, rd⟩ := rv2.get ey
    have zl : z < s.heap.objs.size := Heap.lt_size kz
    refine z_next ap kz kI kO n1 n2 p p2 (x := c) (y := d) (by simpa using hcx) (by simpa using hdx) fun h2 kz2 kO2 m1 m2 hT hsz hk => ⟨_, rfl, ?_⟩
    refine wpAny_letOwnedTupleGo_zip (s := { s with heap := h2 }) kz2 fun h3 kz3 sb => ?_
    have hT3 : h3.get? s.heap.objs.size = some { cls := .type "tuple", data := .seq #[c, d] } := (sb.2 _ (Nat.ne_of_gt zl)).trans hT
    have new : ObjOk X.prog X.w (upd H s.heap.objs.size (.tup [x, y])) h3 s.heap.objs.size (.tup [x, y]) := ⟨by show 2 ≤ sizeLine; decide, [c, d], .cons rc (.cons rd .nil), ⟨_, hT3, rfl, _, rfl⟩⟩
    have I2 : Inv X pins σ (upd H s.heap.objs.size (.tup [x, y])) { s with heap := h3 } :=
      I.turnedNew (t' := s.toks) (ch := [z, TI, TO, i1, i2]) (fun e o hb q => (sb.2 e (fun y => hb (by simp [y]))).trans (hk e o (fun y => hb (by simp [y])) (fun y => hb (by simp [y])) (fun y => hb (by simp [y])) (fun y => hb (by simp [y])) q)) hf (Nat.le_refl _) new
    refine ⟨.ref s.heap.objs.size, _, I2, rfl, ⟨_, x, y, rfl, I.hok.fresh (Nat.le_refl _), rfl, fun l hl => by rw [hl.inj I qx]; exact ex, fun l hl => by rw [hl.inj I qy]; exact ey⟩, ⟨kz3, ?_, ⟨c, d, ?_⟩, ?_, ?_⟩, fun e he => ?_⟩
    · exact (sb.2 _ ap.TIz).trans (hk _ _ ap.TIz ap.TITO ap.TIi1 ap.TIi2 kI)
    · exact (sb.2 _ ap.TOz).trans kO2
    · exact m1.stay fun o q => (sb.2 _ ap.i1z).trans q
    · exact m2.stay fun o q => (sb.2 _ ap.i2z).trans q
    · have lt : e < s.heap.objs.size := by
        simp only [List.mem_cons, List.not_mem_nil, or_false] at he
        rcases he with rfl | rfl | rfl | rfl | rfl
        · exact zl
        · exact Heap.lt_size kI
        · exact Heap.lt_size kO
        · obtain ⟨_, e1, _⟩ := n1.low; exact Heap.lt_size e1
        · obtain ⟨_, e1, _⟩ := n2.low; exact Heap.lt_size e1
      rw [upd_ne (Nat.ne_of_lt lt)]
      exact (hf e he).1
  done := by
    intro X hP hw hK hc i pins s σ H E I hf st hg
    subst hP hw hK
    obtain ⟨kz, kI, ⟨x0, y0, kO⟩, n1, n2⟩ := st
    obtain ⟨xs, ys, qx, qy, out⟩ := hg
    obtain ⟨its, rv, p, _⟩ := qx.at I
    obtain ⟨its2, rv2, p2, _⟩ := qy.at I
    have l1 := rv.length
    have l2 := rv2.length
    have out2 : its.toArray[i]? = none ∨ its2.toArray[i]? = none := by
      rcases out with q | q
      · exact .inl (by simp; omega)
      · exact .inr (by simp; omega)
    exact z_stop (I.ok.hd hc) ap kz kI kO n1 n2 p p2 out2 fun h2 hk => ⟨rfl, I.turnedL (t' := s.toks) (ch := [z, TI, TO, i1, i2]) (fun e o hb q =>
      hk e o (fun y => hb (by simp [y])) (fun y => hb (by simp [y])) (fun y => hb (by simp [y])) (fun y => hb (by simp [y])) q) hf⟩
  self := fun A i s Q E st h => wpAny_pyIter_zip st.1 h
def iZipM (K : PySem.W.Frag) (ta : TA) : TI := fun σ H R => ta σ H fun vs H1 => ∃ (u v : Bool) (a b : Addr) (xs ys : List V), vs = [.ref a, .ref b] ∧ sqX u K H1 a xs ∧ sqX v K H1 b ys ∧ R (ItzM u v K a b) H1
theorem pi_zipM {X : Cx} {e e2 : Expr} {ta : TA} {p pos tpos : Pos} {elts : List Expr} {kk : Nat} (gl : Gl X "zip") (gm : X.mg "zip" = none) (ha : PA X [e, e2] ta)
    (st : starEach [e, e2] X.env = (false, eval e X.env) :: starEach [e2] X.env := by rfl) (bk : (backTo pos (starEach [e2] X.env)).any (·.1) = false := by rfl) :
    PI X (.Tuple elts kk tpos) (.Call (.Name "zip" p) [e, e2] [] pos) (iZipM X.K ta) := by
  refine ⟨fun pins s σ H R I h => ?_⟩
  refine Call_ (ld_blt I gl gm PyProof.Rows.boot_zip (PyProof.Rows.callWith_type1 (thn (ha.run pos pins s σ H _ I h) fun us t ⟨vs, H1, J, r1, u, v, a, b, xs, ys, ev, qx, qy, q⟩ => ?_) st bk))
  subst ev
  obtain ⟨u1, u2, rfl, r1, r2⟩ := vals2 r1
  cases r1
  cases r2
  have fresh : ∀ c, c ∈ [t.heap.objs.size + 4, t.heap.objs.size + 2, t.heap.objs.size + 3, t.heap.objs.size, t.heap.objs.size + 1] → FpOk X pins H1 c := fun c hc => by
    have le : t.heap.objs.size ≤ c := by
      simp only [List.mem_cons, List.not_mem_nil, or_false] at hc
      have hc : c = (t.heap.objs.size : Nat) + 4 ∨ c = (t.heap.objs.size : Nat) + 2 ∨ c = (t.heap.objs.size : Nat) + 3 ∨ c = (t.heap.objs.size : Nat) ∨ c = (t.heap.objs.size : Nat) + 1 := hc
      rcases hc with z | z | z | z | z
      · rw [z]; exact Nat.le_add_right _ _
      · rw [z]; exact Nat.le_add_right _ _
      · rw [z]; exact Nat.le_add_right _ _
      · rw [z]; exact Nat.le_refl _
      · rw [z]; exact Nat.le_add_right _ _
    exact J.fpOk le (J.hok.fresh le)
  obtain ⟨its, rv, p1, _⟩ := qx.at J
  obtain ⟨its2, rv2, p2, _⟩ := qy.at J
  obtain ⟨o1, e1⟩ := p1.low
  obtain ⟨o2, e2⟩ := p2.low
  refine z_call p1 p2 fun h2 kz kI kO n1 n2 hsz hk => wpAny_pyIter_zip kz ?_
  have J2 : Inv X pins σ H1 { t with heap := h2 } := J.kept (t' := t.toks) hk
  exact ⟨t.heap.objs.size + 4, [t.heap.objs.size + 4, t.heap.objs.size + 2, t.heap.objs.size + 3, t.heap.objs.size, t.heap.objs.size + 1], _, _, H1, rfl, J2, turn_zipM (PySem.W.ktu_apart t.heap.objs.size a b (Heap.lt_size e1) (Heap.lt_size e2)), ⟨kz, kI, ⟨_, _, kO⟩, n1, n2⟩, fresh, q⟩
section
variable {prog : Program} {w : World} {A : Around} {E : Value → Shared → Prop} {u v : Bool}
/-- the zip between two turns: its pair is free, or still out -/
def zSt (h : Heap) (z TI TO i1 i2 S : Addr) : Prop := (IsZip h z TI TO .none ∧ ∃ p q, IsPair h TO p q) ∨ ∃ T f oT, IsZipHeld h z TI TO T f ∧ h.get? T = some oT ∧ T ≠ z ∧ T ≠ i1 ∧ T ≠ i2 ∧ T ≠ S
theorem zip_loop {R : Result → Shared → Prop} {S z TI TO i1 i2 l1 l2 : Addr} {xs ys : Array Value} {res : Value} (calm : A.handled = none) (ap : ZipApart z TI TO i1 i2 l1 l2) (nS : z ≠ S ∧ TI ≠ S ∧ TO ≠ S ∧ i1 ≠ S ∧ i2 ≠ S ∧ l1 ≠ S ∧ l2 ≠ S) :
    ∀ (rest : List (Key × Value)) (i : Nat) (acc : List (Key × Value)) (ix : Int) (t : Tok) (s : Shared), acc.length + rest.length ≤ sizeLine →
      (∀ (j : Nat) (q : Key × Value), rest[j]? = some q → ∃ c : Value, xs[i + j]? = some c ∧ ys[i + j]? = some q.2 ∧ keyIs q.1 c = true) → (xs[i + rest.length]? = none ∨ ys[i + rest.length]? = none) →
      zSt s.heap z TI TO i1 i2 S → IsPair s.heap TI (.ref i1) (.ref i2) → zIt u s.heap i1 l1 i → zIt v s.heap i2 l2 i → zSq u s.heap l1 xs → zSq v s.heap l2 ys → s.heap.DictOf (mixKind prog w) S acc →
      (∀ h2 tk, h2.DictOf (mixKind prog w) S (merged acc rest) → (∀ b o, b ≠ S → b ≠ z → b ≠ TO → b ≠ i1 → b ≠ i2 → s.heap.get? b = some o → h2.get? b = some o) → R (.ok (.ret res)) { s with heap := h2, toks := tk }) →
      codeAny (model prog w) A (.builtin "dict.update.loop" ⟨[.ref S, .ref z, .int ix t, res], []⟩) R s
  | [], i, acc, ix, t, s, few, ht, out, st, kI, n1, n2, s1, s2, hm, hR => by
    refine codeAny_builtin ud_entry ?_; rw [Around.under_plainId ud_plain _]
    show wpAny _ A.in1 (pyNext (.ref z) >>= _) _ _ s
    rcases st with ⟨kz, p, q, kO⟩ | ⟨T, f, oT, kz, kT, _⟩
    · refine wpAny_bind (z_stop (A := A.in1) calm ap kz kI kO n1 n2 s1 s2 out fun h2 k => ?_)
      show wpAny _ A.in1 (Builtin.Dict.addKeywords S [] >>= _) _ _ _
      exact wpAny_bind (wpAny_pure (wpAny_pure (hR h2 s.toks (hm.at fun o e => k _ o (Ne.symm nS.1) (Ne.symm nS.2.2.1) (Ne.symm nS.2.2.2.1) (Ne.symm nS.2.2.2.2.1) e) fun b o _ c1 c2 c3 c4 e => k b o c1 c2 c3 c4 e)))
    · refine wpAny_bind (z_stopH (A := A.in1) calm ap kz kT kI n1 n2 s1 s2 out fun h2 k => ?_)
      show wpAny _ A.in1 (Builtin.Dict.addKeywords S [] >>= _) _ _ _
      exact wpAny_bind (wpAny_pure (wpAny_pure (hR h2 s.toks (hm.at fun o e => k _ o (Ne.symm nS.1) (Ne.symm nS.2.2.2.1) (Ne.symm nS.2.2.2.2.1) e) fun b o _ c1 _ c3 c4 e => k b o c1 c3 c4 e)))
  | q :: rest, i, acc, ix, t, s, few, ht, out, st, kI, n1, n2, s1, s2, hm, hR => by
    obtain ⟨c, ex, ey, hk⟩ := ht 0 q rfl
    rw [List.length_cons] at few out
    have lt : ∀ {e : Addr} {o : Obj}, s.heap.get? e = some o → s.heap.objs.size ≠ e := fun e => Nat.ne_of_gt (Heap.lt_size e)
    have nT1 : s.heap.objs.size ≠ i1 := let ⟨_, e, _⟩ := n1.low; lt e
    have nT2 : s.heap.objs.size ≠ i2 := let ⟨_, e, _⟩ := n2.low; lt e
    have nTS : s.heap.objs.size ≠ S := let ⟨_, e, _⟩ := hm.typeIs; lt e
    have next : ∀ h1 h2 : Heap, zSt h1 z TI TO i1 i2 S → IsPair h1 TI (.ref i1) (.ref i2) → zIt u h1 i1 l1 (i + 1) → zIt v h1 i2 l2 (i + 1) → zSq u h1 l1 xs → zSq v h1 l2 ys → (∀ a o, a ≠ z → a ≠ TO → a ≠ i1 → a ≠ i2 → s.heap.get? a = some o → h1.get? a = some o) →
        h2.DictOf (mixKind prog w) S (stored acc q.1 q.2) → Heap.SameBut S h1 h2 → codeAny (model prog w) A (.builtin "dict.update.loop" ⟨[.ref S, .ref z, .int (ix + 1) 0, res], []⟩) R { s with heap := h2, toks := s.toks + 1 } := fun h1 h2 st1 kI1 m1 m2 q1 q2 k hm2 sb => by
      have out2 : ∀ a o, a ≠ S → h1.get? a = some o → h2.get? a = some o := fun a o n e => sb.extBut a o n e
      refine zip_loop calm ap nS rest (i + 1) (stored acc q.1 q.2) (ix + 1) 0 _ ?_ (fun j q' e => ?_) ?_ ?_ (out2 _ _ nS.2.1 kI1) (m1.stay fun o e => out2 _ o nS.2.2.2.1 e) (m2.stay fun o e => out2 _ o nS.2.2.2.2.1 e) (q1.stay fun o e => out2 _ o nS.2.2.2.2.2.1 e) (q2.stay fun o e => out2 _ o nS.2.2.2.2.2.2 e) hm2 fun h3 tk hd k3 => hR h3 tk hd fun b o c0 c1 c2 c3 c4 e => k3 b o c0 c1 c2 c3 c4 (out2 b o c0 (k b o c1 c2 c3 c4 e))
      · have y := stored_length_le acc q.1 q.2
        omega
      · obtain ⟨c', e1, e2, e3⟩ := ht (j + 1) q' (by simpa using e)
        refine ⟨c', ?_, ?_, e3⟩ <;> rw [show i + 1 + j = i + (j + 1) by omega] <;> assumption
      · rw [show i + 1 + rest.length = i + (rest.length + 1) by omega]
        exact out
      · rcases st1 with ⟨kz, a, b, kO⟩ | ⟨T, f, oT, kz, kT, r1, r2, r3, r4⟩
        · exact .inl ⟨out2 _ _ nS.1 kz, a, b, out2 _ _ nS.2.2.1 kO⟩
        · exact .inr ⟨T, f, oT, out2 _ _ nS.1 kz, out2 _ _ r4 kT, r1, r2, r3, r4⟩
    refine codeAny_builtin ud_entry ?_; rw [Around.under_plainId ud_plain _]
    show wpAny _ A.in1 (pyNext (.ref z) >>= _) _ _ s
    rcases st with ⟨kz, a, b, kO⟩ | ⟨T, f, oT, kz, kT, r1, r2, r3, r4⟩
    · refine wpAny_bind (z_next ap kz kI kO n1 n2 s1 s2 ex ey fun h1 a1 a2 a3 a4 a5 a6 k => ?_)
      have ki : IsPair h1 TI (.ref i1) (.ref i2) := k _ _ ap.TIz ap.TITO ap.TIi1 ap.TIi2 kI
      have ks1 : zSq u h1 l1 xs := s1.stay fun o e => k _ o ap.l1z ap.l1TO ap.l1i1 ap.l1i2 e
      have ks2 : zSq v h1 l2 ys := s2.stay fun o e => k _ o ap.l2z ap.l2TO ap.l2i1 ap.l2i2 e
      have km : h1.DictOf (mixKind prog w) S acc := hm.at fun o e => k _ o (Ne.symm nS.1) (Ne.symm nS.2.2.1) (Ne.symm nS.2.2.2.1) (Ne.symm nS.2.2.2.2.1) e
      show wpAny _ A.in1 (holding [Value.ref s.heap.objs.size] _ >>= _) _ _ _; refine wpAny_bind (wpAny_holding ?_); refine wpAny_bind (wpAny_tryCatch ?_)
      unfold Builtin.Dict.pairItems; refine wpAny_bind (wpAny_typeOf (T := "tuple") ⟨_, a5, rfl⟩ ?_)
      rw [if_pos (by first | decide | rfl | simp)]; refine wpAny_bind (wpAny_seqItems a5 rfl (wpAny_pure ?_))
      show wpAny _ A.in1 (holding [c, q.2] (dictSet S c q.2)) _ _ _
      refine wpAny_holding (wpAny_dictSet_pairs (knd := mixKind prog w) (k := q.1) hk km (fun h2 hm2 sb => ?_) (by omega))
      exact wpAny_pure ⟨plainId_quiet ud_plain _, next h1 h2 (.inr ⟨s.heap.objs.size, false, _, a1, a5, lt kz, nT1, nT2, nTS⟩) ki a3 a4 ks1 ks2 k hm2 sb⟩
    · refine wpAny_bind (z_nextH ap kz kT kI n1 n2 s1 s2 ex ey fun h1 a1 a3 a4 a5 a6 k => ?_)
      have ki : IsPair h1 TI (.ref i1) (.ref i2) := k _ _ ap.TIz ap.TIi1 ap.TIi2 kI
      have ks1 : zSq u h1 l1 xs := s1.stay fun o e => k _ o ap.l1z ap.l1i1 ap.l1i2 e
      have ks2 : zSq v h1 l2 ys := s2.stay fun o e => k _ o ap.l2z ap.l2i1 ap.l2i2 e
      have km : h1.DictOf (mixKind prog w) S acc := hm.at fun o e => k _ o (Ne.symm nS.1) (Ne.symm nS.2.2.2.1) (Ne.symm nS.2.2.2.2.1) e
      show wpAny _ A.in1 (holding [Value.ref s.heap.objs.size] _ >>= _) _ _ _; refine wpAny_bind (wpAny_holding ?_); refine wpAny_bind (wpAny_tryCatch ?_)
      unfold Builtin.Dict.pairItems; refine wpAny_bind (wpAny_typeOf (T := "tuple") ⟨_, a5, rfl⟩ ?_)
      rw [if_pos (by first | decide | rfl | simp)]; refine wpAny_bind (wpAny_seqItems a5 rfl (wpAny_pure ?_))
      show wpAny _ A.in1 (holding [c, q.2] (dictSet S c q.2)) _ _ _
      refine wpAny_holding (wpAny_dictSet_pairs (knd := mixKind prog w) (k := q.1) hk km (fun h2 hm2 sb => ?_) (by omega))
      exact wpAny_pure ⟨plainId_quiet ud_plain _, next h1 h2 (.inr ⟨T, true, oT, a1, k _ _ r1 r2 r3 kT, r1, r2, r3, r4⟩) ki a3 a4 ks1 ks2 (fun a o c1 _ c3 c4 e => k a o c1 c3 c4 e) hm2 sb⟩
/-- dict(z), z such a zip, new -/
theorem call_dictZ {s : Shared} {z TI TO i1 i2 l1 l2 : Addr} {xs ys : Array Value} {prs : List (Key × Value)} {p q : Value} {Q : Value → Shared → Prop} (calm : A.handled = none) (ap : ZipApart z TI TO i1 i2 l1 l2)
    (kz : IsZip s.heap z TI TO .none) (kI : IsPair s.heap TI (.ref i1) (.ref i2)) (kO : IsPair s.heap TO p q) (n1 : zIt u s.heap i1 l1 0) (n2 : zIt v s.heap i2 l2 0) (s1 : zSq u s.heap l1 xs) (s2 : zSq v s.heap l2 ys)
    (few : prs.length ≤ sizeLine) (ht : ∀ (j : Nat) (r : Key × Value), prs[j]? = some r → ∃ c : Value, xs[j]? = some c ∧ ys[j]? = some r.2 ∧ keyIs r.1 c = true) (out : xs[prs.length]? = none ∨ ys[prs.length]? = none)
    (k : ∀ h2 tk, h2.DictOf (mixKind prog w) s.heap.objs.size (merged [] prs) → (∀ b o, b ≠ z → b ≠ TO → b ≠ i1 → b ≠ i2 → s.heap.get? b = some o → h2.get? b = some o) → Q (.ref s.heap.objs.size) { s with heap := h2, toks := tk }) :
    wpAny (model prog w) A (call (.type "dict") [.ref z]) Q E s := by
  refine callType_codes (Q₁ := fun obj t => obj = .ref s.heap.objs.size ∧ t = { s with heap := s.heap.push { cls := .type "dict", data := .dict #[] } }) PySem.F.kt_called_dict (PySem.F.kt_typeCall_dict_1 _) PySem.F.entry_dict_init (kt_code_dict_new _ ⟨rfl, rfl⟩) ?_
  rintro obj t ⟨rfl, rfl⟩
  have new : (s.heap.push { cls := .type "dict", data := .dict #[] }).DictOf (mixKind prog w) s.heap.objs.size [] := Heap.DictOf.new s.heap
  have k0 : ∀ b o, s.heap.get? b = some o → (s.heap.push { cls := .type "dict", data := .dict #[] }).get? b = some o := fun b o e => Heap.get?_push_of_some _ e
  refine ⟨new.typeIs, PySem.F.args_dict_init_2 _ _, ?_⟩
  unfold Builtin.«dict.__init__»; refine wpAny_bind ?_; unfold Builtin.Dict.selfAndRest
  refine wpAny_bind (wpAny_notOrdered_dict new.typeIs ?_); show wpAny _ _ (pure (s.heap.objs.size, [Value.ref z])) _ _ _; refine wpAny_pure ?_
  show wpAny _ _ (Builtin.Dict.updateFrom "dict.__init__" s.heap.objs.size (.ref z) [] .none) _ _ _
  unfold Builtin.Dict.updateFrom; refine wpAny_bind (wpAny_typeOf (T := "zip") ⟨_, k0 _ _ kz, rfl⟩ ?_)
  rw [if_pos (by first | decide | rfl | simp)]
  refine wpAny_bind (getAttrOr_miss_zip (k0 _ _ kz) rfl rfl rfl zip_no_keys (by decide +kernel) calm fun h1 tk k1 => ?_)
  rw [if_pos (show (none : Option Value).isNone = true from rfl)]; refine wpAny_bind (wpAny_rule ?_)
  have kk : ∀ b o, s.heap.get? b = some o → h1.get? b = some o := fun b o e => k1 b o (k0 b o e)
  refine wpAny_bind (wpAny_pyIter_zip (kk _ _ kz) ?_)
  have lt : ∀ {e : Addr} {o : Obj}, s.heap.get? e = some o → e ≠ s.heap.objs.size := fun e => Nat.ne_of_lt (Heap.lt_size e)
  have nS : z ≠ s.heap.objs.size ∧ TI ≠ s.heap.objs.size ∧ TO ≠ s.heap.objs.size ∧ i1 ≠ s.heap.objs.size ∧ i2 ≠ s.heap.objs.size ∧ l1 ≠ s.heap.objs.size ∧ l2 ≠ s.heap.objs.size :=
    ⟨lt kz, lt kI, lt kO, let ⟨_, e, _⟩ := n1.low; lt e, let ⟨_, e, _⟩ := n2.low; lt e, let ⟨_, e⟩ := s1.low; lt e, let ⟨_, e⟩ := s2.low; lt e⟩
  have key := zip_loop (prog := prog) (w := w) (A := A.in1) (R := wants (fun r t => r = .none ∧ Q (.ref s.heap.objs.size) t) E) (res := Value.none) calm ap nS prs 0 [] 0 0 { s with heap := h1, toks := tk } (by rw [List.length_nil, Nat.zero_add]; exact few)
    (fun j r e => by rw [Nat.zero_add]; exact ht j r e) (by rw [Nat.zero_add]; exact out) (.inl ⟨kk _ _ kz, p, q, kk _ _ kO⟩) (kk _ _ kI) (n1.stay fun o e => kk _ o e) (n2.stay fun o e => kk _ o e) (s1.stay fun o e => kk _ o e) (s2.stay fun o e => kk _ o e) (new.at fun o e => k1 _ o e)
    (fun h2 tk2 hd k2 => ⟨rfl, k h2 tk2 hd fun b o c1 c2 c3 c4 e => k2 b o (lt e) c1 c2 c3 c4 (kk b o e)⟩)
  first
    | exact wpAny_pure ⟨plainId_quiet ud_plain _, key⟩
    | exact wpAny_bind (wpAny_pure (wpAny_pure ⟨plainId_quiet ud_plain _, key⟩))
end
/-- the pairs of keys and values of two sequences -/
theorem zip_prs {P : Program} {w : World} : ∀ {ks : List Key} {ys : List V} {us vs : List Value}, Vals (ks.map kV) us → Vals ys vs →
    ∃ prs : List (Key × Value), KV (ks.zip ys) prs ∧ prs.length = (ks.zip ys).length ∧ (∀ (j : Nat) (r : Key × Value), prs[j]? = some r → ∃ c : Value, us[j]? = some c ∧ vs[j]? = some r.2 ∧ keyIs r.1 c = true) ∧ (us[prs.length]? = none ∨ vs[prs.length]? = none)
  | [], ys, _, _, r1, r2 => by
    cases r1
    exact ⟨[], .nil, rfl, fun j r e => by simp at e, .inl rfl⟩
  | k :: ks, [], _, _, r1, r2 => by
    cases r2
    exact ⟨[], .nil, rfl, fun j r e => by simp at e, .inr rfl⟩
  | k :: ks, y :: ys, _, _, r1, r2 => by
    rw [List.map_cons] at r1
    cases r1 with
    | @cons _ u _ us ru r1 =>
      cases r2 with
      | @cons _ v _ vs rv r2 =>
        obtain ⟨prs, a1, a2, a3, a4⟩ := zip_prs (P := P) (w := w) r1 r2
        refine ⟨(k, v) :: prs, .cons ⟨rfl, rv⟩ a1, by rw [List.zip_cons_cons, List.length_cons, List.length_cons, a2], fun j r e => ?_, ?_⟩
        · cases j with
          | zero =>
            have e : (k, v) = r := Option.some.inj e
            subst e
            exact ⟨u, rfl, rfl, kV_is (P := P) (w := w) ru⟩
          | succ j =>
            obtain ⟨c, e1, e2, e3⟩ := a3 j r (by simpa using e)
            exact ⟨c, by simpa using e1, by simpa using e2, e3⟩
        · simpa using a4
theorem pe_dzip {X : Cx} {e e2 : Expr} {ta : TA} {p p2 q pos : Pos} (calm : X.calm = true) (gD : Gl X "dict") (mD : X.mg "dict" = none) (gZ : Gl X "zip") (mZ : X.mg "zip" = none) (ha : PA X [e, e2] ta)
    (st : starEach [e, e2] X.env = (false, eval e X.env) :: starEach [e2] X.env) (bk : (backTo q (starEach [e2] X.env)).any (·.1) = false) :
    PE X (.Call (.Name "dict" p) [.Call (.Name "zip" p2) [e, e2] [] q] [] pos) (fun σ H Q => ta σ H fun vs H1 => ∃ (u v : Bool) (a b : Addr) (ks : List Key) (ys : List V), vs = [.ref a, .ref b] ∧ sqX u X.K H1 a (ks.map kV) ∧ sqX v X.K H1 b ys ∧
      ∀ d, H1 d = none → Q (.ref d) (upd H1 d (.dK (mergeK [] (ks.zip ys))))) := by
  refine ⟨fun pins s σ H Q I h => Call_ (ld_blt I gD mD PyProof.Rows.boot_dict (callWith_type1 (args_cons (Call_ (ld_blt I gZ mZ PyProof.Rows.boot_zip ?_)) rfl) rfl rfl))⟩
  refine PyProof.Rows.callWith_type1 (thn (ha.run q pins s σ H _ I h) fun us t ⟨vs, H1, J, r1, u, v, a, b, ks, ys, ev, qx, qy, z⟩ => ?_) st bk
  subst ev
  obtain ⟨u1, u2, rfl, r1, r2⟩ := vals2 r1
  cases r1
  cases r2
  obtain ⟨its, rv, p1, f1⟩ := qx.at J
  obtain ⟨its2, rv2, p2, f2⟩ := qy.at J
  obtain ⟨o1, e1⟩ := p1.low
  obtain ⟨o2, e2⟩ := p2.low
  obtain ⟨prs, a1, a2, a3, a4⟩ := zip_prs (P := X.prog) (w := X.w) rv rv2
  have few : prs.length ≤ sizeLine := by
    have y := rv.length
    rw [a2, List.length_zip]
    rw [List.length_map] at y
    omega
  have big := J.big
  refine z_call p1 p2 fun h2 kz kI kO n1 n2 hsz hk => args_nil ?_
  refine call_dictZ (J.ok.hd calm) (PySem.W.ktu_apart t.heap.objs.size a b (Heap.lt_size e1) (Heap.lt_size e2)) kz kI kO n1 n2 (p1.stay fun o e => hk _ o e) (p2.stay fun o e => hk _ o e) few (fun j r e => by
    obtain ⟨c, c1, c2, c3⟩ := a3 j r e
    exact ⟨c, by simpa using c1, by simpa using c2, c3⟩) (by simpa using a4) fun h3 tk hd k3 => ?_
  have sz : t.heap.objs.size < h2.objs.size := by rw [hsz]; exact Nat.lt_add_of_pos_right (by decide)
  have old : ∀ b o, t.heap.get? b = some o → h3.get? b = some o := fun b o e => by
    have l := Heap.lt_size e
    refine k3 b o (Nat.ne_of_lt (Nat.lt_of_lt_of_le l (Nat.le_add_right _ _))) (Nat.ne_of_lt (Nat.lt_of_lt_of_le l (Nat.le_add_right _ _))) (Nat.ne_of_lt l) (Nat.ne_of_lt (Nat.lt_of_lt_of_le l (Nat.le_add_right _ _))) (hk b o e)
  have len : (mergeK [] (ks.zip ys)).length ≤ sizeLine := by
    refine Nat.le_trans (length_mergeK _ []) ?_
    rw [List.length_nil, Nat.zero_add, ← a2]
    exact few
  have hm : (h2.objs.size == sysModules) = false := beq_eq_false_iff_ne.mpr (Nat.ne_of_gt (Nat.lt_trans big sz))
  exact ⟨.ref h2.objs.size, upd H1 h2.objs.size (.dK (mergeK [] (ks.zip ys))), J.laid (t' := tk) old (Nat.le_of_lt sz) (show ObjOk X.prog X.w _ _ _ (.dK (mergeK [] (ks.zip ys))) from ⟨len, hm, merged [] prs, KV.merge a1 .nil, hd⟩), rfl, z _ (J.hok.fresh (Nat.le_of_lt sz))⟩
end Ev
set_option Elab.async false
set_option linter.all false
set_option maxRecDepth 100000
set_option maxHeartbeats 2000000
namespace Ev
open PySem L2 PyProof.Rows
def WE (X : Cx) (e : Expr) (σ : L2.St) (H : Hp) (Q : VK) : Prop := ∀ (pins : List (Addr × Obj)) (s : Shared), Inv X pins σ H s → wpAny (model X.prog X.w) X.A (eval e X.env) (EP X pins σ Q) X.xe s
def WTw (X : Cx) (e : Expr) (wh : Sem Value) (σ : L2.St) (H : Hp) (Q : Bool → Hp → Prop) : Prop := ∀ (pins : List (Addr × Obj)) (s : Shared), Inv X pins σ H s → wpAny (model X.prog X.w) X.A (isTrue e X.env wh) (TP X pins σ Q) X.xe s
def WT (X : Cx) (e : Expr) (σ : L2.St) (H : Hp) (Q : Bool → Hp → Prop) : Prop := WTw X e (eval e X.env) σ H Q
def WA (X : Cx) (es : List Expr) (σ : L2.St) (H : Hp) (Q : List V → Hp → Prop) : Prop := ∀ (pos : Pos) (pins : List (Addr × Obj)) (s : Shared), Inv X pins σ H s → wpAny (model X.prog X.w) X.A (spliced (backTo pos (starEach es X.env))) (AP X pins σ Q) X.xe s
theorem pe_we {X : Cx} {e : Expr} : PE X e (WE X e) := ⟨fun pins s _ _ _ I h => h pins s I⟩
theorem pt_wt {X : Cx} {e : Expr} : PT X e (WT X e) := ⟨fun pins s _ _ _ I h => h pins s I⟩
theorem pw_wt {X : Cx} {e : Expr} : PW X e (fun σ H Q => ∀ wh, WTw X e wh σ H Q) := ⟨fun wh pins s _ _ _ I h => h wh pins s I⟩
theorem pa_wa {X : Cx} {es : List Expr} : PA X es (WA X es) := ⟨fun pos pins s _ _ _ I h => h pos pins s I⟩
theorem WE.of {X : Cx} {e : Expr} {t : TE} {σ : L2.St} {H : Hp} {Q : VK} (p : PE X e t) (h : t σ H Q) : WE X e σ H Q := fun pins s I => p.run pins s σ H Q I h
theorem WT.of {X : Cx} {e : Expr} {t : TT} {σ : L2.St} {H : Hp} {Q : Bool → Hp → Prop} (p : PT X e t) (h : t σ H Q) : WT X e σ H Q := fun pins s I => p.run pins s σ H Q I h
theorem WA.of {X : Cx} {es : List Expr} {t : TA} {σ : L2.St} {H : Hp} {Q : List V → Hp → Prop} (p : PA X es t) (h : t σ H Q) : WA X es σ H Q := fun pos pins s I => p.run pos pins s σ H Q I h
theorem WE.mono {X : Cx} {e : Expr} {σ : L2.St} {H : Hp} {Q Q' : VK} (h : WE X e σ H Q) (k : ∀ v H1, Q v H1 → Q' v H1) : WE X e σ H Q' := fun pins s I =>
  thn (h pins s I) fun _ _ ⟨v, H1, I1, r, q⟩ => ⟨v, H1, I1, r, k v H1 q⟩
theorem WTw.mono {X : Cx} {e : Expr} {wh : Sem Value} {σ : L2.St} {H : Hp} {Q Q' : Bool → Hp → Prop} (h : WTw X e wh σ H Q) (k : ∀ v H1, Q v H1 → Q' v H1) : WTw X e wh σ H Q' := fun pins s I =>
  thn (h pins s I) fun _ _ ⟨H1, I1, q⟩ => ⟨H1, I1, k _ H1 q⟩
theorem WA.mono {X : Cx} {es : List Expr} {σ : L2.St} {H : Hp} {Q Q' : List V → Hp → Prop} (h : WA X es σ H Q) (k : ∀ v H1, Q v H1 → Q' v H1) : WA X es σ H Q' := fun pos pins s I =>
  thn (h pos pins s I) fun _ _ ⟨v, H1, I1, r, q⟩ => ⟨v, H1, I1, r, k v H1 q⟩
/-- whatever this context takes -/
def TX (X : Cx) : WX := fun c d σ H => ∃ W, Takes X W ∧ W c d σ H
theorem takes_TX {X : Cx} : Takes X (TX X) := fun u s' ⟨a, B, sI, pins, σ, H, cls, d, e, I, nb, up, sky, na, os, ag, W, tk, w⟩ =>
  tk u s' ⟨a, B, sI, pins, σ, H, cls, d, e, I, nb, up, sky, na, os, ag, w⟩
/-- an error of ours: its class, its fields in its own dict -/
def ExR (K : PySem.W.Frag) (W : Wd) (e : Exc) (c : Value) (dd : Option Addr) : Prop :=
  c = .ref (He.ga K e.cls) ∧ (e.fs = [] ∨ ∃ d vs, dd = some d ∧ W.F d = some (.xd vs) ∧ RepF K W e.fs vs)
/-- what is wanted of an evaluation's result -/
def Po (X : Cx) (W : Wd) (H : Hp) (σ : L2.St) {β : Type} (Q : β → Wd → List Ob → Hp → Prop) : R β → Prop
  | .bad => False
  | .ok a S' => ∀ W' H', Ext W H W' H' → Rel X.K W' S' H' → Q a W' S' H'
  | .exc e S' => ∀ W' H' c dd, Ext W H W' H' → Rel X.K W' S' H' → ExR X.K W' e c dd → TX X c dd σ H'
theorem Po.mono {X : Cx} {W W1 : Wd} {H H1 : Hp} {σ : L2.St} {S1 : List Ob} {β : Type} {Q : β → Wd → List Ob → Hp → Prop} {r : R β} (e : Ext W H W1 H1) (rel : Rel X.K W1 S1 H1) (h : Po X W H σ Q r) : Po X W1 H1 σ Q r := by
  cases r with
  | bad => exact h
  | ok a S' => exact fun W' H' e' r' => h W' H' (e.trans rel e') r'
  | exc x S' => exact fun W' H' c dd e' r' => h W' H' c dd (e.trans rel e') r'
theorem Po.imp {X : Cx} {W : Wd} {H : Hp} {σ : L2.St} {β : Type} {Q Q' : β → Wd → List Ob → Hp → Prop} {r : R β} (h : Po X W H σ Q r) (k : ∀ a W' S' H', Ext W H W' H' → Rel X.K W' S' H' → Q a W' S' H' → Q' a W' S' H') : Po X W H σ Q' r := by
  cases r with
  | bad => exact h
  | ok a S' => exact fun W' H' e' r' => k _ _ _ _ e' r' (h W' H' e' r')
  | exc x S' => exact h
theorem Po.ask {X : Cx} {W : Wd} {S : List Ob} {H : Hp} {σ : L2.St} {β : Type} {Q : β → Wd → List Ob → Hp → Prop} {f : List Ob → Option β} (h : Po X W H σ Q (ask f S)) : ∃ b, f S = some b ∧ ∀ W' H', Ext W H W' H' → Rel X.K W' S H' → Q b W' S H' := by
  unfold Ev.ask at h
  cases z : f S with
  | none => rw [z] at h; exact h.elim
  | some b => rw [z] at h; exact ⟨b, rfl, h⟩
theorem Po.ofO {X : Cx} {W : Wd} {S : List Ob} {H : Hp} {σ : L2.St} {β : Type} {Q : β → Wd → List Ob → Hp → Prop} {o : Option β} (h : Po X W H σ Q (ofO o S)) : ∃ b, o = some b ∧ ∀ W' H', Ext W H W' H' → Rel X.K W' S H' → Q b W' S H' := by
  unfold Ev.ofO at h
  cases z : o with
  | none => rw [z] at h; exact h.elim
  | some b => rw [z] at h; exact ⟨b, rfl, h⟩
theorem bnd_ask {α β : Type} {f : List Ob → Option α} {k : α → M β} {S : List Ob} {a : α} (h : f S = some a) : bnd (ask f) k S = k a S := by
  unfold bnd ask
  rw [h]
theorem Po.bndAsk {X : Cx} {W : Wd} {S : List Ob} {H : Hp} {σ : L2.St} {α β : Type} {Q : β → Wd → List Ob → Hp → Prop} {f : List Ob → Option α} {k : α → M β} (h : Po X W H σ Q (bnd (Ev.ask f) k S)) : ∃ b, f S = some b ∧ Po X W H σ Q (k b S) := by
  cases z : f S with
  | none =>
    unfold bnd Ev.ask at h
    rw [z] at h
    exact h.elim
  | some b =>
    rw [bnd_ask z] at h
    exact ⟨b, rfl, h⟩
/-- r: read only -/
def Rr (K : PySem.W.Frag) (r : Bool) (W : Wd) (H : Hp) (d : D) (v : V) : Prop := if r = true then RepA K W H d v else Rep K W d v
def Rrl (K : PySem.W.Frag) (r : Bool) (W : Wd) (H : Hp) (d : List D) (v : List V) : Prop := if r = true then RepAL K W H d v else RepL K W d v
theorem Rr.a {K : PySem.W.Frag} {r : Bool} {W : Wd} {H : Hp} {d : D} {v : V} (h : Rr K r W H d v) : RepA K W H d v := by
  cases r with
  | true => exact h
  | false => exact .rep h
theorem Rr.of {K : PySem.W.Frag} {r : Bool} {W : Wd} {H : Hp} {d : D} {v : V} (h : Rep K W d v) : Rr K r W H d v := by
  cases r with
  | true => exact .rep h
  | false => exact h
theorem Rr.ext {K : PySem.W.Frag} {r : Bool} {W W' : Wd} {H H' : Hp} {d : D} {v : V} (h : Rr K r W H d v) (e : Ext W H W' H') : Rr K r W' H' d v := by
  cases r with
  | true => exact RepA.ext h e
  | false => exact Rep.mono e.le h
theorem Rrl.cons {K : PySem.W.Frag} {r : Bool} {W : Wd} {H : Hp} {d : D} {v : V} {ds : List D} {vs : List V} (h : Rr K r W H d v) (t : Rrl K r W H ds vs) : Rrl K r W H (d :: ds) (v :: vs) := by
  cases r with
  | true => exact RepAL.cons h t
  | false => exact RepL.cons h t
theorem RepAL.of {K : PySem.W.Frag} {W : Wd} {H : Hp} : ∀ {ds : List D} {vs : List V}, RepL K W ds vs → RepAL K W H ds vs
  | _, _, .nil => .nil
  | _, _, .cons h t => .cons (.rep h) (RepAL.of t)
theorem RepAL.ext {K : PySem.W.Frag} {W W' : Wd} {H H' : Hp} (e : Ext W H W' H') : ∀ {ds : List D} {vs : List V}, RepAL K W H ds vs → RepAL K W' H' ds vs
  | _, _, .nil => .nil
  | _, _, .cons h t => .cons (h.ext e) (RepAL.ext e t)
theorem Rrl.a {K : PySem.W.Frag} {r : Bool} {W : Wd} {H : Hp} {d : List D} {v : List V} (h : Rrl K r W H d v) : RepAL K W H d v := by
  cases r with
  | true => exact h
  | false => exact RepAL.of h
structure XOk (X : Cx) (c : CC) : Prop where
  N : X.N = c.N
  nd : c.N.Nodup
  sc : X.env.scope = c.sc
  calm : X.calm = true
  fn : ∀ x, c.fnc.contains x = true → X.fn x = true
def SE (X : Cx) (e : Expr) (m : Sl → M D) (r : Bool) : Prop := ∀ (τ : Sl) (S : List Ob) (W : Wd) (σ : L2.St) (H : Hp) (Q : VK), Sg X.K W τ S σ H →
  Po X W H σ (fun d W' _ H' => ∀ v, Rr X.K r W' H' d v → Q v H') (m τ S) → WE X e σ H Q
def isBO : Expr → Bool
  | .BoolOp _ _ _ => true
  | _ => false
def testM (m : M D) : M Bool := bnd m fun x => ask fun S => truth S x
def STt (X : Cx) (e : Expr) (m : Sl → M D) : Prop := ∀ wh, (isBO e = true ∨ wh = eval e X.env) → ∀ (τ : Sl) (S : List Ob) (W : Wd) (σ : L2.St) (H : Hp) (Q : Bool → Hp → Prop), Sg X.K W τ S σ H →
  Po X W H σ (fun k _ _ H' => Q k H') (testM (m τ) S) → WTw X e wh σ H Q
def SA (X : Cx) (es : List Expr) (m : Sl → M (List D)) (r : Bool) : Prop := ∀ (τ : Sl) (S : List Ob) (W : Wd) (σ : L2.St) (H : Hp) (Q : List V → Hp → Prop), Sg X.K W τ S σ H →
  Po X W H σ (fun d W' _ H' => ∀ v, Rrl X.K r W' H' d v → Q v H') (m τ S) → WA X es σ H Q
section
variable {X : Cx} {τ : Sl} {S : List Ob} {W : Wd} {σ : L2.St} {H : Hp}
theorem SE.use {e : Expr} {m : Sl → M D} {r : Bool} (h : SE X e m r) (g : Sg X.K W τ S σ H) {β : Type} {Qf : β → Wd → List Ob → Hp → Prop} {k : D → M β} (hp : Po X W H σ Qf (bnd (m τ) k S)) :
    WE X e σ H (fun v H1 => ∃ d W1 S1, Ext W H W1 H1 ∧ Sg X.K W1 τ S1 σ H1 ∧ Rr X.K r W1 H1 d v ∧ Po X W1 H1 σ Qf (k d S1)) := by
  refine h τ S W σ H _ g ?_
  unfold bnd at hp
  cases z : m τ S with
  | bad => rw [z] at hp; exact hp
  | exc x S1 => rw [z] at hp; exact hp
  | ok d S1 =>
    rw [z] at hp
    exact fun W1 H1 e1 r1 v rv => ⟨d, W1, S1, e1, g.ext e1 r1, rv, Po.mono e1 r1 hp⟩
/-- the same, the value told -/
theorem SE.use' {e : Expr} {m : Sl → M D} {r : Bool} (h : SE X e m r) (g : Sg X.K W τ S σ H) {d : D} {S1 : List Ob} (hm : m τ S = .ok d S1) :
    WE X e σ H (fun v H1 => ∃ W1, Ext W H W1 H1 ∧ Sg X.K W1 τ S1 σ H1 ∧ Rr X.K r W1 H1 d v) := by
  refine h τ S W σ H _ g ?_
  rw [hm]
  exact fun W1 H1 e1 r1 v rv => ⟨W1, e1, g.ext e1 r1, rv⟩
theorem SE.exc {e : Expr} {m : Sl → M D} {r : Bool} (h : SE X e m r) (g : Sg X.K W τ S σ H) {β : Type} {Qf : β → Wd → List Ob → Hp → Prop} {k : D → M β} (hp : Po X W H σ Qf (bnd (m τ) k S)) (hn : ∀ d S1, m τ S ≠ .ok d S1) (Q : VK) : WE X e σ H Q := by
  refine h τ S W σ H _ g ?_
  unfold bnd at hp
  cases z : m τ S with
  | bad => rw [z] at hp; exact hp
  | exc x S1 => rw [z] at hp; exact hp
  | ok d S1 => exact absurd z (hn d S1)
theorem STt.use {e : Expr} {m : Sl → M D} (h : STt X e m) {wh : Sem Value} (hw : isBO e = true ∨ wh = eval e X.env) (g : Sg X.K W τ S σ H) {β : Type} {Qf : β → Wd → List Ob → Hp → Prop} {k : Bool → M β} (hp : Po X W H σ Qf (bnd (testM (m τ)) k S)) :
    WTw X e wh σ H (fun b H1 => ∃ W1 S1, Ext W H W1 H1 ∧ Sg X.K W1 τ S1 σ H1 ∧ Po X W1 H1 σ Qf (k b S1)) := by
  refine h wh hw τ S W σ H _ g ?_
  unfold bnd at hp
  cases z : testM (m τ) S with
  | bad => rw [z] at hp; exact hp
  | exc x S1 => rw [z] at hp; exact hp
  | ok d S1 =>
    rw [z] at hp
    exact fun W1 H1 e1 r1 => ⟨W1, S1, e1, g.ext e1 r1, Po.mono e1 r1 hp⟩
theorem SA.use {es : List Expr} {m : Sl → M (List D)} {r : Bool} (h : SA X es m r) (g : Sg X.K W τ S σ H) {β : Type} {Qf : β → Wd → List Ob → Hp → Prop} {k : List D → M β} (hp : Po X W H σ Qf (bnd (m τ) k S)) :
    WA X es σ H (fun v H1 => ∃ d W1 S1, Ext W H W1 H1 ∧ Sg X.K W1 τ S1 σ H1 ∧ Rrl X.K r W1 H1 d v ∧ Po X W1 H1 σ Qf (k d S1)) := by
  refine h τ S W σ H _ g ?_
  unfold bnd at hp
  cases z : m τ S with
  | bad => rw [z] at hp; exact hp
  | exc x S1 => rw [z] at hp; exact hp
  | ok d S1 =>
    rw [z] at hp
    exact fun W1 H1 e1 r1 v rv => ⟨d, W1, S1, e1, g.ext e1 r1, rv, Po.mono e1 r1 hp⟩
/-- the end of an expression whose value is asked of the store -/
theorem Po.fin {r : Bool} {Q : VK} {f : List Ob → Option D} (h : Po X W H σ (fun d W' _ H' => ∀ v, Rr X.K r W' H' d v → Q v H') (Ev.ask f S)) : ∃ d, f S = some d ∧ Fin X W S H d Q := by
  obtain ⟨d, e, q⟩ := h.ask
  exact ⟨d, e, fun W' H' v e' r' rv => q W' H' e' r' v (Rr.of rv)⟩
end
section
variable {X : Cx} {a b e : Expr} {ma mb mc : Sl → M D} {r : Bool} {pos : Pos}
theorem se_bin (hc : boOf p = some o) (ha : SE X a ma true) (hb : SE X b mb true) : SE X (.BinOp a p b pos) (fun τ => bnd (ma τ) fun x => bnd (mb τ) fun y => Ev.ask fun S => binS S o x y) r := by
  intro τ S W σ H Q g hp
  refine WE.of (pe_op opR_RG pe_we pe_we) ?_
  refine (ha.use g hp).mono fun x H1 ⟨d1, W1, S1, e1, g1, r1, hp1⟩ => ?_
  refine (hb.use g1 hp1).mono fun y H2 ⟨d2, W2, S2, e2, g2, r2, hp2⟩ => ?_
  obtain ⟨d, ed, q⟩ := hp2.fin
  exact bin_ok g2.rel hc (r1.a.ext e2) r2.a ed q
theorem se_cst {k : Const} {d : D} {j : Nat} (h : cstOf k = some d) : SE X (.Constant k j pos) (fun _ => ret d) r := by
  intro τ S W σ H Q g hp
  have q : Fin X W S H d Q := fun W' H' v e' r' rv => hp W' H' e' r' v (Rr.of rv)
  cases k with
  | int i => cases h; exact WE.of pe_int (q.int g.rel)
  | str i => cases h; exact WE.of pe_str (q.str g.rel)
  | bool i => cases h; exact WE.of pe_bl (q.bl g.rel)
  | none => cases h; exact WE.of pe_non (q.at g.rel .non)
  | _ => cases h
theorem idx_get {x : Str} : ∀ {l : List Str} {k i : Nat}, idx x l k = some i → ∃ j, i = k + j ∧ l[j]? = some x
  | [], _, _, h => by cases h
  | y :: l, k, i, h => by
    unfold idx at h
    split at h
    · rename_i e
      cases h
      exact ⟨0, rfl, by rw [e]; rfl⟩
    · obtain ⟨j, e1, e2⟩ := idx_get h
      exact ⟨j + 1, by omega, by simpa using e2⟩
theorem slot_ok {c : CC} {x : Str} {i : Nat} (xo : XOk X c) (h : c.slot x = some i) : X.N[i]? = some x ∧ Vis X.env.scope x ∧ (x == ("__debug__" : Str)) = false ∧ (x == ("__classdict__" : Str)) = false := by
  unfold CC.slot at h
  split at h
  · rename_i hv
    simp only [Bool.and_eq_true, bne_iff_ne] at hv
    obtain ⟨⟨h1, h2⟩, h3⟩ := hv
    obtain ⟨j, e1, e2⟩ := idx_get h
    have e1 : i = j := by omega
    subst e1
    refine ⟨by rw [xo.N]; exact e2, ?_, beq_eq_false_iff_ne.mpr h2, beq_eq_false_iff_ne.mpr h3⟩
    unfold Vis
    rw [xo.sc]
    unfold isVis at h1
    split at h1
    · exact .inl (by assumption)
    · exact .inr (.inl (by assumption))
    · exact .inr (.inr (by assumption))
    · cases h1
  · cases h
theorem gl_ok {c : CC} {x : Str} (xo : XOk X c) (h : c.gl x = true) : Gl X x ∧ (x == ("__debug__" : Str)) = false := by
  unfold CC.gl at h
  rw [Bool.and_eq_true, bne_iff_ne] at h
  refine ⟨?_, beq_eq_false_iff_ne.mpr h.2⟩
  show X.env.scope.names.lookup x = some .globalImplicit
  rw [xo.sc]
  have h1 := h.1
  unfold isGl at h1
  split at h1
  · assumption
  · cases h1
theorem se_loc {c : CC} {x : Str} {i : Nat} (xo : XOk X c) (h : c.slot x = some i) : SE X (.Name x pos) (fun τ => ofO (match τ[i]? with
    | some (.val d) => some d
    | _ => none)) r := by
  intro τ S W σ H Q g hp
  obtain ⟨hN, hv, hd, hcd⟩ := slot_ok xo h
  obtain ⟨d, ed, q⟩ := hp.ofO
  split at ed
  · rename_i d' hs
    cases ed
    obtain ⟨v, ev, rv⟩ := g.sl i _ hs
    exact WE.of (pe_var hN hv hd hcd) ⟨v, ev, q W H .refl g.rel v (Rr.of rv)⟩
  · cases ed
theorem se_rd {c : CC} {x : Str} {i : Nat} (xo : XOk X c) (h : c.slot x = some i) : SE X (.Name x pos) (fun τ => ofO (match τ[i]? with
    | some (.val d) => some d
    | some (.own xs) => some (.lst xs)
    | some (.ownd kvs) => some (.dct kvs)
    | _ => none)) true := by
  intro τ S W σ H Q g hp
  obtain ⟨hN, hv, hd, hcd⟩ := slot_ok xo h
  obtain ⟨d, ed, q⟩ := hp.ofO
  split at ed
  · rename_i d' hs
    cases ed
    obtain ⟨v, ev, rv⟩ := g.sl i _ hs
    exact WE.of (pe_var hN hv hd hcd) ⟨v, ev, q W H .refl g.rel v (.rep rv)⟩
  · rename_i d' hs
    cases ed
    obtain ⟨a, vs, ev, hH, rv, _, hn⟩ := g.sl i _ hs
    exact WE.of (pe_var hN hv hd hcd) ⟨_, ev, q W H .refl g.rel _ (.own hH rv hn)⟩
  · rename_i d' hs
    cases ed
    obtain ⟨a, vs, ev, hH, rv, _, hn⟩ := g.sl i _ hs
    exact WE.of (pe_var hN hv hd hcd) ⟨_, ev, q W H .refl g.rel _ (.ownd hH rv hn)⟩
  · cases ed
theorem se_neg (ha : SE X a ma true) : SE X (.UnaryOp .USub a pos) (fun τ => bnd (ma τ) fun x => ofO (match x with
    | .int i => some (.int (-i))
    | _ => none)) r := by
  intro τ S W σ H Q g hp
  refine WE.of (pe_un un_neg pe_we) ?_
  refine (ha.use g hp).mono fun x H1 ⟨d1, W1, S1, e1, g1, r1, hp1⟩ => ?_
  obtain ⟨d, ed, q⟩ := hp1.ofO
  split at ed
  · cases ed
    cases r1.a.int
    exact ⟨_, rfl, q W1 H1 .refl g1.rel _ (Rr.of (.int _))⟩
  · cases ed
theorem se_not (ha : SE X a ma true) : SE X (.UnaryOp .Not a pos) (fun τ => bnd (ma τ) fun x => Ev.ask fun S => (truth S x).map fun b => D.bl !b) r := by
  intro τ S W σ H Q g hp pins s I
  refine UnaryOp_ (thn (ha.use g hp pins s I) fun v s1 ⟨x, H1, I1, rx, d1, W1, S1, e1, g1, r1, hp1⟩ => ?_)
  obtain ⟨d, ed, q⟩ := hp1.fin
  cases z : truth S1 d1 with
  | none => rw [z] at ed; cases ed
  | some k =>
    rw [z] at ed
    cases ed
    exact not_of (thn (truA_ok (Q := fun c H2 => Q (.bl (!c)) H2) I1 rx (truth_ok g1.rel r1.a z) (q.bl g1.rel)) fun c s2 ⟨H2, I2, q2⟩ => ⟨.bl (!c), H2, I2, rfl, q2⟩)
theorem se_boolop {rest : List Expr} {op : BoolOp} (ha : SE X a ma r) (hb : SE X (.BoolOp op (b :: rest) pos) mb r) : SE X (.BoolOp op (a :: b :: rest) pos) (fun τ => bnd (ma τ) fun x => bnd (Ev.ask fun S => truth S x) fun k =>
    match op with
    | .And => if k = true then mb τ else ret x
    | .Or => if k = true then ret x else mb τ) r := by
  intro τ S W σ H Q g hp pins s I
  have main := ha.use g hp pins s I
  cases op with
  | And =>
    refine BoolOp_and (thn main fun v s1 ⟨x, H1, I1, rx, d1, W1, S1, e1, g1, r1, hp1⟩ => ?_)
    obtain ⟨k, ek, hp2⟩ := hp1.bndAsk
    refine thn (truA_ok (Q := fun c H2 => c = k ∧ H2 = H1) I1 rx (truth_ok g1.rel r1.a ek) ⟨rfl, rfl⟩) fun c s2 ⟨H2, I2, ec, eH⟩ => ?_
    subst ec eH
    cases c with
    | true => exact hb τ S1 W1 σ H2 Q g1 hp2 pins s2 I2
    | false => exact ⟨x, H2, I2, rx, hp2 W1 H2 .refl g1.rel x r1⟩
  | Or =>
    refine BoolOp_or (thn main fun v s1 ⟨x, H1, I1, rx, d1, W1, S1, e1, g1, r1, hp1⟩ => ?_)
    obtain ⟨k, ek, hp2⟩ := hp1.bndAsk
    refine thn (truA_ok (Q := fun c H2 => c = k ∧ H2 = H1) I1 rx (truth_ok g1.rel r1.a ek) ⟨rfl, rfl⟩) fun c s2 ⟨H2, I2, ec, eH⟩ => ?_
    subst ec eH
    cases c with
    | false => exact hb τ S1 W1 σ H2 Q g1 hp2 pins s2 I2
    | true => exact ⟨x, H2, I2, rx, hp2 W1 H2 .refl g1.rel x r1⟩
theorem se_bool1 {op : BoolOp} (ha : SE X a ma r) : SE X (.BoolOp op [a] pos) ma r := fun τ S W σ H Q g hp => WE.of (pe_one pe_we) (ha τ S W σ H Q g hp)
theorem se_cmp {p : CmpOp} {o : CO} (hu : X.A.units + 64 < cLine) (hm : behindInMarks p b = false) (hc : coOf p = some o) (ha : SE X a ma true) (hb : SE X b mb true) : SE X (.Compare a [p] [b] pos) (fun τ => bnd (ma τ) fun x => bnd (mb τ) fun y => Ev.ask fun S => cmpS S o x y) r := by
  intro τ S W σ H Q g hp
  refine WE.of (pe_cmpR opR_RG pe_we pe_we hm) ?_
  refine (ha.use g hp).mono fun x H1 ⟨d1, W1, S1, e1, g1, r1, hp1⟩ => ?_
  refine (hb.use g1 hp1).mono fun y H2 ⟨d2, W2, S2, e2, g2, r2, hp2⟩ => ?_
  obtain ⟨d, ed, q⟩ := hp2.fin
  exact cmp_ok hu g2.rel hc (r1.a.ext e2) r2.a ed q
theorem se_cmp2 {p p' : CmpOp} {o o' : CO} {d : Expr} (hu : X.A.units + 64 < cLine) (hm : lastMarks [p, p'] [b, d] = false) (hc : coOf p = some o) (hc' : coOf p' = some o') (ha : SE X a ma true) (hb : SE X b mb true) (hd : SE X d mc true) :
    SE X (.Compare a [p, p'] [b, d] pos) (fun τ => bnd (ma τ) fun x => bnd (mb τ) fun y => bnd (Ev.ask fun S => cmpS S o x y) fun k => match k with
    | .bl true => bnd (mc τ) fun z => Ev.ask fun S => cmpS S o' y z
    | .bl false => ret (.bl false)
    | _ => Ev.bad) r := by
  intro τ S W σ H Q g hp
  refine WE.of (pe_chain opR_RG opR_RG pe_we pe_we pe_we hm) ?_
  refine (ha.use g hp).mono fun x H1 ⟨d1, W1, S1, e1, g1, r1, hp1⟩ => ?_
  refine (hb.use g1 hp1).mono fun y H2 ⟨d2, W2, S2, e2, g2, r2, hp2⟩ => ?_
  obtain ⟨k, ek, hp3⟩ := hp2.bndAsk
  refine cmp_ok hu g2.rel hc (r1.a.ext e2) r2.a ek ?_
  intro W3 H3 v e3 r3 rv
  split at hp3
  · cases rv
    refine ⟨true, rfl, ?_⟩
    rw [if_pos rfl]
    have g3 := g2.ext e3 r3
    refine (hd.use g3 (Po.mono e3 r3 hp3)).mono fun z H4 ⟨d4, W4, S4, e4, g4, r4, hp4⟩ => ?_
    obtain ⟨d5, ed5, q5⟩ := hp4.fin
    exact cmp_ok hu g4.rel hc' ((r2.a.ext e3).ext e4) r4.a ed5 q5
  · cases rv
    refine ⟨false, rfl, ?_⟩
    rw [if_neg Bool.false_ne_true]
    exact hp3 W3 H3 e3 r3 _ (Rr.of (.bl false))
  · exact hp3.elim
theorem se_ife {t : Expr} {mt : Sl → M D} (ht : STt X t mt) (ha : SE X a ma r) (hb : SE X b mb r) : SE X (.IfExp t a b pos) (fun τ => bnd (mt τ) fun x => bnd (Ev.ask fun S => truth S x) fun k => if k = true then ma τ else mb τ) r := by
  intro τ S W σ H Q g hp
  refine WE.of (pe_ifExp pt_wt pe_we pe_we) ?_
  have hp' : Po X W H σ (fun d W' _ H' => ∀ v, Rr X.K r W' H' d v → Q v H') (bnd (testM (mt τ)) (fun k => if k = true then ma τ else mb τ) S) := by
    have e : bnd (testM (mt τ)) (fun k => if k = true then ma τ else mb τ) S = bnd (mt τ) (fun x => bnd (Ev.ask fun S => truth S x) fun k => if k = true then ma τ else mb τ) S := by
      unfold testM bnd
      cases mt τ S <;> rfl
    rw [e]
    exact hp
  refine WTw.mono (ht.use (.inr rfl) g hp') fun k H1 ⟨W1, S1, e1, g1, hp1⟩ => ?_
  cases k with
  | true => exact ha τ S1 W1 σ H1 Q g1 hp1
  | false => exact hb τ S1 W1 σ H1 Q g1 hp1
end
end Ev
set_option Elab.async false
set_option linter.all false
set_option maxRecDepth 100000
set_option maxHeartbeats 2000000
namespace Ev
open PySem L2 PyProof.Rows
section
variable {X : Cx} {a b e : Expr} {ma mb mc : Sl → M D} {r : Bool} {pos : Pos}
theorem bnd_assoc {α β γ : Type} (m : M α) (k : α → M β) (l : β → M γ) : bnd (bnd m k) l = bnd m (fun a => bnd (k a) l) := by
  funext S
  unfold bnd
  cases m S <;> rfl
/-- by its value's truth, where the machine does so -/
theorem st_val (h : SE X e ma true) (he : ∀ wh, isTrue e X.env wh = (do let v ← wh; standAt e.pos; holding [v] (truthy v))) (hb : isBO e = false) : STt X e ma := by
  intro wh hw τ S W σ H Q g hp pins s I
  have hw : wh = eval e X.env := by
    rcases hw with hw | hw
    · rw [hb] at hw; cases hw
    · exact hw
  subst hw
  refine isTrue_plain (thn (h.use g hp pins s I) fun v s1 ⟨x, H1, I1, rx, d1, W1, S1, e1, g1, r1, hp1⟩ => ?_) (he _)
  obtain ⟨k, ek, q⟩ := hp1.ask
  exact truA_ok I1 rx (truth_ok g1.rel r1.a ek) (q W1 H1 .refl g1.rel)
theorem st_not (h : STt X a ma) : STt X (.UnaryOp .Not a pos) (fun τ => bnd (ma τ) fun x => Ev.ask fun S => (truth S x).map fun b => D.bl !b) := by
  intro wh hw τ S W σ H Q g hp
  have hp' : Po X W H σ (fun k _ _ H' => Q k H') (bnd (testM (ma τ)) (fun k => ret !k) S) := by
    have e : testM (bnd (ma τ) fun x => Ev.ask fun S => (truth S x).map fun b => D.bl !b) S = bnd (testM (ma τ)) (fun k => ret !k) S := by
      unfold testM bnd
      cases ma τ S with
      | ok x S1 =>
        show _ = _
        unfold Ev.ask
        cases z : truth S1 x with
        | none => simp [z]
        | some k =>
          have tb : ∀ b, truth S1 (.bl b) = some b := fun _ => rfl
          simp [z, tb, ret]
      | exc x S1 => rfl
      | bad => rfl
    rw [← e]
    exact hp
  have := h.use (.inr rfl) g hp'
  have hh : WTw X (.UnaryOp .Not a pos) (eval (.UnaryOp .Not a pos) X.env) σ H Q := by
    refine WT.of (pt_not pt_wt) ?_
    exact WTw.mono this fun k H1 ⟨W1, S1, e1, g1, hp1⟩ => hp1 W1 H1 .refl g1.rel
  rcases hw with hw | hw
  · cases hw
  · subst hw; exact hh
theorem st_boolop {rest : List Expr} {op : BoolOp} (ha : STt X a ma) (hb : STt X (.BoolOp op (b :: rest) pos) mb) : STt X (.BoolOp op (a :: b :: rest) pos) (fun τ => bnd (ma τ) fun x => bnd (Ev.ask fun S => truth S x) fun k =>
    match op with
    | .And => if k = true then mb τ else ret x
    | .Or => if k = true then ret x else mb τ) := by
  intro wh hw τ S W σ H Q g hp
  cases op with
  | And =>
    have hp' : Po X W H σ (fun k _ _ H' => Q k H') (bnd (testM (ma τ)) (fun k => if k = true then testM (mb τ) else ret false) S) := by
      have e : testM (bnd (ma τ) fun x => bnd (Ev.ask fun S => truth S x) fun k => if k = true then mb τ else ret x) S = bnd (testM (ma τ)) (fun k => if k = true then testM (mb τ) else ret false) S := by
        unfold testM bnd
        cases ma τ S with
        | ok x S1 =>
          unfold Ev.ask
          cases z : truth S1 x with
          | none => simp [z]
          | some k => cases k <;> simp [z, ret]
        | exc x S1 => rfl
        | bad => rfl
      rw [← e]
      exact hp
    refine fun pins s I => (pw_and (pt_wt (X := X) (e := a)) pw_wt).run wh pins s σ H Q I ?_
    exact WTw.mono (ha.use (.inr rfl) g hp') fun k H1 ⟨W1, S1, e1, g1, hp1⟩ => by
      cases k with
      | true => exact fun wh => hb wh (.inl rfl) τ S1 W1 σ H1 Q g1 hp1
      | false => exact hp1 W1 H1 .refl g1.rel
  | Or =>
    have hp' : Po X W H σ (fun k _ _ H' => Q k H') (bnd (testM (ma τ)) (fun k => if k = true then ret true else testM (mb τ)) S) := by
      have e : testM (bnd (ma τ) fun x => bnd (Ev.ask fun S => truth S x) fun k => if k = true then ret x else mb τ) S = bnd (testM (ma τ)) (fun k => if k = true then ret true else testM (mb τ)) S := by
        unfold testM bnd
        cases ma τ S with
        | ok x S1 =>
          unfold Ev.ask
          cases z : truth S1 x with
          | none => simp [z]
          | some k => cases k <;> simp [z, ret]
        | exc x S1 => rfl
        | bad => rfl
      rw [← e]
      exact hp
    refine fun pins s I => (pw_or (pt_wt (X := X) (e := a)) pw_wt).run wh pins s σ H Q I ?_
    exact WTw.mono (ha.use (.inr rfl) g hp') fun k H1 ⟨W1, S1, e1, g1, hp1⟩ => by
      cases k with
      | false => exact fun wh => hb wh (.inl rfl) τ S1 W1 σ H1 Q g1 hp1
      | true => exact hp1 W1 H1 .refl g1.rel
theorem st_bool1 {op : BoolOp} (ha : STt X a ma) : STt X (.BoolOp op [a] pos) ma := by
  intro wh hw τ S W σ H Q g hp
  cases op with
  | And => exact fun pins s I => (pw_and1 (pt_wt (X := X) (e := a))).run wh pins s σ H Q I (ha _ (.inr rfl) τ S W σ H Q g hp)
  | Or => exact fun pins s I => (pw_or1 (pt_wt (X := X) (e := a))).run wh pins s σ H Q I (ha _ (.inr rfl) τ S W σ H Q g hp)
theorem cmp_bl {S : List Ob} {o : CO} {x y d : D} (h : cmpS S o x y = some d) : ∃ k, d = .bl k := by
  unfold cmpS at h
  split at h <;> first
    | (cases h; done)
    | (cases h; exact ⟨_, rfl⟩)
    | (cases z0 : nilK S x y with
      | some k => rw [z0] at h; cases h; exact ⟨_, rfl⟩
      | none =>
        rw [z0] at h
        cases z : eqD S x y with
        | none => rw [z] at h; cases h
        | some k => rw [z] at h; cases h; exact ⟨_, rfl⟩)
    | (cases z0 : neK S x y with
      | some k => rw [z0] at h; cases h; exact ⟨_, rfl⟩
      | none =>
        rw [z0] at h
        cases z : eqD S x y with
        | none => rw [z] at h; cases h
        | some k => rw [z] at h; cases h; exact ⟨_, rfl⟩)
    | (cases z : eqD S x y with
      | none => rw [z] at h; cases h
      | some k => rw [z] at h; cases h; exact ⟨_, rfl⟩)
    | (cases z : inS S x y with
      | none => rw [z] at h; cases h
      | some k => rw [z] at h; cases h; exact ⟨_, rfl⟩)
    | (cases z : isS x y with
      | none => rw [z] at h; cases h
      | some k => rw [z] at h; cases h; exact ⟨_, rfl⟩)
theorem st_cmp {p : CmpOp} {o : CO} (hu : X.A.units + 64 < cLine) (hm : behindInMarks p b = false) (hc : coOf p = some o) (ha : SE X a ma true) (hb : SE X b mb true) : STt X (.Compare a [p] [b] pos) (fun τ => bnd (ma τ) fun x => bnd (mb τ) fun y => Ev.ask fun S => cmpS S o x y) := by
  intro wh hw τ S W σ H Q g hp
  rcases hw with hw | hw
  · cases hw
  subst hw
  refine WT.of (pt_cmpR opR_RG pe_we pe_we hm) ?_
  have hp' : Po X W H σ (fun k _ _ H' => Q k H') (bnd (ma τ) (fun x => bnd (mb τ) fun y => bnd (Ev.ask fun S => cmpS S o x y) fun z => Ev.ask fun S => truth S z) S) := by
    have e : testM (bnd (ma τ) fun x => bnd (mb τ) fun y => Ev.ask fun S => cmpS S o x y) = bnd (ma τ) (fun x => bnd (mb τ) fun y => bnd (Ev.ask fun S => cmpS S o x y) fun z => Ev.ask fun S => truth S z) := by
      unfold testM
      rw [bnd_assoc]
      congr 1
      funext x
      rw [bnd_assoc]
    rw [← e]
    exact hp
  refine (ha.use g hp').mono fun x H1 ⟨d1, W1, S1, e1, g1, r1, hp1⟩ => ?_
  refine (hb.use g1 hp1).mono fun y H2 ⟨d2, W2, S2, e2, g2, r2, hp2⟩ => ?_
  obtain ⟨d, ed, hp3⟩ := hp2.bndAsk
  obtain ⟨k, ek⟩ := cmp_bl ed
  subst ek
  obtain ⟨k', ek', q⟩ := hp3.ask
  cases ek'
  refine cmp_ok hu g2.rel hc (r1.a.ext e2) r2.a ed fun W3 H3 v e3 r3 rv => ?_
  cases rv
  exact ⟨_, rfl, q W3 H3 e3 r3⟩
theorem st_cmp2 {p p' : CmpOp} {o o' : CO} {d : Expr} (hu : X.A.units + 64 < cLine) (hm : lastMarks [p, p'] [b, d] = false) (hc : coOf p = some o) (hc' : coOf p' = some o') (ha : SE X a ma true) (hb : SE X b mb true) (hd : SE X d mc true) :
    STt X (.Compare a [p, p'] [b, d] pos) (fun τ => bnd (ma τ) fun x => bnd (mb τ) fun y => bnd (Ev.ask fun S => cmpS S o x y) fun k => match k with
    | .bl true => bnd (mc τ) fun z => Ev.ask fun S => cmpS S o' y z
    | .bl false => ret (.bl false)
    | _ => Ev.bad) := by
  intro wh hw τ S W σ H Q g hp
  rcases hw with hw | hw
  · cases hw
  subst hw
  refine WT.of (pt_chain opR_RG opR_RG pe_we pe_we pe_we hm) ?_
  have hp' : Po X W H σ (fun k _ _ H' => Q k H') (bnd (ma τ) (fun x => bnd (mb τ) fun y => bnd (Ev.ask fun S => cmpS S o x y) fun k => testM (match k with
    | .bl true => bnd (mc τ) fun z => Ev.ask fun S => cmpS S o' y z
    | .bl false => ret (.bl false)
    | _ => Ev.bad)) S) := by
    have e : testM (bnd (ma τ) fun x => bnd (mb τ) fun y => bnd (Ev.ask fun S => cmpS S o x y) fun k => match k with
      | .bl true => bnd (mc τ) fun z => Ev.ask fun S => cmpS S o' y z
      | .bl false => ret (.bl false)
      | _ => Ev.bad) = bnd (ma τ) (fun x => bnd (mb τ) fun y => bnd (Ev.ask fun S => cmpS S o x y) fun k => testM (match k with
      | .bl true => bnd (mc τ) fun z => Ev.ask fun S => cmpS S o' y z
      | .bl false => ret (.bl false)
      | _ => Ev.bad)) := by
      unfold testM
      rw [bnd_assoc]
      congr 1
      funext x
      rw [bnd_assoc]
      congr 1
      funext y
      rw [bnd_assoc]
    rw [← e]
    exact hp
  refine (ha.use g hp').mono fun x H1 ⟨d1, W1, S1, e1, g1, r1, hp1⟩ => ?_
  refine (hb.use g1 hp1).mono fun y H2 ⟨d2, W2, S2, e2, g2, r2, hp2⟩ => ?_
  obtain ⟨k, ek, hp3⟩ := hp2.bndAsk
  refine cmp_ok hu g2.rel hc (r1.a.ext e2) r2.a ek ?_
  intro W3 H3 v e3 r3 rv
  split at hp3
  · cases rv
    refine ⟨true, rfl, ?_⟩
    rw [if_pos rfl]
    have g3 := g2.ext e3 r3
    have hp3' : Po X W3 H3 σ (fun k _ _ H' => Q k H') (bnd (mc τ) (fun z => bnd (Ev.ask fun S => cmpS S o' d2 z) fun z => Ev.ask fun S => truth S z) S2) := by
      have e : testM (bnd (mc τ) fun z => Ev.ask fun S => cmpS S o' d2 z) = bnd (mc τ) (fun z => bnd (Ev.ask fun S => cmpS S o' d2 z) fun z => Ev.ask fun S => truth S z) := by
        unfold testM
        rw [bnd_assoc]
      rw [← e]
      exact Po.mono e3 r3 hp3
    refine (hd.use g3 hp3').mono fun z H4 ⟨d4, W4, S4, e4, g4, r4, hp4⟩ => ?_
    obtain ⟨d5, ed5, hp5⟩ := hp4.bndAsk
    obtain ⟨k5, ek5⟩ := cmp_bl ed5
    subst ek5
    obtain ⟨k', ek', q⟩ := hp5.ask
    cases ek'
    refine cmp_ok hu g4.rel hc' ((r2.a.ext e3).ext e4) r4.a ed5 fun W6 H6 v e6 r6 rv => ?_
    cases rv
    exact ⟨_, rfl, q W6 H6 e6 r6⟩
  · cases rv
    refine ⟨false, rfl, ?_⟩
    rw [if_neg Bool.false_ne_true]
    obtain ⟨k', ek', q⟩ := Po.ask (f := fun S => truth S (.bl false)) hp3
    cases ek'
    exact ⟨_, rfl, q W3 H3 e3 r3⟩
  · exact hp3.elim
theorem st_ife {t : Expr} {mt : Sl → M D} (ht : STt X t mt) (ha : STt X a ma) (hb : STt X b mb) : STt X (.IfExp t a b pos) (fun τ => bnd (mt τ) fun x => bnd (Ev.ask fun S => truth S x) fun k => if k = true then ma τ else mb τ) := by
  intro wh hw τ S W σ H Q g hp
  rcases hw with hw | hw
  · cases hw
  subst hw
  have hp' : Po X W H σ (fun k _ _ H' => Q k H') (bnd (testM (mt τ)) (fun k => if k = true then testM (ma τ) else testM (mb τ)) S) := by
    have e : testM (bnd (mt τ) fun x => bnd (Ev.ask fun S => truth S x) fun k => if k = true then ma τ else mb τ) S = bnd (testM (mt τ)) (fun k => if k = true then testM (ma τ) else testM (mb τ)) S := by
      unfold testM bnd
      cases mt τ S with
      | ok x S1 =>
        unfold Ev.ask
        cases z : truth S1 x with
        | none => simp [z]
        | some k => cases k <;> simp [z]
      | exc x S1 => rfl
      | bad => rfl
    rw [← e]
    exact hp
  intro pins s I
  refine isTrue_IfExp (thn (ht.use (.inr rfl) g hp' pins s I) fun k s1 ⟨H1, I1, W1, S1, e1, g1, hp1⟩ => ?_)
  cases k with
  | true => exact ha _ (.inr rfl) τ S1 W1 σ H1 Q g1 hp1 pins s1 I1
  | false => exact hb _ (.inr rfl) τ S1 W1 σ H1 Q g1 hp1 pins s1 I1
theorem star_cons {e : Expr} {es : List Expr} {env : Env} (h : isStar e = false) : starEach (e :: es) env = (false, eval e env) :: starEach es env := by
  cases e <;> first | rfl | cases h
theorem sa_nil : SA X [] (fun _ => ret []) r := by
  intro τ S W σ H Q g hp
  refine WA.of pa_nil ?_
  refine hp W H .refl g.rel [] ?_
  cases r
  · exact RepL.nil
  · exact RepAL.nil
theorem sa_cons {es : List Expr} {ms : Sl → M (List D)} (hs : isStar e = false) (h : SE X e ma r) (t : SA X es ms r) : SA X (e :: es) (fun τ => bnd (ma τ) fun x => bnd (ms τ) fun xs => ret (x :: xs)) r := by
  intro τ S W σ H Q g hp
  refine WA.of (pa_cons pe_we pa_wa (star_cons hs)) ?_
  refine (h.use g hp).mono fun x H1 ⟨d1, W1, S1, e1, g1, r1, hp1⟩ => ?_
  refine (t.use g1 hp1).mono fun y H2 ⟨d2, W2, S2, e2, g2, r2, hp2⟩ => ?_
  exact hp2 W2 H2 .refl g2.rel _ (Rrl.cons (r1.ext e2) r2)
theorem se_tup {es : List Expr} {ms : Sl → M (List D)} {k : Nat} (h : SA X es ms false) : SE X (.Tuple es k pos) (fun τ => bnd (ms τ) fun ds => if ds.length ≤ sizeLine then ret (.tup ds) else Ev.bad) r := by
  intro τ S W σ H Q g hp
  refine WE.of (pe_tup pa_wa) ?_
  refine (h.use g hp).mono fun vs H1 ⟨ds, W1, S1, e1, g1, r1, hp1⟩ => ?_
  split at hp1
  · rename_i hz
    have r1 : RepL X.K W1 ds vs := r1
    refine ⟨by rw [← r1.length]; exact hz, fun p hp => ?_⟩
    exact Fin.tup (X := X) g1.rel (fun W' H' v e' r' rv => hp1 W' H' e' r' v (Rr.of rv)) r1 hp
  · exact hp1.elim
theorem se_lst {es : List Expr} {ms : Sl → M (List D)} (h : SA X es ms false) : SE X (.List es pos) (fun τ => bnd (ms τ) fun ds => if ds.length ≤ sizeLine then ret (.lst ds) else Ev.bad) r := by
  intro τ S W σ H Q g hp
  refine WE.of (pe_lst pa_wa) ?_
  refine (h.use g hp).mono fun vs H1 ⟨ds, W1, S1, e1, g1, r1, hp1⟩ => ?_
  split at hp1
  · rename_i hz
    have r1 : RepL X.K W1 ds vs := r1
    refine ⟨by rw [← r1.length]; exact hz, fun p hp => ?_⟩
    exact Fin.lst (X := X) g1.rel (fun W' H' v e' r' rv => hp1 W' H' e' r' v (Rr.of rv)) r1 hp
  · exact hp1.elim
end
theorem Rel.newOb {K : PySem.W.Frag} {W : Wd} {S : List Ob} {H : Hp} (r : Rel K W S H) {p : Addr} {o : HO} {b : Ob} (hp : H p = none)
    (hb : ∀ W', Le W W' → ObR K W' (upd H p o) b p) :
    ∃ W', Ext W H W' (upd H p o) ∧ Rel K W' (S ++ [b]) (upd H p o) ∧ W'.n = S.length + 1 ∧ W'.m S.length = p := by
  have mp : ∀ i, i < W.n → W.m i ≠ p := fun i hi e => by
    obtain ⟨u, hu⟩ := r.live hi
    rw [e, hp] at hu
    cases hu
  have fp : W.F p = none := by
    cases q : W.F p with
    | none => rfl
    | some u => rw [r.fz p u q] at hp; cases hp
  have nn : W.n = S.length := r.n
  have hm : ∀ i, i < W.n → (if i = S.length then p else W.m i) = W.m i := fun i hi => if_neg (by omega)
  have hmn : (if S.length = S.length then p else W.m S.length) = p := if_pos rfl
  have le : Le W ⟨W.F, fun i => if i = S.length then p else W.m i, S.length + 1⟩ := ⟨fun _ _ h => h, by show W.n ≤ S.length + 1; omega, hm⟩
  refine ⟨⟨W.F, fun i => if i = S.length then p else W.m i, S.length + 1⟩, ⟨le, fun b o h => .inl h, fun i h1 h2 => ?_, fun b o h h2 => ?_⟩, ⟨by simp, fun b o h => ?_, fun i o h => ?_, fun i hi => ?_, fun i j hi hj e => ?_⟩, rfl, hmn⟩
  · have h2 : i < S.length + 1 := h2
    have e : i = S.length := by omega
    show H (if i = S.length then p else W.m i) = none
    rw [if_pos e]; exact hp
  · rw [upd_ne (ne_of_none h hp)]; exact h
  · rw [upd_ne (ne_of_none h fp)]; exact r.fz b o h
  · by_cases hi : i < S.length
    · rw [List.getElem?_append_left hi] at h
      have q := r.ob i o h
      show ObR K _ _ o (if i = S.length then p else W.m i)
      rw [hm i (by omega)]
      cases o with
      | lst xs =>
        obtain ⟨vs, e, g⟩ := q
        exact ⟨vs, by rw [upd_ne (mp i (by omega))]; exact e, g.mono le⟩
      | dct xs =>
        obtain ⟨vs, e, g⟩ := q
        exact ⟨vs, by rw [upd_ne (mp i (by omega))]; exact e, g.mono le⟩
      | ins c fs =>
        obtain ⟨dx, vs, e, g⟩ := q
        exact ⟨dx, vs, by rw [upd_ne (mp i (by omega))]; exact e, g.mono le⟩
    · rw [List.getElem?_append_right (by omega)] at h
      have ei : i = S.length := by
        by_cases z : i - S.length = 0
        · omega
        · rw [List.getElem?_eq_none (by simp; omega)] at h; cases h
      subst ei
      rw [Nat.sub_self] at h
      cases h
      show ObR K _ _ b (if S.length = S.length then p else W.m S.length)
      rw [hmn]
      exact hb _ le
  · have hi : i < S.length + 1 := hi
    show W.F (if i = S.length then p else W.m i) = none
    by_cases z : i = S.length
    · rw [if_pos z]; exact fp
    · rw [if_neg z]; exact r.nf i (by omega)
  · have hi : i < S.length + 1 := hi
    have hj : j < S.length + 1 := hj
    have e : (if i = S.length then p else W.m i) = (if j = S.length then p else W.m j) := e
    by_cases zi : i = S.length
    · by_cases zj : j = S.length
      · omega
      · rw [if_pos zi, if_neg zj] at e
        exact absurd e.symm (mp j (by omega))
    · by_cases zj : j = S.length
      · rw [if_neg zi, if_pos zj] at e
        exact absurd e (mp i (by omega))
      · rw [if_neg zi, if_neg zj] at e
        exact r.inj i j (by omega) (by omega) e
section
variable {X : Cx} {a b e : Expr} {ma mb mc : Sl → M D} {r : Bool} {pos : Pos}
theorem se_newL {es : List Expr} {ms : Sl → M (List D)} (h : SA X es ms false) : SE X (.List es pos) (fun τ => bnd (ms τ) fun ds => fun S => if ds.length ≤ sizeLine then .ok (.obj S.length) (S ++ [.lst ds]) else .bad) r := by
  intro τ S W σ H Q g hp
  refine WE.of (pe_lst pa_wa) ?_
  refine (h.use g hp).mono fun vs H1 ⟨ds, W1, S1, e1, g1, r1, hp1⟩ => ?_
  split at hp1
  · rename_i hz
    have r1 : RepL X.K W1 ds vs := r1
    refine ⟨by rw [← r1.length]; exact hz, fun p hp => ?_⟩
    obtain ⟨W2, e2, r2, n2, m2⟩ := g1.rel.newOb (o := .lst vs) (b := .lst ds) hp fun W' le => ⟨vs, upd_same, r1.mono le⟩
    refine hp1 W2 _ e2 r2 _ (Rr.of ?_)
    rw [← m2]
    exact .obj (by omega)
  · exact hp1.elim
theorem keys_of {ks : List (Option Expr)} {qs : List Key} (h : mapO keyOfE ks = some qs) : ks.length = qs.length := by
  induction ks generalizing qs with
  | nil => cases h; rfl
  | cons k ks ih =>
    unfold mapO at h
    split at h
    · rename_i y ys h1 h2
      cases h
      simp [ih h2]
    · cases h
end
end Ev
set_option Elab.async false
set_option linter.all false
set_option maxRecDepth 100000
set_option maxHeartbeats 4000000
namespace Ev
open PySem L2 PyProof.Rows HT
section
variable {prog : Program} {w : World} {A : Around} {E : Value → Shared → Prop} {s : Shared}
theorem sliceApplied_back {sl : Addr} {vl vu vs : Value} {n : Nat} {Q : Int × Int × Nat → Shared → Prop} (hs : s.heap.IsSliceOf sl vl vu vs) (pl : IsPart vl none) (pu : IsPart vu none) (ps : IsPart vs (some (-1)))
    (h : Q ((n : Int) - 1, -1, n) s) : wpAny (model prog w) A (Builtin.Slice.sliceApplied (.ref sl) (pure (n : Int))) Q E s := by
  obtain ⟨os, hos, hcs, hds⟩ := id hs
  unfold Builtin.Slice.sliceApplied Builtin.Slice.sliceFields
  refine wpAny_bind (wpAny_bind (wpAny_field hos hds (x := vl) rfl (wpAny_bind (wpAny_field hos hds (x := vu) rfl (wpAny_bind (wpAny_field hos hds (x := vs) rfl (wpAny_pure ?_)))))))
  refine wpAny_bind (slicePart_ ps ?_)
  show wpAny _ _ (if ((-1 : Int) == 0) = true then _ else _) _ _ s
  rw [if_neg (by decide)]
  refine wpAny_bind (slicePart_ pl (wpAny_bind (slicePart_ pu (wpAny_bind (wpAny_pure ?_)))))
  show wpAny _ _ (match Builtin.Slice.sliceAdjust none none (-1) (n : Int) with | (lo, hi) => pure (lo, (-1 : Int), Builtin.Slice.slicePlaces lo hi (-1))) _ _ s
  have e1 : Builtin.Slice.sliceAdjust none none (-1) (n : Int) = ((n : Int) - 1, -1) := by
    unfold Builtin.Slice.sliceAdjust
    simp
  rw [e1]
  show wpAny _ _ (pure ((n : Int) - 1, (-1 : Int), Builtin.Slice.slicePlaces ((n : Int) - 1) (-1) (-1))) _ _ s
  have e2 : Builtin.Slice.slicePlaces ((n : Int) - 1) (-1) (-1) = n := by
    unfold Builtin.Slice.slicePlaces
    have h1 : ¬ (-1 : Int) > 0 := by omega
    simp only [h1, if_false]
    by_cases z : n = 0
    · subst z; rfl
    · rw [if_pos (by omega)]
      show ((((n : Int) - 1 - -1 - 1) / (- -1)) + 1).toNat = n
      rw [show (- -1 : Int) = 1 from rfl, Int.ediv_one]
      omega
  rw [e2]
  exact wpAny_pure h
theorem fm_congr {α β : Type} {f g : α → Option β} : ∀ {l : List α}, (∀ x ∈ l, f x = g x) → l.filterMap f = l.filterMap g
  | [], _ => rfl
  | x :: l, h => by
    rw [List.filterMap_cons, List.filterMap_cons, h x List.mem_cons_self, fm_congr fun y hy => h y (List.mem_cons_of_mem _ hy)]
theorem pick_back (xs : Array Value) : ((List.range xs.size).filterMap fun (m : Nat) => xs[(((xs.size : Int) - 1) + (m : Int) * (-1)).toNat]?).toArray = xs.toList.reverse.toArray := by
  congr 1
  have e : ∀ m ∈ List.range xs.size, xs[(((xs.size : Int) - 1) + (m : Int) * (-1)).toNat]? = xs.toList.reverse[m]? := fun m hm => by
    have hm := List.mem_range.mp hm
    rw [List.getElem?_reverse (by simpa using hm), Array.getElem?_toList]
    congr 1
    simp only [Array.length_toList]
    omega
  rw [fm_congr e]
  have hl : xs.size = xs.toList.reverse.length := by simp
  rw [hl]
  clear e hl
  generalize xs.toList.reverse = l
  induction l with
  | nil => rfl
  | cons a l ih =>
    rw [List.length_cons, List.range_succ_eq_map, List.filterMap_cons]
    simp only [List.getElem?_cons_zero, List.filterMap_map]
    congr 1
theorem getItem_tuple_back {t sl : Addr} {items : Array Value} {vl vu vs : Value} {Q : Value → Shared → Prop} (ht : IsTup s.heap t items) (hs : s.heap.IsSliceOf sl vl vu vs) (pl : IsPart vl none) (pu : IsPart vu none) (ps : IsPart vs (some (-1)))
    (h : Q (.ref s.heap.objs.size) { s with heap := s.heap.push { cls := .type "tuple", data := .seq items.toList.reverse.toArray } })
    (hsz : items.size ≤ sizeLine) : wpAny (model prog w) A (getItem (.ref t) (.ref sl)) Q E s := by
  have htake : sizeOk (.seq items.toList.reverse.toArray) := by
    show items.toList.reverse.toArray.size ≤ sizeLine
    rw [List.size_toArray, List.length_reverse, Array.length_toList]
    exact hsz
  obtain ⟨os, hos, hcs, hds⟩ := id hs
  have hTs : s.TypeIs (.ref sl) "slice" := ⟨os, hos, hcs⟩
  unfold getItem
  try with_reducible refine wpAny_holding ?_
  first | refine wpAny_bind (wpAny_pure ?_) | skip
  refine wpAny_bind (wpAny_sequenceKey ht.typeIs (by decide) ?_)
  refine wpAny_bind (wpAny_callSpecial?_slot (name := Str.ofString "__getitem__") ht.typeIs PyProof.Rows.slot_tuple_getitem
    (wpAny_call_entry PyProof.Rows.slot_tuple_getitem ht.typeIs entry_tuple_getitem ?_ (args_tuple_getitem _ _)))
  show wpAny _ _ (Builtin.Tuple.tupleItemsOf (.ref t) >>= _) _ _ s
  refine wpAny_bind (tupleItemsOf_ ht ?_)
  refine wpAny_bind (wpAny_typeOf hTs ?_)
  rw [if_pos (by decide)]
  refine wpAny_bind (sliceApplied_back hs pl pu ps ?_)
  have hno : ¬ ((((items.size : Int) - 1) == 0 && (-1 : Int) == 1 && items.size == items.size) = true) := by
    intro q
    rw [Bool.and_eq_true, Bool.and_eq_true] at q
    exact absurd q.1.2 (by decide)
  show wpAny _ _ (if (((items.size : Int) - 1) == 0 && (-1 : Int) == 1 && items.size == items.size) = true then _ else _) _ _ s
  rw [if_neg hno, pick_back]
  first
    | exact wpAny_bind (m := Builtin.Tuple.tupleExact _) (wpAny_newObj_type (wpAny_pure ⟨_, rfl, wpAny_pure h⟩) htake)
    | exact wpAny_bind (m := Builtin.Tuple.tupleExact _) (wpAny_newObj_type (wpAny_bind (wpAny_pure (wpAny_pure ⟨_, rfl, wpAny_pure h⟩))) htake)
    | exact wpAny_bind (wpAny_bind (m := Builtin.Tuple.tupleExact _) (wpAny_newObj_type (wpAny_pure (wpAny_pure ⟨_, rfl, wpAny_pure h⟩)) htake))
    | exact wpAny_bind (wpAny_bind (m := Builtin.Tuple.tupleExact _) (wpAny_newObj_type (wpAny_pure ⟨_, rfl, wpAny_pure h⟩) htake))
end
theorem pe_revT {X : Cx} {e : Expr} {te : TE} {k : Nat} {p1 p2 p3 pos : Pos} (he : PE X e te) : PE X (.Subscript e (.Slice none none (some (.UnaryOp .USub (.Constant (.int 1) k p1) p2)) p3) pos)
    (fun σ H Q => te σ H fun x H1 => ∃ a xs, x = .ref a ∧ SqT X.K H1 a xs ∧ ∀ p, H1 p = none → Q (.ref p) (upd H1 p (.tup xs.reverse))) := by
  refine ⟨fun pins s σ H Q I h => ?_⟩
  refine Subscript_ (thn (he.run pins s σ H _ I h) fun v s1 ⟨x, H1, I1, r1, q1⟩ => ?_)
  obtain ⟨a, xs, ex, hx, q⟩ := q1
  subst ex
  cases r1
  have hst : PO X (some (.UnaryOp .USub (.Constant (.int 1) k p1) p2)) (tPart (tUn (rU fun i => .int (-i)) (tC (.int 1)))) := po_some (pe_un un_neg pe_int)
  refine wpAny_Slice (thn (po_none.run pins s1 σ H1 (fun o H2 => o = none ∧ H2 = H1) I1 ⟨rfl, rfl⟩) fun vl s2 ⟨l, H2, I2, pl, el, e2⟩ => ?_)
  subst el e2
  refine thn (po_none.run pins s2 σ H2 (fun o H3 => o = none ∧ H3 = H2) I2 ⟨rfl, rfl⟩) fun vu s3 ⟨u, H3, I3, pu, eu, e3⟩ => ?_
  subst eu e3
  refine thn (hst.run pins s3 σ H3 (fun o H4 => o = some (-1) ∧ H4 = H3) I3 ⟨1, rfl, -1, rfl, rfl, rfl⟩) fun vs s4 ⟨o, H4, I4, ps, eo, e4⟩ => ?_
  subst eo e4
  have I5 : Inv X pins σ H4 { s4 with heap := s4.heap.push { cls := .type "slice", data := .fields #[vl, vu, vs] } } := I4.kept (t' := s4.toks) fun b ob q => Heap.get?_push_of_some _ q
  obtain ⟨its, r, ht, hz⟩ := I5.tuple hx
  have hlen := r.length
  show wpAny (model X.prog X.w) X.A (subscriptTail e (.Slice none none (some (.UnaryOp .USub (.Constant (.int 1) k p1) p2)) p3) (.ref a) (.ref s4.heap.objs.size)) (EP X pins σ Q) X.xe { s4 with heap := s4.heap.push { cls := .type "slice", data := .fields #[vl, vu, vs] } }
  refine tail_any (ops := [.ref a, .ref s4.heap.objs.size]) ht.typeIs PyProof.Rows.slot_tuple_getitem.lookup ?_ (by with_unfolding_all rfl)
  refine getItem_tuple_back ht (Heap.IsSliceOf.new _ vl vu vs) pl pu ps ?_ (by rw [List.size_toArray]; omega)
  refine ⟨.ref _, _, I5.laid (t' := s4.toks) (o := .tup xs.reverse) (fun b ob q => Heap.get?_push_of_some _ q) (Nat.le_refl _) ?_, rfl, q _ (I5.hok.fresh (Nat.le_refl _))⟩
  refine ⟨by rw [List.length_reverse]; exact hz, its.reverse, r.reverse, ⟨_, Heap.get?_push_size _ rfl, rfl, 0, rfl⟩⟩
theorem Po.bndOk {X : Cx} {W : Wd} {S S1 : List Ob} {H : Hp} {σ : L2.St} {α β : Type} {Q : β → Wd → List Ob → Hp → Prop} {m : M α} {a : α} {k : α → M β} (hm : m S = .ok a S1) (h : Po X W H σ Q (bnd m k S)) : Po X W H σ Q (k a S1) := by
  unfold bnd at h
  rw [hm] at h
  exact h
section
variable {X : Cx} {a b e : Expr} {ma mb mc : Sl → M D} {r : Bool} {pos : Pos}
theorem se_rev {k : Nat} {p1 p2 p3 : Pos} (ha : SE X a ma true) : SE X (.Subscript a (.Slice none none (some (.UnaryOp .USub (.Constant (.int 1) k p1) p2)) p3) pos) (fun τ => bnd (ma τ) fun x => Ev.ask fun S => revS S x) r := by
  intro τ S W σ H Q g hp
  by_cases hn : ∃ d S1, ma τ S = .ok d S1
  · obtain ⟨d, S1, hm⟩ := hn
    have hp1 : Po X W H σ (fun d W' _ H' => ∀ v, Rr X.K r W' H' d v → Q v H') (Ev.ask (fun S => revS S d) S1) := Po.bndOk (m := ma τ) (k := fun x => Ev.ask fun S => revS S x) hm hp
    by_cases z : ∃ xs, d = .tup xs
    · obtain ⟨xs, z⟩ := z
      subst z
      refine WE.of (pe_revT pe_we) ?_
      refine (ha.use' g hm).mono fun x H1 ⟨W1, e1, g1, r1⟩ => ?_
      obtain ⟨d', ed, q⟩ := (Po.mono e1 g1.rel hp1).fin
      cases ed
      obtain ⟨p, vs, rfl, hp, gg⟩ := r1.a.tup g1.rel
      exact ⟨p, vs, rfl, hp, fun p hp => q.tup g1.rel gg.reverse hp⟩
    · refine WE.of (pe_revL pe_we) ?_
      refine (ha.use' g hm).mono fun x H1 ⟨W1, e1, g1, r1⟩ => ?_
      obtain ⟨d', ed, q⟩ := (Po.mono e1 g1.rel hp1).fin
      have ed' : (match Ev.lstOf S1 d with
        | some xs => some (D.lst xs.reverse)
        | none => none) = some d' := by
        cases d <;> first | exact ed | exact absurd ⟨_, rfl⟩ z
      split at ed'
      · rename_i xs h1
        cases ed'
        obtain ⟨p, vs, rfl, hp, gg⟩ := r1.a.lstOf g1.rel h1
        exact ⟨p, vs, rfl, SqL.of hp, fun p hp => q.lst g1.rel gg.reverse hp⟩
      · cases ed'
  · refine WE.of (pe_revL pe_we) ?_
    exact ha.exc g hp (fun d S1 z => hn ⟨d, S1, z⟩) _
def isSlice : Expr → Bool
  | .Slice _ _ _ _ => true
  | _ => false
theorem plainIx {b : Expr} (h : isSlice b = false) : PlainIx b := by
  cases b <;> first | (intro o i; rfl) | cases h
theorem se_ix (hu : X.A.units + 64 < cLine) (hs : isSlice b = false) (ha : SE X a ma true) (hb : SE X b mb true) : SE X (.Subscript a b pos) (fun τ => bnd (ma τ) fun x => bnd (mb τ) fun y => Ev.ask fun S => ixS S x y) r := by
  intro τ S W σ H Q g hp
  refine WE.of (pe_ix ixR_IG pe_we pe_we (plainIx hs)) ?_
  refine (ha.use g hp).mono fun x H1 ⟨d1, W1, S1, e1, g1, r1, hp1⟩ => ?_
  refine (hb.use g1 hp1).mono fun y H2 ⟨d2, W2, S2, e2, g2, r2, hp2⟩ => ?_
  obtain ⟨d, ed, q⟩ := hp2.fin
  exact ix_ok hu g2.rel (r1.a.ext e2) r2.a ed q
/-- a slice's part -/
def SO (X : Cx) (o : Option Expr) (m : Sl → M (Option Int)) : Prop := ∀ (τ : Sl) (S : List Ob) (W : Wd) (σ : L2.St) (H : Hp) (Q : Option Int → Hp → Prop), Sg X.K W τ S σ H →
  Po X W H σ (fun d _ _ H' => Q d H') (m τ S) → ∃ t, PO X o t ∧ t σ H Q
def OG (X : Cx) (o : Option Expr) : TO := fun σ H Q => ∃ t, PO X o t ∧ t σ H Q
theorem po_OG {o : Option Expr} : PO X o (OG X o) := ⟨fun pins s σ H Q I ⟨t, p, h⟩ => p.run pins s σ H Q I h⟩
theorem so_none : SO X none (fun _ => ret none) := fun τ S W σ H Q g hp => ⟨_, po_none, hp W H .refl g.rel⟩
theorem so_some (ha : SE X a ma true) : SO X (some a) (fun τ => bnd (ma τ) fun x => ofO (match x with
    | .int i => some (some i)
    | _ => none)) := by
  intro τ S W σ H Q g hp
  refine ⟨_, po_some pe_we, (ha.use g hp).mono fun x H1 ⟨d1, W1, S1, e1, g1, r1, hp1⟩ => ?_⟩
  obtain ⟨d, ed, q⟩ := hp1.ofO
  split at ed
  · cases ed
    cases r1.a.int
    exact ⟨_, rfl, q W1 H1 .refl g1.rel⟩
  · cases ed
theorem SO.use {τ : Sl} {S : List Ob} {W : Wd} {σ : L2.St} {H : Hp} {o : Option Expr} {m : Sl → M (Option Int)} (h : SO X o m) (g : Sg X.K W τ S σ H) {β : Type} {Qf : β → Wd → List Ob → Hp → Prop} {k : Option Int → M β} (hp : Po X W H σ Qf (bnd (m τ) k S)) :
    OG X o σ H (fun d H1 => ∃ W1 S1, Ext W H W1 H1 ∧ Sg X.K W1 τ S1 σ H1 ∧ Po X W1 H1 σ Qf (k d S1)) := by
  refine h τ S W σ H _ g ?_
  unfold bnd at hp
  cases z : m τ S with
  | bad => rw [z] at hp; exact hp
  | exc x S1 => rw [z] at hp; exact hp
  | ok d S1 =>
    rw [z] at hp
    exact fun W1 H1 e1 r1 => ⟨W1, S1, e1, g.ext e1 r1, Po.mono e1 r1 hp⟩
theorem OG.mono {o : Option Expr} {σ : L2.St} {H : Hp} {Q Q' : Option Int → Hp → Prop} (h : OG X o σ H Q) (k : ∀ d H1, Q d H1 → Q' d H1) : OG X o σ H Q' := by
  obtain ⟨t, p, h⟩ := h
  refine ⟨fun σ' H' Q'' => σ' = σ ∧ H' = H ∧ (∀ d H1, Q d H1 → Q'' d H1), ⟨fun pins s σ' H' Q'' I ⟨e1, e2, k⟩ => ?_⟩, rfl, rfl, k⟩
  subst e1 e2
  exact thn (p.run pins s σ' H' Q I h) fun u s' ⟨d, H1, I1, pp, q⟩ => ⟨d, H1, I1, pp, k _ _ q⟩
theorem se_slc {lo hi : Option Expr} {ml mh : Sl → M (Option Int)} {p2 : Pos} (ha : SE X a ma true) (hl : SO X lo ml) (hh : SO X hi mh) :
    SE X (.Subscript a (.Slice lo hi none p2) pos) (fun τ => bnd (ma τ) fun x => bnd (ml τ) fun l => bnd (mh τ) fun h => Ev.ask fun S => slS S x l h) r := by
  intro τ S W σ H Q g hp
  refine WE.of (pe_slice slR_SG pe_we po_OG po_OG) ?_
  refine (ha.use g hp).mono fun x H1 ⟨d1, W1, S1, e1, g1, r1, hp1⟩ => ?_
  refine (hl.use g1 hp1).mono fun l H2 ⟨W2, S2, e2, g2, hp2⟩ => ?_
  refine (hh.use g2 hp2).mono fun h H3 ⟨W3, S3, e3, g3, hp3⟩ => ?_
  obtain ⟨d, ed, q⟩ := hp3.fin
  exact sl_ok g3.rel ((r1.a.ext e2).ext e3) ed q
theorem back_any (pos : Pos) (es : List Expr) (env : Env) (h : es.all (fun e => !isStar e) = true) : (backTo pos (starEach es env)).any (·.1) = false := by
  induction es with
  | nil => rfl
  | cons e es ih =>
    rw [List.all_cons, Bool.and_eq_true] at h
    have h1 : isStar e = false := by
      have := h.1
      cases z : isStar e with
      | true => rw [z] at this; cases this
      | false => rfl
    rw [star_cons h1]
    show (false || (backTo pos (starEach es env)).any (·.1)) = false
    rw [ih h.2]
    rfl
theorem se_isi {x : Str} {T : Str} {ty : Ty} {p pt : Pos} (hg : Gl X "isinstance") (hgT : Gl X T) (hm : X.mg "isinstance" = none) (hmT : X.mg T = none) (hst : isStar a = false) (ht : tyTab.lookup T = some ty) (ha : SE X a ma true) :
    SE X (.Call (.Name "isinstance" p) [a, .Name T pt] [] pos) (fun τ => bnd (ma τ) fun x => Ev.ask fun S => (isiS S x ty).map .bl) r := by
  intro τ S W σ H Q g hp
  have hT : ∃ u : String, bootBuiltins T = some (.type u) ∧ u = tyS ty ∧ (T ≠ "__name__") ∧ (T == ("__debug__" : Str)) = false := by
    have hm := PySem.mem_of_lookup ht
    simp only [tyTab, List.mem_cons, Prod.mk.injEq, List.not_mem_nil, or_false] at hm
    rcases hm with ⟨rfl, rfl⟩ | ⟨rfl, rfl⟩ | ⟨rfl, rfl⟩ | ⟨rfl, rfl⟩ | ⟨rfl, rfl⟩ | ⟨rfl, rfl⟩
    all_goals exact ⟨_, by decide +kernel, rfl, by decide +kernel, by decide +kernel⟩
  obtain ⟨u, hb, hu, hn, hd⟩ := hT
  refine WE.of (pe_callB (id := "isinstance") callR_CG hg hm (by decide +kernel) (pa_cons pe_we (pa_cons (pe_bltn hgT hmT hb (v := .ty u) rfl hn hd) pa_nil) (star_cons hst)) (he := star_cons hst)) ?_
  refine (ha.use g hp).mono fun x H1 ⟨d1, W1, S1, e1, g1, r1, hp1⟩ => ?_
  obtain ⟨d, ed, q⟩ := hp1.fin
  cases z : isiS S1 d1 ty with
  | none => rw [z] at ed; cases ed
  | some k =>
    rw [z] at ed
    cases ed
    obtain ⟨T', h1, h2⟩ := isi_ok g1.rel r1.a z
    subst hu
    exact ⟨_, call_isi, x, .ty (tyS ty), .type T', .type (tyS ty), k, rfl, .ty _, h1, kit_ty h2, q.bl g1.rel⟩
end
end Ev
set_option Elab.async false
set_option linter.all false
set_option maxRecDepth 100000
set_option maxHeartbeats 4000000
namespace Ev
open PySem L2 PyProof.Rows
/-- the promise of a def that means m -/
def spOf (K : PySem.W.Frag) (m : List D → M D) : Sp := fun vs H Q E => ∃ (W : Wd) (S : List Ob) (ds : List D), Rel K W S H ∧ RepL K W ds vs ∧ (match m ds S with
  | .bad => False
  | .ok d S' => ∀ W' H' v, Ext W H W' H' → Rel K W' S' H' → Rep K W' d v → Q v H'
  | .exc e S' => ∀ W' H' c dd, Ext W H W' H' → Rel K W' S' H' → ExR K W' e c dd → E c dd H')
def bltNames : List Str := ["isinstance", "range", "zip", "enumerate", "len", "list", "tuple", "int", "bool", "abs", "all", "any", "sum", "max", "min", "str", "dict", "set", "sorted"]
/-- of a class: isinstance of its instances -/
structure InsK (K : PySem.W.Frag) (C : Addr) : Prop where
  cl : Cls K C
  ha : PySem.W.findIn K (.ref C) "__class__" = some (some (.builtin "object.__class__"))
  hn : PySem.W.specialIn K (.builtin "object.__class__") "__get__" = some (some (.builtin "getset_descriptor.__get__"))
  htk : PySem.W.takesIn K (.builtin "object.__class__") = some true
  hm : PySem.W.mroIn K C (.type "object") = some true
  ty : ∀ t : Ty, PySem.W.kitOne K (.ref C) (.type (tyS t)) = some false
/-- of a class: its __init__, read off it -/
structure BasK (K : PySem.W.Frag) (C f : Addr) : Prop where
  rd : ClX.CRead K C (.type "type")
  cv : ClX.CVal K C (.type "type") "__init__" (.ref f) (.ref f)
/-- of an error's class with one field -/
structure ExcK (K : PySem.W.Frag) (C f : Addr) (fl : Str) : Prop where
  T : OexC K C
  iC : PySem.W.findIn K (.ref C) "__init__" = some (some (.ref f))
  tI : PySem.W.typeIn K (.ref f) = some (.type "function")
  no : PySem.W.findIn K (.ref C) fl = some none
/-- what such an __init__ does -/
def spInit (K : PySem.W.Frag) (fl : Str) : Sp := fun vs H Q _ => ∃ (a C : Addr) (y : V), vs = [.ref a, y] ∧ OexC K C ∧ PySem.W.findIn K (.ref C) fl = some none ∧ H a = some (exo a C none) ∧
  ∀ dx, H dx = none → dx ≠ a → Q .non (upd (upd H dx (exd dx [(fl, y)])) a (exo a C (some dx)))
/-- the program around: what its defs mean, and that they stand where they are told to -/
structure GOk (X : Cx) (c : CC) (G : Gs) : Prop where
  room : X.A.units + 64 < cLine
  call : ∀ x, c.fns.contains x = true → ∃ f fd ps k, FnOk X.prog X.w X.K X.mg X.base (L2.CX X.prog X.w) k f fd ps (spOf X.K (G.call x)) ∧ X.mg x = some (.ref f) ∧ PySem.W.keepIn X.K (.ref f) = true ∧ Binds X.K fd ps [] ∧ Room k X.A
  mak : ∀ x, c.cls.contains x = true → ∃ f fd ps k, Mk X.K (He.ga X.K x) f ∧ FnOk X.prog X.w X.K X.mg X.base (L2.CX X.prog X.w) k f fd ps (spOf X.K (G.init x)) ∧ X.mg x = some (.ref (He.ga X.K x)) ∧ Binds X.K fd ps [] ∧ Room (k + 1) X.A
  meth : ∀ x m, G.hasM x m = true → ∃ f fd ps k, Cls X.K (He.ga X.K x) ∧ Meth X.K (He.ga X.K x) m f ∧ FnOk X.prog X.w X.K X.mg X.base (L2.CX X.prog X.w) k f fd ps (spOf X.K (G.meth x m)) ∧ Binds X.K fd ps [] ∧ Room k X.A
  fld : ∀ x f, G.hasF x f = true → Cls X.K (He.ga X.K x) ∧ NoAttr X.K (He.ga X.K x) f
  glob : ∀ x, c.consts.contains x = true → ∃ u v, X.mg x = some u ∧ RelV v u ∧ ∀ d, G.glob x = some d → ∀ W, Rep X.K W d v
  free : ∀ x, x ∈ bltNames → X.mg x = none
  tab : ∀ y, c.tabs.contains y = true → ∃ p, X.mg y = some (.ref p) ∧ (∀ z i, G.tab y z = some i → KDct X.K X.w p z (.int i)) ∧ (∃ es n, KDict X.K X.w p es n) ∧ ∀ z, ∃ r, PySem.W.nsIn X.K p z = some r ∧ r.isSome = (G.tab y z).isSome
  inI : ∀ x, G.hasI x = true → InsK X.K (He.ga X.K x)
  bas : ∀ x, c.bas.contains x = true → ∃ f fd ps k, G.hasB x = true ∧ BasK X.K (He.ga X.K x) f ∧ FnOk X.prog X.w X.K X.mg X.base (L2.CX X.prog X.w) k f fd ps (spOf X.K (G.meth x "__init__")) ∧ X.mg x = some (.ref (He.ga X.K x)) ∧ PySem.W.keepIn X.K (.ref f) = true ∧ Binds X.K fd ps [] ∧ Room k X.A
  rai : ∀ x fl, c.excs.lookup x = some fl → ∃ f fd ps k, ExcK X.K (He.ga X.K x) f fl ∧ FnOk X.prog X.w X.K X.mg X.base CX0 k f fd ps (spInit X.K fl) ∧ X.mg x = some (.ref (He.ga X.K x)) ∧ Binds X.K fd ps [] ∧ Room (k + 1) X.A
  cat : ∀ x, c.cat.contains x = true → X.mg x = some (.ref (He.ga X.K x))
  exm : ∀ y x b, G.exm y x = some b → PySem.W.exmOne X.K (.ref (He.ga X.K y)) (.ref (He.ga X.K x)) = some b
  efl : ∀ y f, G.efl y f = true → XfC X.K (He.ga X.K y) ∧ PySem.W.findIn X.K (.ref (He.ga X.K y)) f = some none
section
variable {X : Cx} {CX : CXT} {k : Nat} {f C : Addr} {fd : FuncData} {ps : List Str} {sp : Sp} {E : L2.St → XK} {x m : Str} {p pos apos : Pos} {e o : Expr} {es : List Expr} {ta : TE} {t : TA}
theorem all_star {e : Expr} {es : List Expr} (h : (e :: es).all (fun e => !isStar e) = true) : isStar e = false ∧ es.all (fun e => !isStar e) = true := by
  rw [List.all_cons, Bool.and_eq_true] at h
  refine ⟨?_, h.2⟩
  have := h.1
  cases z : isStar e with
  | true => rw [z] at this; cases this
  | false => rfl
theorem run0 {pins : List (Addr × Obj)} {σ : L2.St} {H : Hp} {s : Shared} {Q : VK} {us : List Value} {vs : List V} (F : FnOk X.prog X.w X.K X.mg X.base CX k f fd ps sp) (hr : Room k X.A) (hb : Binds X.K fd ps []) (hx : PassesAt CX X σ (E σ))
    (I : Inv X pins σ H s) (r : Vals vs us) (h : sp vs H Q (E σ)) : wpAny (model X.prog X.w) X.A (call (.ref f) us) (EP X pins σ Q) X.xe s :=
  run_fnSD (dvs := []) F hr hb .nil hx I r (by rw [List.append_nil]; exact h)
theorem pe_callX (F : FnOk X.prog X.w X.K X.mg X.base CX k f fd ps sp) (hr : Room k X.A) (hg : Gl X x) (hm : X.mg x = some (.ref f)) (hk : PySem.W.keepIn X.K (.ref f) = true) (hb : Binds X.K fd ps []) (hx : ∀ σ, PassesAt CX X σ (E σ))
    (ha : PA X (e :: es) t) (hall : (e :: es).all (fun e => !isStar e) = true) (hdb : (x == ("__debug__" : Str)) = false) : PE X (.Call (.Name x p) (e :: es) [] pos) (fun σ H Q => t σ H fun vs H1 => sp vs H1 Q (E σ)) := by
  refine ⟨fun pins s σ H Q I h => ?_⟩
  obtain ⟨h1, h2⟩ := all_star hall
  refine wpAny_Call_Name_kw (ld_glob I hg hm ?_ hdb)
  refine PySem.W.callWith_K (h₀ := X.base) I.ok.mod.kin hk (thn (ha.run pos pins s σ H _ I h) fun us s1 ⟨vs, H1, I1, r, q⟩ => ⟨I1.kIn, ?_⟩) (star_cons h1) (back_any _ _ _ h2)
  exact run0 F hr hb (hx σ) I1 r q
theorem pe_callX0 (F : FnOk X.prog X.w X.K X.mg X.base CX k f fd ps sp) (hr : Room k X.A) (hg : Gl X x) (hm : X.mg x = some (.ref f)) (hk : PySem.W.keepIn X.K (.ref f) = true) (hb : Binds X.K fd ps []) (hx : ∀ σ, PassesAt CX X σ (E σ))
    (hdb : (x == ("__debug__" : Str)) = false) : PE X (.Call (.Name x p) [] [] pos) (fun σ H Q => sp [] H Q (E σ)) := by
  refine ⟨fun pins s σ H Q I h => ?_⟩
  refine wpAny_Call_Name_kw (ld_glob I hg hm ?_ hdb)
  exact PySem.W.callWith_K0 I.kIn hk (run0 (us := []) (vs := []) F hr hb (hx σ) I .nil h)
theorem run_makeX {pins : List (Addr × Obj)} {σ : L2.St} {H : Hp} {s : Shared} {Q : VK} {us : List Value} {vs : List V} (M : Mk X.K C f) (F : FnOk X.prog X.w X.K X.mg X.base CX k f fd ps sp) (hr : Room (k + 1) X.A) (hb : Binds X.K fd ps [])
    (hx : PassesAt CX X σ (E σ)) (I : Inv X pins σ H s) (r : Vals vs us)
    (h : ∀ x dx, H x = none → H dx = none → dx ≠ x → sp (.ref x :: vs) (upd (upd H dx (.own x)) x (.ins C dx [])) (fun v H2 => v = .non ∧ Q (.ref x) H2) (E σ)) :
    wpAny (model X.prog X.w) X.A (call (.ref C) us) (EP X pins σ Q) X.xe s := by
  have hq := h (s.heap.objs.size + 1) s.heap.objs.size (I.hok.fresh (Nat.le_succ _)) (I.hok.fresh (Nat.le_refl _)) (Nat.ne_of_lt (Nat.lt_succ_self _))
  have I2 := Inv.made (C := C) I
  have r2 : Vals (V.ref (s.heap.objs.size + 1) :: vs) (Value.ref (s.heap.objs.size + 1) :: us) := .cons rfl r
  have hl : ((Value.ref (s.heap.objs.size + 1) :: us) ++ []).length = ps.length := by
    have e := r2.length
    rw [F.len _ _ _ _ hq] at e
    rw [List.append_nil]
    exact e.symm
  have hbb := hb _ (Value.ref (s.heap.objs.size + 1) :: us) I2.kIn hl
  rw [List.append_nil] at hbb
  refine wpAny_call (make_map (f := f) I.kIn M.makes M.init (beq_iff_eq.mp M.fn) (codeAny_mono (F.run _ X.stack _ _ ⟨Value.ref (s.heap.objs.size + 1) :: us, []⟩ (Value.ref (s.heap.objs.size + 1) :: us) _ _ (E σ) (hr.make C us [])
    (I2.env0.make C us []) hbb r2 hq) fun r s' hq' => ?_))
  cases r with
  | error e => exact hx pins _ _ e s' I2 hq'
  | ok fl =>
    cases fl with
    | ret u =>
      obtain ⟨v, H', I3, rv, ev, q3⟩ := I2.after hq'
      subst ev
      exact ⟨rv, ⟨V.ref (s.heap.objs.size + 1), H', I3, rfl, q3⟩⟩
    | next => exact False.elim hq'
    | brk => exact False.elim hq'
    | cont => exact False.elim hq'
theorem pe_makeX (M : Mk X.K C f) (F : FnOk X.prog X.w X.K X.mg X.base CX k f fd ps sp) (hr : Room (k + 1) X.A) (hg : Gl X x) (hm : X.mg x = some (.ref C)) (hb : Binds X.K fd ps []) (hx : ∀ σ, PassesAt CX X σ (E σ))
    (ha : PA X (e :: es) t) (hall : (e :: es).all (fun e => !isStar e) = true) (hdb : (x == ("__debug__" : Str)) = false) :
    PE X (.Call (.Name x p) (e :: es) [] pos) (fun σ H Q => t σ H fun vs H1 => ∀ x dx, H1 x = none → H1 dx = none → dx ≠ x → sp (.ref x :: vs) (upd (upd H1 dx (.own x)) x (.ins C dx [])) (fun v H2 => v = .non ∧ Q (.ref x) H2) (E σ)) := by
  refine ⟨fun pins s σ H Q I h => ?_⟩
  obtain ⟨h1, h2⟩ := all_star hall
  refine wpAny_Call_Name_kw (ld_glob I hg hm ?_ hdb)
  refine PySem.W.callWith_K (h₀ := X.base) I.ok.mod.kin M.kp (thn (ha.run pos pins s σ H _ I h) fun us s1 ⟨vs, H1, I1, r, q⟩ => ⟨I1.kIn, ?_⟩) (star_cons h1) (back_any _ _ _ h2)
  exact run_makeX M F hr hb (hx σ) I1 r q
theorem pe_makeX0 (M : Mk X.K C f) (F : FnOk X.prog X.w X.K X.mg X.base CX k f fd ps sp) (hr : Room (k + 1) X.A) (hg : Gl X x) (hm : X.mg x = some (.ref C)) (hb : Binds X.K fd ps []) (hx : ∀ σ, PassesAt CX X σ (E σ))
    (hdb : (x == ("__debug__" : Str)) = false) :
    PE X (.Call (.Name x p) [] [] pos) (fun σ H Q => ∀ x dx, H x = none → H dx = none → dx ≠ x → sp [.ref x] (upd (upd H dx (.own x)) x (.ins C dx [])) (fun v H2 => v = .non ∧ Q (.ref x) H2) (E σ)) := by
  refine ⟨fun pins s σ H Q I h => ?_⟩
  refine wpAny_Call_Name_kw (ld_glob I hg hm ?_ hdb)
  exact PySem.W.callWith_K0 I.kIn M.kp (run_makeX (us := []) (vs := []) M F hr hb (hx σ) I .nil h)
theorem attrBase {o : Expr} {m : Str} {env : Env} {wh : Sem Value} (h : attrOk o = true) : attributeBase o m env wh = wh := by
  unfold attributeBase
  split
  · cases h
  · rfl
theorem star_all (es : List Expr) (env : Env) (pos : Pos) (h : es.all (fun e => !isStar e) = true) : (backTo pos (starEach es env)).all (fun x => !x.1) = true := by
  induction es with
  | nil => rfl
  | cons e es ih =>
    obtain ⟨h1, h2⟩ := all_star h
    rw [star_cons h1]
    show (true && (backTo pos (starEach es env)).all (fun x => !x.1)) = true
    rw [ih h2]
    rfl
theorem ht_meth {o : Expr} {m : Str} {es : List Expr} {env : Env} (h : attrOk o = true) (hall : es.all (fun e => !isStar e) = true) (hlen : es.length < 30) (hl : (apos.endLine == pos.line) = true) : eval (.Call (.Attribute o m apos) es [] pos) env = (do
      let ov ← eval o env
      standAt apos.atName
      let (f, first) ← holding [ov] (getMethod ov m (plainOf o env))
      callWith pos f first (backTo pos (starEach es env)) (backToKw pos (keywordEach [] env))) :=
  mcall_of (attrBase h) fun ov => mcall_line (by
    unfold methodCallForm
    rw [star_all es env pos hall]
    show (true && true && decide (es.length + 0 + 0 < 30)) = true
    rw [decide_eq_true (show es.length + 0 + 0 < 30 by omega)]
    rfl) hl
/-- the method's call, once its receiver is there -/
theorem we_meth {m : Str} {σ : L2.St} {H : Hp} {Q : VK} (hat : attrOk o = true) (hall : es.all (fun e => !isStar e) = true) (hlen : es.length < 30) (hl : (apos.endLine == pos.line) = true)
    (ho : WE X o σ H fun v H1 => ∃ a C dx fs g fd ps k sp, v = .ref a ∧ H1 a = some (.ins C dx fs) ∧ Cls X.K C ∧ Meth X.K C m g ∧ fs.lookup m = none ∧ FnOk X.prog X.w X.K X.mg X.base CX k g fd ps sp ∧ Room k X.A ∧ Binds X.K fd ps [] ∧ PassesAt CX X σ (E σ) ∧
      ((es = [] ∧ sp [.ref a] H1 Q (E σ)) ∨ (es ≠ [] ∧ WA X es σ H1 fun vs H2 => sp (.ref a :: vs) H2 Q (E σ)))) :
    WE X (.Call (.Attribute o m apos) es [] pos) σ H Q := by
  intro pins s I
  have ht := ht_meth (apos := apos) (pos := pos) (m := m) (es := es) (env := X.env) hat hall hlen hl
  refine PySem.W.methodCall_KW (pl := plainOf o X.env) (thn (ho pins s I) fun u s1 ⟨v, H1, I1, rx, a, C, dx, fs, g, fd, ps, k, sp, ex, ea, c, hm, l, F, hr, hb, hx, hh⟩ => ?_) ht
  subst ex
  obtain rfl : u = Value.ref a := rx
  refine getmeth_ok I1 ea c hm l ?_
  cases es with
  | nil =>
    rcases hh with ⟨_, hh⟩ | ⟨z, _⟩
    · exact PySem.W.callWith_K0 (first := [.ref a]) I1.kIn hm.kp (run0 (us := [.ref a]) (vs := [.ref a]) F hr hb hx I1 (.cons rfl .nil) hh)
    · exact absurd rfl z
  | cons e es =>
    obtain ⟨h1, h2⟩ := all_star hall
    rcases hh with ⟨z, _⟩ | ⟨_, hh⟩
    · cases z
    · refine PySem.W.callWith_K (first := [.ref a]) (h₀ := X.base) I.ok.mod.kin hm.kp (thn (hh pos pins s1 I1) fun us s2 ⟨vs, H2, I2, r, q2⟩ => ⟨I2.kIn, ?_⟩) (star_cons h1) (back_any _ _ _ h2)
      exact run0 (us := .ref a :: us) (vs := .ref a :: vs) F hr hb hx I2 (.cons rfl r) q2
end
end Ev
set_option Elab.async false
set_option linter.all false
set_option maxRecDepth 100000
set_option maxHeartbeats 4000000
namespace Ev
open PySem L2 PyProof.Rows
theorem ObR.keep {K : PySem.W.Frag} {W W' : Wd} {H H' : Hp} {o : Ob} {a : Addr} (h : ObR K W H o a) (l : Le W W') (e : H' a = H a) : ObR K W' H' o a := by
  cases o with
  | lst xs =>
    obtain ⟨vs, q, g⟩ := h
    exact ⟨vs, e.trans q, g.mono l⟩
  | dct xs =>
    obtain ⟨vs, q, g⟩ := h
    exact ⟨vs, e.trans q, g.mono l⟩
  | ins c fs =>
    obtain ⟨dx, vs, q, g⟩ := h
    exact ⟨dx, vs, e.trans q, g.mono l⟩
theorem Rel.lt {K : PySem.W.Frag} {W : Wd} {S : List Ob} {H : Hp} (r : Rel K W S H) {i : Nat} {o : Ob} (h : S[i]? = some o) : i < W.n := by
  rw [r.n]
  exact (List.getElem?_eq_some_iff.mp h).1
theorem Rel.setOb {K : PySem.W.Frag} {W : Wd} {S : List Ob} {H : Hp} (r : Rel K W S H) {i : Nat} {o b : Ob} {u : HO} (h : S[i]? = some o) (hb : ObR K W (upd H (W.m i) u) b (W.m i)) :
    Ext W H W (upd H (W.m i) u) ∧ Rel K W (S.set i b) (upd H (W.m i) u) := by
  have hi := r.lt h
  refine ⟨⟨Le.refl, fun _ _ q => .inl q, fun j h1 h2 => absurd (Nat.lt_of_lt_of_le h2 h1) (Nat.lt_irrefl _), fun a q e n => ?_⟩, ⟨by rw [List.length_set]; exact r.n, fun a q e => ?_, fun j q e => ?_, r.nf, r.inj⟩⟩
  · rw [upd_ne (n i hi)]; exact e
  · rw [upd_ne (fun z => by rw [z, r.nf i hi] at e; cases e)]; exact r.fz a q e
  · have hj : j < W.n := by
      rw [r.n]
      have := (List.getElem?_eq_some_iff.mp e).1
      rwa [List.length_set] at this
    by_cases z : i = j
    · subst z
      rw [List.getElem?_set_self (by rw [← r.n]; exact hi)] at e
      cases e
      exact hb
    · rw [List.getElem?_set_ne z] at e
      exact (r.ob j q e).keep Le.refl (upd_ne fun y => z (r.inj i j hi hj y.symm))
/-- a thing is tracked that is nobody's -/
theorem Rel.track {K : PySem.W.Frag} {W : Wd} {S : List Ob} {H : Hp} (r : Rel K W S H) {p : Addr} {o : HO} (hp : H p = none) : Ext W H W (upd H p o) ∧ Rel K W S (upd H p o) := by
  have mp : ∀ i, i < W.n → W.m i ≠ p := fun i hi e => by
    obtain ⟨u, hu⟩ := r.live hi
    rw [e, hp] at hu
    cases hu
  refine ⟨⟨Le.refl, fun _ _ q => .inl q, fun j h1 h2 => absurd (Nat.lt_of_lt_of_le h2 h1) (Nat.lt_irrefl _), fun a q e n => ?_⟩, ⟨r.n, fun a q e => ?_, fun j q e => ?_, r.nf, r.inj⟩⟩
  · rw [upd_ne (ne_of_none e hp)]; exact e
  · have e' := r.fz a q e
    rw [upd_ne (ne_of_none e' hp)]; exact e'
  · exact (r.ob j q e).keep Le.refl (upd_ne (mp j (r.lt e)))
/-- such a thing is changed -/
theorem Rel.retrack {K : PySem.W.Frag} {W : Wd} {S : List Ob} {H : Hp} (r : Rel K W S H) {p : Addr} {o : HO} (hf : W.F p = none) (hm : ∀ i, i < W.n → W.m i ≠ p) : Rel K W S (upd H p o) := by
  refine ⟨r.n, fun a q e => ?_, fun j q e => ?_, r.nf, r.inj⟩
  · rw [upd_ne (fun z => by rw [z, hf] at e; cases e)]; exact r.fz a q e
  · exact (r.ob j q e).keep Le.refl (upd_ne (hm j (r.lt e)))
/-- and never changes again from now on -/
theorem Rel.putF {K : PySem.W.Frag} {W : Wd} {S : List Ob} {H : Hp} (r : Rel K W S H) {p : Addr} {o : HO} (hf : W.F p = none) (hm : ∀ i, i < W.n → W.m i ≠ p) : Le W ⟨upd W.F p o, W.m, W.n⟩ ∧ Rel K ⟨upd W.F p o, W.m, W.n⟩ S (upd H p o) := by
  have le : Le W ⟨upd W.F p o, W.m, W.n⟩ := ⟨fun b u h => by
    show upd W.F p o b = some u
    rw [upd_ne (ne_of_none h hf)]
    exact h, Nat.le_refl _, fun _ _ => rfl⟩
  refine ⟨le, r.n, fun b u h => ?_, fun i u h => (r.ob i u h).keep le (upd_ne (hm i (r.lt h))), fun i hi => ?_, r.inj⟩
  · have h : upd W.F p o b = some u := h
    by_cases e : b = p
    · rw [e, upd_same] at h ⊢
      exact h
    · rw [upd_ne e] at h ⊢
      exact r.fz b u h
  · show upd W.F p o (W.m i) = none
    rw [upd_ne (hm i hi)]
    exact r.nf i hi
/-- from the start of a step in which p was made -/
theorem Ext.put {W W2 : Wd} {H H2 : Hp} (e : Ext W H W2 H2) {p : Addr} {o : HO} (hp : H p = none) (f2 : W2.F p = none) : Ext W H ⟨upd W2.F p o, W2.m, W2.n⟩ (upd H2 p o) := by
  refine ⟨⟨fun b u h => ?_, e.le.n, e.le.m⟩, fun b u h => ?_, e.mn, fun b u h n => ?_⟩
  · have h2 := e.le.F b u h
    show upd W2.F p o b = some u
    rw [upd_ne (ne_of_none h2 f2)]
    exact h2
  · have h : upd W2.F p o b = some u := h
    by_cases z : b = p
    · exact .inr (by rw [z]; exact hp)
    · rw [upd_ne z] at h
      exact e.Fn b u h
  · rw [upd_ne (ne_of_none h hp)]
    exact e.keep b u h n
/-- what was nobody's at the start is nobody's still -/
theorem Ext.free {W W2 : Wd} {H H2 : Hp} (e : Ext W H W2 H2) {p : Addr} {o : HO} (hp : H p = some o) (hf : W.F p = none) (hm : ∀ i, i < W.n → W.m i ≠ p) : H2 p = some o ∧ W2.F p = none ∧ ∀ i, i < W2.n → W2.m i ≠ p := by
  refine ⟨e.keep p o hp fun i hi z => hm i hi z.symm, ?_, fun i hi z => ?_⟩
  · cases q : W2.F p with
    | none => rfl
    | some u =>
      rcases e.Fn p u q with y | y
      · rw [hf] at y; cases y
      · rw [hp] at y; cases y
  · by_cases hj : i < W.n
    · rw [e.le.m i hj] at z
      exact hm i hj z
    · have y := e.mn i (Nat.le_of_not_lt hj) hi
      rw [z, hp] at y
      cases y
theorem Rel.fresh {K : PySem.W.Frag} {W : Wd} {S : List Ob} {H : Hp} (r : Rel K W S H) {p : Addr} (hp : H p = none) : W.F p = none ∧ ∀ i, i < W.n → W.m i ≠ p := by
  refine ⟨?_, fun i hi e => ?_⟩
  · cases q : W.F p with
    | none => rfl
    | some u => rw [r.fz p u q] at hp; cases hp
  · obtain ⟨u, hu⟩ := r.live hi
    rw [e, hp] at hu
    cases hu
theorem strsOf_rep {K : PySem.W.Frag} {W : Wd} : ∀ {xs : List D} {vs : List V} {ys : List Str}, RepL K W xs vs → strsOf xs = some ys → vs = ys.map V.str
  | [], _, _, .nil, e => by cases e; rfl
  | x :: xs, _, ys, .cons h t, e => by
    cases x with
    | str s =>
      cases h
      cases z : strsOf xs with
      | none => unfold strsOf at e; rw [z] at e; cases e
      | some zs =>
        unfold strsOf at e
        rw [z] at e
        cases e
        rw [strsOf_rep t z]
        rfl
    | _ => cases e
section
variable {X : Cx} {c : CC} {G : Gs} {a b e : Expr} {es : List Expr} {ma mb mc : Sl → M D} {ms : Sl → M (List D)} {r : Bool} {pos p apos : Pos}
theorem se_bi {x : Str} {f : BF} (go : GOk X c G) (hg : Gl X x) (hc : X.calm = true) (hx : bfTab.lookup x = some f) (hall : (e :: es).all (fun e => !isStar e) = true) (ha : SA X (e :: es) ms true) :
    SE X (.Call (.Name x p) (e :: es) [] pos) (fun τ => bnd (ms τ) fun ds => Ev.ask fun S => bfS S f ds) r := by
  intro τ S W σ H Q g hp
  obtain ⟨h1, h2⟩ := all_star hall
  have hm := PySem.mem_of_lookup hx
  have fin : ∀ {vs : List V} {H1 : Hp}, (∃ ds W1 S1, Ext W H W1 H1 ∧ Sg X.K W1 τ S1 σ H1 ∧ Rrl X.K true W1 H1 ds vs ∧ Po X W1 H1 σ (fun d W' _ H' => ∀ v, Rr X.K r W' H' d v → Q v H') (Ev.ask (fun S => bfS S f ds) S1)) → CG X (bfV f) vs H1 Q := by
    rintro vs H1 ⟨ds, W1, S1, e1, g1, r1, hp1⟩
    obtain ⟨d, ed, q⟩ := hp1.fin
    exact bf_ok hc g1.rel r1.a ed q
  simp only [bfTab, List.mem_cons, Prod.mk.injEq, List.not_mem_nil, or_false] at hm
  rcases hm with ⟨rfl, rfl⟩ | ⟨rfl, rfl⟩ | ⟨rfl, rfl⟩ | ⟨rfl, rfl⟩ | ⟨rfl, rfl⟩ | ⟨rfl, rfl⟩ | ⟨rfl, rfl⟩ | ⟨rfl, rfl⟩ | ⟨rfl, rfl⟩ | ⟨rfl, rfl⟩ | ⟨rfl, rfl⟩ | ⟨rfl, rfl⟩ | ⟨rfl, rfl⟩
  · exact WE.of (pe_callB (id := "len") callR_CG hg (go.free _ (by simp [bltNames])) (by decide +kernel) pa_wa (he := star_cons h1) (hpl := back_any _ _ _ h2)) ((ha.use g hp).mono fun vs H1 h => fin h)
  · exact WE.of (pe_callTy (T := "list") callR_CG hg (go.free _ (by simp [bltNames])) (by decide +kernel) pa_wa (he := star_cons h1) (hpl := back_any _ _ _ h2)) ((ha.use g hp).mono fun vs H1 h => fin h)
  · exact WE.of (pe_callTy (T := "tuple") callR_CG hg (go.free _ (by simp [bltNames])) (by decide +kernel) pa_wa (he := star_cons h1) (hpl := back_any _ _ _ h2)) ((ha.use g hp).mono fun vs H1 h => fin h)
  · exact WE.of (pe_callTy (T := "int") callR_CG hg (go.free _ (by simp [bltNames])) (by decide +kernel) pa_wa (he := star_cons h1) (hpl := back_any _ _ _ h2)) ((ha.use g hp).mono fun vs H1 h => fin h)
  · exact WE.of (pe_callTy (T := "bool") callR_CG hg (go.free _ (by simp [bltNames])) (by decide +kernel) pa_wa (he := star_cons h1) (hpl := back_any _ _ _ h2)) ((ha.use g hp).mono fun vs H1 h => fin h)
  · exact WE.of (pe_callB (id := "abs") callR_CG hg (go.free _ (by simp [bltNames])) (by decide +kernel) pa_wa (he := star_cons h1) (hpl := back_any _ _ _ h2)) ((ha.use g hp).mono fun vs H1 h => fin h)
  · exact WE.of (pe_callB (id := "all") callR_CG hg (go.free _ (by simp [bltNames])) (by decide +kernel) pa_wa (he := star_cons h1) (hpl := back_any _ _ _ h2)) ((ha.use g hp).mono fun vs H1 h => fin h)
  · exact WE.of (pe_callB (id := "any") callR_CG hg (go.free _ (by simp [bltNames])) (by decide +kernel) pa_wa (he := star_cons h1) (hpl := back_any _ _ _ h2)) ((ha.use g hp).mono fun vs H1 h => fin h)
  · exact WE.of (pe_callB (id := "sum") callR_CG hg (go.free _ (by simp [bltNames])) (by decide +kernel) pa_wa (he := star_cons h1) (hpl := back_any _ _ _ h2)) ((ha.use g hp).mono fun vs H1 h => fin h)
  · exact WE.of (pe_callB (id := "max") callR_CG hg (go.free _ (by simp [bltNames])) (by decide +kernel) pa_wa (he := star_cons h1) (hpl := back_any _ _ _ h2)) ((ha.use g hp).mono fun vs H1 h => fin h)
  · exact WE.of (pe_callB (id := "min") callR_CG hg (go.free _ (by simp [bltNames])) (by decide +kernel) pa_wa (he := star_cons h1) (hpl := back_any _ _ _ h2)) ((ha.use g hp).mono fun vs H1 h => fin h)
  · exact WE.of (pe_callTy (T := "str") callR_CG hg (go.free _ (by simp [bltNames])) (by decide +kernel) pa_wa (he := star_cons h1) (hpl := back_any _ _ _ h2)) ((ha.use g hp).mono fun vs H1 h => fin h)
  · exact WE.of (pe_callTy (T := "dict") callR_CG hg (go.free _ (by simp [bltNames])) (by decide +kernel) pa_wa (he := star_cons h1) (hpl := back_any _ _ _ h2)) ((ha.use g hp).mono fun vs H1 h => fin h)
theorem se_glob {x : Str} (go : GOk X c G) (hg : Gl X x) (hd : (x == ("__debug__" : Str)) = false) (hx : c.consts.contains x = true) : SE X (.Name x pos) (fun _ => ofO (G.glob x)) r := by
  intro τ S W σ H Q g hp
  obtain ⟨u, v, hm, rv, hr⟩ := go.glob x hx
  obtain ⟨d, ed, q⟩ := hp.ofO
  exact WE.of (pe_glob hg hm rv hd) (q W H .refl g.rel v (Rr.of (hr d ed W)))
def gixO (G : Gs) (y : Str) : D → Option D
  | .str z => (G.tab y z).map .int
  | _ => none
def ginO (G : Gs) (y : Str) : D → Option D
  | .str z => some (.bl (G.tab y z).isSome)
  | _ => none
theorem se_gix {y : Str} {b : Expr} {mb : Sl → M D} {p0 : Pos} (go : GOk X c G) (hg : Gl X y) (hd : (y == ("__debug__" : Str)) = false) (hy : c.tabs.contains y = true) (hs : isSlice b = false) (hb : SE X b mb true) : SE X (.Subscript (.Name y p0) b pos) (fun τ => bnd (mb τ) fun x => ofO (gixO G y x)) r := by
  intro τ S W σ H Q g hp
  obtain ⟨p, hm, hi, _, _⟩ := go.tab y hy
  refine WE.of (pe_ix ix_kdict (pe_glob (v := .ref p) hg hm rfl hd) pe_we (plainIx hs)) ?_
  refine (hb.use g hp).mono fun v H1 ⟨d1, W1, S1, e1, g1, r1, hp1⟩ => ?_
  obtain ⟨d, ed, q⟩ := hp1.ofO
  cases d1 with
  | str z =>
    cases r1.a.str
    have ed : (G.tab y z).map D.int = some d := ed
    cases hq : G.tab y z with
    | none => rw [hq] at ed; cases ed
    | some i =>
      rw [hq] at ed
      cases ed
      exact ⟨p, z, .int i, rfl, rfl, hi z i hq, q W1 H1 .refl g1.rel _ (Rr.of (.int i))⟩
  | _ => cases ed
theorem se_gin {y : Str} {a : Expr} {ma : Sl → M D} {p0 : Pos} (go : GOk X c G) (hg : Gl X y) (hd : (y == ("__debug__" : Str)) = false) (hy : c.tabs.contains y = true) (hm0 : behindInMarks .In (.Name y p0) = false) (ha : SE X a ma true) : SE X (.Compare a [.In] [.Name y p0] pos) (fun τ => bnd (ma τ) fun x => ofO (ginO G y x)) r := by
  intro τ S W σ H Q g hp
  obtain ⟨p, hm, _, ⟨es, n, hD⟩, hn⟩ := go.tab y hy
  refine WE.of (pe_cmpR (op_in_kd hD) pe_we (pe_glob (v := .ref p) hg hm rfl hd) hm0) ?_
  refine (ha.use g hp).mono fun v H1 ⟨d1, W1, S1, e1, g1, r1, hp1⟩ => ?_
  obtain ⟨d, ed, q⟩ := hp1.ofO
  cases d1 with
  | str z =>
    cases r1.a.str
    have ed : some (D.bl (G.tab y z).isSome) = some d := ed
    cases ed
    obtain ⟨o, ho, hso⟩ := hn z
    exact ⟨z, o, rfl, rfl, ho, by rw [hso]; exact q W1 H1 .refl g1.rel _ (Rr.of (.bl _))⟩
  | _ => cases ed
theorem se_nset {p2 q : Pos} (go : GOk X c G) (hg : Gl X "len") (hg2 : Gl X "set") (hc : X.calm = true) (h1 : isStar a = false) (ha : SE X a ma true) : SE X (.Call (.Name "len" p) [.Call (.Name "set" p2) [a] [] q] [] pos) (fun τ => bnd (ma τ) fun x => ofO (nsetS x)) r := by
  intro τ S W σ H Q g hp
  refine WE.of (pe_nset hc hg (go.free _ (by simp [bltNames])) hg2 (go.free _ (by simp [bltNames])) pe_we (star_cons h1)) ((ha.use g hp).mono fun v H1 ⟨x, W1, S1, e1, g1, rx, p1⟩ => ?_)
  unfold nsetS at p1
  cases x with
  | tup xs =>
    dsimp only at p1
    cases z : strsOf xs with
    | none => rw [z] at p1; exact p1.elim
    | some ys =>
      rw [z] at p1
      dsimp only at p1
      by_cases hz : ys.length ≤ 1000
      · rw [if_pos hz] at p1
        obtain ⟨l, vs, rfl, tp, rl⟩ := rx.a.tup g1.rel
        rw [strsOf_rep rl z] at tp
        exact ⟨l, ys, rfl, .inl tp, hz, p1 W1 H1 .refl g1.rel _ (by cases r <;> first | exact .int _ | exact .rep (.int _))⟩
      · rw [if_neg hz] at p1; exact p1.elim
  | lst xs =>
    dsimp only at p1
    cases z : strsOf xs with
    | none => rw [z] at p1; exact p1.elim
    | some ys =>
      rw [z] at p1
      dsimp only at p1
      by_cases hz : ys.length ≤ 1000
      · rw [if_pos hz] at p1
        obtain ⟨l, vs, rfl, tp, rl⟩ := rx.a.lstF g1.rel (xs := xs) rfl
        rw [strsOf_rep rl z] at tp
        exact ⟨l, ys, rfl, .inr tp, hz, p1 W1 H1 .refl g1.rel _ (by cases r <;> first | exact .int _ | exact .rep (.int _))⟩
      · rw [if_neg hz] at p1; exact p1.elim
  | _ => exact p1.elim
theorem st_gin {y : Str} {a : Expr} {ma : Sl → M D} {p0 : Pos} (go : GOk X c G) (hg : Gl X y) (hd : (y == ("__debug__" : Str)) = false) (hy : c.tabs.contains y = true) (hm0 : behindInMarks .In (.Name y p0) = false) (ha : SE X a ma true) : STt X (.Compare a [.In] [.Name y p0] pos) (fun τ => bnd (ma τ) fun x => ofO (ginO G y x)) := by
  intro wh hw τ S W σ H Q g hp
  rcases hw with hw | hw
  · cases hw
  subst hw
  obtain ⟨p, hm, _, ⟨es, n, hD⟩, hn⟩ := go.tab y hy
  refine WT.of (pt_cmpR (op_in_kd hD) pe_we (pe_glob (v := .ref p) hg hm rfl hd) hm0) ?_
  have hp' : Po X W H σ (fun k _ _ H' => Q k H') (bnd (ma τ) (fun x => bnd (ofO (ginO G y x)) fun z => Ev.ask fun S => truth S z) S) := by
    have e : testM (bnd (ma τ) fun x => ofO (ginO G y x)) = bnd (ma τ) (fun x => bnd (ofO (ginO G y x)) fun z => Ev.ask fun S => truth S z) := by
      unfold testM
      rw [bnd_assoc]
    rw [← e]
    exact hp
  refine (ha.use g hp').mono fun v H1 ⟨d1, W1, S1, e1, g1, r1, hp1⟩ => ?_
  cases d1 with
  | str z =>
    cases r1.a.str
    obtain ⟨k, ek, q⟩ := Po.ask (f := fun S => truth S (.bl (G.tab y z).isSome)) hp1
    cases ek
    obtain ⟨o, ho, hso⟩ := hn z
    exact ⟨z, o, rfl, rfl, ho, _, rfl, by rw [hso]; exact q W1 H1 .refl g1.rel⟩
  | _ => exact hp1.elim
theorem se_callN {x : Str} {es' : Es} (go : GOk X c G) (hg : Gl X x) (hd : (x == ("__debug__" : Str)) = false) (hx : c.fns.contains x = true) (hall : (e :: es).all (fun e => !isStar e) = true) (ha : SA X (e :: es) ms false) :
    SE X (.Call (.Name x p) (e :: es) [] pos) (fun τ => bnd (ms τ) fun ds => G.call x ds) r := by
  intro τ S W σ H Q g hp
  obtain ⟨f, fd, ps, k, F, hm, kp, hb, hr⟩ := go.call x hx
  refine WE.of (pe_callX (E := L2.WE (TX X)) F hr hg hm kp hb (passAt takes_TX) pa_wa hall hd) ?_
  refine (ha.use g hp).mono fun vs H1 ⟨ds, W1, S1, e1, g1, r1, hp1⟩ => ?_
  refine ⟨W1, S1, ds, g1.rel, r1, ?_⟩
  cases z : G.call x ds S1 with
  | bad => rw [z] at hp1; exact hp1
  | ok d S2 =>
    rw [z] at hp1
    exact fun W' H' v e' r' rv => hp1 W' H' e' r' v (Rr.of rv)
  | exc x S2 =>
    rw [z] at hp1
    exact fun W' H' c dd e' r' h => hp1 W' H' c dd e' r' h
theorem se_call0 {x : Str} (go : GOk X c G) (hg : Gl X x) (hd : (x == ("__debug__" : Str)) = false) (hx : c.fns.contains x = true) :
    SE X (.Call (.Name x p) [] [] pos) (fun τ => bnd (ret []) fun ds => G.call x ds) r := by
  intro τ S W σ H Q g hp
  obtain ⟨f, fd, ps, k, F, hm, kp, hb, hr⟩ := go.call x hx
  refine WE.of (pe_callX0 (E := L2.WE (TX X)) F hr hg hm kp hb (passAt takes_TX) hd) ?_
  have hp1 : Po X W H σ (fun d W' _ H' => ∀ v, Rr X.K r W' H' d v → Q v H') (G.call x [] S) := hp
  refine ⟨W, S, [], g.rel, .nil, ?_⟩
  cases z : G.call x [] S with
  | bad => rw [z] at hp1; exact hp1
  | ok d S2 =>
    rw [z] at hp1
    exact fun W' H' v e' r' rv => hp1 W' H' e' r' v (Rr.of rv)
  | exc x S2 =>
    rw [z] at hp1
    exact fun W' H' c dd e' r' h => hp1 W' H' c dd e' r' h
theorem mk_core {x : Str} {σ : L2.St} {W : Wd} {S : List Ob} {H : Hp} {Q : VK} {ds : List D} {vs : List V} {r : Bool} (rel : Rel X.K W S H) (rs : RepL X.K W ds vs) (hp : Po X W H σ (fun d W' _ H' => ∀ v, Rr X.K r W' H' d v → Q v H') (G.make x ds S)) :
    ∀ y dx, H y = none → H dx = none → dx ≠ y → spOf X.K (G.init x) (.ref y :: vs) (upd (upd H dx (.own y)) y (.ins (He.ga X.K x) dx [])) (fun v H2 => v = .non ∧ Q (.ref y) H2) (L2.WE (TX X) σ) := by
  intro y dx hy hdx hne
  obtain ⟨e1, r1⟩ := rel.track (o := .own y) hdx
  have hy1 : upd H dx (.own y) y = none := by rw [upd_ne hne.symm]; exact hy
  obtain ⟨W2, e2, r2, n2, m2⟩ := r1.newOb (o := .ins (He.ga X.K x) dx []) (b := .ins x []) hy1 fun W' le => ⟨dx, [], upd_same, .nil⟩
  have e3 := e1.trans r1 e2
  have hid : S.length < W2.n := by omega
  have ro : Rep X.K W2 (.obj S.length) (.ref y) := by
    rw [← m2]
    exact .obj hid
  refine ⟨W2, S ++ [.ins x []], .obj S.length :: ds, r2, .cons ro (rs.mono e3.le), ?_⟩
  unfold Gs.make at hp
  cases z : G.init x (.obj S.length :: ds) (S ++ [.ins x []]) with
  | bad => rw [z] at hp; exact hp
  | ok d S2 =>
    rw [z] at hp
    cases d with
    | non =>
      intro W' H' v e' r' rv
      cases rv
      refine ⟨rfl, hp W' H' (e3.trans r2 e') r' _ (Rr.of ?_)⟩
      exact ro.mono e'.le
    | _ => exact hp.elim
  | exc q S2 =>
    rw [z] at hp
    exact fun W' H' c dd e' r' h => hp W' H' c dd (e3.trans r2 e') r' h
theorem se_mkN {x : Str} (go : GOk X c G) (hg : Gl X x) (hd : (x == ("__debug__" : Str)) = false) (hx : c.cls.contains x = true) (hall : (e :: es).all (fun e => !isStar e) = true) (ha : SA X (e :: es) ms false) :
    SE X (.Call (.Name x p) (e :: es) [] pos) (fun τ => bnd (ms τ) fun ds => G.make x ds) r := by
  intro τ S W σ H Q g hp
  obtain ⟨f, fd, ps, k, M, F, hm, hb, hr⟩ := go.mak x hx
  refine WE.of (pe_makeX (E := L2.WE (TX X)) M F hr hg hm hb (passAt takes_TX) pa_wa hall hd) ?_
  refine (ha.use g hp).mono fun vs H1 ⟨ds, W1, S1, e1, g1, r1, hp1⟩ => ?_
  exact mk_core g1.rel r1 hp1
theorem se_mk0 {x : Str} (go : GOk X c G) (hg : Gl X x) (hd : (x == ("__debug__" : Str)) = false) (hx : c.cls.contains x = true) :
    SE X (.Call (.Name x p) [] [] pos) (fun τ => bnd (ret []) fun ds => G.make x ds) r := by
  intro τ S W σ H Q g hp
  obtain ⟨f, fd, ps, k, M, F, hm, hb, hr⟩ := go.mak x hx
  refine WE.of (pe_makeX0 (E := L2.WE (TX X)) M F hr hg hm hb (passAt takes_TX) hd) ?_
  exact mk_core (ds := []) g.rel .nil hp
theorem se_meth {m : Str} {es' : Es} (go : GOk X c G) (hat : attrOk a = true) (hall : es.all (fun e => !isStar e) = true) (hlen : es.length < 30) (hl : (apos.endLine == pos.line) = true) (ha : SE X a ma false) (hs : SA X es ms false)
    (hnil : es = [] → ms = fun _ => ret []) :
    SE X (.Call (.Attribute a m apos) es [] pos) (fun τ => bnd (ma τ) fun x => bnd (Ev.ask fun S => match x with
      | .obj i => match S[i]? with
        | some (.ins c fs) => if (fGet fs m).isNone && G.hasM c m then some c else none
        | _ => none
      | _ => none) fun c => bnd (ms τ) fun ds => G.meth c m (x :: ds)) r := by
  intro τ S W σ H Q g hp
  refine we_meth (E := L2.WE (TX X)) (CX := L2.CX X.prog X.w) hat hall hlen hl ?_
  refine (ha.use g hp).mono fun v H1 ⟨d, W1, S1, e1, g1, r1, hp1⟩ => ?_
  obtain ⟨cn, ec, hp2⟩ := hp1.bndAsk
  split at ec
  · rename_i i
    split at ec
    · rename_i cc fs ho
      split at ec
      · rename_i hc2
        have ecc := Option.some.inj ec
        subst ecc
        rw [Bool.and_eq_true] at hc2
        obtain ⟨f, fd, ps, k, C, Mt, F, hb, hr⟩ := go.meth cc m hc2.2
        cases (show Rep X.K W1 (.obj i) v from r1) with
        | obj hi =>
          obtain ⟨dx, vs, hH, rf⟩ := g1.rel.ob i _ ho
          have hl2 : vs.lookup m = none := by
            rcases rf.get m with ⟨_, z⟩ | ⟨x, v, z, _, _⟩
            · exact z
            · rw [z] at hc2; cases hc2.1
          refine ⟨W1.m i, He.ga X.K cc, dx, vs, f, fd, ps, k, spOf X.K (G.meth cc m), rfl, hH, C, Mt, hl2, F, hr, hb, passAt takes_TX σ, ?_⟩
          have fin : ∀ {W2 : Wd} {S2 : List Ob} {H2 : Hp} {ds : List D} {ws : List V}, Ext W1 H1 W2 H2 → Rel X.K W2 S2 H2 → RepL X.K W2 ds ws → Po X W2 H2 σ (fun d W' _ H' => ∀ v, Rr X.K r W' H' d v → Q v H') (G.meth cc m (.obj i :: ds) S2) →
              spOf X.K (G.meth cc m) (.ref (W1.m i) :: ws) H2 Q (L2.WE (TX X) σ) := by
            intro W2 S2 H2 ds ws e2 r2 rs hp3
            refine ⟨W2, S2, .obj i :: ds, r2, .cons ((Rep.obj hi).mono e2.le) rs, ?_⟩
            cases z : G.meth cc m (.obj i :: ds) S2 with
            | bad => rw [z] at hp3; exact hp3
            | ok d S2 =>
              rw [z] at hp3
              exact fun W' H' v e' r' rv => hp3 W' H' e' r' v (Rr.of rv)
            | exc x S2 =>
              rw [z] at hp3
              exact fun W' H' c dd e' r' h => hp3 W' H' c dd e' r' h
          cases es with
          | nil =>
            refine .inl ⟨rfl, ?_⟩
            rw [hnil rfl] at hp2
            exact fin (ds := []) .refl g1.rel .nil hp2
          | cons e es =>
            refine .inr ⟨(by intro z; cases z), ?_⟩
            refine (hs.use g1 hp2).mono fun ws H2 ⟨ds, W2, S2, e2, g2, r2, hp3⟩ => ?_
            exact fin e2 g2.rel r2 hp3
      · cases ec
    · cases ec
  · cases ec
theorem se_fld {f : Str} (go : GOk X c G) (hat : attrOk a = true) (ha : SE X a ma true) : SE X (.Attribute a f pos) (fun τ => bnd (ma τ) fun x => Ev.ask fun S => match x with
      | .obj i => match S[i]? with
        | some (.ins c fs) => if G.hasF c f then fGet fs f else none
        | _ => none
      | _ => none) r := by
  intro τ S W σ H Q g hp
  refine WE.of (pe_fld pe_we (attrBase hat)) ?_
  refine (ha.use g hp).mono fun v H1 ⟨d, W1, S1, e1, g1, r1, hp1⟩ => ?_
  obtain ⟨d', ed, q⟩ := hp1.fin
  split at ed
  · rename_i i
    split at ed
    · rename_i cc fs ho
      split at ed
      · rename_i hf
        obtain ⟨C, n⟩ := go.fld cc f hf
        have r1 := r1.a
        cases r1 with
        | rep r1 =>
          cases r1 with
          | obj hi =>
            obtain ⟨dx, vs, hH, rf⟩ := g1.rel.ob i _ ho
            rcases rf.get f with ⟨z, _⟩ | ⟨x, v, z, l, rv⟩
            · rw [z] at ed; cases ed
            · rw [z] at ed
              cases ed
              exact ⟨W1.m i, _, dx, vs, v, rfl, hH, C, n, l, q.at g1.rel rv⟩
      · cases ed
    · cases ed
  · cases ed
end
end Ev
set_option Elab.async false
set_option linter.all false
set_option maxRecDepth 100000
set_option maxHeartbeats 4000000
namespace Ev
open PySem L2 PyProof.Rows
def SEs (X : Cx) (G : Gs) (r : Bool) : List Expr → Es → Prop
  | [], .nil => True
  | e :: es, .cons x xs => isStar e = false ∧ SE X e (fun τ => evE G τ x) r ∧ SEs X G r es xs
  | _, _ => False
section
variable {X : Cx} {c : CC} {G : Gs} {a b e f : Expr} {es : List Expr} {ma mb mc : Sl → M D} {ms : Sl → M (List D)} {r : Bool} {pos p apos : Pos}
theorem SEs.sa : ∀ {es : List Expr} {xs : Es}, SEs X G r es xs → SA X es (fun τ => evEs G τ xs) r
  | [], .nil, _ => sa_nil
  | e :: es, .cons x xs, ⟨h1, h2, h3⟩ => sa_cons h1 h2 (SEs.sa h3)
  | [], .cons _ _, h => h.elim
  | _ :: _, .nil, h => h.elim
theorem SEs.star : ∀ {es : List Expr} {xs : Es}, SEs X G r es xs → es.all (fun e => !isStar e) = true
  | [], .nil, _ => rfl
  | e :: es, .cons x xs, ⟨h1, h2, h3⟩ => by
    rw [List.all_cons, h1, SEs.star h3]
    rfl
  | [], .cons _ _, h => h.elim
  | _ :: _, .nil, h => h.elim
theorem SEs.nilE {xs : Es} (h : SEs X G r [] xs) : xs = .nil := by
  cases xs with
  | nil => rfl
  | cons _ _ => exact h.elim
theorem few_ok {env : Env} {es : List Expr} (hall : es.all (fun e => !isStar e) = true) (hlen : es.length < 30) : ((backTo pos (starEach es env)).all (fun x => !x.1) && (backToKw pos (keywordEach [] env)).all (fun x => x.1.isSome)
      && decide (es.length + ([] : List Keyword).length + (if ([] : List Keyword).isEmpty then 0 else 1) < 30)) = true := by
  rw [star_all es env pos hall]
  show (true && true && decide (es.length + 0 + 0 < 30)) = true
  rw [decide_eq_true (show es.length + 0 + 0 < 30 by omega)]
  rfl
/-- what vmS gives is what the method's rule gives -/
def vmId : VM → String
  | .join => "str.join"
  | .split => "str.split"
  | .startswith => "str.startswith"
  | .get => "dict.get"
theorem repL_strs {K : PySem.W.Frag} {W : Wd} : ∀ (ys : List Str), RepL K W (ys.map D.str) (ys.map V.str)
  | [] => .nil
  | y :: ys => .cons (.str y) (repL_strs ys)
theorem vm_str {W : Wd} {S : List Ob} {H : Hp} {Q : VK} {x d : D} {ds : List D} {u : V} {ws : List V} {v : VM} (rel : Rel X.K W S H) (hv : v ≠ .get) (rx : RepA X.K W H x u) (rs : RepAL X.K W H ds ws) (e : vmS S v x ds = some d) (q : Fin X W S H d Q) :
    MG X (vmId v) u ws H Q := by
  cases v with
  | get => exact absurd rfl hv
  | join =>
    unfold vmS at e
    split at e
    · rename_i s dd heq
      cases rx.str
      cases hd : Ev.seqOf S dd with
      | none => rw [hd] at e; cases e
      | some xs =>
        rw [hd] at e
        dsimp only at e
        cases hy : strsOf xs with
        | none => rw [hy] at e; cases e
        | some ys =>
          rw [hy] at e
          dsimp only at e
          split at e
          · rename_i hz
            cases e
            obtain ⟨w, rfl, rw1⟩ := rs.one
            obtain ⟨a, vs, rfl, hsq, rl⟩ := rw1.seqOf rel hd
            have e2 := strsOf_rep rl hy
            subst e2
            exact ⟨_, mt_join, s, a, ys, rfl, rfl, hsq, hz, q.str rel⟩
          · cases e
    · rename_i h; cases h
    · rename_i h; cases h
    · rename_i h; cases h
    · cases e
  | split =>
    unfold vmS at e
    split at e
    · rename_i h; cases h
    · rename_i s t heq
      split at e
      · rename_i hz
        cases e
        cases rx.str
        obtain ⟨w, rfl, rw1⟩ := rs.one
        cases rw1.str
        exact ⟨_, mt_split, s, t, rfl, rfl, hz.1, hz.2, fun p hp => q.lst rel (repL_strs _) hp⟩
      · cases e
    · rename_i h; cases h
    · rename_i h; cases h
    · cases e
  | startswith =>
    unfold vmS at e
    split at e
    · rename_i h; cases h
    · rename_i h; cases h
    · rename_i s t heq
      cases e
      cases rx.str
      obtain ⟨w, rfl, rw1⟩ := rs.one
      cases rw1.str
      exact ⟨_, mt_startswith, s, t, rfl, rfl, q.bl rel⟩
    · rename_i h; cases h
    · cases e
theorem se_vmS {m : Str} {v : VM} (hm : vmTab.lookup m = some v) (hv : v ≠ .get) (hat : attrOk a = true) (hall : (e :: es).all (fun e => !isStar e) = true) (hlen : (e :: es).length < 30) (hl : (apos.endLine == pos.line) = true)
    (ha : SE X a ma true) (hs : SA X (e :: es) ms true) :
    SE X (.Call (.Attribute a m apos) (e :: es) [] pos) (fun τ => bnd (ma τ) fun x => bnd (Ev.ask fun S => vmK S v x) fun _ => bnd (ms τ) fun ds => Ev.ask fun S => vmS S v x ds) r := by
  intro τ S W σ H Q g hp
  obtain ⟨h1, h2⟩ := all_star hall
  refine (?_ : WE X (.Call (.Attribute a m apos) (e :: es) [] pos) σ H Q)
  have hw : WE X a σ H (fun x H1 => tyV X.K "str" x H1 ∧ WA X (e :: es) σ H1 fun xs H2 => MG X (vmId v) x xs H2 Q) := by
    refine (ha.use g hp).mono fun x H1 ⟨d1, W1, S1, e1, g1, r1, hp1⟩ => ?_
    obtain ⟨_, ek, hp2⟩ := hp1.bndAsk
    have hst : ∃ s, d1 = .str s := by
      unfold vmK at ek
      split at ek
      · exact absurd rfl hv
      · split at ek
        · exact ⟨_, rfl⟩
        · cases ek
    obtain ⟨s, rfl⟩ := hst
    cases r1.a.str
    refine ⟨rfl, (hs.use g1 hp2).mono fun ws H2 ⟨ds, W2, S2, e2, g2, r2, hp3⟩ => ?_⟩
    obtain ⟨d, ed, q⟩ := hp3.fin
    exact vm_str g2.rel hv (r1.a.ext e2) r2.a ed q
  have hmm := PySem.mem_of_lookup hm
  simp only [vmTab, List.mem_cons, Prod.mk.injEq, List.not_mem_nil, or_false] at hmm
  rcases hmm with ⟨rfl, rfl⟩ | ⟨rfl, rfl⟩ | ⟨rfl, rfl⟩ | ⟨rfl, rfl⟩
  · exact WE.of (pe_bm (T := "str") PySem.F.plainAttrs_str PySem.F.slot_str_join PySem.F.type_str_join mtR_MG pe_we pa_wa (attrBase hat) (few_ok hall hlen) hl (star_cons h1) (back_any _ _ _ h2)) hw
  · exact WE.of (pe_bm (T := "str") PySem.F.plainAttrs_str PySem.F.slot_str_split PySem.F.type_str_split mtR_MG pe_we pa_wa (attrBase hat) (few_ok hall hlen) hl (star_cons h1) (back_any _ _ _ h2)) hw
  · exact WE.of (pe_bm (T := "str") PySem.F.plainAttrs_str PySem.F.slot_str_startswith PySem.F.type_str_startswith mtR_MG pe_we pa_wa (attrBase hat) (few_ok hall hlen) hl (star_cons h1) (back_any _ _ _ h2)) hw
  · exact absurd rfl hv
theorem back_star {env : Env} {pos : Pos} {e : Expr} {es : List Expr} (h : isStar e = false) : backTo pos (starEach (e :: es) env) = (false, eval e env) :: backTo pos (starEach es env) := by
  rw [star_cons h]
  rfl
theorem m2_ok {o : Expr} {m : Str} (hat : attrOk o = true) (hall : [e, f].all (fun e => !isStar e) = true) (hl : (apos.endLine == pos.line) = true) : M2 X o m apos e f pos := by
  obtain ⟨h1, h2⟩ := all_star hall
  obtain ⟨h3, _⟩ := all_star h2
  refine ⟨attrBase hat, few_ok hall (by show 2 < 30; decide), hl, ?_⟩
  rw [back_star h1, back_star h3]
  rfl
/-- d.get(k, e) -/
theorem se_get (go : GOk X c G) (hat : attrOk a = true) (hall : [e, f].all (fun e => !isStar e) = true) (hl : (apos.endLine == pos.line) = true) (ha : SE X a ma true) (he : SE X e mb false) (hf : SE X f mc false) :
    SE X (.Call (.Attribute a "get" apos) [e, f] [] pos) (fun τ => bnd (ma τ) fun x => bnd (Ev.ask fun S => vmK S .get x) fun _ => bnd (bnd (mb τ) fun y => bnd (bnd (mc τ) fun z => bnd (ret []) fun zs => ret (z :: zs)) fun ys => ret (y :: ys)) fun ds => Ev.ask fun S => vmS S .get x ds) r := by
  intro τ S W σ H Q g hp
  refine WE.of (pe_dget2 (Nat.lt_of_le_of_lt (Nat.add_le_add_left (by decide) _) go.room) pe_we pe_we pe_we (m2_ok hat hall hl)) ?_
  refine (ha.use g hp).mono fun x H1 ⟨d1, W1, S1, e1, g1, r1, hp1⟩ => ?_
  obtain ⟨_, ek, hp2⟩ := hp1.bndAsk
  have hd : ∃ kvs, Ev.dctOf S1 d1 = some kvs := by
    unfold vmK at ek
    dsimp only at ek
    cases z : Ev.dctOf S1 d1 with
    | none => rw [z] at ek; cases ek
    | some kvs => exact ⟨kvs, rfl⟩
  obtain ⟨kvs, hd⟩ := hd
  obtain ⟨p, vs, rfl, hrd, rk⟩ := r1.a.dctOf g1.rel hd
  refine ⟨p, rfl, .inl ⟨vs, hrd⟩, ?_⟩
  have ea : bnd (bnd (mb τ) fun y => bnd (bnd (mc τ) fun z => bnd (ret []) fun zs => ret (z :: zs)) fun ys => ret (y :: ys)) (fun ds => Ev.ask fun S => vmS S .get d1 ds) = bnd (mb τ) (fun y => bnd (mc τ) fun z => Ev.ask fun S => vmS S .get d1 [y, z]) := by
    funext S
    unfold bnd
    cases mb τ S with
    | ok y S1 =>
      dsimp only
      cases mc τ S1 <;> rfl
    | exc _ _ => rfl
    | bad => rfl
  rw [ea] at hp2
  refine (he.use g1 hp2).mono fun y H2 ⟨d2, W2, S2, e2, g2, r2, hp3⟩ => ?_
  refine (hf.use g2 hp3).mono fun z H3 ⟨d3, W3, S3, e3, g3, r3, hp4⟩ => ?_
  obtain ⟨d, ed, q⟩ := hp4.fin
  unfold vmS at ed
  dsimp only at ed
  split at ed
  · rename_i kvs3 k h1 h2
    cases ed
    obtain ⟨p', vs', e', hrd', rk'⟩ := ((r1.a.ext e2).ext e3).dctOf g3.rel h1
    cases e'
    have hk := key_of ((r2.ext e3).a) h2
    refine ⟨valV vs' k, .inl ⟨vs', k, hrd', hk, rfl⟩, ?_⟩
    rcases rk'.get k with ⟨z1, z2⟩ | ⟨x, w, z1, z2, rw⟩
    · rw [z2]
      rw [z1] at q
      exact q.at g3.rel r3
    · rw [z2]
      rw [z1] at q
      exact q.at g3.rel rw
  · cases ed
theorem om_ok {W : Wd} {S : List Ob} {H : Hp} {Q : VK} {d : D} {ds : List D} {u : V} {ws : List V} {v : OM} {id : String} {σ : L2.St} (hid : (v = .append ∧ id = "list.append") ∨ (v = .extend ∧ id = "list.extend") ∨ (v = .pop ∧ id = "list.pop")) (rel : Rel X.K W S H) (rx : Rep X.K W d u) (rs : RepL X.K W ds ws)
    (hp : Po X W H σ (fun d W' _ H' => ∀ v, Rr X.K r W' H' d v → Q v H') (omS v d ds S)) : MG X id u ws H Q := by
  rcases hid with ⟨rfl, rfl⟩ | ⟨rfl, rfl⟩ | ⟨rfl, rfl⟩
  · cases rs with
    | nil => cases d <;> exact hp.elim
    | @cons x ds w ws rw t =>
      cases t with
      | cons _ _ => cases d <;> exact hp.elim
      | nil =>
        cases d with
        | obj i =>
          cases rx with
          | obj hi =>
            have hp : Po X W H σ (fun d W' _ H' => ∀ v, Rr X.K r W' H' d v → Q v H') (match S[i]? with
              | some (.lst xs) => if xs.length < sizeLine then .ok .non (S.set i (.lst (xs ++ [x]))) else .bad
              | _ => .bad) := hp
            split at hp
            · rename_i xs ho
              split at hp
              · rename_i hz
                obtain ⟨vs, hH, rl⟩ := rel.ob i _ ho
                obtain ⟨e1, r1⟩ := rel.setOb (b := .lst (xs ++ [x])) (u := .lst (vs ++ [w])) ho ⟨_, upd_same, rl.append (RepL.one rw)⟩
                refine ⟨_, mt_append, W.m i, vs, w, rfl, rfl, hH, ?_, hp W _ e1 r1 .non (Rr.of .non)⟩
                rw [← rl.length]; exact hz
              · exact hp.elim
            · exact hp.elim
        | _ => exact hp.elim
  · cases rs with
    | nil => cases d <;> exact hp.elim
    | @cons x ds w ws rw t =>
      cases t with
      | cons _ _ => cases d <;> cases x <;> exact hp.elim
      | nil =>
        cases d with
        | obj i =>
          cases x with
          | lst ys =>
            cases rx with
            | obj hi =>
              have hp : Po X W H σ (fun d W' _ H' => ∀ v, Rr X.K r W' H' d v → Q v H') (match S[i]? with
                | some (.lst xs) => if xs.length + ys.length ≤ sizeLine then .ok .non (S.set i (.lst (xs ++ ys))) else .bad
                | _ => .bad) := hp
              split at hp
              · rename_i xs ho
                split at hp
                · rename_i hz
                  obtain ⟨vs, hH, rl⟩ := rel.ob i _ ho
                  obtain ⟨b, zs, rfl, hB, rz⟩ := (RepA.rep rw : RepA X.K W H _ _).lstOf rel (show Ev.lstOf S (.lst ys) = some ys from rfl)
                  obtain ⟨e1, r1⟩ := rel.setOb (b := .lst (xs ++ ys)) (u := .lst (vs ++ zs)) ho ⟨_, upd_same, rl.append rz⟩
                  refine ⟨_, mt_extend, W.m i, b, vs, zs, rfl, rfl, hH, hB, ?_, hp W _ e1 r1 .non (Rr.of .non)⟩
                  rw [← rl.length, ← rz.length]; exact hz
                · exact hp.elim
              · exact hp.elim
          | _ => exact hp.elim
        | _ => cases x <;> exact hp.elim
  · cases rs with
    | cons _ _ => cases d <;> exact hp.elim
    | nil =>
      cases d with
      | obj i =>
        cases rx with
        | obj hi =>
          have hp : Po X W H σ (fun d W' _ H' => ∀ v, Rr X.K r W' H' d v → Q v H') (match S[i]? with
            | some (.lst xs) => match xs[xs.length - 1]? with
              | some x => .ok x (S.set i (.lst xs.dropLast))
              | none => .bad
            | _ => .bad) := hp
          split at hp
          · rename_i xs ho
            split at hp
            · rename_i x hx
              obtain ⟨vs, hH, rl⟩ := rel.ob i _ ho
              obtain ⟨w, hw, rw⟩ := rl.get hx
              obtain ⟨e1, r1⟩ := rel.setOb (b := .lst xs.dropLast) (u := .lst vs.dropLast) ho ⟨_, upd_same, rl.dropLast⟩
              refine ⟨_, mt_pop, W.m i, vs, w, rfl, rfl, hH, ?_, hp W _ e1 r1 w (Rr.of rw)⟩
              rw [← rl.length]; exact hw
            · exact hp.elim
          · exact hp.elim
      | _ => exact hp.elim
theorem om_ty {W : Wd} {S : List Ob} {H : Hp} {d : D} {u : V} {x : Unit} (rel : Rel X.K W S H) (rx : Rep X.K W d u) (e : omK S d = some x) : tyV X.K "list" u H := by
  unfold omK at e
  split at e
  · rename_i i
    split at e
    · rename_i xs ho
      cases rx with
      | obj hi =>
        obtain ⟨vs, hH, rl⟩ := rel.ob i _ ho
        exact .inl ⟨rfl, vs, .inl (.inl hH)⟩
    · cases e
  · cases e
theorem se_om1 {m : Str} {v : OM} (hm : omTab.lookup m = some v) (hv : v ≠ .pop) (hat : attrOk a = true) (hall : (e :: es).all (fun e => !isStar e) = true) (hlen : (e :: es).length < 30) (hl : (apos.endLine == pos.line) = true)
    (ha : SE X a ma false) (hs : SA X (e :: es) ms false) :
    SE X (.Call (.Attribute a m apos) (e :: es) [] pos) (fun τ => bnd (ma τ) fun x => bnd (Ev.ask fun S => omK S x) fun _ => bnd (ms τ) fun ds => omS v x ds) r := by
  intro τ S W σ H Q g hp
  obtain ⟨h1, h2⟩ := all_star hall
  have hw : ∀ {id : String}, ((v = .append ∧ id = "list.append") ∨ (v = .extend ∧ id = "list.extend") ∨ (v = .pop ∧ id = "list.pop")) → WE X a σ H (fun x H1 => tyV X.K "list" x H1 ∧ WA X (e :: es) σ H1 fun xs H2 => MG X id x xs H2 Q) := by
    intro id hid
    refine (ha.use g hp).mono fun x H1 ⟨d1, W1, S1, e1, g1, r1, hp1⟩ => ?_
    obtain ⟨_, ek, hp2⟩ := hp1.bndAsk
    refine ⟨om_ty g1.rel r1 ek, (hs.use g1 hp2).mono fun ws H2 ⟨ds, W2, S2, e2, g2, r2, hp3⟩ => ?_⟩
    exact om_ok hid g2.rel (Rep.mono e2.le r1) r2 hp3
  have hmm := PySem.mem_of_lookup hm
  simp only [omTab, List.mem_cons, Prod.mk.injEq, List.not_mem_nil, or_false] at hmm
  rcases hmm with ⟨rfl, rfl⟩ | ⟨rfl, rfl⟩ | ⟨rfl, rfl⟩
  · exact WE.of (pe_bm (T := "list") PySem.F.plainAttrs_list PySem.F.slot_list_append PySem.F.type_list_append mtR_MG pe_we pa_wa (attrBase hat) (few_ok hall hlen) hl (star_cons h1) (back_any _ _ _ h2)) (hw (.inl ⟨rfl, rfl⟩))
  · exact WE.of (pe_bm (T := "list") PySem.F.plainAttrs_list PySem.F.slot_list_extend PySem.F.type_list_extend mtR_MG pe_we pa_wa (attrBase hat) (few_ok hall hlen) hl (star_cons h1) (back_any _ _ _ h2)) (hw (.inr (.inl ⟨rfl, rfl⟩)))
  · exact absurd rfl hv
theorem se_om0 (hat : attrOk a = true) (hl : (apos.endLine == pos.line) = true) (ha : SE X a ma false) :
    SE X (.Call (.Attribute a "pop" apos) [] [] pos) (fun τ => bnd (ma τ) fun x => bnd (Ev.ask fun S => omK S x) fun _ => bnd (ret []) fun ds => omS .pop x ds) r := by
  intro τ S W σ H Q g hp
  refine WE.of (pe_bm0 (T := "list") PySem.F.plainAttrs_list PySem.F.slot_list_pop PySem.F.type_list_pop mtR_MG pe_we (attrBase hat) hl) ?_
  refine (ha.use g hp).mono fun x H1 ⟨d1, W1, S1, e1, g1, r1, hp1⟩ => ?_
  obtain ⟨_, ek, hp2⟩ := hp1.bndAsk
  have hp3 : Po X W1 H1 σ (fun d W' _ H' => ∀ v, Rr X.K r W' H' d v → Q v H') (omS .pop d1 [] S1) := hp2
  exact ⟨om_ty g1.rel r1 ek, om_ok (.inr (.inr ⟨rfl, rfl⟩)) g1.rel r1 .nil hp3⟩
end
end Ev
set_option Elab.async false
set_option linter.all false
set_option maxRecDepth 100000
set_option maxHeartbeats 4000000
namespace Ev
open PySem L2 PyProof.Rows
def WG (X : Cx) (tg : Expr) (v : V) (σ : L2.St) (H : Hp) (Q : L2.St → Hp → Prop) : Prop := ∀ (pins : List (Addr × Obj)) (s : Shared) (u : Value), Inv X pins σ H s → RelV v u →
  wpAny (model X.prog X.w) X.A (assign tg X.env u) (fun _ s' => ∃ σ' H', Inv X pins σ' H' s' ∧ Q σ' H') X.xe s
theorem WG.of {X : Cx} {tg : Expr} {g : TG} {v : V} {σ : L2.St} {H : Hp} {Q : L2.St → Hp → Prop} (p : PG X tg g) (h : g v σ H Q) : WG X tg v σ H Q := fun pins s u I r => p.run pins s σ H v u Q I r h
theorem pg_wg {X : Cx} {tg : Expr} : PG X tg (WG X tg) := ⟨fun pins s σ H v u Q I r h => h pins s u I r⟩
/-- the state after: only these slots differ -/
def Same (is : List Nat) (σ σ' : L2.St) : Prop := σ'.length = σ.length ∧ ∀ j, j ∉ is → σ'[j]? = σ[j]?
theorem Same.refl {is : List Nat} {σ : L2.St} : Same is σ σ := ⟨rfl, fun _ _ => rfl⟩
theorem Same.trans {is : List Nat} {a b c : L2.St} (h : Same is a b) (k : Same is b c) : Same is a c := ⟨k.1.trans h.1, fun j hj => (k.2 j hj).trans (h.2 j hj)⟩
theorem Same.set {is : List Nat} {σ : L2.St} {i : Nat} {o : Option V} (h : i ∈ is) : Same is σ (σ.set i o) := ⟨List.length_set, fun j hj => List.getElem?_set_ne fun e => hj (by rw [← e]; exact h)⟩
theorem Sg.setVal {K : PySem.W.Frag} {W : Wd} {τ : Sl} {S : List Ob} {σ : L2.St} {H : Hp} (g : Sg K W τ S σ H) {i : Nat} {d : D} {v : V} (r : Rep K W d v) : Sg K W (τ.set i (.val d)) S (σ.set i (some v)) H := by
  refine ⟨g.rel, by rw [List.length_set, List.length_set]; exact g.len, fun j s h => ?_, fun j k s t a hjk hs ht os ot h1 h2 => ?_⟩
  · by_cases e : i = j
    · subst e
      by_cases hl : i < τ.length
      · rw [List.getElem?_set_self hl] at h
        cases h
        rw [List.getElem?_set_self (by rw [← g.len]; exact hl)]
        exact ⟨v, rfl, r⟩
      · rw [List.getElem?_eq_none (by rw [List.length_set]; omega)] at h
        cases h
    · rw [List.getElem?_set_ne e] at h ⊢
      exact g.sl j s h
  · have hj : i ≠ j := fun e => by
      subst e
      by_cases hl : i < τ.length
      · rw [List.getElem?_set_self hl] at hs
        cases hs
        cases os
      · rw [List.getElem?_eq_none (by rw [List.length_set]; omega)] at hs
        cases hs
    have hk : i ≠ k := fun e => by
      subst e
      by_cases hl : i < τ.length
      · rw [List.getElem?_set_self hl] at ht
        cases ht
        cases ot
      · rw [List.getElem?_eq_none (by rw [List.length_set]; omega)] at ht
        cases ht
    rw [List.getElem?_set_ne hj] at hs h1
    rw [List.getElem?_set_ne hk] at ht h2
    exact g.dis j k s t a hjk hs ht os ot h1 h2
theorem Sg.setUn {K : PySem.W.Frag} {W : Wd} {τ : Sl} {S : List Ob} {σ : L2.St} {H : Hp} (g : Sg K W τ S σ H) {i : Nat} {o : Option V} : Sg K W (τ.set i .un) S (σ.set i o) H := by
  refine ⟨g.rel, by rw [List.length_set, List.length_set]; exact g.len, fun j s h => ?_, fun j k s t a hjk hs ht os ot h1 h2 => ?_⟩
  · by_cases e : i = j
    · subst e
      by_cases hl : i < τ.length
      · rw [List.getElem?_set_self hl] at h
        cases h
        exact True.intro
      · rw [List.getElem?_eq_none (by rw [List.length_set]; omega)] at h
        cases h
    · rw [List.getElem?_set_ne e] at h ⊢
      exact g.sl j s h
  · have hj : i ≠ j := fun e => by
      subst e
      by_cases hl : i < τ.length
      · rw [List.getElem?_set_self hl] at hs
        cases hs
        cases os
      · rw [List.getElem?_eq_none (by rw [List.length_set]; omega)] at hs
        cases hs
    have hk : i ≠ k := fun e => by
      subst e
      by_cases hl : i < τ.length
      · rw [List.getElem?_set_self hl] at ht
        cases ht
        cases ot
      · rw [List.getElem?_eq_none (by rw [List.length_set]; omega)] at ht
        cases ht
    rw [List.getElem?_set_ne hj] at hs h1
    rw [List.getElem?_set_ne hk] at ht h2
    exact g.dis j k s t a hjk hs ht os ot h1 h2
theorem Sg.wiped {K : PySem.W.Frag} {W : Wd} {S : List Ob} {H : Hp} : ∀ {vs : List Nat} {τ : Sl} {σ : L2.St}, Sg K W τ S σ H → Sg K W (wipeS τ vs) S (wipe σ vs) H
  | [], _, _, g => g
  | i :: vs, _, _, g => (Sg.wiped (vs := vs) g).setUn
theorem wipe_out {i : Nat} : ∀ {vs : List Nat} {σ : L2.St}, i ∉ vs → (wipe σ vs)[i]? = σ[i]?
  | [], _, _ => rfl
  | v :: vs, σ, h => by
    show ((wipe σ vs).set v none)[i]? = _
    rw [List.getElem?_set_ne (fun e => h (by rw [e]; exact List.mem_cons_self)), wipe_out fun z => h (List.mem_cons_of_mem _ z)]
theorem wipe_in {i : Nat} : ∀ {vs : List Nat} {σ : L2.St}, i ∈ vs → i < σ.length → (wipe σ vs)[i]? = some none
  | v :: vs, σ, h, hl => by
    show ((wipe σ vs).set v none)[i]? = _
    by_cases e : v = i
    · subst e
      rw [List.getElem?_set_self (by rw [wipe_length]; exact hl)]
    · rw [List.getElem?_set_ne e]
      rcases List.mem_cons.mp h with z | z
      · exact absurd z.symm e
      · exact wipe_in z hl
theorem Same.wipe {is vs : List Nat} {a b : L2.St} (h : Same is a b) (k : ∀ i, i ∈ is → i ∈ vs) : L2.wipe b vs = L2.wipe a vs := by
  apply List.ext_getElem?
  intro i
  by_cases z : i ∈ vs
  · by_cases hl : i < a.length
    · rw [wipe_in z hl, wipe_in z (by rw [h.1]; exact hl)]
    · rw [List.getElem?_eq_none (by rw [wipe_length, h.1]; omega), List.getElem?_eq_none (by rw [wipe_length]; omega)]
  · rw [wipe_out z, wipe_out z]
    exact h.2 i fun q => z (k i q)
theorem wipe_wipe {vs : List Nat} {a : L2.St} : L2.wipe (L2.wipe a vs) vs = L2.wipe a vs := by
  apply List.ext_getElem?
  intro i
  by_cases z : i ∈ vs
  · by_cases hl : i < a.length
    · rw [wipe_in z hl, wipe_in z (by rw [wipe_length]; exact hl)]
    · rw [List.getElem?_eq_none (by rw [wipe_length, wipe_length]; omega), List.getElem?_eq_none (by rw [wipe_length]; omega)]
  · rw [wipe_out z]
/-- the target t stands for tg -/
def STg (X : Cx) (t : Expr) (tg : Tg) : Prop := ∀ (τ τ1 : Sl) (S : List Ob) (W : Wd) (σ : L2.St) (H : Hp) (d : D) (v : V) (Q : L2.St → Hp → Prop), Sg X.K W τ S σ H → Rep X.K W d v → tgS tg d τ = some τ1 →
  (∀ σ1, Sg X.K W τ1 S σ1 H → Same (tgSlots tg) σ σ1 → Q σ1 H) → WG X t v σ H Q
theorem set_loc {X : Cx} {c : CC} {x : Str} (xo : XOk X c) (h : c.canSet x = true) : L2.Loc X.env.scope x ∧ (X.fn x = true ∨ X.env.scope.names.lookup x = some .local) := by
  unfold CC.canSet at h
  unfold L2.Loc
  rw [xo.sc]
  split at h
  · exact ⟨.inl (by assumption), .inr (by assumption)⟩
  · exact ⟨.inr (by assumption), .inl (xo.fn x h)⟩
  · cases h
theorem star_assign {env : Env} {e : Expr} {es : List Expr} (h : isStar e = false) : assignEach (e :: es) env = (false, assign e env) :: assignEach es env := by
  cases e <;> first | rfl | cases h
theorem assignEach_plain {env : Env} : ∀ {es : List Expr}, (es.all fun e => !isStar e) = true → (assignEach es env).length = es.length ∧ (assignEach es env).findIdx? (·.1) = none
  | [], _ => ⟨rfl, rfl⟩
  | e :: es, h => by
    obtain ⟨h1, h2⟩ := all_star h
    obtain ⟨k1, k2⟩ := assignEach_plain (env := env) h2
    rw [star_assign h1]
    refine ⟨by rw [List.length_cons, List.length_cons, k1], ?_⟩
    rw [List.findIdx?_cons, k2]
    rfl
/-- names as targets -/
def tgName (c : CC) (e : Expr) : Option Nat := match e with
  | .Name x _ => match c.slot x with
    | some i => if c.canSet x then some i else none
    | none => none
  | _ => none
theorem tgName_ok {X : Cx} {c : CC} {e : Expr} {i : Nat} (xo : XOk X c) (h : tgName c e = some i) : isStar e = false ∧ PG X e (gName i) := by
  unfold tgName at h
  split at h
  · split at h
    · rename_i x p _ j hs
      split at h
      · rename_i hc
        cases h
        obtain ⟨hN, hv, _, _⟩ := slot_ok xo hs
        obtain ⟨h1, h2⟩ := set_loc xo hc
        exact ⟨rfl, pg_name (by rw [xo.N]; exact xo.nd) hN h1 h2⟩
      · cases h
    · cases h
  · cases h
def gMany : List Nat → TGs
  | [] => gNil
  | i :: is => gCons (gName i) (gMany is)
theorem gMany_ok {X : Cx} {c : CC} (xo : XOk X c) : ∀ {es : List Expr} {is : List Nat}, mapO (tgName c) es = some is → (es.all fun e => !isStar e) = true ∧ es.length = is.length ∧ PGs X es (gMany is)
  | [], is, h => by
    cases h
    exact ⟨rfl, rfl, pgs_nil⟩
  | e :: es, is, h => by
    unfold mapO at h
    split at h
    · rename_i i js h1 h2
      cases h
      obtain ⟨k1, k2⟩ := tgName_ok xo h1
      obtain ⟨k3, k4, k5⟩ := gMany_ok xo h2
      refine ⟨?_, by rw [List.length_cons, List.length_cons, k4], pgs_cons k2 k5 ?_⟩
      · rw [List.all_cons, k1, k3]
        rfl
      · rw [star_assign k1]
        rfl
    · cases h
theorem setMany_ok {K : PySem.W.Frag} {W : Wd} {S : List Ob} {H : Hp} {Q : L2.St → Hp → Prop} {js : List Nat} : ∀ {is : List Nat} {ds : List D} {vs : List V} {τ τ1 : Sl} {σ : L2.St}, (∀ i, i ∈ is → i ∈ js) → Sg K W τ S σ H → RepL K W ds vs → setMany τ is ds = some τ1 →
    (∀ σ1, Sg K W τ1 S σ1 H → Same js σ σ1 → Q σ1 H) → is.length = vs.length ∧ gMany is vs σ H Q
  | [], ds, vs, τ, τ1, σ, hj, g, r, h, k => by
    cases r with
    | nil =>
      cases h
      exact ⟨rfl, rfl, k σ g .refl⟩
    | cons _ _ => cases h
  | i :: is, ds, vs, τ, τ1, σ, hj, g, r, h, k => by
    cases r with
    | nil => cases h
    | @cons d ds v vs r1 r =>
      have h : setMany (τ.set i (.val d)) is ds = some τ1 := h
      obtain ⟨e, q⟩ := setMany_ok (Q := Q) (fun i hi => hj i (List.mem_cons_of_mem _ hi)) (g.setVal (i := i) r1) r h fun σ1 g1 s1 => k σ1 g1 ((Same.set (hj i List.mem_cons_self)).trans s1)
      exact ⟨by rw [List.length_cons, List.length_cons, e], v, vs, rfl, q⟩
theorem stg_of {X : Cx} {c : CC} {t : Expr} {tg : Tg} (xo : XOk X c) (h : tgOf c t = some tg) : STg X t tg := by
  intro τ τ1 S W σ H d v Q g r ht k
  unfold tgOf at h
  split at h
  · rename_i x p
    have hn : ∃ i, tgName c (.Name x p) = some i ∧ tg = .one i := by
      unfold tgName
      dsimp only
      split at h
      · rename_i i hs
        try rw [hs]
        try dsimp only
        split at h
        · rename_i hc
          rw [if_pos hc]
          cases h
          exact ⟨i, rfl, rfl⟩
        · cases h
      · cases h
    obtain ⟨i, h1, rfl⟩ := hn
    cases ht
    exact WG.of (tgName_ok xo h1).2 (k _ (g.setVal r) (Same.set (by simp [tgSlots])))
  · rename_i es kk p
    split at h
    · rename_i is hm
      cases h
      obtain ⟨k1, k2, k3⟩ := gMany_ok xo (show mapO (tgName c) es = some is from hm)
      unfold tgS at ht
      dsimp only at ht
      split at ht
      · rename_i xs
        obtain ⟨a, vs, rfl, hsq, rl⟩ := (RepA.rep r : RepA X.K W H _ _).tup g.rel
        obtain ⟨l1, l2⟩ := assignEach_plain (env := X.env) k1
        obtain ⟨e, q⟩ := setMany_ok (Q := Q) (js := is) (fun i hi => hi) g rl ht k
        exact WG.of (pg_tup (n := is.length) xo.calm k3 (by rw [l1, k2]) l2) ⟨a, vs, rfl, hsq, e.symm, q⟩
      · cases ht
    · cases h
  · cases h
def WI (X : Cx) (tg iter : Expr) (σ : L2.St) (H : Hp) (R : L2.It → Hp → Prop) : Prop := ∀ (pins : List (Addr × Obj)) (s : Shared), Inv X pins σ H s →
  wpAny (model X.prog X.w) X.A (eval iter X.env) (fun v s1 => wpAny (model X.prog X.w) X.A (pyIter v) (PIE X pins σ tg R) X.xe s1) X.xe s
theorem pi_wi {X : Cx} {tg iter : Expr} : PI X tg iter (WI X tg iter) := ⟨fun pins s σ H R I h => h pins s I⟩
theorem WI.of {X : Cx} {tg iter : Expr} {wi : TI} {σ : L2.St} {H : Hp} {R : L2.It → Hp → Prop} (p : PI X tg iter wi) (h : wi σ H R) : WI X tg iter σ H R := fun pins s I => p.run pins s σ H R I h
/-- the iterator J yields ds, whatever comes -/
structure Wlk (K : PySem.W.Frag) (W : Wd) (J : L2.It) (ds : List D) : Prop where
  go : ∀ (i : Nat) (d : D), ds[i]? = some d → ∀ (W' : Wd) (S' : List Ob) (H' : Hp), Le W W' → Rel K W' S' H' → J.go i H' ∧ ∀ (x : V) (H2 : Hp), J.yld i H' x H2 → ∃ W2, Ext W' H' W2 H2 ∧ Rel K W2 S' H2 ∧ Rep K W2 d x
  stop : ∀ (W' : Wd) (S' : List Ob) (H' : Hp), Le W W' → Rel K W' S' H' → J.stop ds.length H'
section
variable {K : PySem.W.Frag} {W : Wd}
theorem Le.sub {W' : Wd} {S' : List Ob} {H' : Hp} (l : Le W W') (r : Rel K W' S' H') : ∀ b o, W.F b = some o → H' b = some o := fun b o h => r.fz b o (l.F b o h)
theorem wlk_tup {a : Addr} {xs : List D} {vs : List V} (q : SqT K W.F a vs) (g : RepL K W xs vs) : Wlk K W (Itt K a) xs := by
  refine ⟨fun i d hd W' S' H' l r => ?_, fun W' S' H' l r => ?_⟩
  · have q' := SqT.sub (l.sub r) q
    obtain ⟨v, hv, rv⟩ := g.get hd
    refine ⟨⟨vs, v, q', hv⟩, fun x H2 y => ?_⟩
    obtain ⟨e, y⟩ := y
    subst e
    have hx := y vs q'
    rw [hv] at hx
    cases hx
    exact ⟨W', .refl, r, rv.mono l⟩
  · exact ⟨vs, SqT.sub (l.sub r) q, by rw [← g.length]; exact Nat.le_refl _⟩
theorem wlk_lst {a : Addr} {xs : List D} {vs : List V} (q : SqL K W.F a vs) (g : RepL K W xs vs) : Wlk K W (Itl K a) xs := by
  refine ⟨fun i d hd W' S' H' l r => ?_, fun W' S' H' l r => ?_⟩
  · have q' := SqL.sub (l.sub r) q
    obtain ⟨v, hv, rv⟩ := g.get hd
    refine ⟨⟨vs, v, q', hv⟩, fun x H2 y => ?_⟩
    obtain ⟨e, y⟩ := y
    subst e
    have hx := y vs q'
    rw [hv] at hx
    cases hx
    exact ⟨W', .refl, r, rv.mono l⟩
  · exact ⟨vs, SqL.sub (l.sub r) q, by rw [← g.length]; exact Nat.le_refl _⟩
theorem wlk_str {z : Str} : Wlk K W (Its z) (strChars z) := by
  refine ⟨fun i d hd W' S' H' l r => ?_, fun W' S' H' l r => ?_⟩
  · unfold strChars at hd
    rw [List.getElem?_map] at hd
    cases hc : z.cps.toList[i]? with
    | none => rw [hc] at hd; cases hd
    | some c =>
      rw [hc] at hd
      cases hd
      have hc' : z.cps[i]? = some c := by rw [← Array.getElem?_toList]; exact hc
      refine ⟨?_, fun x H2 y => ?_⟩
      · show i < z.cps.size
        exact (Array.getElem?_eq_some_iff.mp hc').1
      · obtain ⟨e, c', h1, h2⟩ := y
        subst e h2
        rw [hc'] at h1
        cases h1
        exact ⟨W', .refl, r, .str _⟩
  · show z.cps.size ≤ _
    unfold strChars
    rw [List.length_map, Array.length_toList]
    exact Nat.le_refl _
theorem repK_at {kvs : List (Key × D)} {kv : List (Key × V)} (h : RepK K W kvs kv) {i : Nat} : ∀ {p : Key × D}, kvs[i]? = some p → ∃ v, kv[i]? = some (p.1, v) ∧ Rep K W p.2 v := by
  induction i generalizing kvs kv with
  | zero =>
    intro p e
    cases h with
    | nil => cases e
    | cons r t => cases e; exact ⟨_, rfl, r⟩
  | succ n ih =>
    intro p e
    cases h with
    | nil => cases e
    | cons r t => exact ih t (by simpa using e)
theorem keyD_rep' (k : Key) : Rep K W (keyD k) (kV k) := by
  cases k with
  | inl i => exact .int i
  | inr s => exact .str s
theorem wlk_keys {a : Addr} {o : Obj} {kvs : List (Key × D)} {kv : List (Key × V)} (q : W.F a = some (.frz o (.dK kv))) (g : RepK K W kvs kv) : Wlk K W (Itk a o kv) (keysD kvs) := by
  have hl := g.length
  refine ⟨fun i d hd W' S' H' l r => ?_, fun W' S' H' l r => ?_⟩
  · have q' := l.sub r _ _ q
    unfold keysD at hd
    rw [List.getElem?_map] at hd
    cases hp : kvs[i]? with
    | none => rw [hp] at hd; cases hd
    | some p =>
      rw [hp] at hd
      cases hd
      obtain ⟨v, hv, rv⟩ := repK_at g hp
      refine ⟨⟨q', (List.getElem?_eq_some_iff.mp hv).1⟩, fun x H2 y => ?_⟩
      obtain ⟨e, k, v', h1, h2⟩ := y
      subst e h2
      rw [hv] at h1
      cases h1
      exact ⟨W', .refl, r, keyD_rep' _⟩
  · refine ⟨l.sub r _ _ q, ?_⟩
    unfold keysD
    rw [List.length_map, hl]
    exact Nat.le_refl _
theorem two_tup {W' : Wd} {S' : List Ob} {H' : Hp} {d e : D} {x y : V} {T : Addr} (r : Rel K W' S' H') (hT : H' T = none) (rd : Rep K W' d x) (re : Rep K W' e y) :
    ∃ W2, Ext W' H' W2 (upd H' T (.tup [x, y])) ∧ Rel K W2 S' (upd H' T (.tup [x, y])) ∧ Rep K W2 (.tup [d, e]) (.ref T) := by
  obtain ⟨e1, r1⟩ := r.alloc (o := .tup [x, y]) hT
  exact ⟨_, e1, r1, .tup (.inl (.inl upd_same)) (.cons (rd.mono e1.le) (.cons (re.mono e1.le) .nil))⟩
theorem wlk_items {a : Addr} {o : Obj} {kvs : List (Key × D)} {kv : List (Key × V)} (q : W.F a = some (.frz o (.dK kv))) (g : RepK K W kvs kv) : Wlk K W (Iti a o kv) (kvs.map fun kv => .tup [keyD kv.1, kv.2]) := by
  have hl := g.length
  refine ⟨fun i d hd W' S' H' l r => ?_, fun W' S' H' l r => ?_⟩
  · have q' := l.sub r _ _ q
    rw [List.getElem?_map] at hd
    cases hp : kvs[i]? with
    | none => rw [hp] at hd; cases hd
    | some p =>
      rw [hp] at hd
      cases hd
      obtain ⟨v, hv, rv⟩ := repK_at g hp
      refine ⟨⟨q', (List.getElem?_eq_some_iff.mp hv).1⟩, fun x H2 y => ?_⟩
      obtain ⟨T, k, v', h1, h2, h3, h4⟩ := y
      subst h4 h2
      rw [hv] at h1
      cases h1
      exact two_tup r h3 (keyD_rep' _) (rv.mono l)
  · refine ⟨l.sub r _ _ q, ?_⟩
    rw [List.length_map, hl]
    exact Nat.le_refl _
theorem wlk_rng {lo : Int} {n : Nat} : Wlk K W (Itr lo n) (rngD lo n) := by
  refine ⟨fun i d hd W' S' H' l r => ?_, fun W' S' H' l r => ?_⟩
  · unfold rngD at hd
    rw [List.getElem?_map] at hd
    cases hp : (List.range n)[i]? with
    | none => rw [hp] at hd; cases hd
    | some p =>
      rw [hp] at hd
      cases hd
      obtain ⟨h1, h2⟩ := List.getElem?_eq_some_iff.mp hp
      rw [List.getElem_range] at h2
      subst h2
      rw [List.length_range] at h1
      refine ⟨h1, fun x H2 y => ?_⟩
      obtain ⟨e, h2⟩ := y
      subst e h2
      exact ⟨W', .refl, r, .int _⟩
  · show n ≤ _
    unfold rngD
    rw [List.length_map, List.length_range]
    exact Nat.le_refl _
theorem zipD_get : ∀ {xs ys : List D} {i : Nat} {d : D}, (zipD xs ys)[i]? = some d → ∃ x y, xs[i]? = some x ∧ ys[i]? = some y ∧ d = .tup [x, y]
  | [], ys, i, d, h => by unfold zipD at h; cases h
  | _ :: _, [], i, d, h => by unfold zipD at h; cases h
  | x :: xs, y :: ys, 0, d, h => by
    unfold zipD at h
    cases h
    exact ⟨x, y, rfl, rfl, rfl⟩
  | x :: xs, y :: ys, i + 1, d, h => by
    unfold zipD at h
    exact zipD_get (xs := xs) (ys := ys) (by simpa using h)
theorem zipD_len : ∀ (xs ys : List D), xs.length ≤ (zipD xs ys).length ∨ ys.length ≤ (zipD xs ys).length
  | [], ys => .inl (Nat.zero_le _)
  | _ :: _, [] => .inr (Nat.zero_le _)
  | x :: xs, y :: ys => by
    unfold zipD
    rcases zipD_len xs ys with h | h
    · exact .inl (Nat.succ_le_succ h)
    · exact .inr (Nat.succ_le_succ h)
theorem wlk_zipT {a b : Addr} {xs ys : List D} {vs ws : List V} (q : SqT K W.F a vs) (g : RepL K W xs vs) (q2 : SqT K W.F b ws) (g2 : RepL K W ys ws) : Wlk K W (RZ.ItzT K a b) (zipD xs ys) := by
  refine ⟨fun i d hd W' S' H' l r => ?_, fun W' S' H' l r => ?_⟩
  · have q' := SqT.sub (l.sub r) q
    have q2' := SqT.sub (l.sub r) q2
    obtain ⟨x, y, h1, h2, rfl⟩ := zipD_get hd
    obtain ⟨v, hv, rv⟩ := g.get h1
    obtain ⟨w, hw, rw⟩ := g2.get h2
    refine ⟨⟨vs, ws, v, w, q', q2', hv, hw⟩, fun x H2 y => ?_⟩
    obtain ⟨T, x', y', e1, e2, e3, e4, e5⟩ := y
    have h4 := e4 vs q'
    have h5 := e5 ws q2'
    rw [hv] at h4
    rw [hw] at h5
    cases h4
    cases h5
    subst e1 e3
    exact two_tup r e2 (rv.mono l) (rw.mono l)
  · refine ⟨vs, ws, SqT.sub (l.sub r) q, SqT.sub (l.sub r) q2, ?_⟩
    rw [← g.length, ← g2.length]
    exact zipD_len xs ys
theorem enumD_get : ∀ {xs : List D} {n i : Nat} {d : D}, (enumD n xs)[i]? = some d → ∃ x, xs[i]? = some x ∧ d = .tup [.int ((n + i : Nat) : Int), x]
  | [], n, i, d, h => by unfold enumD at h; cases h
  | x :: xs, n, 0, d, h => by
    unfold enumD at h
    cases h
    exact ⟨x, rfl, rfl⟩
  | x :: xs, n, i + 1, d, h => by
    unfold enumD at h
    obtain ⟨y, h1, h2⟩ := enumD_get (xs := xs) (n := n + 1) (i := i) (by simpa using h)
    refine ⟨y, h1, ?_⟩
    rw [h2, show n + 1 + i = n + (i + 1) by omega]
theorem enumD_len : ∀ (xs : List D) (n : Nat), (enumD n xs).length = xs.length
  | [], _ => rfl
  | x :: xs, n => by
    unfold enumD
    rw [List.length_cons, List.length_cons, enumD_len xs]
theorem wlk_enum {a : Addr} {xs : List D} {vs : List V} (q : SqL K W.F a vs) (g : RepL K W xs vs) : Wlk K W (Ite K a) (enumD 0 xs) := by
  refine ⟨fun i d hd W' S' H' l r => ?_, fun W' S' H' l r => ?_⟩
  · have q' := SqL.sub (l.sub r) q
    obtain ⟨x, h1, rfl⟩ := enumD_get hd
    obtain ⟨v, hv, rv⟩ := g.get h1
    refine ⟨⟨vs, v, q', hv⟩, fun x H2 y => ?_⟩
    obtain ⟨T, x', e1, e2, e3, e4⟩ := y
    have h4 := e4 vs q'
    rw [hv] at h4
    cases h4
    subst e1 e3
    rw [Nat.zero_add]
    exact two_tup r e2 (.int _) (rv.mono l)
  · refine ⟨vs, SqL.sub (l.sub r) q, ?_⟩
    rw [enumD_len, ← g.length]
    exact Nat.le_refl _
mutual
theorem beqD_eq : ∀ {x y : D}, beqD x y = true → x = y
  | .non, .non, _ => rfl
  | .bl a, .bl b, h => by rw [beqD] at h; rw [of_decide_eq_true h]
  | .int a, .int b, h => by rw [beqD] at h; rw [of_decide_eq_true h]
  | .str a, .str b, h => by rw [beqD] at h; rw [of_decide_eq_true h]
  | .tup xs, .tup ys, h => by rw [beqD] at h; rw [beqDs_eq h]
  | .lst xs, .lst ys, h => by rw [beqD] at h; rw [beqDs_eq h]
  | .obj a, .obj b, h => by rw [beqD] at h; rw [of_decide_eq_true h]
  | .non, .bl _, h | .non, .int _, h | .non, .str _, h | .non, .tup _, h | .non, .lst _, h | .non, .frz _, h | .non, .dct _, h | .non, .obj _, h => by rw [beqD] at h <;> cases h
  | .bl _, .non, h | .bl _, .int _, h | .bl _, .str _, h | .bl _, .tup _, h | .bl _, .lst _, h | .bl _, .frz _, h | .bl _, .dct _, h | .bl _, .obj _, h => by rw [beqD] at h <;> cases h
  | .int _, .non, h | .int _, .bl _, h | .int _, .str _, h | .int _, .tup _, h | .int _, .lst _, h | .int _, .frz _, h | .int _, .dct _, h | .int _, .obj _, h => by rw [beqD] at h <;> cases h
  | .str _, .non, h | .str _, .bl _, h | .str _, .int _, h | .str _, .tup _, h | .str _, .lst _, h | .str _, .frz _, h | .str _, .dct _, h | .str _, .obj _, h => by rw [beqD] at h <;> cases h
  | .tup _, .non, h | .tup _, .bl _, h | .tup _, .int _, h | .tup _, .str _, h | .tup _, .lst _, h | .tup _, .frz _, h | .tup _, .dct _, h | .tup _, .obj _, h => by rw [beqD] at h <;> cases h
  | .lst _, .non, h | .lst _, .bl _, h | .lst _, .int _, h | .lst _, .str _, h | .lst _, .tup _, h | .lst _, .frz _, h | .lst _, .dct _, h | .lst _, .obj _, h => by rw [beqD] at h <;> cases h
  | .obj _, .non, h | .obj _, .bl _, h | .obj _, .int _, h | .obj _, .str _, h | .obj _, .tup _, h | .obj _, .lst _, h | .obj _, .frz _, h | .obj _, .dct _, h => by rw [beqD] at h <;> cases h
  | .frz _, y, h => by cases y <;> (rw [beqD] at h <;> cases h)
  | .dct _, y, h => by cases y <;> (rw [beqD] at h <;> cases h)
theorem beqDs_eq : ∀ {xs ys : List D}, beqDs xs ys = true → xs = ys
  | [], [], _ => rfl
  | x :: xs, y :: ys, h => by
    rw [beqDs, Bool.and_eq_true] at h
    rw [beqD_eq h.1, beqDs_eq h.2]
  | [], _ :: _, h => by rw [beqDs] at h <;> cases h
  | _ :: _, [], h => by rw [beqDs] at h <;> cases h
end
/-- the iterator J yields ds, as long as the store's lists stay -/
structure WlkG (K : PySem.W.Frag) (W : Wd) (J : L2.It) (ds : List D) (l : List (Nat × List D)) : Prop where
  go : ∀ (i : Nat) (d : D), ds[i]? = some d → ∀ (W' : Wd) (S' : List Ob) (H' : Hp), Le W W' → Rel K W' S' H' → gdS l S' = true → J.go i H' ∧ ∀ (x : V) (H2 : Hp), J.yld i H' x H2 → ∃ W2, Ext W' H' W2 H2 ∧ Rel K W2 S' H2 ∧ Rep K W2 d x
  stop : ∀ (W' : Wd) (S' : List Ob) (H' : Hp), Le W W' → Rel K W' S' H' → gdS l S' = true → J.stop ds.length H'
def LsAt (K : PySem.W.Frag) (W : Wd) (a : Addr) (xs : List D) (l : List (Nat × List D)) : Prop := ∀ (W' : Wd) (S' : List Ob) (H' : Hp), Le W W' → Rel K W' S' H' → gdS l S' = true → ∃ vs, SqL K H' a vs ∧ RepL K W' xs vs
theorem gdS_app {l m : List (Nat × List D)} {S : List Ob} : gdS (l ++ m) S = true ↔ gdS l S = true ∧ gdS m S = true := by
  unfold gdS
  rw [List.all_append, Bool.and_eq_true]
theorem lsAt_of {x : D} {v : V} {xs : List D} {l : List (Nat × List D)} {S : List Ob} (h : Rep K W x v) (e : lstG S x = some (xs, l)) : ∃ a, v = .ref a ∧ LsAt K W a xs l ∧ gdS l S = true := by
  cases x with
  | lst ys =>
    cases e
    cases h with
    | @lst _ a vs q g => exact ⟨a, rfl, fun W' S' H' l r _ => ⟨vs, SqL.sub (l.sub r) (.inl (.inl q)), g.mono l⟩, rfl⟩
  | obj i =>
    unfold lstG at e
    dsimp only at e
    split at e
    · rename_i zs hz
      split at e
      · rename_i hb
        cases e
        cases h with
        | obj hi =>
          refine ⟨W.m i, rfl, fun W' S' H' le r hg => ?_, ?_⟩
          · unfold gdS at hg
            rw [List.all_cons, List.all_nil, Bool.and_true] at hg
            dsimp only at hg
            split at hg
            · rename_i ys hy
              have := beqDs_eq hg
              subst this
              obtain ⟨vs, q, g⟩ := r.ob i _ hy
              rw [le.m i hi] at q
              exact ⟨vs, .inl (.inl q), g⟩
            · cases hg
          · unfold gdS
            rw [List.all_cons, List.all_nil, Bool.and_true]
            dsimp only
            rw [hz]
            exact hb
      · cases e
    · cases e
  | _ => cases e
theorem wlkG_zip {a b : Addr} {xs ys : List D} {l m : List (Nat × List D)} (ha : LsAt K W a xs l) (hb : LsAt K W b ys m) : WlkG K W (Itz K a b) (zipD xs ys) (l ++ m) := by
  refine ⟨fun i d hd W' S' H' le r hg => ?_, fun W' S' H' le r hg => ?_⟩
  · obtain ⟨vs, q', g⟩ := ha W' S' H' le r (gdS_app.mp hg).1
    obtain ⟨ws, q2', g2⟩ := hb W' S' H' le r (gdS_app.mp hg).2
    obtain ⟨x, y, h1, h2, rfl⟩ := zipD_get hd
    obtain ⟨v, hv, rv⟩ := g.get h1
    obtain ⟨w, hw, rw⟩ := g2.get h2
    refine ⟨⟨vs, ws, v, w, q', q2', hv, hw⟩, fun x H2 y => ?_⟩
    obtain ⟨T, x', y', e1, e2, e3, e4, e5⟩ := y
    have h4 := e4 vs q'
    have h5 := e5 ws q2'
    rw [hv] at h4
    rw [hw] at h5
    cases h4
    cases h5
    subst e1 e3
    exact two_tup r e2 rv rw
  · obtain ⟨vs, q', g⟩ := ha W' S' H' le r (gdS_app.mp hg).1
    obtain ⟨ws, q2', g2⟩ := hb W' S' H' le r (gdS_app.mp hg).2
    refine ⟨vs, ws, q', q2', ?_⟩
    rw [← g.length, ← g2.length]
    exact zipD_len xs ys
theorem Wlk.guard {J : L2.It} {ds : List D} (w : Wlk K W J ds) : WlkG K W J ds [] := ⟨fun i d hd W' S' H' l r _ => w.go i d hd W' S' H' l r, fun W' S' H' l r _ => w.stop W' S' H' l r⟩
end
end Ev
set_option Elab.async false
set_option linter.all false
set_option maxRecDepth 100000
set_option maxHeartbeats 4000000
namespace Ev
open PySem L2 PyProof.Rows
def SI (X : Cx) (tg iter : Expr) (m : Sl → M (List D)) : Prop := ∀ (τ : Sl) (S : List Ob) (W : Wd) (σ : L2.St) (H : Hp) (R : L2.It → Hp → Prop), Sg X.K W τ S σ H →
  Po X W H σ (fun ds W' _ H' => ∀ J, Wlk X.K W' J ds → R J H') (m τ S) → WI X tg iter σ H R
theorem arg1 {β : Type} {m : M D} {f : D → M β} : bnd m f = bnd (bnd m fun x => bnd (ret []) fun xs => ret (x :: xs)) (fun ds => match ds with
    | [x] => f x
    | _ => bad) := by
  funext S
  unfold bnd
  cases m S <;> rfl
theorem arg2 {β : Type} {m m2 : M D} {f : D → D → M β} : (bnd m fun x => bnd m2 (f x)) = bnd (bnd m fun x => bnd (bnd m2 fun y => bnd (ret []) fun ys => ret (y :: ys)) fun xs => ret (x :: xs)) (fun ds => match ds with
    | [x, y] => f x y
    | _ => bad) := by
  funext S
  unfold bnd
  cases m S with
  | ok x S1 => dsimp only; cases m2 S1 <;> rfl
  | exc _ _ => rfl
  | bad => rfl
section
variable {X : Cx} {c : CC} {G : Gs} {tg a b e : Expr} {me ma mb : Sl → M D} {p pos apos : Pos} {τ : Sl} {S : List Ob} {W : Wd} {σ : L2.St} {H : Hp} {R : L2.It → Hp → Prop}
theorem Po.wlk {W1 : Wd} {H1 : Hp} {S1 : List Ob} {o : Option (List D)} {ds : List D} (h : Po X W1 H1 σ (fun ds W' _ H' => ∀ J, Wlk X.K W' J ds → R J H') (Ev.ofO o S1)) (e : o = some ds) (rel : Rel X.K W1 S1 H1) : ∀ J, Wlk X.K W1 J ds → R J H1 := by
  subst e
  exact h W1 H1 .refl rel
theorem si_seq (he : SE X e me false) : SI X tg e (fun τ => bnd (me τ) fun x => ofO (seqIt x)) := by
  intro τ S W σ H R g hp
  dsimp only at hp
  cases z : me τ S with
  | bad => unfold bnd at hp; rw [z] at hp; exact hp.elim
  | exc x S1 => exact WI.of (pi_str pe_we) (he.exc g hp (fun d S1 q => by rw [z] at q; cases q) _)
  | ok d S1 =>
    have hp1 := Po.bndOk (m := me τ) z hp
    have us := he.use' g z
    cases d with
    | str s =>
      refine WI.of (pi_str pe_we) (us.mono fun v H1 ⟨W1, e1, g1, r1⟩ => ?_)
      cases r1.a.str
      exact ⟨s, rfl, (Po.mono e1 g1.rel hp1).wlk rfl g1.rel _ wlk_str⟩
    | dct kvs =>
      refine WI.of (pi_keys pe_we) (us.mono fun v H1 ⟨W1, e1, g1, r1⟩ => ?_)
      cases (show Rep X.K W1 (.dct kvs) v from r1) with
      | @dct _ a od kv q rk => exact ⟨a, od, rfl, .inl ⟨kv, g1.rel.fz _ _ q, (Po.mono e1 g1.rel hp1).wlk rfl g1.rel _ (wlk_keys q rk)⟩⟩
    | tup xs =>
      refine WI.of (pi_tup pe_we) (us.mono fun v H1 ⟨W1, e1, g1, r1⟩ => ?_)
      cases (show Rep X.K W1 (.tup xs) v from r1) with
      | @tup _ a vs q rl => exact ⟨a, rfl, ⟨vs, SqT.sub g1.rel.fz q⟩, (Po.mono e1 g1.rel hp1).wlk rfl g1.rel _ (wlk_tup q rl)⟩
    | lst xs =>
      refine WI.of (pi_list pe_we) (us.mono fun v H1 ⟨W1, e1, g1, r1⟩ => ?_)
      cases (show Rep X.K W1 (.lst xs) v from r1) with
      | @lst _ a vs q rl => exact ⟨a, rfl, ⟨vs, SqL.sub g1.rel.fz (.inl (.inl q))⟩, (Po.mono e1 g1.rel hp1).wlk rfl g1.rel _ (wlk_lst (.inl (.inl q)) rl)⟩
    | frz xs =>
      refine WI.of (pi_list pe_we) (us.mono fun v H1 ⟨W1, e1, g1, r1⟩ => ?_)
      cases (show Rep X.K W1 (.frz xs) v from r1) with
      | @frz _ a vs q rl => exact ⟨a, rfl, ⟨vs, SqL.sub g1.rel.fz q⟩, (Po.mono e1 g1.rel hp1).wlk rfl g1.rel _ (wlk_lst q rl)⟩
    | _ => exact hp1.elim
theorem si_rng (go : GOk X c G) (hg : Gl X "range") (h1 : isStar a = false) (ha : SE X a ma false) : SI X tg (.Call (.Name "range" p) [a] [] pos) (fun τ => bnd (ma τ) fun x => ofO (match x with
    | .int n => if -(2 ^ 62) ≤ n ∧ n < 2 ^ 62 then some (rngD 0 n.toNat) else none
    | _ => none)) := by
  intro τ S W σ H R g hp
  dsimp only at hp
  rw [arg1] at hp
  refine WI.of (pi_range1 hg (go.free _ (by simp [bltNames])) pa_wa (star_cons h1)) (((sa_cons h1 ha sa_nil).use g hp).mono fun vs H1 ⟨ds, W1, S1, e1, g1, r1, hp1⟩ => ?_)
  split at hp1
  · rename_i x
    obtain ⟨v, rfl, rv⟩ := (Rrl.a r1).one
    obtain ⟨d, ed, q⟩ := hp1.ofO
    split at ed
    · split at ed
      · rename_i n hn
        cases ed
        cases rv.int
        exact ⟨n, rfl, hn.1, hn.2, q W1 H1 .refl g1.rel _ wlk_rng⟩
      · cases ed
    · cases ed
  · exact hp1.elim
theorem si_rng2 (go : GOk X c G) (hg : Gl X "range") (h1 : isStar a = false) (h2 : isStar b = false) (ha : SE X a ma false) (hb : SE X b mb false) : SI X tg (.Call (.Name "range" p) [a, b] [] pos) (fun τ => bnd (ma τ) fun x => bnd (mb τ) fun y => ofO (match x, y with
    | .int m, .int n => if -(2 ^ 62) ≤ m ∧ m < 2 ^ 62 ∧ -(2 ^ 62) ≤ n ∧ n < 2 ^ 62 then some (rngD m (n - m).toNat) else none
    | _, _ => none)) := by
  intro τ S W σ H R g hp
  dsimp only at hp
  rw [arg2 (f := fun x y => ofO (match x, y with
    | .int m, .int n => if -(2 ^ 62) ≤ m ∧ m < 2 ^ 62 ∧ -(2 ^ 62) ≤ n ∧ n < 2 ^ 62 then some (rngD m (n - m).toNat) else none
    | _, _ => none))] at hp
  refine WI.of (pi_range2 hg (go.free _ (by simp [bltNames])) pa_wa (by rw [star_cons h1, star_cons h2]; rfl) (star_cons h2)) (((sa_cons h1 ha (sa_cons h2 hb sa_nil)).use g hp).mono fun vs H1 ⟨ds, W1, S1, e1, g1, r1, hp1⟩ => ?_)
  split at hp1
  · rename_i x y
    obtain ⟨v, w, rfl, rv, rw⟩ := (Rrl.a r1).two
    obtain ⟨d, ed, q⟩ := hp1.ofO
    split at ed
    · split at ed
      · rename_i n hn
        cases ed
        cases rv.int
        cases rw.int
        exact ⟨_, _, rfl, hn, q W1 H1 .refl g1.rel _ wlk_rng⟩
      · cases ed
    · cases ed
  · exact hp1.elim
theorem wlk_zipM {K : PySem.W.Frag} {W : Wd} {u v : Bool} {a b : Addr} {xs ys : List D} {vs ws : List V} (q : sqX u K W.F a vs) (g : RepL K W xs vs) (q2 : sqX v K W.F b ws) (g2 : RepL K W ys ws) : Wlk K W (ItzM u v K a b) (zipD xs ys) := by
  refine ⟨fun i d hd W' S' H' l r => ?_, fun W' S' H' l r => ?_⟩
  · have q' := sqX.sub (l.sub r) q
    have q2' := sqX.sub (l.sub r) q2
    obtain ⟨x, y, h1, h2, rfl⟩ := zipD_get hd
    obtain ⟨v, hv, rv⟩ := g.get h1
    obtain ⟨w, hw, rw⟩ := g2.get h2
    refine ⟨⟨vs, ws, v, w, q', q2', hv, hw⟩, fun x H2 y => ?_⟩
    obtain ⟨T, x', y', e1, e2, e3, e4, e5⟩ := y
    have h4 := e4 vs q'
    have h5 := e5 ws q2'
    rw [hv] at h4
    rw [hw] at h5
    cases h4
    cases h5
    subst e1 e3
    exact two_tup r e2 (rv.mono l) (rw.mono l)
  · refine ⟨vs, ws, sqX.sub (l.sub r) q, sqX.sub (l.sub r) q2, ?_⟩
    rw [← g.length, ← g2.length]
    exact zipD_len xs ys
theorem si_zip {elts : List Expr} {kk : Nat} {tpos : Pos} (go : GOk X c G) (hg : Gl X "zip") (h1 : isStar a = false) (h2 : isStar b = false) (ha : SE X a ma false) (hb : SE X b mb false) : SI X (.Tuple elts kk tpos) (.Call (.Name "zip" p) [a, b] [] pos) (fun τ => bnd (ma τ) fun x => bnd (mb τ) fun y => ofO (match x, y with
    | .tup xs, .tup ys => some (zipD xs ys)
    | .lst xs, .lst ys => some (zipD xs ys)
    | .tup xs, .lst ys => some (zipD xs ys)
    | .lst xs, .tup ys => some (zipD xs ys)
    | _, _ => none)) := by
  intro τ S W σ H R g hp
  dsimp only at hp
  rw [arg2 (f := fun x y => ofO (match x, y with
    | .tup xs, .tup ys => some (zipD xs ys)
    | .lst xs, .lst ys => some (zipD xs ys)
    | .tup xs, .lst ys => some (zipD xs ys)
    | .lst xs, .tup ys => some (zipD xs ys)
    | _, _ => none))] at hp
  refine WI.of (pi_zipM hg (go.free _ (by simp [bltNames])) pa_wa (star_cons h1) (back_any _ _ _ (by rw [List.all_cons, h2]; rfl))) (((sa_cons h1 ha (sa_cons h2 hb sa_nil)).use g hp).mono fun vs H1 ⟨ds, W1, S1, e1, g1, r1, hp1⟩ => ?_)
  split at hp1
  · rename_i x y
    obtain ⟨d, ed, q⟩ := hp1.ofO
    cases (show RepL X.K W1 [x, y] vs from r1) with
    | cons rv t =>
      cases t with
      | cons rw t =>
        cases t
        have fin : ∀ {u v : Bool} {a b : Addr} {xs ys : List D} {vs ws : List V}, sqX u X.K W1.F a vs → RepL X.K W1 xs vs → sqX v X.K W1.F b ws → RepL X.K W1 ys ws → d = zipD xs ys → iZipM X.K (fun _ H Q => Q [.ref a, .ref b] H) σ H1 R := fun {u v a b xs ys vs ws} q1 l1 q2 l2 e => by
          subst e
          exact ⟨u, v, a, b, vs, ws, rfl, q1.sub g1.rel.fz, q2.sub g1.rel.fz, q W1 H1 .refl g1.rel _ (wlk_zipM q1 l1 q2 l2)⟩
        split at ed
        · cases ed
          cases rv with
          | tup q1 l1 =>
            cases rw with
            | tup q2 l2 => exact fin (u := true) (v := true) q1 l1 q2 l2 rfl
        · cases ed
          cases rv with
          | lst q1 l1 =>
            cases rw with
            | lst q2 l2 => exact fin (u := false) (v := false) (.inl (.inl q1)) l1 (.inl (.inl q2)) l2 rfl
        · cases ed
          cases rv with
          | tup q1 l1 =>
            cases rw with
            | lst q2 l2 => exact fin (u := true) (v := false) q1 l1 (.inl (.inl q2)) l2 rfl
        · cases ed
          cases rv with
          | lst q1 l1 =>
            cases rw with
            | tup q2 l2 => exact fin (u := false) (v := true) (.inl (.inl q1)) l1 q2 l2 rfl
        · cases ed
  · exact hp1.elim
def SIg (X : Cx) (tg iter : Expr) (m : Sl → M (List D × List (Nat × List D))) : Prop := ∀ (τ : Sl) (S : List Ob) (W : Wd) (σ : L2.St) (H : Hp) (R : L2.It → Hp → Prop), Sg X.K W τ S σ H →
  Po X W H σ (fun ds W' _ H' => ∀ J, WlkG X.K W' J ds.1 ds.2 → R J H') (m τ S) → WI X tg iter σ H R
theorem zipG_gd {x y : D} {xs : List D} {l : List (Nat × List D)} {S : List Ob} {W : Wd} {v w : V} {K : PySem.W.Frag} (rv : Rep K W x v) (rw' : Rep K W y w) (h : zipG S x y = some (xs, l)) : gdS l S = true ∧
    ((∃ a b as bs, x = .tup as ∧ y = .tup bs ∧ v = .ref a ∧ w = .ref b ∧ xs = zipD as bs ∧ l = []) ∨ ∃ a b as bs l1 l2, v = .ref a ∧ w = .ref b ∧ LsAt K W a as l1 ∧ LsAt K W b bs l2 ∧ xs = zipD as bs ∧ l = l1 ++ l2) := by
  unfold zipG at h
  split at h
  · cases h
    cases rv
    cases rw'
    exact ⟨rfl, .inl ⟨_, _, _, _, rfl, rfl, rfl, rfl, rfl, rfl⟩⟩
  · split at h
    · rename_i as l1 bs l2 h1 h2
      cases h
      obtain ⟨a, e1, a1, g1⟩ := lsAt_of rv h1
      obtain ⟨b, e2, a2, g2⟩ := lsAt_of rw' h2
      exact ⟨gdS_app.mpr ⟨g1, g2⟩, .inr ⟨a, b, as, bs, l1, l2, e1, e2, a1, a2, rfl, rfl⟩⟩
    · cases h
theorem si_zipG {elts : List Expr} {kk : Nat} {tpos : Pos} (go : GOk X c G) (hg : Gl X "zip") (h1 : isStar a = false) (h2 : isStar b = false) (ha : SE X a ma false) (hb : SE X b mb false) : SIg X (.Tuple elts kk tpos) (.Call (.Name "zip" p) [a, b] [] pos) (fun τ => bnd (ma τ) fun x => bnd (mb τ) fun y => Ev.ask fun S => zipG S x y) := by
  intro τ S W σ H R g hp
  dsimp only at hp
  rw [arg2 (f := fun x y => Ev.ask fun S => zipG S x y)] at hp
  refine WI.of (RZ.pi_zipA hg (go.free _ (by simp [bltNames])) pa_wa (star_cons h1) (back_any _ _ _ (by rw [List.all_cons, h2]; rfl))) (((sa_cons h1 ha (sa_cons h2 hb sa_nil)).use g hp).mono fun vs H1 ⟨ds, W1, S1, e1, g1, r1, hp1⟩ => ?_)
  split at hp1
  · rename_i x y
    unfold Ev.ask at hp1
    dsimp only at hp1
    cases z : zipG S1 x y with
    | none => rw [z] at hp1; exact hp1.elim
    | some q =>
      rw [z] at hp1
      obtain ⟨xs, l⟩ := q
      have q := hp1 W1 H1 .refl g1.rel
      cases (show RepL X.K W1 [x, y] vs from r1) with
      | cons rv t =>
        cases t with
        | cons rw t =>
          cases t
          obtain ⟨_, ⟨aa, bb, as, bs, rfl, rfl, rfl, rfl, rfl, rfl⟩ | ⟨aa, bb, as, bs, l1, l2, rfl, rfl, a1, a2, rfl, rfl⟩⟩ := zipG_gd rv rw z
          · cases rv with
            | tup q1 l1 =>
              cases rw with
              | tup q2 l2 => exact ⟨_, _, _, _, rfl, .inr ⟨SqT.sub g1.rel.fz q1, SqT.sub g1.rel.fz q2, q _ (wlk_zipT q1 l1 q2 l2).guard⟩⟩
          · have hgd := gdS_app.mp (zipG_gd rv rw z).1
            obtain ⟨vs, q1, _⟩ := a1 W1 S1 H1 Le.refl g1.rel hgd.1
            obtain ⟨ws, q2, _⟩ := a2 W1 S1 H1 Le.refl g1.rel hgd.2
            exact ⟨_, _, _, _, rfl, .inl ⟨q1, q2, q _ (wlkG_zip a1 a2)⟩⟩
  · exact hp1.elim
theorem si_enum {elts : List Expr} {kk : Nat} {tpos : Pos} (go : GOk X c G) (hg : Gl X "enumerate") (h1 : isStar a = false) (ha : SE X a ma false) : SI X (.Tuple elts kk tpos) (.Call (.Name "enumerate" p) [a] [] pos) (fun τ => bnd (ma τ) fun x => ofO (match x with
    | .lst xs => some (enumD 0 xs)
    | _ => none)) := by
  intro τ S W σ H R g hp
  dsimp only at hp
  rw [arg1] at hp
  refine WI.of (pi_enum hg (go.free _ (by simp [bltNames])) pa_wa (star_cons h1)) (((sa_cons h1 ha sa_nil).use g hp).mono fun vs H1 ⟨ds, W1, S1, e1, g1, r1, hp1⟩ => ?_)
  split at hp1
  · rename_i x
    obtain ⟨d, ed, q⟩ := hp1.ofO
    cases (show RepL X.K W1 [x] vs from r1) with
    | cons rv t =>
      cases t
      split at ed
      · rename_i xs
        cases ed
        cases rv with
        | lst q1 l1 => exact ⟨_, _, rfl, SqL.sub g1.rel.fz (.inl (.inl q1)), q W1 H1 .refl g1.rel _ (wlk_enum (.inl (.inl q1)) l1)⟩
      · cases ed
  · exact hp1.elim
theorem si_items {elts : List Expr} {kk : Nat} {tpos : Pos} (hat : attrOk a = true) (hl : (apos.endLine == pos.line) = true) (ha : SE X a ma false) : SI X (.Tuple elts kk tpos) (.Call (.Attribute a "items" apos) [] [] pos) (fun τ => bnd (ma τ) fun x => ofO (match x with
    | .dct kvs => some (kvs.map fun kv => .tup [keyD kv.1, kv.2])
    | _ => none)) := by
  intro τ S W σ H R g hp
  dsimp only at hp
  refine WI.of (pi_items pe_we (attrBase hat) hl) ((ha.use g hp).mono fun v H1 ⟨d, W1, S1, e1, g1, r1, hp1⟩ => ?_)
  obtain ⟨ds, ed, q⟩ := hp1.ofO
  split at ed
  · rename_i kvs
    cases ed
    cases (show Rep X.K W1 (.dct kvs) v from r1) with
    | @dct _ a od kv q1 rk => exact ⟨a, od, kv, rfl, g1.rel.fz _ _ q1, q W1 H1 .refl g1.rel _ (wlk_items q1 rk)⟩
  · cases ed
end
end Ev
set_option Elab.async false
set_option linter.all false
set_option maxRecDepth 100000
set_option maxHeartbeats 4000000
namespace Ev
open PySem L2 PyProof.Rows
theorem upd_id {H : Hp} {p : Addr} {o : HO} (h : H p = some o) : upd H p o = H := by
  funext b
  by_cases e : b = p
  · rw [e, upd_same, h]
  · rw [upd_ne e]
theorem Ext.upd {W W2 : Wd} {H H2 : Hp} (e : Ext W H W2 H2) {p : Addr} {o : HO} (hp : H p = none) : Ext W H W2 (L2.upd H2 p o) :=
  ⟨e.le, e.Fn, e.mn, fun b u h n => by
    rw [upd_ne (ne_of_none h hp)]
    exact e.keep b u h n⟩
theorem noX_ok {α : Type} {m : M α} {S S1 : List Ob} {a : α} (h : noX m S = .ok a S1) : m S = .ok a S1 := by
  unfold noX at h
  split at h
  · cases h
  · exact h
theorem noX_exc {α : Type} {m : M α} {S S1 : List Ob} {e : Exc} : noX m S ≠ .exc e S1 := by
  intro h
  unfold noX at h
  split at h
  · cases h
  · rename_i q
    exact q _ _ h
theorem bnd_ok {α β : Type} {m : M α} {k : α → M β} {S S2 : List Ob} {b : β} (h : bnd m k S = .ok b S2) : ∃ a S1, m S = .ok a S1 ∧ k a S1 = .ok b S2 := by
  unfold bnd at h
  split at h
  · rename_i a S1 q
    exact ⟨a, S1, q, h⟩
  · cases h
  · cases h
theorem collect_ok {f : D → M (Option D)} {x : D} {xs : List D} {S S2 : List Ob} {ys : List D} (h : collect f (x :: xs) S = .ok ys S2) : ∃ o S1 r, f x S = .ok o S1 ∧ collect f xs S1 = .ok r S2 ∧ ys = o.toList ++ r := by
  unfold collect at h
  obtain ⟨o, S1, h1, h⟩ := bnd_ok h
  obtain ⟨r, S3, h2, h⟩ := bnd_ok h
  cases o with
  | none => cases h; exact ⟨none, S1, _, h1, h2, rfl⟩
  | some y => cases h; exact ⟨some y, S1, r, h1, h2, rfl⟩
theorem collect_exc {f : D → M (Option D)} (hf : ∀ x S e S1, f x S ≠ .exc e S1) : ∀ (xs : List D) (S S1 : List Ob) (e : Exc), collect f xs S ≠ .exc e S1
  | [], S, S1, e, h => by cases h
  | x :: xs, S, S1, e, h => by
    unfold collect bnd at h
    cases z : f x S with
    | ok o S2 =>
      rw [z] at h
      dsimp only at h
      cases z2 : collect f xs S2 with
      | ok r S3 => rw [z2] at h; cases o <;> cases h
      | exc e' S3 => exact collect_exc hf xs S2 S3 e' z2
      | bad => rw [z2] at h; cases h
    | exc e' S2 => exact hf _ _ _ _ z
    | bad => rw [z] at h; cases h
def compOne (mt : Sl → M Bool) (me : Sl → M D) (τ1 : Sl) : M (Option D) := bnd (mt τ1) fun k => if k = true then bnd (me τ1) fun y => ret (some y) else ret none
def compF (tg : Tg) (vs : List Nat) (mt : Sl → M Bool) (me : Sl → M D) (τ : Sl) (x : D) : M (Option D) := match tgS tg x (wipeS τ vs) with
  | some τ1 => noX (compOne mt me τ1)
  | none => bad
theorem compF_exc {tg : Tg} {vs : List Nat} {mt : Sl → M Bool} {me : Sl → M D} {τ : Sl} : ∀ x S e S1, compF tg vs mt me τ x S ≠ .exc e S1 := by
  intro x S e S1 h
  unfold compF at h
  cases z : tgS tg x (wipeS τ vs) with
  | some τ1 => rw [z] at h; exact noX_exc h
  | none => rw [z] at h; cases h
theorem compF_ok {tg : Tg} {vs : List Nat} {mt : Sl → M Bool} {me : Sl → M D} {τ : Sl} {x : D} {S S1 : List Ob} {o : Option D} (h : compF tg vs mt me τ x S = .ok o S1) :
    ∃ τ1 b S2, tgS tg x (wipeS τ vs) = some τ1 ∧ mt τ1 S = .ok b S2 ∧ ((b = true ∧ ∃ y, me τ1 S2 = .ok y S1 ∧ o = some y) ∨ (b = false ∧ S1 = S2 ∧ o = none)) := by
  unfold compF at h
  cases ht : tgS tg x (wipeS τ vs) with
  | some τ1 =>
    rw [ht] at h
    have h := noX_ok h
    unfold compOne at h
    obtain ⟨b, S2, h1, h⟩ := bnd_ok h
    refine ⟨τ1, b, S2, rfl, h1, ?_⟩
    cases b with
    | true =>
      obtain ⟨y, S3, h2, h⟩ := bnd_ok h
      cases h
      exact .inl ⟨rfl, y, h2, rfl⟩
    | false =>
      cases h
      exact .inr ⟨rfl, rfl, rfl⟩
  | none => rw [ht] at h; cases h
section
variable {X : Cx} {c : CC} {G : Gs} {t iter elt : Expr} {tg : Tg} {mi : Sl → M (List D)} {me : Sl → M D} {mt : Sl → M Bool} {scope : Scope} {own : List (Str × Nat)} {pos : Pos} {ifs : List Expr} {tt : TT} {r : Bool}
theorem comp_core2 {S : List Ob} {W : Wd} {σ : L2.St} {H : Hp} {τ : Sl} {Q : VK} (hi : SI X t iter mi)
    (hg : ∀ (s : Shared) (H : Hp) (C : Addr) (cl : List (Str × Addr)) (fp : List Addr), STg (X.blk s H scope (compEnvC scope cl C X.env) fp) t tg)
    (hs : ∀ i, i ∈ tgSlots tg → i ∈ own.map (·.2))
    (hT : ∀ (τ1 : Sl) (S S1 : List Ob) (W : Wd) (σ1 : L2.St) (H : Hp) (b : Bool) (Q : Bool → Hp → Prop), Sg X.K W τ1 S σ1 H → mt τ1 S = .ok b S1 → (∀ W1 H1, Ext W H W1 H1 → Rel X.K W1 S1 H1 → Q b H1) → tt σ1 H Q)
    (he : ∀ (s : Shared) (H : Hp) (C : Addr) (cl : List (Str × Addr)) (fp : List Addr), SE (X.blk s H scope (compEnvC scope cl C X.env) fp) elt me false)
    (g : Sg X.K W τ S σ H) (hp : Po X W H σ (fun (d : D) W' _ H' => ∀ (LA : Addr) (av : List V) (ys : List D), d = D.lst ys → H LA = none → H' LA = some (.lst av) → RepL X.K W' ys av → W'.F LA = none → (∀ j, j < W'.n → W'.m j ≠ LA) → Q (.ref LA) H') (bnd (mi τ) (fun xs => if xs.length ≤ sizeLine then bnd (collect (compF tg (own.map (·.2)) mt me τ) xs) fun ys => ret (.lst ys) else bad) S)) :
    tLc (WI X t iter) (fun v σ H Q => ∀ (s : Shared) (H0 : Hp) (C : Addr) (cl : List (Str × Addr)) (fp : List Addr), WG (X.blk s H0 scope (compEnvC scope cl C X.env) fp) t v σ H Q) tt
      (fun σ H Q => ∀ (s : Shared) (H0 : Hp) (C : Addr) (cl : List (Str × Addr)) (fp : List Addr), WE (X.blk s H0 scope (compEnvC scope cl C X.env) fp) elt σ H Q) (own.map (·.2)) σ H Q := by
  refine hi τ S W σ H _ g ?_
  cases z : mi τ S with
  | bad => unfold bnd at hp; rw [z] at hp; exact hp
  | exc e S1 => unfold bnd at hp; rw [z] at hp; exact hp
  | ok ds S1 =>
    have hp1 := Po.bndOk (m := mi τ) z hp
    split at hp1
    · rename_i hlen
      cases z2 : collect (compF tg (own.map (·.2)) mt me τ) ds S1 with
      | bad => unfold bnd at hp1; rw [z2] at hp1; exact hp1.elim
      | exc e S2 => exact absurd z2 (collect_exc compF_exc _ _ _ _)
      | ok ys S2 =>
        have hq : ∀ W' H', Ext W H W' H' → Rel X.K W' S2 H' → ∀ LA av ys2, D.lst ys = .lst ys2 → H LA = none → H' LA = some (.lst av) → RepL X.K W' ys2 av → W'.F LA = none → (∀ j, j < W'.n → W'.m j ≠ LA) → Q (.ref LA) H' := by
          unfold bnd at hp1
          rw [z2] at hp1
          exact hp1
        intro W1 H1 e1 r1 J wk LA hD
        let Pv : Nat → Hp → Prop := fun i H' => ∃ (Wi : Wd) (Si : List Ob) (acc rest : List D) (av : List V), Ext W1 H1 Wi H' ∧ Rel X.K Wi Si H' ∧ H' LA = some (.lst av) ∧ RepL X.K Wi acc av ∧ Wi.F LA = none ∧ (∀ j, j < Wi.n → Wi.m j ≠ LA) ∧
          collect (compF tg (own.map (·.2)) mt me τ) (ds.drop i) Si = .ok rest S2 ∧ acc ++ rest = ys ∧ acc.length ≤ i
        refine ⟨fun i m H' => m = ds.length - i ∧ i ≤ ds.length ∧ Pv i H', ⟨ds.length, by simp, Nat.zero_le _, ?_⟩, ?_⟩
        · obtain ⟨f1, f2⟩ := r1.fresh hD
          obtain ⟨e2, r2⟩ := r1.track (o := .lst []) hD
          exact ⟨W1, S1, [], ys, [], e2, r2, upd_same, .nil, f1, f2, z2, rfl, Nat.le_refl _⟩
        · rintro i m H' ⟨rfl, hi, Wi, Si, acc, rest, av, eI, rI, hDi, ra, fF, fm, hc, hy, hal⟩
          by_cases hlt : i < ds.length
          · have hget : ds[i]? = some ds[i] := List.getElem?_eq_getElem hlt
            obtain ⟨hgo, hyl⟩ := wk.go i _ hget Wi Si H' eI.le rI
            refine .inr ⟨hgo, Pv (i + 1), fun H'' p' => ⟨ds.length - (i + 1), by omega, rfl, hlt, p'⟩, fun x H2 y => ?_⟩
            obtain ⟨W2, e2, r2, rx⟩ := hyl x H2 y
            rw [List.drop_eq_getElem_cons hlt] at hc
            obtain ⟨o, S3, rest', hf, hc', hr⟩ := collect_ok hc
            obtain ⟨τ1, b, S4, htg, hmt, hb⟩ := compF_ok hf
            have eA := eI.trans rI e2
            have g2 : Sg X.K W2 (wipeS τ (own.map (·.2))) Si (wipe σ (own.map (·.2))) H2 := Sg.wiped (g.ext (e1.trans r1 eA) r2)
            obtain ⟨hD2, fF2, fm2⟩ := e2.free hDi fF fm
            intro s H0 C cl fp
            refine hg s H0 C cl fp _ τ1 Si W2 _ H2 _ x _ g2 rx htg fun σ1 g3 sm => ⟨(sm.wipe hs).trans wipe_wipe, ?_⟩
            refine hT τ1 Si S4 W2 σ1 H2 b _ g3 hmt fun W4 H4 e4 r4 => ?_
            obtain ⟨hD4, fF4, fm4⟩ := e4.free hD2 fF2 fm2
            have eB := eA.trans r2 e4
            rcases hb with ⟨rfl, yv, hme, rfl⟩ | ⟨rfl, rfl, rfl⟩
            · rw [if_pos rfl]
              intro s H0 C cl fp
              refine ((he s H0 C cl fp).use' (g3.ext e4 r4) hme).mono fun v H5 ⟨W5, e5, g5, rv⟩ => ?_
              obtain ⟨hD5, fF5, fm5⟩ := e5.free hD4 fF4 fm4
              refine ⟨av, hD5, ?_, W5, S3, acc ++ [yv], rest', av ++ [v], (eB.trans r4 e5).upd hD, g5.rel.retrack fF5 fm5, upd_same, (ra.mono ((e2.le.trans e4.le).trans e5.le)).append (RepL.one rv), fF5, fm5, hc', ?_, ?_⟩
              · rw [← ra.length]; omega
              · rw [← hy, hr]
                simp
              · rw [List.length_append, List.length_singleton]; omega
            · rw [if_neg Bool.false_ne_true]
              exact ⟨W4, S3, acc, rest', av, eB, r4, hD4, ra.mono (e2.le.trans e4.le), fF4, fm4, hc', by rw [← hy, hr]; rfl, by omega⟩
          · have e : i = ds.length := by omega
            subst e
            rw [List.drop_length] at hc
            cases hc
            rw [List.append_nil] at hy
            subst hy
            refine .inl ⟨wk.stop Wi _ H' eI.le rI, ?_⟩
            exact hq Wi H' (e1.trans r1 eI) rI LA av _ rfl (e1.noneOf r1 hD) hDi ra fF fm
    · exact hp1.elim
theorem comp_core {S : List Ob} {W : Wd} {σ : L2.St} {H : Hp} {τ : Sl} {Q : VK} (hi : SI X t iter mi)
    (hg : ∀ (s : Shared) (H : Hp) (C : Addr) (cl : List (Str × Addr)) (fp : List Addr), STg (X.blk s H scope (compEnvC scope cl C X.env) fp) t tg)
    (hs : ∀ i, i ∈ tgSlots tg → i ∈ own.map (·.2))
    (hT : ∀ (τ1 : Sl) (S S1 : List Ob) (W : Wd) (σ1 : L2.St) (H : Hp) (b : Bool) (Q : Bool → Hp → Prop), Sg X.K W τ1 S σ1 H → mt τ1 S = .ok b S1 → (∀ W1 H1, Ext W H W1 H1 → Rel X.K W1 S1 H1 → Q b H1) → tt σ1 H Q)
    (he : ∀ (s : Shared) (H : Hp) (C : Addr) (cl : List (Str × Addr)) (fp : List Addr), SE (X.blk s H scope (compEnvC scope cl C X.env) fp) elt me false)
    (g : Sg X.K W τ S σ H) (hp : Po X W H σ (fun d W' _ H' => ∀ v, Rr X.K r W' H' d v → Q v H') (bnd (mi τ) (fun xs => if xs.length ≤ sizeLine then bnd (collect (compF tg (own.map (·.2)) mt me τ) xs) fun ys => ret (.lst ys) else bad) S)) :
    tLc (WI X t iter) (fun v σ H Q => ∀ (s : Shared) (H0 : Hp) (C : Addr) (cl : List (Str × Addr)) (fp : List Addr), WG (X.blk s H0 scope (compEnvC scope cl C X.env) fp) t v σ H Q) tt
      (fun σ H Q => ∀ (s : Shared) (H0 : Hp) (C : Addr) (cl : List (Str × Addr)) (fp : List Addr), WE (X.blk s H0 scope (compEnvC scope cl C X.env) fp) elt σ H Q) (own.map (·.2)) σ H Q := by
  refine hi τ S W σ H _ g ?_
  cases z : mi τ S with
  | bad => unfold bnd at hp; rw [z] at hp; exact hp
  | exc e S1 => unfold bnd at hp; rw [z] at hp; exact hp
  | ok ds S1 =>
    have hp1 := Po.bndOk (m := mi τ) z hp
    split at hp1
    · rename_i hlen
      cases z2 : collect (compF tg (own.map (·.2)) mt me τ) ds S1 with
      | bad => unfold bnd at hp1; rw [z2] at hp1; exact hp1.elim
      | exc e S2 => exact absurd z2 (collect_exc compF_exc _ _ _ _)
      | ok ys S2 =>
        have hq : ∀ W' H', Ext W H W' H' → Rel X.K W' S2 H' → ∀ v, Rr X.K r W' H' (.lst ys) v → Q v H' := by
          unfold bnd at hp1
          rw [z2] at hp1
          exact hp1
        intro W1 H1 e1 r1 J wk LA hD
        let Pv : Nat → Hp → Prop := fun i H' => ∃ (Wi : Wd) (Si : List Ob) (acc rest : List D) (av : List V), Ext W1 H1 Wi H' ∧ Rel X.K Wi Si H' ∧ H' LA = some (.lst av) ∧ RepL X.K Wi acc av ∧ Wi.F LA = none ∧ (∀ j, j < Wi.n → Wi.m j ≠ LA) ∧
          collect (compF tg (own.map (·.2)) mt me τ) (ds.drop i) Si = .ok rest S2 ∧ acc ++ rest = ys ∧ acc.length ≤ i
        refine ⟨fun i m H' => m = ds.length - i ∧ i ≤ ds.length ∧ Pv i H', ⟨ds.length, by simp, Nat.zero_le _, ?_⟩, ?_⟩
        · obtain ⟨f1, f2⟩ := r1.fresh hD
          obtain ⟨e2, r2⟩ := r1.track (o := .lst []) hD
          exact ⟨W1, S1, [], ys, [], e2, r2, upd_same, .nil, f1, f2, z2, rfl, Nat.le_refl _⟩
        · rintro i m H' ⟨rfl, hi, Wi, Si, acc, rest, av, eI, rI, hDi, ra, fF, fm, hc, hy, hal⟩
          by_cases hlt : i < ds.length
          · have hget : ds[i]? = some ds[i] := List.getElem?_eq_getElem hlt
            obtain ⟨hgo, hyl⟩ := wk.go i _ hget Wi Si H' eI.le rI
            refine .inr ⟨hgo, Pv (i + 1), fun H'' p' => ⟨ds.length - (i + 1), by omega, rfl, hlt, p'⟩, fun x H2 y => ?_⟩
            obtain ⟨W2, e2, r2, rx⟩ := hyl x H2 y
            rw [List.drop_eq_getElem_cons hlt] at hc
            obtain ⟨o, S3, rest', hf, hc', hr⟩ := collect_ok hc
            obtain ⟨τ1, b, S4, htg, hmt, hb⟩ := compF_ok hf
            have eA := eI.trans rI e2
            have g2 : Sg X.K W2 (wipeS τ (own.map (·.2))) Si (wipe σ (own.map (·.2))) H2 := Sg.wiped (g.ext (e1.trans r1 eA) r2)
            obtain ⟨hD2, fF2, fm2⟩ := e2.free hDi fF fm
            intro s H0 C cl fp
            refine hg s H0 C cl fp _ τ1 Si W2 _ H2 _ x _ g2 rx htg fun σ1 g3 sm => ⟨(sm.wipe hs).trans wipe_wipe, ?_⟩
            refine hT τ1 Si S4 W2 σ1 H2 b _ g3 hmt fun W4 H4 e4 r4 => ?_
            obtain ⟨hD4, fF4, fm4⟩ := e4.free hD2 fF2 fm2
            have eB := eA.trans r2 e4
            rcases hb with ⟨rfl, yv, hme, rfl⟩ | ⟨rfl, rfl, rfl⟩
            · rw [if_pos rfl]
              intro s H0 C cl fp
              refine ((he s H0 C cl fp).use' (g3.ext e4 r4) hme).mono fun v H5 ⟨W5, e5, g5, rv⟩ => ?_
              obtain ⟨hD5, fF5, fm5⟩ := e5.free hD4 fF4 fm4
              refine ⟨av, hD5, ?_, W5, S3, acc ++ [yv], rest', av ++ [v], (eB.trans r4 e5).upd hD, g5.rel.retrack fF5 fm5, upd_same, (ra.mono ((e2.le.trans e4.le).trans e5.le)).append (RepL.one rv), fF5, fm5, hc', ?_, ?_⟩
              · rw [← ra.length]; omega
              · rw [← hy, hr]
                simp
              · rw [List.length_append, List.length_singleton]; omega
            · rw [if_neg Bool.false_ne_true]
              exact ⟨W4, S3, acc, rest', av, eB, r4, hD4, ra.mono (e2.le.trans e4.le), fF4, fm4, hc', by rw [← hy, hr]; rfl, by omega⟩
          · have e : i = ds.length := by omega
            subst e
            rw [List.drop_length] at hc
            cases hc
            rw [List.append_nil] at hy
            subst hy
            refine .inl ⟨wk.stop Wi _ H' eI.le rI, ?_⟩
            obtain ⟨le, rP⟩ := rI.putF (o := .lst av) fF fm
            have eP := eI.put (o := .lst av) hD fF
            have rw1 : L2.upd H' LA (.lst av) = H' := upd_id hDi
            rw [rw1] at rP eP
            exact hq _ H' (e1.trans r1 eP) rP _ (Rr.of (.lst upd_same (ra.mono le)))
    · exact hp1.elim
theorem gdF_ok {l : List (Nat × List D)} {f : D → M (Option D)} {x : D} {S S1 : List Ob} {o : Option D} (h : gdF l f x S = .ok o S1) : f x S = .ok o S1 ∧ gdS l S1 = true := by
  unfold gdF at h
  split at h
  · rename_i o2 S2 z
    split at h
    · rename_i hg
      cases h
      exact ⟨z, hg⟩
    · cases h
  · rename_i z
    exact (z _ _ h).elim
theorem gdF_exc {l : List (Nat × List D)} {f : D → M (Option D)} (hf : ∀ x S e S1, f x S ≠ .exc e S1) : ∀ x S e S1, gdF l f x S ≠ .exc e S1 := fun x S e S1 h => by
  unfold gdF at h
  split at h
  · split at h <;> cases h
  · exact hf _ _ _ _ h
theorem comp_core2G {S : List Ob} {W : Wd} {σ : L2.St} {H : Hp} {τ : Sl} {Q : VK} {mg : Sl → M (List D × List (Nat × List D))} (hi : SIg X t iter mg) (hgd : ∀ (xg : List D × List (Nat × List D)) (τ : Sl) (S S1 : List Ob), (∃ W σ H, Sg X.K W τ S σ H) → mg τ S = .ok xg S1 → gdS xg.2 S1 = true)
    (hg : ∀ (s : Shared) (H : Hp) (C : Addr) (cl : List (Str × Addr)) (fp : List Addr), STg (X.blk s H scope (compEnvC scope cl C X.env) fp) t tg)
    (hs : ∀ i, i ∈ tgSlots tg → i ∈ own.map (·.2))
    (hT : ∀ (τ1 : Sl) (S S1 : List Ob) (W : Wd) (σ1 : L2.St) (H : Hp) (b : Bool) (Q : Bool → Hp → Prop), Sg X.K W τ1 S σ1 H → mt τ1 S = .ok b S1 → (∀ W1 H1, Ext W H W1 H1 → Rel X.K W1 S1 H1 → Q b H1) → tt σ1 H Q)
    (he : ∀ (s : Shared) (H : Hp) (C : Addr) (cl : List (Str × Addr)) (fp : List Addr), SE (X.blk s H scope (compEnvC scope cl C X.env) fp) elt me false)
    (g : Sg X.K W τ S σ H) (hp : Po X W H σ (fun (d : D) W' _ H' => ∀ (LA : Addr) (av : List V) (ys : List D), d = D.lst ys → H LA = none → H' LA = some (.lst av) → RepL X.K W' ys av → W'.F LA = none → (∀ j, j < W'.n → W'.m j ≠ LA) → Q (.ref LA) H') (bnd (mg τ) (fun xs => if xs.1.length ≤ sizeLine then bnd (collect (gdF xs.2 (compF tg (own.map (·.2)) mt me τ)) xs.1) fun ys => ret (.lst ys) else bad) S)) :
    tLc (WI X t iter) (fun v σ H Q => ∀ (s : Shared) (H0 : Hp) (C : Addr) (cl : List (Str × Addr)) (fp : List Addr), WG (X.blk s H0 scope (compEnvC scope cl C X.env) fp) t v σ H Q) tt
      (fun σ H Q => ∀ (s : Shared) (H0 : Hp) (C : Addr) (cl : List (Str × Addr)) (fp : List Addr), WE (X.blk s H0 scope (compEnvC scope cl C X.env) fp) elt σ H Q) (own.map (·.2)) σ H Q := by
  refine hi τ S W σ H _ g ?_
  cases z : mg τ S with
  | bad => unfold bnd at hp; rw [z] at hp; exact hp
  | exc e S1 => unfold bnd at hp; rw [z] at hp; exact hp
  | ok dsg S1 =>
    obtain ⟨ds, l⟩ := dsg
    have hp1 := Po.bndOk (m := mg τ) z hp
    have hg1 : gdS l S1 = true := hgd _ _ _ _ ⟨W, σ, H, g⟩ z
    dsimp only at hp1
    split at hp1
    · rename_i hlen
      cases z2 : collect (gdF l (compF tg (own.map (·.2)) mt me τ)) ds S1 with
      | bad => unfold bnd at hp1; rw [z2] at hp1; exact hp1.elim
      | exc e S2 => exact absurd z2 (collect_exc (gdF_exc compF_exc) _ _ _ _)
      | ok ys S2 =>
        have hq : ∀ W' H', Ext W H W' H' → Rel X.K W' S2 H' → ∀ LA av ys2, D.lst ys = .lst ys2 → H LA = none → H' LA = some (.lst av) → RepL X.K W' ys2 av → W'.F LA = none → (∀ j, j < W'.n → W'.m j ≠ LA) → Q (.ref LA) H' := by
          unfold bnd at hp1
          rw [z2] at hp1
          exact hp1
        intro W1 H1 e1 r1 J wk LA hD
        let Pv : Nat → Hp → Prop := fun i H' => ∃ (Wi : Wd) (Si : List Ob) (acc rest : List D) (av : List V), Ext W1 H1 Wi H' ∧ Rel X.K Wi Si H' ∧ H' LA = some (.lst av) ∧ RepL X.K Wi acc av ∧ Wi.F LA = none ∧ (∀ j, j < Wi.n → Wi.m j ≠ LA) ∧
          collect (gdF l (compF tg (own.map (·.2)) mt me τ)) (ds.drop i) Si = .ok rest S2 ∧ acc ++ rest = ys ∧ acc.length ≤ i ∧ gdS l Si = true
        refine ⟨fun i m H' => m = ds.length - i ∧ i ≤ ds.length ∧ Pv i H', ⟨ds.length, by simp, Nat.zero_le _, ?_⟩, ?_⟩
        · obtain ⟨f1, f2⟩ := r1.fresh hD
          obtain ⟨e2, r2⟩ := r1.track (o := .lst []) hD
          exact ⟨W1, S1, [], ys, [], e2, r2, upd_same, .nil, f1, f2, z2, rfl, Nat.le_refl _, hg1⟩
        · rintro i m H' ⟨rfl, hi, Wi, Si, acc, rest, av, eI, rI, hDi, ra, fF, fm, hc, hy, hal, hgl⟩
          by_cases hlt : i < ds.length
          · have hget : ds[i]? = some ds[i] := List.getElem?_eq_getElem hlt
            obtain ⟨hgo, hyl⟩ := wk.go i _ hget Wi Si H' eI.le rI hgl
            refine .inr ⟨hgo, Pv (i + 1), fun H'' p' => ⟨ds.length - (i + 1), by omega, rfl, hlt, p'⟩, fun x H2 y => ?_⟩
            obtain ⟨W2, e2, r2, rx⟩ := hyl x H2 y
            rw [List.drop_eq_getElem_cons hlt] at hc
            obtain ⟨o, S3, rest', hf, hc', hr⟩ := collect_ok hc
            obtain ⟨hf, hg3⟩ := gdF_ok hf
            obtain ⟨τ1, b, S4, htg, hmt, hb⟩ := compF_ok hf
            have eA := eI.trans rI e2
            have g2 : Sg X.K W2 (wipeS τ (own.map (·.2))) Si (wipe σ (own.map (·.2))) H2 := Sg.wiped (g.ext (e1.trans r1 eA) r2)
            obtain ⟨hD2, fF2, fm2⟩ := e2.free hDi fF fm
            intro s H0 C cl fp
            refine hg s H0 C cl fp _ τ1 Si W2 _ H2 _ x _ g2 rx htg fun σ1 g3 sm => ⟨(sm.wipe hs).trans wipe_wipe, ?_⟩
            refine hT τ1 Si S4 W2 σ1 H2 b _ g3 hmt fun W4 H4 e4 r4 => ?_
            obtain ⟨hD4, fF4, fm4⟩ := e4.free hD2 fF2 fm2
            have eB := eA.trans r2 e4
            rcases hb with ⟨rfl, yv, hme, rfl⟩ | ⟨rfl, rfl, rfl⟩
            · rw [if_pos rfl]
              intro s H0 C cl fp
              refine ((he s H0 C cl fp).use' (g3.ext e4 r4) hme).mono fun v H5 ⟨W5, e5, g5, rv⟩ => ?_
              obtain ⟨hD5, fF5, fm5⟩ := e5.free hD4 fF4 fm4
              refine ⟨av, hD5, ?_, W5, S3, acc ++ [yv], rest', av ++ [v], (eB.trans r4 e5).upd hD, g5.rel.retrack fF5 fm5, upd_same, (ra.mono ((e2.le.trans e4.le).trans e5.le)).append (RepL.one rv), fF5, fm5, hc', ?_, ?_⟩
              · rw [← ra.length]; omega
              · rw [← hy, hr]
                simp
              · exact ⟨by rw [List.length_append, List.length_singleton]; omega, hg3⟩
            · rw [if_neg Bool.false_ne_true]
              exact ⟨W4, S3, acc, rest', av, eB, r4, hD4, ra.mono (e2.le.trans e4.le), fF4, fm4, hc', by rw [← hy, hr]; rfl, by omega, hg3⟩
          · have e : i = ds.length := by omega
            subst e
            rw [List.drop_length] at hc
            cases hc
            rw [List.append_nil] at hy
            subst hy
            refine .inl ⟨wk.stop Wi _ H' eI.le rI hgl, ?_⟩
            exact hq Wi H' (e1.trans r1 eI) rI LA av _ rfl (e1.noneOf r1 hD) hDi ra fF fm
    · exact hp1.elim
theorem comp_coreG {S : List Ob} {W : Wd} {σ : L2.St} {H : Hp} {τ : Sl} {Q : VK} {mg : Sl → M (List D × List (Nat × List D))} (hi : SIg X t iter mg) (hgd : ∀ (xg : List D × List (Nat × List D)) (τ : Sl) (S S1 : List Ob), (∃ W σ H, Sg X.K W τ S σ H) → mg τ S = .ok xg S1 → gdS xg.2 S1 = true)
    (hg : ∀ (s : Shared) (H : Hp) (C : Addr) (cl : List (Str × Addr)) (fp : List Addr), STg (X.blk s H scope (compEnvC scope cl C X.env) fp) t tg)
    (hs : ∀ i, i ∈ tgSlots tg → i ∈ own.map (·.2))
    (hT : ∀ (τ1 : Sl) (S S1 : List Ob) (W : Wd) (σ1 : L2.St) (H : Hp) (b : Bool) (Q : Bool → Hp → Prop), Sg X.K W τ1 S σ1 H → mt τ1 S = .ok b S1 → (∀ W1 H1, Ext W H W1 H1 → Rel X.K W1 S1 H1 → Q b H1) → tt σ1 H Q)
    (he : ∀ (s : Shared) (H : Hp) (C : Addr) (cl : List (Str × Addr)) (fp : List Addr), SE (X.blk s H scope (compEnvC scope cl C X.env) fp) elt me false)
    (g : Sg X.K W τ S σ H) (hp : Po X W H σ (fun d W' _ H' => ∀ v, Rr X.K r W' H' d v → Q v H') (bnd (mg τ) (fun xs => if xs.1.length ≤ sizeLine then bnd (collect (gdF xs.2 (compF tg (own.map (·.2)) mt me τ)) xs.1) fun ys => ret (.lst ys) else bad) S)) :
    tLc (WI X t iter) (fun v σ H Q => ∀ (s : Shared) (H0 : Hp) (C : Addr) (cl : List (Str × Addr)) (fp : List Addr), WG (X.blk s H0 scope (compEnvC scope cl C X.env) fp) t v σ H Q) tt
      (fun σ H Q => ∀ (s : Shared) (H0 : Hp) (C : Addr) (cl : List (Str × Addr)) (fp : List Addr), WE (X.blk s H0 scope (compEnvC scope cl C X.env) fp) elt σ H Q) (own.map (·.2)) σ H Q := by
  refine hi τ S W σ H _ g ?_
  cases z : mg τ S with
  | bad => unfold bnd at hp; rw [z] at hp; exact hp
  | exc e S1 => unfold bnd at hp; rw [z] at hp; exact hp
  | ok dsg S1 =>
    obtain ⟨ds, l⟩ := dsg
    have hp1 := Po.bndOk (m := mg τ) z hp
    have hg1 : gdS l S1 = true := hgd _ _ _ _ ⟨W, σ, H, g⟩ z
    dsimp only at hp1
    split at hp1
    · rename_i hlen
      cases z2 : collect (gdF l (compF tg (own.map (·.2)) mt me τ)) ds S1 with
      | bad => unfold bnd at hp1; rw [z2] at hp1; exact hp1.elim
      | exc e S2 => exact absurd z2 (collect_exc (gdF_exc compF_exc) _ _ _ _)
      | ok ys S2 =>
        have hq : ∀ W' H', Ext W H W' H' → Rel X.K W' S2 H' → ∀ v, Rr X.K r W' H' (.lst ys) v → Q v H' := by
          unfold bnd at hp1
          rw [z2] at hp1
          exact hp1
        intro W1 H1 e1 r1 J wk LA hD
        let Pv : Nat → Hp → Prop := fun i H' => ∃ (Wi : Wd) (Si : List Ob) (acc rest : List D) (av : List V), Ext W1 H1 Wi H' ∧ Rel X.K Wi Si H' ∧ H' LA = some (.lst av) ∧ RepL X.K Wi acc av ∧ Wi.F LA = none ∧ (∀ j, j < Wi.n → Wi.m j ≠ LA) ∧
          collect (gdF l (compF tg (own.map (·.2)) mt me τ)) (ds.drop i) Si = .ok rest S2 ∧ acc ++ rest = ys ∧ acc.length ≤ i ∧ gdS l Si = true
        refine ⟨fun i m H' => m = ds.length - i ∧ i ≤ ds.length ∧ Pv i H', ⟨ds.length, by simp, Nat.zero_le _, ?_⟩, ?_⟩
        · obtain ⟨f1, f2⟩ := r1.fresh hD
          obtain ⟨e2, r2⟩ := r1.track (o := .lst []) hD
          exact ⟨W1, S1, [], ys, [], e2, r2, upd_same, .nil, f1, f2, z2, rfl, Nat.le_refl _, hg1⟩
        · rintro i m H' ⟨rfl, hi, Wi, Si, acc, rest, av, eI, rI, hDi, ra, fF, fm, hc, hy, hal, hgl⟩
          by_cases hlt : i < ds.length
          · have hget : ds[i]? = some ds[i] := List.getElem?_eq_getElem hlt
            obtain ⟨hgo, hyl⟩ := wk.go i _ hget Wi Si H' eI.le rI hgl
            refine .inr ⟨hgo, Pv (i + 1), fun H'' p' => ⟨ds.length - (i + 1), by omega, rfl, hlt, p'⟩, fun x H2 y => ?_⟩
            obtain ⟨W2, e2, r2, rx⟩ := hyl x H2 y
            rw [List.drop_eq_getElem_cons hlt] at hc
            obtain ⟨o, S3, rest', hf, hc', hr⟩ := collect_ok hc
            obtain ⟨hf, hg3⟩ := gdF_ok hf
            obtain ⟨τ1, b, S4, htg, hmt, hb⟩ := compF_ok hf
            have eA := eI.trans rI e2
            have g2 : Sg X.K W2 (wipeS τ (own.map (·.2))) Si (wipe σ (own.map (·.2))) H2 := Sg.wiped (g.ext (e1.trans r1 eA) r2)
            obtain ⟨hD2, fF2, fm2⟩ := e2.free hDi fF fm
            intro s H0 C cl fp
            refine hg s H0 C cl fp _ τ1 Si W2 _ H2 _ x _ g2 rx htg fun σ1 g3 sm => ⟨(sm.wipe hs).trans wipe_wipe, ?_⟩
            refine hT τ1 Si S4 W2 σ1 H2 b _ g3 hmt fun W4 H4 e4 r4 => ?_
            obtain ⟨hD4, fF4, fm4⟩ := e4.free hD2 fF2 fm2
            have eB := eA.trans r2 e4
            rcases hb with ⟨rfl, yv, hme, rfl⟩ | ⟨rfl, rfl, rfl⟩
            · rw [if_pos rfl]
              intro s H0 C cl fp
              refine ((he s H0 C cl fp).use' (g3.ext e4 r4) hme).mono fun v H5 ⟨W5, e5, g5, rv⟩ => ?_
              obtain ⟨hD5, fF5, fm5⟩ := e5.free hD4 fF4 fm4
              refine ⟨av, hD5, ?_, W5, S3, acc ++ [yv], rest', av ++ [v], (eB.trans r4 e5).upd hD, g5.rel.retrack fF5 fm5, upd_same, (ra.mono ((e2.le.trans e4.le).trans e5.le)).append (RepL.one rv), fF5, fm5, hc', ?_, ?_⟩
              · rw [← ra.length]; omega
              · rw [← hy, hr]
                simp
              · exact ⟨by rw [List.length_append, List.length_singleton]; omega, hg3⟩
            · rw [if_neg Bool.false_ne_true]
              exact ⟨W4, S3, acc, rest', av, eB, r4, hD4, ra.mono (e2.le.trans e4.le), fF4, fm4, hc', by rw [← hy, hr]; rfl, by omega, hg3⟩
          · have e : i = ds.length := by omega
            subst e
            rw [List.drop_length] at hc
            cases hc
            rw [List.append_nil] at hy
            subst hy
            refine .inl ⟨wk.stop Wi _ H' eI.le rI hgl, ?_⟩
            obtain ⟨le, rP⟩ := rI.putF (o := .lst av) fF fm
            have eP := eI.put (o := .lst av) hD fF
            have rw1 : L2.upd H' LA (.lst av) = H' := upd_id hDi
            rw [rw1] at rP eP
            exact hq _ H' (e1.trans r1 eP) rP _ (Rr.of (.lst upd_same (ra.mono le)))
    · exact hp1.elim
theorem xok_blk {s : Shared} {H : Hp} {C : Addr} {cl : List (Str × Addr)} {fp : List Addr} (xo : XOk X c) (hb : blkC c.N c.sc scope own = true) : XOk (X.blk s H scope (compEnvC scope cl C X.env) fp) (c.blk scope) := by
  refine ⟨xo.N, xo.nd, ?_, xo.calm, fun x hx => ?_⟩
  · show PySem.relabel scope X.env = relS scope c.sc
    rw [← xo.sc]
    rfl
  · have ok := blkOk_by hb
    show (scope.names.lookup x == some .cell) = true
    have hx : (cellNames scope).contains x = true := hx
    unfold cellNames at hx
    rw [List.contains_iff_mem] at hx
    obtain ⟨p, hp, rfl⟩ := List.mem_map.mp hx
    obtain ⟨h1, h2⟩ := List.mem_filter.mp hp
    rw [ok.uniq p h1]
    split at h2
    · rename_i hc
      rw [hc]
      rfl
    · cases h2
theorem gok_blk {s : Shared} {H : Hp} {C : Addr} {cl : List (Str × Addr)} {fp : List Addr} (go : GOk X c G) : GOk (X.blk s H scope (compEnvC scope cl C X.env) fp) (c.blk scope) G :=
  ⟨go.room, go.call, go.mak, go.meth, go.fld, go.glob, go.free, go.tab, go.inI, go.bas, go.rai, go.cat, go.exm, go.efl⟩
end
end Ev
set_option Elab.async false
set_option linter.all false
set_option maxRecDepth 100000
set_option maxHeartbeats 4000000
namespace Ev
open PySem L2 PyProof.Rows
def del (H : Hp) (p : Addr) : Hp := fun b => if b = p then none else H b
theorem del_ne {H : Hp} {p b : Addr} (h : b ≠ p) : del H p b = H b := if_neg h
theorem upd_del {H : Hp} {p : Addr} {o : HO} : upd (del H p) p o = upd H p o := by
  funext b
  by_cases e : b = p
  · rw [e, upd_same, upd_same]
  · rw [upd_ne e, upd_ne e, del_ne e]
/-- what was made in this step becomes a thing of the store -/
theorem Rel.adopt {K : PySem.W.Frag} {W W2 : Wd} {S2 : List Ob} {H H2 : Hp} (e : Ext W H W2 H2) (r : Rel K W2 S2 H2) {p : Addr} {o : HO} {b : Ob} (hp : H p = none) (fF : W2.F p = none) (fm : ∀ j, j < W2.n → W2.m j ≠ p)
    (hb : ∀ W', Le W2 W' → ObR K W' (upd H2 p o) b p) : ∃ W', Ext W H W' (upd H2 p o) ∧ Rel K W' (S2 ++ [b]) (upd H2 p o) ∧ Rep K W' (.obj S2.length) (.ref p) := by
  have r' : Rel K W2 S2 (del H2 p) := ⟨r.n, fun a q h => by
    rw [del_ne (fun z => by rw [z, fF] at h; cases h)]; exact r.fz a q h, fun j q h => (r.ob j q h).keep Le.refl (del_ne (fm j (r.lt h))), r.nf, r.inj⟩
  have e' : Ext W H W2 (del H2 p) := ⟨e.le, e.Fn, e.mn, fun a u h n => by
    rw [del_ne (ne_of_none h hp)]; exact e.keep a u h n⟩
  obtain ⟨W', e3, r3, n3, m3⟩ := r'.newOb (o := o) (b := b) (if_pos rfl) (fun W' le => by rw [upd_del]; exact hb W' le)
  rw [upd_del] at e3 r3
  refine ⟨W', e'.trans r' e3, r3, ?_⟩
  rw [← m3]
  exact .obj (by omega)
section
variable {X : Cx} {c : CC} {G : Gs} {e : Expr} {pos : Pos} {r : Bool}
theorem WE.lock {σ : L2.St} {H : Hp} {Q : VK} (h : WE X e σ H (fun v H1 => ∃ p kvs, v = .ref p ∧ H1 p = some (.dK kvs) ∧ ∀ od, Q v (upd H1 p (.frz od (.dK kvs))))) : WE X e σ H Q := by
  intro pins s I
  refine thn (h pins s I) fun u s1 ⟨v, H1, I1, r1, p, kvs, e1, e2, q⟩ => ?_
  obtain ⟨od, I2⟩ := I1.lock (d := p) e2 True.intro
  exact ⟨v, _, I2, r1, q od⟩
/-- key and value, each -/
def trsOf (X : Cx) : List (Option Expr) → List Expr → List (TE × TE)
  | some k :: ks, v :: vs => (WE X k, WE X v) :: trsOf X ks vs
  | _, _ => []
theorem key_we {k : Option Expr} {q : Key} (h : keyOfE k = some q) : ∃ e, k = some e ∧ ∀ (σ : L2.St) (H : Hp) (Q : VK), Q (kV q) H → WE X e σ H Q := by
  unfold keyOfE at h
  split at h
  · cases h; exact ⟨_, rfl, fun σ H Q hq => WE.of pe_int hq⟩
  · cases h; exact ⟨_, rfl, fun σ H Q hq => WE.of pe_str hq⟩
  · cases h
theorem pairs_ok : ∀ {ks : List (Option Expr)} {vs : List Expr} {qs : List Key} {xs : Es}, mapO keyOfE ks = some qs → ks.length = vs.length → SEs X G false vs xs →
    PPs X pos ks vs (trsOf X ks vs) ∧ (ks.all (·.isSome)) = true ∧
    ∀ (τ : Sl) (S : List Ob) (W : Wd) (σ : L2.St) (H : Hp) (Q : List (V × V) → Hp → Prop), Sg X.K W τ S σ H →
      Po X W H σ (fun ds W' _ H' => ∀ ws, RepL X.K W' ds ws → Q ((qs.zip ws).map fun kv => (kV kv.1, kv.2)) H') (evEs G τ xs S) → tPairs (trsOf X ks vs) σ H Q
  | [], [], qs, xs, h, hl, hs => by
    cases h
    cases hs.nilE
    refine ⟨pps_nil, rfl, fun τ S W σ H Q g hp => ?_⟩
    exact hp W H .refl g.rel [] .nil
  | k :: ks, v :: vs, qs, xs, h, hl, hs => by
    cases xs with
    | nil => exact hs.elim
    | cons x xs =>
      obtain ⟨s1, s2, s3⟩ := hs
      unfold mapO at h
      split at h
      · rename_i q qs' h1 h2
        cases h
        obtain ⟨ek, rfl, hk⟩ := key_we (X := X) h1
        obtain ⟨p1, p2, p3⟩ := pairs_ok h2 (by simpa using hl) s3
        refine ⟨pps_cons pe_we pe_we p1, by rw [List.all_cons, p2]; rfl, fun τ S W σ H Q g hp => ?_⟩
        show WE X ek σ H fun x H1 => WE X v σ H1 fun y H2 => tPairs (trsOf X ks vs) σ H2 fun ps H3 => Q ((x, y) :: ps) H3
        refine hk σ H _ ?_
        refine (s2.use g hp).mono fun y H1 ⟨d, W1, S1, e1, g1, r1, hp1⟩ => ?_
        refine p3 τ S1 W1 σ H1 _ g1 ?_
        unfold bnd at hp1
        cases z : evEs G τ xs S1 with
        | bad => rw [z] at hp1; exact hp1
        | exc _ _ => rw [z] at hp1; exact hp1
        | ok ds S2 =>
          rw [z] at hp1
          exact fun W2 H2 e2 r2 ws rw => hp1 W2 H2 e2 r2 (y :: ws) (.cons (Rep.mono e2.le r1) rw)
      · cases h
  | [], _ :: _, _, _, _, hl, _ => by cases hl
  | _ :: _, [], _, _, _, hl, _ => by cases hl
theorem zip_repK {K : PySem.W.Frag} {W : Wd} : ∀ {qs : List Key} {ds : List D} {ws : List V}, RepL K W ds ws → RepK K W (qs.zip ds) (qs.zip ws)
  | [], _, _, _ => .nil
  | q :: qs, _, _, .nil => .nil
  | q :: qs, _, _, .cons h t => .cons h (zip_repK t)
/-- what is told by turns, in twos -/
def altV : List V → List (V × V)
  | k :: v :: r => (k, v) :: altV r
  | _ => []
theorem alt_rep {K : PySem.W.Frag} {W : Wd} : ∀ {ds : List D} {ws : List V} {ps : List (Key × D)}, RepL K W ds ws → altOf ds = some ps → ∃ kvs : List (L2.Key × V), altV ws = kvs.map (fun kv => (kV kv.1, kv.2)) ∧ RepK K W ps kvs
  | [], _, _, .nil, e => by cases e; exact ⟨[], rfl, .nil⟩
  | [_], _, _, .cons _ .nil, e => by cases e
  | k :: d :: ds, _, ps, .cons h1 (.cons (v := v) h2 r), e => by
    unfold altOf at e
    split at e
    · rename_i q l hk hl
      cases e
      obtain ⟨kvs, e2, hr⟩ := alt_rep r hl
      have := key_rep h1 hk
      subst this
      exact ⟨(q, v) :: kvs, by rw [List.map_cons, ← e2]; rfl, .cons h2 hr⟩
    · cases e
theorem alt_ok : ∀ {ks : List (Option Expr)} {vs es : List Expr} {xs : Es}, altE ks vs = some es → SEs X G false es xs →
    PPs X pos ks vs (trsOf X ks vs) ∧ (ks.all (·.isSome)) = true ∧ ks.length = vs.length ∧
    ∀ (τ : Sl) (S : List Ob) (W : Wd) (σ : L2.St) (H : Hp) (Q : List (V × V) → Hp → Prop), Sg X.K W τ S σ H →
      Po X W H σ (fun ds W' _ H' => ∀ ws, RepL X.K W' ds ws → Q (altV ws) H') (evEs G τ xs S) → tPairs (trsOf X ks vs) σ H Q
  | [], [], es, xs, h, hs => by
    cases h
    cases hs.nilE
    refine ⟨pps_nil, rfl, rfl, fun τ S W σ H Q g hp => ?_⟩
    exact hp W H .refl g.rel [] .nil
  | some k :: ks, v :: vs, es, xs, h, hs => by
    unfold altE at h
    cases hz : altE ks vs with
    | none => rw [hz] at h; cases h
    | some es' =>
      rw [hz] at h
      cases h
      cases xs with
      | nil => exact hs.elim
      | cons x1 xs =>
        obtain ⟨s1, s2, s3⟩ := hs
        cases xs with
        | nil => exact s3.elim
        | cons x2 xs =>
          obtain ⟨t1, t2, t3⟩ := s3
          obtain ⟨p1, p2, p4, p3⟩ := alt_ok hz t3
          refine ⟨pps_cons pe_we pe_we p1, by rw [List.all_cons, p2]; rfl, by rw [List.length_cons, List.length_cons, p4], fun τ S W σ H Q g hp => ?_⟩
          show WE X k σ H fun x H1 => WE X v σ H1 fun y H2 => tPairs (trsOf X ks vs) σ H2 fun ps H3 => Q ((x, y) :: ps) H3
          refine (s2.use g hp).mono fun y1 H1 ⟨d1, W1, S1, e1, g1, r1, hp1⟩ => ?_
          have hp1 : Po X W1 H1 σ _ (bnd (bnd (evE G τ x2) fun b => bnd (evEs G τ xs) fun r => ret (b :: r)) (fun r => ret (d1 :: r)) S1) := hp1
          rw [bnd_assoc] at hp1
          refine (t2.use g1 hp1).mono fun y2 H2 ⟨d2, W2, S2, e2, g2, r2, hp2⟩ => ?_
          refine p3 τ S2 W2 σ H2 _ g2 ?_
          rw [bnd_assoc] at hp2
          unfold bnd at hp2
          cases z : evEs G τ xs S2 with
          | bad => rw [z] at hp2; exact hp2
          | exc _ _ => rw [z] at hp2; exact hp2
          | ok ds S3 =>
            rw [z] at hp2
            exact fun W3 H3 e3 r3 ws rw => hp2 W3 H3 e3 r3 (y1 :: y2 :: ws) (.cons (Rep.mono (e2.le.trans e3.le) r1) (.cons (Rep.mono e3.le r2) rw))
  | [], _ :: _, _, _, h, _ => by cases h
  | some _ :: _, [], _, _, h, _ => by cases h
  | none :: _, [], _, _, h, _ => by cases h
  | none :: _, _ :: _, _, _, h, _ => by cases h
/-- the display as it comes, its dict tracked -/
theorem disp_core {ks : List (Option Expr)} {vs : List Expr} {qs : List Key} {xs : Es} {τ : Sl} {S : List Ob} {W : Wd} {σ : L2.St} {H : Hp} {β : Type} {R : β → Wd → List Ob → Hp → Prop} {mk : List D → M β} (hk : mapO keyOfE ks = some qs) (hl : ks.length = vs.length) (h15 : ks.length ≤ 15) (hs : SEs X G false vs xs) (g : Sg X.K W τ S σ H)
    (hp : Po X W H σ R (bnd (evEs G τ xs) mk S)) :
    WE X (.Dict ks vs pos) σ H (fun v H1 => ∃ p H2 W2 S2 ds ws, v = .ref p ∧ H p = none ∧ H1 = upd H2 p (.dK (mergeK [] (qs.zip ws))) ∧ Ext W H W2 H2 ∧ Rel X.K W2 S2 H2 ∧ W2.F p = none ∧ (∀ j, j < W2.n → W2.m j ≠ p) ∧ RepL X.K W2 ds ws ∧ Po X W H σ R (mk ds S2)) := by
  obtain ⟨p1, p2, p3⟩ := pairs_ok (X := X) (pos := pos) hk hl hs
  have main : ∀ p, H p = none → tPairs (trsOf X ks vs) σ (upd H p (.dK [])) fun ps H2 => H2 p = some (.dK []) ∧ ∃ kvs : List (Key × V), ps = kvs.map (fun kv => (kV kv.1, kv.2)) ∧ kvs.length ≤ 15 ∧
      (∃ p' H2' W2 S2 ds ws, V.ref p = .ref p' ∧ H p' = none ∧ upd H2 p (.dK (mergeK [] kvs)) = upd H2' p' (.dK (mergeK [] (qs.zip ws))) ∧ Ext W H W2 H2' ∧ Rel X.K W2 S2 H2' ∧ W2.F p' = none ∧ (∀ j, j < W2.n → W2.m j ≠ p') ∧ RepL X.K W2 ds ws ∧ Po X W H σ R (mk ds S2)) := by
    intro p hpn
    obtain ⟨f1, f2⟩ := g.rel.fresh hpn
    obtain ⟨e1, r1⟩ := g.rel.track (o := .dK []) hpn
    refine p3 τ S W σ _ _ (g.ext e1 r1) ?_
    have hp' := Po.mono e1 r1 hp
    have hp0 := hp
    unfold bnd at hp' hp0
    cases z : evEs G τ xs S with
    | bad => rw [z] at hp'; exact hp'
    | exc _ _ => rw [z] at hp'; exact hp'
    | ok ds S2 =>
      rw [z] at hp0
      intro W2 H2 e2 r2 ws rw
      obtain ⟨h1, h2, h3⟩ := e2.free upd_same f1 f2
      refine ⟨h1, qs.zip ws, rfl, ?_, p, H2, W2, S2, ds, ws, rfl, hpn, rfl, e1.trans r1 e2, r2, h2, h3, rw, hp0⟩
      rw [List.length_zip]
      have := keys_of hk
      omega
  cases ks with
  | nil =>
    cases vs with
    | cons _ _ => cases hl
    | nil =>
      cases hk
      refine WE.of pe_dnewK fun p hpn => ?_
      obtain ⟨q1, kvs, q2, q3, q4⟩ := main p hpn
      cases kvs with
      | nil =>
        have q4' : ∃ p' H2' W2 S2 ds ws, V.ref p = .ref p' ∧ H p' = none ∧ upd (upd H p (.dK [])) p (.dK []) = upd H2' p' (.dK (mergeK [] (([] : List Key).zip ws))) ∧ Ext W H W2 H2' ∧ Rel X.K W2 S2 H2' ∧ W2.F p' = none ∧ (∀ j, j < W2.n → W2.m j ≠ p') ∧ RepL X.K W2 ds ws ∧ Po X W H σ R (mk ds S2) := q4
        rw [upd_upd] at q4'
        exact q4'
      | cons _ _ => cases q2
  | cons k ks => exact WE.of (pe_disp p1 p2 hl (by intro z; cases z) h15) main
theorem se_dic {ks : List (Option Expr)} {vs : List Expr} {qs : List Key} {xs : Es} (hk : mapO keyOfE ks = some qs) (hl : ks.length = vs.length) (h15 : ks.length ≤ 15) (hs : SEs X G false vs xs) :
    SE X (.Dict ks vs pos) (fun τ => bnd (evEs G τ xs) fun ds => if qs.length = ds.length ∧ ds.length ≤ 15 then ret (.dct (kMerge [] (qs.zip ds))) else bad) r := by
  intro τ S W σ H Q g hp
  refine WE.lock ((disp_core hk hl h15 hs g hp).mono fun v H1 ⟨p, H2, W2, S2, ds, ws, e1, hpn, e2, eE, r2, fF, fm, rl, hp2⟩ => ?_)
  split at hp2
  · subst e1 e2
    refine ⟨p, _, rfl, upd_same, fun od => ?_⟩
    rw [upd_upd]
    have rk : RepK X.K W2 (kMerge [] (qs.zip ds)) (mergeK [] (qs.zip ws)) := RepK.merge (zip_repK rl) .nil
    obtain ⟨le, rP⟩ := r2.putF (o := .frz od (.dK (mergeK [] (qs.zip ws)))) fF fm
    have eP := eE.put (o := .frz od (.dK (mergeK [] (qs.zip ws)))) hpn fF
    exact hp2 _ _ eP rP _ (Rr.of (.dct upd_same (rk.mono le)))
  · exact hp2.elim
theorem se_newD {ks : List (Option Expr)} {vs : List Expr} {qs : List Key} {xs : Es} (hk : mapO keyOfE ks = some qs) (hl : ks.length = vs.length) (h15 : ks.length ≤ 15) (hs : SEs X G false vs xs) :
    SE X (.Dict ks vs pos) (fun τ => bnd (evEs G τ xs) fun ds => fun S => if qs.length = ds.length ∧ ds.length ≤ 15 then .ok (.obj S.length) (S ++ [.dct (kMerge [] (qs.zip ds))]) else .bad) r := by
  intro τ S W σ H Q g hp
  refine (disp_core hk hl h15 hs g hp).mono fun v H1 ⟨p, H2, W2, S2, ds, ws, e1, hpn, e2, eE, r2, fF, fm, rl, hp2⟩ => ?_
  split at hp2
  · subst e1 e2
    have rk : RepK X.K W2 (kMerge [] (qs.zip ds)) (mergeK [] (qs.zip ws)) := RepK.merge (zip_repK rl) .nil
    obtain ⟨W', e3, r3, ro⟩ := Rel.adopt (o := .dK (mergeK [] (qs.zip ws))) (b := .dct (kMerge [] (qs.zip ds))) eE r2 hpn fF fm fun W' le => ⟨_, upd_same, rk.mono le⟩
    exact hp2 _ _ e3 r3 _ (Rr.of ro)
  · exact hp2.elim
theorem se_newDk {ks : List (Option Expr)} {vs es : List Expr} {xs : Es} (ha : altE ks vs = some es) (h15 : ks.length ≤ 15) (hne : ks ≠ []) (hS : SEs X G false es xs) :
    SE X (.Dict ks vs pos) (fun τ => bnd (evEs G τ xs) fun ds => fun S => match altOf ds with
      | some ps => if ps.length ≤ 15 then .ok (.obj S.length) (S ++ [.dct (kMerge [] ps)]) else .bad
      | none => .bad) r := by
  intro τ S W σ H Q g hp
  dsimp only at hp
  obtain ⟨q1, q2, q4, q3⟩ := alt_ok (X := X) (pos := pos) ha hS
  refine WE.of (pe_disp q1 q2 q4 hne h15) fun p hpn => ?_
  obtain ⟨f1, f2⟩ := g.rel.fresh hpn
  obtain ⟨e1, r1⟩ := g.rel.track (o := .dK []) hpn
  refine q3 τ S W σ _ _ (g.ext e1 r1) ?_
  have hp' := Po.mono e1 r1 hp
  have hp0 := hp
  unfold bnd at hp' hp0
  cases z : evEs G τ xs S with
  | bad => rw [z] at hp'; exact hp'
  | exc _ _ => rw [z] at hp'; exact hp'
  | ok ds S2 =>
    rw [z] at hp0
    intro W2 H2 e2 r2 ws rw'
    obtain ⟨h1, h2, h3⟩ := e2.free upd_same f1 f2
    dsimp only at hp0
    cases z3 : altOf ds with
    | none => rw [z3] at hp0; exact hp0.elim
    | some ps =>
      rw [z3] at hp0
      dsimp only at hp0
      split at hp0
      · rename_i hz
        obtain ⟨kvs, ek, rk⟩ := alt_rep rw' z3
        have hkl := rk.length
        have rk2 := RepK.merge rk (K := X.K) (W := W2) (xs := []) (vs := []) .nil
        refine ⟨h1, kvs, ek, by omega, ?_⟩
        obtain ⟨W', e3, r3, ro⟩ := Rel.adopt (o := .dK (mergeK [] kvs)) (b := .dct (kMerge [] ps)) (e1.trans r1 e2) r2 hpn h2 h3 fun W' le => ⟨_, upd_same, rk2.mono le⟩
        exact hp0 _ _ e3 r3 _ (Rr.of ro)
      · exact hp0.elim
theorem se_newDo {a : Expr} {ma : Sl → M D} {p : Pos} (go : GOk X c G) (hg : Gl X "dict") (hcm : X.calm = true) (h1 : isStar a = false) (ha : SE X a ma true) : SE X (.Call (.Name "dict" p) [a] [] pos) (fun τ => bnd (ma τ) fun x => fun S => match bfS S .dict [x] with
    | some (.dct kvs) => .ok (.obj S.length) (S ++ [.dct kvs])
    | _ => .bad) r := by
  intro τ S W σ H Q g hp
  refine WE.of (pe_callTy (T := "dict") callR_CG hg (go.free _ (by simp [bltNames])) (by decide +kernel) (pa_cons pe_we pa_nil (star_cons h1)) (he := star_cons h1) (hpl := by rfl)) ((ha.use g hp).mono fun v H1 ⟨d, W1, S1, e1, g1, rv, p1⟩ => ?_)
  show CG X _ [v] H1 _
  have eb : bfS S1 .dict [d] = (match Ev.dctOf S1 d with
    | some kvs => some (.dct kvs)
    | none => match Ev.lstOf S1 d with
      | some xs => (prsOf xs).map fun ps => .dct (kMerge [] ps)
      | none => none) := rfl
  rw [eb] at p1
  cases z : Ev.dctOf S1 d with
  | some kvs =>
    rw [z] at p1
    obtain ⟨q, ws, rfl, hq, gk⟩ := rv.a.dctOf g1.rel z
    refine ⟨_, call_dictD, q, ws, rfl, hq, fun q hq => ?_⟩
    obtain ⟨fF, fm⟩ := g1.rel.fresh hq
    obtain ⟨W', e3, r3, ro⟩ := Rel.adopt (o := .dK ws) (b := .dct kvs) Ext.refl g1.rel hq fF fm fun W' le => ⟨_, upd_same, gk.mono le⟩
    exact p1 _ _ e3 r3 _ (Rr.of ro)
  | none =>
    rw [z] at p1
    cases z1 : Ev.lstOf S1 d with
    | none => rw [z1] at p1; exact p1.elim
    | some xs =>
      rw [z1] at p1
      dsimp only at p1
      cases z2 : prsOf xs with
      | none => rw [z2] at p1; exact p1.elim
      | some ps =>
        rw [z2] at p1
        obtain ⟨q, ws, rfl, hq, gk⟩ := rv.a.lstOf g1.rel z1
        obtain ⟨as, kvs, rfl, hpp, hr⟩ := prs_rep g1.rel.fz gk z2
        have hr := RepK.merge hr (K := X.K) (W := W1) (xs := []) (vs := []) .nil
        refine ⟨_, call_dictP hcm, q, as, kvs, rfl, .inl (.inl hq), hpp, fun q hq => ?_⟩
        obtain ⟨fF, fm⟩ := g1.rel.fresh hq
        obtain ⟨W', e3, r3, ro⟩ := Rel.adopt (o := .dK (mergeK [] kvs)) (b := .dct (kMerge [] ps)) Ext.refl g1.rel hq fF fm fun W' le => ⟨_, upd_same, hr.mono le⟩
        exact p1 _ _ e3 r3 _ (Rr.of ro)
end
end Ev
set_option Elab.async false
set_option linter.all false
set_option maxRecDepth 100000
set_option maxHeartbeats 8000000
namespace Ev
open PySem L2 PyProof.Rows
theorem keys_rep {K : PySem.W.Frag} {W : Wd} : ∀ {xs : List D} {ks : List Key} {vs : List V}, RepL K W xs vs → keysOf xs = some ks → vs = ks.map kV
  | [], _, _, .nil, e => by cases e; rfl
  | x :: xs, ks, _, .cons h r, e => by
    unfold keysOf at e
    split at e
    · rename_i k l hk hl
      cases e
      rw [List.map_cons, key_rep h hk, keys_rep r hl]
    · cases e
theorem sq_rep {K : PySem.W.Frag} {W : Wd} {x : D} {xs : List D} {v : V} (h : Rep K W x v) (e : sqD x = some xs) : ∃ (u : Bool) (a : Addr) (vs : List V), v = .ref a ∧ sqX u K W.F a vs ∧ RepL K W xs vs := by
  cases h with
  | tup q r => cases e; exact ⟨true, _, _, rfl, q, r⟩
  | lst q r => cases e; exact ⟨false, _, _, rfl, .inl (.inl q), r⟩
  | _ => cases e
theorem zd_rep {K : PySem.W.Frag} {W : Wd} {x y : D} {kvs : List (Key × D)} {v w : V} (h : Rep K W x v) (g : Rep K W y w) (e : zdS x y = some kvs) :
    ∃ (u1 u2 : Bool) (a b : Addr) (ks : List Key) (ws : List V), v = .ref a ∧ w = .ref b ∧ sqX u1 K W.F a (ks.map kV) ∧ sqX u2 K W.F b ws ∧ RepK K W kvs (mergeK [] (ks.zip ws)) := by
  unfold zdS at e
  split at e
  · rename_i xs ys h1 h2
    obtain ⟨u1, a, vs, rfl, q1, r1⟩ := sq_rep h h1
    obtain ⟨u2, b, ws, rfl, q2, r2⟩ := sq_rep g h2
    cases z : keysOf xs with
    | none => rw [z] at e; cases e
    | some ks =>
      rw [z] at e
      cases e
      have := keys_rep r1 z
      subst this
      exact ⟨u1, u2, a, b, ks, ws, rfl, rfl, q1, q2, RepK.merge (zip_repK r2) .nil⟩
  · cases e
section
variable {X : Cx} {c : CC} {G : Gs} {a b : Expr} {ma mb : Sl → M D} {ms : Sl → M (List D)} {r : Bool} {p p2 q pos apos : Pos}
/-- .. locked at once -/
theorem pe_dzipL {e e2 : Expr} {ta : TA} (calm : X.calm = true) (gD : Gl X "dict") (mD : X.mg "dict" = none) (gZ : Gl X "zip") (mZ : X.mg "zip" = none) (ha : PA X [e, e2] ta)
    (st : starEach [e, e2] X.env = (false, eval e X.env) :: starEach [e2] X.env) (bk : (backTo q (starEach [e2] X.env)).any (·.1) = false) :
    PE X (.Call (.Name "dict" p) [.Call (.Name "zip" p2) [e, e2] [] q] [] pos) (fun σ H Q => ta σ H fun vs H1 => ∃ (u v : Bool) (a b : Addr) (ks : List Key) (ys : List V), vs = [.ref a, .ref b] ∧ sqX u X.K H1 a (ks.map kV) ∧ sqX v X.K H1 b ys ∧
      ∀ d od, H1 d = none → Q (.ref d) (upd H1 d (.frz od (.dK (mergeK [] (ks.zip ys)))))) := by
  refine ⟨fun pins s σ H Q I h => ?_⟩
  have base := (pe_dzip (p := p) (p2 := p2) (pos := pos) calm gD mD gZ mZ (pa_wa (X := X) (es := [e, e2])) st bk).run pins s σ H (fun v H2 => ∃ (H1 : Hp) (d : Addr) (kvs : List (Key × V)), v = .ref d ∧ H1 d = none ∧ H2 = upd H1 d (.dK kvs) ∧ ∀ od, Q (.ref d) (upd H1 d (.frz od (.dK kvs)))) I ?_
  · refine thn base fun u s1 ⟨v, H2, J, r1, H1, d, kvs, e1, hd, e2, k⟩ => ?_
    subst e1 e2
    obtain ⟨od, J2⟩ := J.lock (d := d) upd_same True.intro
    rw [upd_upd] at J2
    exact ⟨_, _, J2, r1, k od⟩
  · refine (WA.of ha h).mono fun vs H1 ⟨u, v, a, b, ks, ys, ev, q1, q2, k⟩ => ?_
    exact ⟨u, v, a, b, ks, ys, ev, q1, q2, fun d hd => ⟨H1, d, _, rfl, hd, rfl, fun od => k d od hd⟩⟩
theorem se_zdic (go : GOk X c G) (gD : Gl X "dict") (gZ : Gl X "zip") (calm : X.calm = true) (h1 : isStar a = false) (h2 : isStar b = false) (ha : SE X a ma false) (hb : SE X b mb false) :
    SE X (.Call (.Name "dict" p) [.Call (.Name "zip" p2) [a, b] [] q] [] pos) (fun τ => bnd (ma τ) fun x => bnd (mb τ) fun y => Ev.ask fun _ => (zdS x y).map .dct) r := by
  intro τ S W σ H Q g hp
  dsimp only at hp
  rw [arg2 (f := fun x y => (Ev.ask fun _ => (zdS x y).map Ev.D.dct : M Ev.D))] at hp
  refine WE.of (pe_dzipL calm gD (go.free _ (by simp [bltNames])) gZ (go.free _ (by simp [bltNames])) pa_wa (star_cons h1) (back_any _ _ _ (by rw [List.all_cons, h2]; rfl))) (((sa_cons h1 ha (sa_cons h2 hb sa_nil)).use g hp).mono fun vs H1 ⟨ds, W1, S1, e1, g1, r1, hp1⟩ => ?_)
  split at hp1
  · rename_i x y
    obtain ⟨d, ed, k⟩ := hp1.fin
    cases (show RepL X.K W1 [x, y] vs from r1) with
    | cons rv t =>
      cases t with
      | cons rw t =>
        cases t
        cases z : zdS x y with
        | none => rw [z] at ed; cases ed
        | some kvs =>
          rw [z] at ed
          cases ed
          obtain ⟨u1, u2, a1, b1, ks, ws, rfl, rfl, q1, q2, rk⟩ := zd_rep rv rw z
          exact ⟨u1, u2, a1, b1, ks, ws, rfl, q1.sub g1.rel.fz, q2.sub g1.rel.fz, fun d od hd => k.dct g1.rel rk hd⟩
  · exact hp1.elim
theorem se_newDz (go : GOk X c G) (gD : Gl X "dict") (gZ : Gl X "zip") (calm : X.calm = true) (h1 : isStar a = false) (h2 : isStar b = false) (ha : SE X a ma false) (hb : SE X b mb false) :
    SE X (.Call (.Name "dict" p) [.Call (.Name "zip" p2) [a, b] [] q] [] pos) (fun τ => bnd (ma τ) fun x => bnd (mb τ) fun y => fun S => match zdS x y with
      | some kvs => .ok (.obj S.length) (S ++ [.dct kvs])
      | none => .bad) r := by
  intro τ S W σ H Q g hp
  dsimp only at hp
  rw [arg2 (f := fun x y => (fun S => match zdS x y with
      | some kvs => .ok (.obj S.length) (S ++ [.dct kvs])
      | none => .bad : M Ev.D))] at hp
  refine WE.of (pe_dzip calm gD (go.free _ (by simp [bltNames])) gZ (go.free _ (by simp [bltNames])) pa_wa (star_cons h1) (back_any _ _ _ (by rw [List.all_cons, h2]; rfl))) (((sa_cons h1 ha (sa_cons h2 hb sa_nil)).use g hp).mono fun vs H1 ⟨ds, W1, S1, e1, g1, r1, hp1⟩ => ?_)
  split at hp1
  · rename_i x y
    cases (show RepL X.K W1 [x, y] vs from r1) with
    | cons rv t =>
      cases t with
      | cons rw t =>
        cases t
        cases z : zdS x y with
        | none => rw [z] at hp1; exact hp1.elim
        | some kvs =>
          rw [z] at hp1
          obtain ⟨u1, u2, a1, b1, ks, ws, rfl, rfl, q1, q2, rk⟩ := zd_rep rv rw z
          refine ⟨u1, u2, a1, b1, ks, ws, rfl, q1.sub g1.rel.fz, q2.sub g1.rel.fz, fun d hd => ?_⟩
          obtain ⟨fF, fm⟩ := g1.rel.fresh hd
          obtain ⟨W', e3, r3, ro⟩ := Rel.adopt (o := .dK (mergeK [] (ks.zip ws))) (b := .dct kvs) Ext.refl g1.rel hd fF fm fun W' le => ⟨_, upd_same, rk.mono le⟩
          exact hp1 _ _ e3 r3 _ (Rr.of ro)
  · exact hp1.elim
theorem pe_binit {CX : CXT} {k : Nat} {C f : Addr} {fd : FuncData} {ps : List Str} {sp : Sp} {E : L2.St → XK} {x m : Str} {e : Expr} {es : List Expr} {t : TA} (F : FnOk X.prog X.w X.K X.mg X.base CX k f fd ps sp) (hr : Room k X.A) (hg : Gl X x) (hm : X.mg x = some (.ref C)) (kp : PySem.W.keepIn X.K (.ref f) = true)
    (hb : Binds X.K fd ps []) (hx : ∀ σ, PassesAt CX X σ (E σ)) (rd : ClX.CRead X.K C (.type "type")) (cv : ClX.CVal X.K C (.type "type") m (.ref f) (.ref f)) (ha : PA X (e :: es) t) (hall : (e :: es).all (fun e => !isStar e) = true) (hdb : (x == ("__debug__" : Str)) = false) (hlen : (e :: es).length < 30) (hl : (apos.endLine == pos.line) = true) :
    PE X (.Call (.Attribute (.Name x p) m apos) (e :: es) [] pos) (fun σ H Q => t σ H fun vs H1 => sp vs H1 Q (E σ)) := by
  refine ⟨fun pins s σ H Q I h => ?_⟩
  obtain ⟨h1, h2⟩ := all_star hall
  refine PySem.W.methodCall_KW (pl := plainOf (.Name x p) X.env) (ld_glob I hg hm ?_ hdb) (ht_meth (apos := apos) (pos := pos) (m := m) (es := e :: es) (env := X.env) rfl hall hlen hl)
  refine PySem.W.method_cls (I.tok _).kIn rd.ga (ClX.getcval_ok (I.tok _) rd cv fun s2 I2 => ?_)
  refine PySem.W.callWith_K (h₀ := X.base) I2.ok.mod.kin kp (thn (ha.run pos pins s2 σ H _ I2 h) fun us s1 ⟨vs, H1, I1, r, q⟩ => ⟨I1.kIn, ?_⟩) (star_cons h1) (back_any _ _ _ h2)
  exact run0 F hr hb (hx σ) I1 r q
theorem se_binit {x : Str} {e : Expr} {es : List Expr} (go : GOk X c G) (hg : Gl X x) (hd : (x == ("__debug__" : Str)) = false) (hx : c.bas.contains x = true) (hall : (e :: es).all (fun e => !isStar e) = true) (hlen : (e :: es).length < 30) (hl : (apos.endLine == pos.line) = true) (ha : SA X (e :: es) ms false) :
    SE X (.Call (.Attribute (.Name x p) "__init__" apos) (e :: es) [] pos) (fun τ => bnd (ms τ) fun ds => if G.hasB x = true then G.meth x "__init__" ds else bad) r := by
  intro τ S W σ H Q g hp
  obtain ⟨f, fd, ps, k, hB, B, F, hm, kp, hb, hr⟩ := go.bas x hx
  dsimp only at hp
  simp only [if_pos hB] at hp
  refine WE.of (pe_binit (E := L2.WE (TX X)) F hr hg hm kp hb (passAt takes_TX) B.rd B.cv pa_wa hall hd hlen hl) ?_
  refine (ha.use g hp).mono fun vs H1 ⟨ds, W1, S1, e1, g1, r1, hp1⟩ => ?_
  refine ⟨W1, S1, ds, g1.rel, r1, ?_⟩
  cases z : G.meth x "__init__" ds S1 with
  | bad => rw [z] at hp1; exact hp1
  | ok d S2 =>
    rw [z] at hp1
    exact fun W' H' v e' r' rv => hp1 W' H' e' r' v (Rr.of rv)
  | exc q S2 =>
    rw [z] at hp1
    exact fun W' H' c dd e' r' h => hp1 W' H' c dd e' r' h
theorem isiO_ok {W : Wd} {S : List Ob} {H : Hp} (go : GOk X c G) (rl : Rel X.K W S H) {d : D} {v : V} {t : Ty} {k : Bool} (ra : RepA X.K W H d v) (e : isiG G S d t = some k) : ∃ T : Value, TyX X.K H v T ∧ PySem.W.kitOne X.K T (.type (tyS t)) = some k := by
  have gen : isiS S d t = some k → ∃ T : Value, TyX X.K H v T ∧ PySem.W.kitOne X.K T (.type (tyS t)) = some k := fun e => by
    obtain ⟨T, h1, h2⟩ := isi_ok rl ra e
    exact ⟨.type T, h1, kit_ty h2⟩
  unfold isiG at e
  split at e
  · rename_i i
    split at e
    · rename_i cn fs ho
      split at e
      · rename_i hI
        cases e
        have I := go.inI cn hI
        cases ra with
        | rep h =>
          cases h with
          | obj hi =>
            obtain ⟨dx, vs, hH, _⟩ := rl.ob i _ ho
            exact ⟨_, .base (.ins hH I.cl I.ha I.hn I.htk I.hm), I.ty t⟩
      · cases e
    · exact gen e
  · exact gen e
theorem se_isiO {T : Str} {ty : Ty} {p pt : Pos} (go : GOk X c G) (hg : Gl X "isinstance") (hgT : Gl X T) (hm : X.mg "isinstance" = none) (hmT : X.mg T = none) (hst : isStar a = false) (ht : tyTab.lookup T = some ty) (ha : SE X a ma true) :
    SE X (.Call (.Name "isinstance" p) [a, .Name T pt] [] pos) (fun τ => bnd (ma τ) fun x => Ev.ask fun S => (isiG G S x ty).map .bl) r := by
  intro τ S W σ H Q g hp
  have hT : ∃ u : String, bootBuiltins T = some (.type u) ∧ u = tyS ty ∧ (T ≠ "__name__") ∧ (T == ("__debug__" : Str)) = false := by
    have hm := PySem.mem_of_lookup ht
    simp only [tyTab, List.mem_cons, Prod.mk.injEq, List.not_mem_nil, or_false] at hm
    rcases hm with ⟨rfl, rfl⟩ | ⟨rfl, rfl⟩ | ⟨rfl, rfl⟩ | ⟨rfl, rfl⟩ | ⟨rfl, rfl⟩ | ⟨rfl, rfl⟩
    all_goals exact ⟨_, by decide +kernel, rfl, by decide +kernel, by decide +kernel⟩
  obtain ⟨u, hb, hu, hn, hd⟩ := hT
  refine WE.of (pe_callB (id := "isinstance") callR_CG hg hm (by decide +kernel) (pa_cons pe_we (pa_cons (pe_bltn hgT hmT hb (v := .ty u) rfl hn hd) pa_nil) (star_cons hst)) (he := star_cons hst)) ?_
  refine (ha.use g hp).mono fun x H1 ⟨d1, W1, S1, e1, g1, r1, hp1⟩ => ?_
  obtain ⟨d, ed, q⟩ := hp1.fin
  cases z : isiG G S1 d1 ty with
  | none => rw [z] at ed; cases ed
  | some k =>
    rw [z] at ed
    cases ed
    obtain ⟨T', h1, h2⟩ := isiO_ok go g1.rel r1.a z
    subst hu
    exact ⟨_, call_isi, x, .ty (tyS ty), T', .type (tyS ty), k, rfl, .ty _, h1, h2, q.bl g1.rel⟩
end
end Ev
set_option Elab.async false
set_option linter.all false
set_option maxRecDepth 100000
set_option maxHeartbeats 8000000
namespace Ev
open PySem L2 PyProof.Rows
structure CompOk (n : Nat) : Prop where
  e : ∀ {X : Cx} {c : CC} {G : Gs} {r : Bool} {e : Expr} {x : E}, XOk X c → GOk X c G → compE n c r e = some x → SE X e (fun τ => evE G τ x) r
  t : ∀ {X : Cx} {c : CC} {G : Gs} {e : Expr} {x : E}, XOk X c → GOk X c G → compE n c true e = some x → STt X e (fun τ => evE G τ x)
  es : ∀ {X : Cx} {c : CC} {G : Gs} {r : Bool} {es : List Expr} {xs : Es}, XOk X c → GOk X c G → compEs n c r es = some xs → SEs X G r es xs
  o : ∀ {X : Cx} {c : CC} {G : Gs} {o : Option Expr} {x : OE}, XOk X c → GOk X c G → compO n c o = some x → SO X o (fun τ => evO G τ x)
  it : ∀ {X : Cx} {c : CC} {G : Gs} {tg e : Expr} {x : It}, XOk X c → GOk X c G → compIt n c tg e = some x → SI X tg e (fun τ => evIt G τ x)
theorem compE_star {n : Nat} {c : CC} {r : Bool} {e : Expr} {x : E} (h : compE n c r e = some x) : isStar e = false := by
  cases n with
  | zero => cases h
  | succ n => cases e <;> first | rfl | (unfold compE at h; cases h)
/-- a list comprehension, as the rules want it -/
structure LcOk (X : Cx) (elt : Expr) (gens : List Comprehension) (scope : Scope) (own : List (Str × Nat)) (m : Sl → M D) (tg iter : Expr) (ifs : List Expr) (wi : TI) (g : TG) (tt : TT) (te : TE) : Prop where
  gens : gens = [⟨tg, iter, ifs, 0⟩]
  nd : X.N.Nodup
  it : PI X tg iter wi
  blk : BlkOk X.N X.env.scope scope own
  tg : ∀ (s : Shared) (H : Hp) (C : Addr) (cl : List (Str × Addr)) (fp : List Addr), PG (X.blk s H scope (compEnvC scope cl C X.env) fp) tg g
  ifs : ∀ (s : Shared) (H : Hp) (C : Addr) (cl : List (Str × Addr)) (fp : List Addr), PTs (X.blk s H scope (compEnvC scope cl C X.env) fp) ifs tt
  elt : ∀ (s : Shared) (H : Hp) (C : Addr) (cl : List (Str × Addr)) (fp : List Addr), PE (X.blk s H scope (compEnvC scope cl C X.env) fp) elt te
  fold : ∀ x, foldedSetIterable iter X.env x = pure x
  run : ∀ (r : Bool) (τ : Sl) (S : List Ob) (W : Wd) (σ : L2.St) (H : Hp) (Q : VK), Sg X.K W τ S σ H → Po X W H σ (fun d W' _ H' => ∀ v, Rr X.K r W' H' d v → Q v H') (m τ S) → tLc wi g tt te (own.map (·.2)) σ H Q
  run2 : ∀ (τ : Sl) (S : List Ob) (W : Wd) (σ : L2.St) (H : Hp) (Q : VK), Sg X.K W τ S σ H → Po X W H σ (fun (d : D) W' _ H' => ∀ (LA : Addr) (av : List V) (ys : List D), d = D.lst ys → H LA = none → H' LA = some (.lst av) → RepL X.K W' ys av → W'.F LA = none → (∀ j, j < W'.n → W'.m j ≠ LA) → Q (.ref LA) H') (m τ S) → tLc wi g tt te (own.map (·.2)) σ H Q
section
variable {n : Nat} {X : Cx} {c : CC} {G : Gs} {r : Bool} {x : E} {pos : Pos}
theorem cE_bin (ih : CompOk n) (xo : XOk X c) (go : GOk X c G) {a b : Expr} {op : Operator} (h : compE (n + 1) c r (.BinOp a op b pos) = some x) : SE X (.BinOp a op b pos) (fun τ => evE G τ x) r := by
  unfold compE at h
  dsimp only at h
  split at h
  · rename_i o y z h1 h2 h3
    cases h
    exact se_bin h1 (ih.e xo go h2) (ih.e xo go h3)
  · cases h
theorem cE_name (ih : CompOk n) (xo : XOk X c) (go : GOk X c G) {y : Str} (h : compE (n + 1) c r (.Name y pos) = some x) : SE X (.Name y pos) (fun τ => evE G τ x) r := by
  unfold compE at h
  dsimp only at h
  split at h
  · rename_i i hs
    split at h
    · rename_i hc
      cases h
      rw [Bool.and_eq_true] at hc
      obtain ⟨_, rfl⟩ := hc
      exact se_rd xo hs
    · cases h
      exact se_loc xo hs
  · split at h
    · rename_i hc
      cases h
      rw [Bool.and_eq_true] at hc
      obtain ⟨k1, k2⟩ := gl_ok xo hc.1
      exact se_glob go k1 k2 hc.2
    · cases h
theorem cE_boolop (ih : CompOk n) (xo : XOk X c) (go : GOk X c G) {op : BoolOp} {vs : List Expr} (h : compE (n + 1) c r (.BoolOp op vs pos) = some x) : SE X (.BoolOp op vs pos) (fun τ => evE G τ x) r := by
  unfold compE at h
  dsimp only at h
  split at h
  · cases h
  · exact se_bool1 (ih.e xo go h)
  · split at h
    · rename_i y z h1 h2
      have main := se_boolop (op := op) (ih.e xo go h1) (ih.e xo go h2)
      cases op with
      | And => cases h; exact main
      | Or => cases h; exact main
    · cases h
theorem cT_boolop (ih : CompOk n) (xo : XOk X c) (go : GOk X c G) {op : BoolOp} {vs : List Expr} (h : compE (n + 1) c true (.BoolOp op vs pos) = some x) : STt X (.BoolOp op vs pos) (fun τ => evE G τ x) := by
  unfold compE at h
  dsimp only at h
  split at h
  · cases h
  · exact st_bool1 (ih.t xo go h)
  · split at h
    · rename_i y z h1 h2
      have main := st_boolop (op := op) (ih.t xo go h1) (ih.t xo go h2)
      cases op with
      | And => cases h; exact main
      | Or => cases h; exact main
    · cases h
theorem tabName_ok {b : Expr} {y : Str} (xo : XOk X c) (h : tabName c b = some y) : ∃ p0, b = .Name y p0 ∧ Gl X y ∧ (y == ("__debug__" : Str)) = false ∧ c.tabs.contains y = true := by
  unfold tabName at h
  split at h
  · rename_i z p0
    split at h
    · rename_i hc
      cases h
      rw [Bool.and_eq_true] at hc
      obtain ⟨k1, k2⟩ := gl_ok xo hc.1
      exact ⟨p0, rfl, k1, k2, hc.2⟩
    · cases h
  · cases h
theorem isIn_ok {o : CmpOp} (h : isIn o = true) : o = .In := by cases o <;> first | rfl | cases h
theorem cE_cmp (ih : CompOk n) (xo : XOk X c) (go : GOk X c G) {a : Expr} {ops : List CmpOp} {bs : List Expr} (h : compE (n + 1) c r (.Compare a ops bs pos) = some x) : SE X (.Compare a ops bs pos) (fun τ => evE G τ x) r := by
  unfold compE at h
  dsimp only at h
  split at h
  · split at h
    · cases h
    · rename_i hm
      split at h
      · rename_i y hy
        split at h
        · rename_i hin
          obtain rfl := isIn_ok hin
          obtain ⟨p0, rfl, hg, hd, ht⟩ := tabName_ok xo hy
          cases z : compE n c true a with
          | none => rw [z] at h; cases h
          | some w => rw [z] at h; cases h; exact se_gin go hg hd ht (by simpa using hm) (ih.e xo go z)
        · cases h
      · split at h
        · rename_i h1 h2 h3
          cases h
          exact se_cmp go.room (by simpa using hm) h1 (ih.e xo go h2) (ih.e xo go h3)
        · cases h
  · split at h
    · cases h
    · rename_i hm
      split at h
      · rename_i h1 h2 h3 h4 h5
        cases h
        exact se_cmp2 go.room (by simpa using hm) h1 h2 (ih.e xo go h3) (ih.e xo go h4) (ih.e xo go h5)
      · cases h
  · cases h
theorem cT_cmp (ih : CompOk n) (xo : XOk X c) (go : GOk X c G) {a : Expr} {ops : List CmpOp} {bs : List Expr} (h : compE (n + 1) c true (.Compare a ops bs pos) = some x) : STt X (.Compare a ops bs pos) (fun τ => evE G τ x) := by
  unfold compE at h
  dsimp only at h
  split at h
  · split at h
    · cases h
    · rename_i hm
      split at h
      · rename_i y hy
        split at h
        · rename_i hin
          obtain rfl := isIn_ok hin
          obtain ⟨p0, rfl, hg, hd, ht⟩ := tabName_ok xo hy
          cases z : compE n c true a with
          | none => rw [z] at h; cases h
          | some w => rw [z] at h; cases h; exact st_gin go hg hd ht (by simpa using hm) (ih.e xo go z)
        · cases h
      · split at h
        · rename_i h1 h2 h3
          cases h
          exact st_cmp go.room (by simpa using hm) h1 (ih.e xo go h2) (ih.e xo go h3)
        · cases h
  · split at h
    · cases h
    · rename_i hm
      split at h
      · rename_i h1 h2 h3 h4 h5
        cases h
        exact st_cmp2 go.room (by simpa using hm) h1 h2 (ih.e xo go h3) (ih.e xo go h4) (ih.e xo go h5)
      · cases h
  · cases h
theorem cE_sub (ih : CompOk n) (xo : XOk X c) (go : GOk X c G) {a s : Expr} (h : compE (n + 1) c r (.Subscript a s pos) = some x) : SE X (.Subscript a s pos) (fun τ => evE G τ x) r := by
  unfold compE at h
  dsimp only at h
  split at h
  · cases z : compE n c true a with
    | none => rw [z] at h; cases h
    | some y => rw [z] at h; cases h; exact se_rev (ih.e xo go z)
  · split at h
    · rename_i h1 h2 h3
      cases h
      exact se_slc (ih.e xo go h1) (ih.o xo go h2) (ih.o xo go h3)
    · cases h
  · cases h
  · rename_i hs
    have hsl : isSlice s = false := by
      unfold isSlice
      split
      · exact absurd rfl (hs _ _ _ _)
      · rfl
    split at h
    · rename_i y hy
      obtain ⟨p0, rfl, hg, hd, ht⟩ := tabName_ok xo hy
      cases z : compE n c true s with
      | none => rw [z] at h; cases h
      | some w => rw [z] at h; cases h; exact se_gix go hg hd ht hsl (ih.e xo go z)
    · split at h
      · rename_i h1 h2
        cases h
        exact se_ix go.room hsl (ih.e xo go h1) (ih.e xo go h2)
      · cases h
theorem cE_dict (ih : CompOk n) (xo : XOk X c) (go : GOk X c G) {ks : List (Option Expr)} {vs : List Expr} (h : compE (n + 1) c r (.Dict ks vs pos) = some x) : SE X (.Dict ks vs pos) (fun τ => evE G τ x) r := by
  unfold compE at h
  dsimp only at h
  split at h
  · rename_i qs xs h1 h2
    split at h
    · rename_i hl
      split at h
      · cases h; exact se_newD h1 hl.1 hl.2 (ih.es xo go h2)
      · cases h; exact se_dic h1 hl.1 hl.2 (ih.es xo go h2)
    · cases h
  · split at h
    · split at h
      · rename_i es ha
        split at h
        · rename_i h15
          have hne : ks ≠ [] := fun e => by rw [e] at h15; exact absurd h15.2 (by simp)
          cases z : compEs n c false es with
          | none => rw [z] at h; cases h
          | some xs => rw [z] at h; cases h; exact se_newDk ha h15.1 hne (ih.es xo go z)
        · cases h
      · cases h
    · cases h
theorem cE_attr (ih : CompOk n) (xo : XOk X c) (go : GOk X c G) {a : Expr} {f : Str} (h : compE (n + 1) c r (.Attribute a f pos) = some x) : SE X (.Attribute a f pos) (fun τ => evE G τ x) r := by
  unfold compE at h
  dsimp only at h
  split at h
  · rename_i y p
    split at h
    · rename_i i hs
      split at h
      · cases h
      · cases h
        exact se_fld (a := .Name y p) go rfl (se_loc xo hs)
    · cases h
  · split at h
    · rename_i ha
      cases z : compE n c true a with
      | none => rw [z] at h; cases h
      | some y => rw [z] at h; cases h; exact se_fld go ha (ih.e xo go z)
    · cases h
theorem ev_comp1 {elt : E} {vs : List Nat} {tg : Tg} {it : It} {τ : Sl} : evE G τ (.comp elt vs tg it .none) = bnd (evIt G τ it) (fun xs => if xs.length ≤ sizeLine then bnd (collect (compF tg vs (fun _ => ret true) (fun τ => evE G τ elt) τ) xs) fun ys => ret (.lst ys) else bad) := by
  rw [evE]
  rfl
theorem ev_comp2 {elt k : E} {vs : List Nat} {tg : Tg} {it : It} {τ : Sl} : evE G τ (.comp elt vs tg it (.some k)) = bnd (evIt G τ it) (fun xs => if xs.length ≤ sizeLine then bnd (collect (compF tg vs (fun τ => testM (evE G τ k)) (fun τ => evE G τ elt) τ) xs) fun ys => ret (.lst ys) else bad) := by
  have e : (fun x => match tgS tg x (wipeS τ vs) with
        | some σ1 => noX (bnd (evE G σ1 k) fun k => bnd (Ev.ask fun S => truth S k) fun k => if k = true then bnd (evE G σ1 elt) fun y => ret (some y) else ret none)
        | none => bad) = compF tg vs (fun τ => testM (evE G τ k)) (fun τ => evE G τ elt) τ := by
    funext x
    unfold compF
    cases tgS tg x (wipeS τ vs) with
    | none => rfl
    | some τ1 =>
      dsimp only
      congr 1
      unfold compOne testM
      rw [bnd_assoc]
  rw [← e]
  rw [evE]
  all_goals rfl
theorem ev_compZ1 {elt e f : E} {vs : List Nat} {tg : Tg} {τ : Sl} : evE G τ (.compZ elt vs tg e f .none) = bnd (bnd (evE G τ e) fun x => bnd (evE G τ f) fun y => Ev.ask fun S => zipG S x y) (fun xs => if xs.1.length ≤ sizeLine then bnd (collect (gdF xs.2 (compF tg vs (fun _ => ret true) (fun τ => evE G τ elt) τ)) xs.1) fun ys => ret (.lst ys) else bad) := by
  rw [evE]
  rfl
theorem ev_compZ2 {elt k e f : E} {vs : List Nat} {tg : Tg} {τ : Sl} : evE G τ (.compZ elt vs tg e f (.some k)) = bnd (bnd (evE G τ e) fun x => bnd (evE G τ f) fun y => Ev.ask fun S => zipG S x y) (fun xs => if xs.1.length ≤ sizeLine then bnd (collect (gdF xs.2 (compF tg vs (fun τ => testM (evE G τ k)) (fun τ => evE G τ elt) τ)) xs.1) fun ys => ret (.lst ys) else bad) := by
  have ee : (fun x => match tgS tg x (wipeS τ vs) with
        | some σ1 => noX (bnd (evE G σ1 k) fun k => bnd (Ev.ask fun S => truth S k) fun k => if k = true then bnd (evE G σ1 elt) fun y => ret (some y) else ret none)
        | none => bad) = compF tg vs (fun τ => testM (evE G τ k)) (fun τ => evE G τ elt) τ := by
    funext x
    unfold compF
    cases tgS tg x (wipeS τ vs) with
    | none => rfl
    | some τ1 =>
      dsimp only
      congr 1
      unfold compOne testM
      rw [bnd_assoc]
  rw [← ee]
  rw [evE]
  all_goals rfl
theorem folded {iter : Expr} {env : Env} (h : ∀ a b d, iter ≠ .Set a b d) : ∀ x, foldedSetIterable iter env x = pure x := by
  intro x
  cases iter <;> first | rfl | exact absurd rfl (h _ _ _)
theorem compIt_set {tg iter : Expr} {it : It} (h : compIt n c tg iter = some it) : ∀ a b d, iter ≠ .Set a b d := by
  intro a b d z
  subst z
  cases n with
  | zero => cases h
  | succ n =>
    unfold compIt at h
    dsimp only at h
    cases n with
    | zero => cases h
    | succ n => unfold compE at h; cases h
theorem zipArg_ok {tg iter a b : Expr} (h : zipArg c tg iter = some (a, b)) : ∃ p pos els k ep, iter = .Call (.Name "zip" p) [a, b] [] pos ∧ tg = .Tuple els k ep ∧ ("zip" : Str) = "zip" ∧ c.gl "zip" = true ∧ c.isId pos = true ∧ isStar a = false ∧ isStar b = false := by
  unfold zipArg at h
  split at h
  · split at h
    · split at h
      · rename_i hc
        cases h
        obtain ⟨rfl, h1, h2, h3, h4⟩ := hc
        exact ⟨_, _, _, _, _, rfl, rfl, rfl, h1, h2, h3, h4⟩
      · cases h
    · cases h
  · cases h
theorem gdS_lst {S : List Ob} {x : D} {xs : List D} {l : List (Nat × List D)} (h : lstG S x = some (xs, l)) : gdS l S = true := by
  cases x with
  | lst ys => cases h; rfl
  | obj i =>
    unfold lstG at h
    dsimp only at h
    split at h
    · rename_i zs hz
      split at h
      · rename_i hb
        cases h
        unfold gdS
        rw [List.all_cons, List.all_nil, Bool.and_true]
        dsimp only
        rw [hz]
        exact hb
      · cases h
    · cases h
  | _ => cases h
theorem zipM_gd {m1 m2 : M D} {S S1 : List Ob} {xg : List D × List (Nat × List D)} (h : (bnd m1 fun x => bnd m2 fun y => Ev.ask fun S => zipG S x y) S = .ok xg S1) : gdS xg.2 S1 = true := by
  obtain ⟨x, S2, h1, h⟩ := bnd_ok h
  obtain ⟨y, S3, h2, h⟩ := bnd_ok h
  unfold Ev.ask at h
  split at h
  · rename_i q hq
    cases h
    dsimp only at hq
    unfold zipG at hq
    split at hq
    · cases hq; rfl
    · split at hq
      · rename_i h1 h2
        cases hq
        exact gdS_app.mpr ⟨gdS_lst h1, gdS_lst h2⟩
      · cases hq
  · cases h
theorem cE_lc (ih : CompOk n) (xo : XOk X c) (go : GOk X c G) {elt : Expr} {gens : List Comprehension} {scope : Scope} (h : compE (n + 1) c r (.ListComp elt gens scope pos) = some x) : ∃ tg iter ifs wi g tt te, LcOk X elt gens scope (ownOf c scope) (fun τ => evE G τ x) tg iter ifs wi g tt te := by
  unfold compE at h
  dsimp only at h
  split at h
  · rename_i tg iter ifs
    split at h
    · cases h
    · rename_i hb
      have hb : blkC c.N c.sc scope (ownOf c scope) = true := by simpa using hb
      split at h
      · rename_i za zb hz
        obtain ⟨zp, zpos, els, ek, ep, rfl, rfl, hzc⟩ := zipArg_ok hz
        split at h
        · rename_i y1 y2 t y h1 h1b h2 h3
          split at h
          · cases h
          · rename_i hc
            simp only [Bool.or_eq_true, not_or, Bool.not_eq_true', Bool.not_eq_false] at hc
            have hs : ∀ i, i ∈ tgSlots t → i ∈ (ownOf c scope).map (·.2) := fun i hi => by
              have := (List.all_eq_true.mp hc.2) i hi
              rwa [List.contains_iff_mem] at this
            have ok : BlkOk X.N X.env.scope scope (ownOf c scope) := by
              rw [xo.N, xo.sc]
              exact blkOk_by hb
            have hzi := si_zipG (p := zp) (pos := zpos) (elts := els) (kk := ek) (tpos := ep) go (gl_ok xo hzc.2.1).1 hzc.2.2.2.1 hzc.2.2.2.2 (ih.e xo go h1) (ih.e xo go h1b)
            have hzg : ∀ (xg : List D × List (Nat × List D)) (τ : Sl) (S S1 : List Ob), (∃ W σ H, Sg X.K W τ S σ H) → (bnd (evE G τ y1) fun x => bnd (evE G τ y2) fun y => Ev.ask fun S => zipG S x y) S = .ok xg S1 → gdS xg.2 S1 = true := fun xg τ S S1 _ h => zipM_gd h
            have hN : X.N.Nodup := by rw [xo.N]; exact xo.nd
            have hg : ∀ (s : Shared) (H : Hp) (C : Addr) (cl : List (Str × Addr)) (fp : List Addr), STg (X.blk s H scope (compEnvC scope cl C X.env) fp) (.Tuple els ek ep) t := fun s H C cl fp => stg_of (xok_blk xo hb) h2
            have he : ∀ (s : Shared) (H : Hp) (C : Addr) (cl : List (Str × Addr)) (fp : List Addr), SE (X.blk s H scope (compEnvC scope cl C X.env) fp) elt (fun τ => evE G τ y) false := fun s H C cl fp => ih.e (xok_blk xo hb) (gok_blk go) h3
            split at h
            · cases h
              refine ⟨_, _, [], _, (fun v σ H Q => ∀ (s : Shared) (H0 : Hp) (C : Addr) (cl : List (Str × Addr)) (fp : List Addr), WG (X.blk s H0 scope (compEnvC scope cl C X.env) fp) (.Tuple els ek ep) v σ H Q), _,
                (fun σ H Q => ∀ (s : Shared) (H0 : Hp) (C : Addr) (cl : List (Str × Addr)) (fp : List Addr), WE (X.blk s H0 scope (compEnvC scope cl C X.env) fp) elt σ H Q), rfl, hN, pi_wi, ok,
                (fun s H C cl fp => ⟨fun pins s1 σ H v u Q I r h => h s _ C cl fp pins s1 u I r⟩), (fun s H C cl fp => pts_nil), (fun s H C cl fp => ⟨fun pins s1 σ H Q I h => h s _ C cl fp pins s1 I⟩), (folded fun _ _ _ z => nomatch z), ?_, ?_⟩
              · intro r τ S W σ H Q g hp
                rw [ev_compZ1] at hp
                refine comp_coreG hzi hzg hg hs ?_ he g hp
                intro τ1 S S1 W σ1 H b Q g hm q
                cases hm
                exact q W H .refl g.rel
              · intro τ S W σ H Q g hp
                rw [ev_compZ1] at hp
                refine comp_core2G hzi hzg hg hs ?_ he g hp
                intro τ1 S S1 W σ1 H b Q g hm q
                cases hm
                exact q W H .refl g.rel
            · rename_i k
              cases z : compE n (c.blk scope) true k with
              | none => rw [z] at h; cases h
              | some kk =>
                rw [z] at h
                cases h
                refine ⟨_, _, [k], _, (fun v σ H Q => ∀ (s : Shared) (H0 : Hp) (C : Addr) (cl : List (Str × Addr)) (fp : List Addr), WG (X.blk s H0 scope (compEnvC scope cl C X.env) fp) (.Tuple els ek ep) v σ H Q),
                  (fun σ H Q => ∀ (s : Shared) (H0 : Hp) (C : Addr) (cl : List (Str × Addr)) (fp : List Addr), WT (X.blk s H0 scope (compEnvC scope cl C X.env) fp) k σ H Q),
                  (fun σ H Q => ∀ (s : Shared) (H0 : Hp) (C : Addr) (cl : List (Str × Addr)) (fp : List Addr), WE (X.blk s H0 scope (compEnvC scope cl C X.env) fp) elt σ H Q), rfl, hN, pi_wi, ok,
                  (fun s H C cl fp => ⟨fun pins s1 σ H v u Q I r h => h s _ C cl fp pins s1 u I r⟩), (fun s H C cl fp => pts_one ⟨fun pins s1 σ H Q I h => h s _ C cl fp pins s1 I⟩), (fun s H C cl fp => ⟨fun pins s1 σ H Q I h => h s _ C cl fp pins s1 I⟩), (folded fun _ _ _ z => nomatch z), ?_, ?_⟩
                · intro r τ S W σ H Q g hp
                  rw [ev_compZ2] at hp
                  refine comp_coreG hzi hzg hg hs ?_ he g hp
                  intro τ1 S S1 W σ1 H b Q g hm q s H0 C cl fp
                  refine ih.t (xok_blk (s := s) (H := H0) (C := C) (cl := cl) (fp := fp) xo hb) (gok_blk go) z _ (.inr rfl) τ1 S W σ1 H Q g ?_
                  dsimp only
                  rw [hm]
                  exact fun W1 H1 e1 r1 => q W1 H1 e1 r1
                · intro τ S W σ H Q g hp
                  rw [ev_compZ2] at hp
                  refine comp_core2G hzi hzg hg hs ?_ he g hp
                  intro τ1 S S1 W σ1 H b Q g hm q s H0 C cl fp
                  refine ih.t (xok_blk (s := s) (H := H0) (C := C) (cl := cl) (fp := fp) xo hb) (gok_blk go) z _ (.inr rfl) τ1 S W σ1 H Q g ?_
                  dsimp only
                  rw [hm]
                  exact fun W1 H1 e1 r1 => q W1 H1 e1 r1
            · cases h
        · cases h
      · split at h
        · rename_i it t y h1 h2 h3
          split at h
          · cases h
          · rename_i hc
            simp only [Bool.or_eq_true, not_or, Bool.not_eq_true', Bool.not_eq_false] at hc
            have hs : ∀ i, i ∈ tgSlots t → i ∈ (ownOf c scope).map (·.2) := fun i hi => by
              have := (List.all_eq_true.mp hc.2) i hi
              rwa [List.contains_iff_mem] at this
            have ok : BlkOk X.N X.env.scope scope (ownOf c scope) := by
              rw [xo.N, xo.sc]
              exact blkOk_by hb
            have hN : X.N.Nodup := by rw [xo.N]; exact xo.nd
            have hg : ∀ (s : Shared) (H : Hp) (C : Addr) (cl : List (Str × Addr)) (fp : List Addr), STg (X.blk s H scope (compEnvC scope cl C X.env) fp) tg t := fun s H C cl fp => stg_of (xok_blk xo hb) h2
            have he : ∀ (s : Shared) (H : Hp) (C : Addr) (cl : List (Str × Addr)) (fp : List Addr), SE (X.blk s H scope (compEnvC scope cl C X.env) fp) elt (fun τ => evE G τ y) false := fun s H C cl fp => ih.e (xok_blk xo hb) (gok_blk go) h3
            split at h
            · cases h
              refine ⟨tg, iter, [], _, (fun v σ H Q => ∀ (s : Shared) (H0 : Hp) (C : Addr) (cl : List (Str × Addr)) (fp : List Addr), WG (X.blk s H0 scope (compEnvC scope cl C X.env) fp) tg v σ H Q), _,
                (fun σ H Q => ∀ (s : Shared) (H0 : Hp) (C : Addr) (cl : List (Str × Addr)) (fp : List Addr), WE (X.blk s H0 scope (compEnvC scope cl C X.env) fp) elt σ H Q), rfl, hN, pi_wi, ok,
                (fun s H C cl fp => ⟨fun pins s1 σ H v u Q I r h => h s _ C cl fp pins s1 u I r⟩), (fun s H C cl fp => pts_nil), (fun s H C cl fp => ⟨fun pins s1 σ H Q I h => h s _ C cl fp pins s1 I⟩), (folded (compIt_set h1)), ?_, ?_⟩
              · intro r τ S W σ H Q g hp
                rw [ev_comp1] at hp
                refine comp_core (ih.it xo go h1) hg hs ?_ he g hp
                intro τ1 S S1 W σ1 H b Q g hm q
                cases hm
                exact q W H .refl g.rel
              · intro τ S W σ H Q g hp
                rw [ev_comp1] at hp
                refine comp_core2 (ih.it xo go h1) hg hs ?_ he g hp
                intro τ1 S S1 W σ1 H b Q g hm q
                cases hm
                exact q W H .refl g.rel
            · rename_i k
              cases z : compE n (c.blk scope) true k with
              | none => rw [z] at h; cases h
              | some kk =>
                rw [z] at h
                cases h
                refine ⟨tg, iter, [k], _, (fun v σ H Q => ∀ (s : Shared) (H0 : Hp) (C : Addr) (cl : List (Str × Addr)) (fp : List Addr), WG (X.blk s H0 scope (compEnvC scope cl C X.env) fp) tg v σ H Q),
                  (fun σ H Q => ∀ (s : Shared) (H0 : Hp) (C : Addr) (cl : List (Str × Addr)) (fp : List Addr), WT (X.blk s H0 scope (compEnvC scope cl C X.env) fp) k σ H Q),
                  (fun σ H Q => ∀ (s : Shared) (H0 : Hp) (C : Addr) (cl : List (Str × Addr)) (fp : List Addr), WE (X.blk s H0 scope (compEnvC scope cl C X.env) fp) elt σ H Q), rfl, hN, pi_wi, ok,
                  (fun s H C cl fp => ⟨fun pins s1 σ H v u Q I r h => h s _ C cl fp pins s1 u I r⟩), (fun s H C cl fp => pts_one ⟨fun pins s1 σ H Q I h => h s _ C cl fp pins s1 I⟩), (fun s H C cl fp => ⟨fun pins s1 σ H Q I h => h s _ C cl fp pins s1 I⟩), (folded (compIt_set h1)), ?_, ?_⟩
                · intro r τ S W σ H Q g hp
                  rw [ev_comp2] at hp
                  refine comp_core (ih.it xo go h1) hg hs ?_ he g hp
                  intro τ1 S S1 W σ1 H b Q g hm q s H0 C cl fp
                  refine ih.t (xok_blk (s := s) (H := H0) (C := C) (cl := cl) (fp := fp) xo hb) (gok_blk go) z _ (.inr rfl) τ1 S W σ1 H Q g ?_
                  dsimp only
                  rw [hm]
                  exact fun W1 H1 e1 r1 => q W1 H1 e1 r1
                · intro τ S W σ H Q g hp
                  rw [ev_comp2] at hp
                  refine comp_core2 (ih.it xo go h1) hg hs ?_ he g hp
                  intro τ1 S S1 W σ1 H b Q g hm q s H0 C cl fp
                  refine ih.t (xok_blk (s := s) (H := H0) (C := C) (cl := cl) (fp := fp) xo hb) (gok_blk go) z _ (.inr rfl) τ1 S W σ1 H Q g ?_
                  dsimp only
                  rw [hm]
                  exact fun W1 H1 e1 r1 => q W1 H1 e1 r1
            · cases h
        · cases h
  · cases h
theorem cE_comp (ih : CompOk n) (xo : XOk X c) (go : GOk X c G) {elt : Expr} {gens : List Comprehension} {scope : Scope} (h : compE (n + 1) c r (.ListComp elt gens scope pos) = some x) : SE X (.ListComp elt gens scope pos) (fun τ => evE G τ x) r := by
  obtain ⟨tg, iter, ifs, wi, g, tt, te, L⟩ := cE_lc (X := X) ih xo go h
  have eg := L.gens
  subst eg
  exact fun τ S W σ H Q gg hp => WE.of (pe_lc xo.calm L.nd L.it L.blk L.tg L.ifs L.elt L.fold) (L.run r τ S W σ H Q gg hp)
/-- a list comprehension's list, which nothing else tells of -/
theorem cE_compN (ih : CompOk n) (xo : XOk X c) (go : GOk X c G) {elt : Expr} {gens : List Comprehension} {scope : Scope} (h : compE (n + 1) c r (.ListComp elt gens scope pos) = some x) : ∀ (τ : Sl) (S : List Ob) (W : Wd) (σ : L2.St) (H : Hp) (Q : VK), Sg X.K W τ S σ H → Po X W H σ (fun (d : D) W' _ H' => ∀ (LA : Addr) (av : List V) (ys : List D), d = D.lst ys → H LA = none → H' LA = some (.lst av) → RepL X.K W' ys av → W'.F LA = none → (∀ j, j < W'.n → W'.m j ≠ LA) → Q (.ref LA) H') (evE G τ x S) → WE X (.ListComp elt gens scope pos) σ H Q := by
  obtain ⟨tg, iter, ifs, wi, g, tt, te, L⟩ := cE_lc (X := X) ih xo go h
  have eg := L.gens
  subst eg
  exact fun τ S W σ H Q gg hp => WE.of (pe_lc xo.calm L.nd L.it L.blk L.tg L.ifs L.elt L.fold) (L.run2 τ S W σ H Q gg hp)
theorem setArg_ok {y : Str} {args : List Expr} {a : Expr} (h : setArg c y args = some a) : ∃ p2 q, y = "len" ∧ args = [.Call (.Name "set" p2) [a] [] q] ∧ c.gl "set" = true ∧ isStar a = false := by
  unfold setArg at h
  split at h
  · split at h
    · rename_i hc
      cases h
      obtain ⟨rfl, rfl, h1, h2⟩ := hc
      exact ⟨_, _, rfl, rfl, h1, h2⟩
    · cases h
  · cases h
theorem zdArg_ok {y : Str} {args : List Expr} {a b : Expr} (h : zdArg c y args = some (a, b)) : ∃ p2 q, y = "dict" ∧ args = [.Call (.Name "zip" p2) [a, b] [] q] ∧ c.gl "zip" = true ∧ isStar a = false ∧ isStar b = false := by
  unfold zdArg at h
  split at h
  · split at h
    · rename_i hc
      cases h
      obtain ⟨rfl, rfl, h1, h2, h3⟩ := hc
      exact ⟨_, _, rfl, rfl, h1, h2, h3⟩
    · cases h
  · cases h
theorem basArg_ok {o : Expr} {m x : Str} (h : basArg c o m = some x) : ∃ p, o = .Name x p ∧ m = "__init__" ∧ c.gl x = true ∧ c.bas.contains x = true := by
  unfold basArg at h
  split at h
  · split at h
    · rename_i hc
      cases h
      exact ⟨_, rfl, hc⟩
    · cases h
  · cases h
theorem cE_callN (ih : CompOk n) (xo : XOk X c) (go : GOk X c G) {y : Str} {p : Pos} {args : List Expr} {kws : List Keyword} (h : compE (n + 1) c r (.Call (.Name y p) args kws pos) = some x) : SE X (.Call (.Name y p) args kws pos) (fun τ => evE G τ x) r := by
  unfold compE at h
  dsimp only at h
  split at h
  · cases h
  · rename_i hk
    have hk : kws = [] := by
      cases kws with
      | nil => rfl
      | cons _ _ => exact absurd rfl hk
    subst hk
    split at h
    · cases h
    · rename_i hg
      have hg : c.gl y = true := by simpa using hg
      obtain ⟨g1, g2⟩ := gl_ok xo hg
      split at h
      · rename_i hy
        subst hy
        split at h
        · rename_i a t pt
          split at h
          · rename_i ht
            split at h
            · rename_i h1 h2
              have hfr : t ∈ bltNames := by
                have hm := PySem.mem_of_lookup h2
                simp only [tyTab, List.mem_cons, Prod.mk.injEq, List.not_mem_nil, or_false] at hm
                rcases hm with ⟨rfl, _⟩ | ⟨rfl, _⟩ | ⟨rfl, _⟩ | ⟨rfl, _⟩ | ⟨rfl, _⟩ | ⟨rfl, _⟩ <;> simp [bltNames]
              split at h
              · cases h
                exact se_isiO go g1 (gl_ok xo ht).1 (go.free _ (by simp [bltNames])) (go.free _ hfr) (compE_star h1) h2 (ih.e xo go h1)
              · cases h
                exact se_isi (x := t) g1 (gl_ok xo ht).1 (go.free _ (by simp [bltNames])) (go.free _ hfr) (compE_star h1) h2 (ih.e xo go h1)
            · cases h
          · cases h
        · cases h
      · split at h
        · rename_i a ha
          obtain ⟨p2, q, rfl, rfl, hs, h1⟩ := setArg_ok ha
          cases z : compE n c true a with
          | none => rw [z] at h; cases h
          | some w =>
            rw [z] at h
            cases h
            exact se_nset go g1 (gl_ok xo hs).1 xo.calm h1 (ih.e xo go z)
        split at h
        · rename_i a b ha
          obtain ⟨p2, q, rfl, rfl, hz, h1, h2⟩ := zdArg_ok ha
          split at h
          · rename_i e1 e2
            split at h
            · cases h
              exact se_newDz go g1 (gl_ok xo hz).1 xo.calm h1 h2 (ih.e xo go e1) (ih.e xo go e2)
            · cases h
              exact se_zdic go g1 (gl_ok xo hz).1 xo.calm h1 h2 (ih.e xo go e1) (ih.e xo go e2)
          · cases h
        · split at h
          · rename_i hd
            obtain ⟨rfl, _⟩ := hd
            split at h
            · rename_i a _ _
              split at h
              · cases h
              · rename_i hst
                cases z : compE n c true a with
                | none => rw [z] at h; cases h
                | some w => rw [z] at h; cases h; exact se_newDo go g1 xo.calm (by simpa using hst) (ih.e xo go z)
            · cases h
          split at h
          · rename_i b hb
            split at h
            · cases h
            · rename_i hne
              cases args with
              | nil => exact absurd rfl hne
              | cons a as =>
                cases z : compEs n c true (a :: as) with
                | none => rw [z] at h; cases h
                | some ys =>
                  rw [z] at h
                  cases h
                  have s := ih.es xo go z
                  exact se_bi go g1 xo.calm hb s.star s.sa
          · split at h
            · rename_i hf
              cases z : compEs n c false args with
              | none => rw [z] at h; cases h
              | some ys =>
                rw [z] at h
                cases h
                have s := ih.es xo go z
                cases args with
                | nil => cases s.nilE; exact se_call0 go g1 g2 hf
                | cons a as => exact se_callN (es' := ys) go g1 g2 hf s.star s.sa
            · split at h
              · rename_i hf
                cases z : compEs n c false args with
                | none => rw [z] at h; cases h
                | some ys =>
                  rw [z] at h
                  cases h
                  have s := ih.es xo go z
                  cases args with
                  | nil => cases s.nilE; exact se_mk0 go g1 g2 hf
                  | cons a as => exact se_mkN go g1 g2 hf s.star s.sa
              · cases h
theorem cE_callA (ih : CompOk n) (xo : XOk X c) (go : GOk X c G) {o : Expr} {m : Str} {p : Pos} {args : List Expr} {kws : List Keyword} (h : compE (n + 1) c r (.Call (.Attribute o m p) args kws pos) = some x) : SE X (.Call (.Attribute o m p) args kws pos) (fun τ => evE G τ x) r := by
  unfold compE at h
  dsimp only at h
  split at h
  · cases h
  · rename_i hk
    have hk : kws = [] := by
      cases kws with
      | nil => rfl
      | cons _ _ => exact absurd rfl hk
    subst hk
    split at h
    · cases h
    · rename_i hao
      simp only [Bool.or_eq_true, not_or, beq_eq_false_iff_ne, decide_eq_true_eq] at hao
      have hat : attrOk o = true := by
        cases z : attrOk o with
        | true => rfl
        | false => exact absurd z hao.1
      have hl : (p.endLine == pos.line) = true := by
        cases z : (p.endLine == pos.line) with
        | true => rfl
        | false => exfalso; apply hao.2; simp [z]
      split at h
      · rename_i bx hb
        obtain ⟨bp, rfl, rfl, hbg, hbc⟩ := basArg_ok hb
        split at h
        · cases h
        · rename_i hargs
          simp only [Bool.or_eq_true, not_or, decide_eq_true_eq] at hargs
          cases args with
          | nil => exact absurd rfl hargs.1
          | cons a as =>
            cases z : compEs n c false (a :: as) with
            | none => rw [z] at h; cases h
            | some ys =>
              rw [z] at h
              cases h
              have s := ih.es xo go z
              obtain ⟨g1, g2⟩ := gl_ok xo hbg
              exact se_binit go g1 g2 hbc s.star (by have := hargs.2; omega) hl s.sa
      split at h
      · rename_i v hv
        split at h
        · rename_i hlen
          have hlen := of_decide_eq_true hlen
          split at h
          · rename_i y ys h1 h2
            cases h
            have s := ih.es xo go h2
            have hm := PySem.mem_of_lookup hv
            by_cases hget : v = .get
            · subst hget
              simp only [vmTab, List.mem_cons, Prod.mk.injEq, List.not_mem_nil, or_false, and_false, reduceCtorEq, and_true, false_or] at hm
              subst hm
              match args, ys, hlen, s with
              | [a1, a2], .cons y1 (.cons y2 .nil), _, s =>
                obtain ⟨s1, s2, s3, s4, _⟩ := id s
                exact se_get go hat s.star hl (ih.e xo go h1) s2 s4
              | [a1, a2], .cons y1 (.cons y2 (.cons _ _)), _, s => exact s.2.2.2.2.elim
              | [a1, a2], .cons y1 .nil, _, s => exact s.2.2.elim
              | [a1, a2], .nil, _, s => exact s.elim
            · cases args with
              | nil => cases v <;> cases hlen
              | cons a as =>
                have hl30 : (a :: as).length < 30 := by
                  rw [hlen]
                  cases v <;> decide
                have hne : (v != VM.get) = true := by simpa using hget
                rw [hne] at s
                exact se_vmS hv hget hat s.star hl30 hl (ih.e xo go h1) s.sa
          · cases h
        · cases h
      · split at h
        · rename_i v hv
          split at h
          · rename_i hlen
            have hlen := of_decide_eq_true hlen
            split at h
            · rename_i y ys h1 h2
              cases h
              have s := ih.es xo go h2
              have hm := PySem.mem_of_lookup hv
              by_cases hpop : v = .pop
              · subst hpop
                simp only [omTab, List.mem_cons, Prod.mk.injEq, List.not_mem_nil, or_false, and_false, reduceCtorEq, and_true, false_or] at hm
                subst hm
                match args, hlen, s with
                | [], _, s =>
                  cases s.nilE
                  exact se_om0 hat hl (ih.e xo go h1)
              · cases args with
                | nil =>
                  simp only [omTab, List.mem_cons, Prod.mk.injEq, List.not_mem_nil, or_false] at hm
                  rcases hm with ⟨_, rfl⟩ | ⟨_, rfl⟩ | ⟨_, rfl⟩
                  · cases hlen
                  · cases hlen
                  · exact absurd rfl hpop
                | cons a as =>
                  have hl30 : (a :: as).length < 30 := by
                    rw [hlen]
                    simp only [omTab, List.mem_cons, Prod.mk.injEq, List.not_mem_nil, or_false] at hm
                    rcases hm with ⟨_, rfl⟩ | ⟨_, rfl⟩ | ⟨_, rfl⟩ <;> decide
                  exact se_om1 hv hpop hat s.star hl30 hl (ih.e xo go h1) s.sa
            · cases h
          · cases h
        · split at h
          · rename_i hmm
            rw [Bool.and_eq_true] at hmm
            have hlen := of_decide_eq_true hmm.2
            split at h
            · rename_i y ys h1 h2
              cases h
              have s := ih.es xo go h2
              refine se_meth (es' := ys) go hat s.star (by omega) hl (ih.e xo go h1) s.sa fun hz => ?_
              subst hz
              cases s.nilE
              rfl
            · cases h
          · cases h
theorem cIt (ih : CompOk n) (xo : XOk X c) (go : GOk X c G) {tg e : Expr} {y : It} (h : compIt (n + 1) c tg e = some y) : SI X tg e (fun τ => evIt G τ y) := by
  have seq : ∀ {y : It}, (compE n c false e).map It.seq = some y → SI X tg e (fun τ => evIt G τ y) := fun {y} h => by
    cases z : compE n c false e with
    | none => rw [z] at h; cases h
    | some w => rw [z] at h; cases h; exact si_seq (ih.e xo go z)
  unfold compIt at h
  try dsimp only at h
  split at h
  · rename_i x p args pos
    split at h
    · cases h
    · rename_i hg
      have hg : c.gl x = true := by simpa using hg
      obtain ⟨g1, g2⟩ := gl_ok xo hg
      split at h
      · rename_i hx
        subst hx
        split at h
        · rename_i a
          split at h
          · cases h
          · rename_i hst
            cases z : compE n c false a with
            | none => rw [z] at h; cases h
            | some w => rw [z] at h; cases h; exact si_rng go g1 (by simpa using hst) (ih.e xo go z)
        · rename_i a b
          split at h
          · cases h
          · rename_i hst
            simp only [Bool.or_eq_true, not_or, Bool.not_eq_true] at hst
            split at h
            · rename_i h1 h2
              cases h
              exact si_rng2 go g1 hst.1 hst.2 (ih.e xo go h1) (ih.e xo go h2)
            · cases h
        · cases h
      · split at h
        · rename_i hx
          subst hx
          split at h
          · rename_i a b _ _ _
            split at h
            · cases h
            · rename_i hst
              simp only [Bool.or_eq_true, not_or, Bool.not_eq_true] at hst
              split at h
              · rename_i h1 h2
                cases h
                exact si_zip go g1 hst.1 hst.2 (ih.e xo go h1) (ih.e xo go h2)
              · cases h
          · cases h
        · split at h
          · rename_i hx
            subst hx
            split at h
            · rename_i a _ _ _
              split at h
              · cases h
              · rename_i hst
                cases z : compE n c false a with
                | none => rw [z] at h; cases h
                | some w => rw [z] at h; cases h; exact si_enum go g1 (by simpa using hst) (ih.e xo go z)
            · cases h
          · exact seq h
  · rename_i o m ap cp
    split at h
    · rename_i hm
      subst hm
      split at h
      · split at h
        · cases h
        · rename_i hao
          simp only [Bool.or_eq_true, not_or, beq_eq_false_iff_ne, decide_eq_true_eq] at hao
          have hat : attrOk o = true := by
            cases z : attrOk o with
            | true => rfl
            | false => exact absurd z hao.1
          have hl : (ap.endLine == cp.line) = true := by
            cases z : (ap.endLine == cp.line) with
            | true => rfl
            | false => exfalso; apply hao.2; simp [z]
          cases z : compE n c false o with
          | none => rw [z] at h; cases h
          | some w => rw [z] at h; cases h; exact si_items hat hl (ih.e xo go z)
      · cases h
    · exact seq h
  · exact seq h
theorem comp_ok : ∀ n, CompOk n
  | 0 => by constructor <;> (intros; rename_i h; cases h)
  | n + 1 => by
    have ih := comp_ok n
    have hE : ∀ {X : Cx} {c : CC} {G : Gs} {r : Bool} {e : Expr} {x : E}, XOk X c → GOk X c G → compE (n + 1) c r e = some x → SE X e (fun τ => evE G τ x) r := by
      intro X c G r e x xo go h
      cases e with
      | Constant k j p =>
        unfold compE at h
        dsimp only at h
        cases z : cstOf k with
        | none => rw [z] at h; cases h
        | some d => rw [z] at h; cases h; exact se_cst z
      | Name y p => exact cE_name ih xo go h
      | BinOp a o b p => exact cE_bin ih xo go h
      | UnaryOp o a p =>
        unfold compE at h
        cases o with
        | Not =>
          dsimp only at h
          cases z : compE n c true a with
          | none => rw [z] at h; cases h
          | some y => rw [z] at h; cases h; exact se_not (ih.e xo go z)
        | USub =>
          dsimp only at h
          cases z : compE n c true a with
          | none => rw [z] at h; cases h
          | some y => rw [z] at h; cases h; exact se_neg (ih.e xo go z)
        | _ => cases h
      | BoolOp o vs p => exact cE_boolop ih xo go h
      | Compare a ops bs p => exact cE_cmp ih xo go h
      | IfExp t a b p =>
        unfold compE at h
        dsimp only at h
        split at h
        · rename_i h1 h2 h3
          cases h
          exact se_ife (ih.t xo go h1) (ih.e xo go h2) (ih.e xo go h3)
        · cases h
      | Tuple es k p =>
        unfold compE at h
        dsimp only at h
        cases z : compEs n c false es with
        | none => rw [z] at h; cases h
        | some ys => rw [z] at h; cases h; exact se_tup (ih.es xo go z).sa
      | List es p =>
        unfold compE at h
        dsimp only at h
        split at h
        · cases z : compEs n c false es with
          | none => rw [z] at h; cases h
          | some ys => rw [z] at h; cases h; exact se_newL (ih.es xo go z).sa
        · cases z : compEs n c false es with
          | none => rw [z] at h; cases h
          | some ys => rw [z] at h; cases h; exact se_lst (ih.es xo go z).sa
      | Dict ks vs p => exact cE_dict ih xo go h
      | Subscript a s p => exact cE_sub ih xo go h
      | Attribute a f p => exact cE_attr ih xo go h
      | Call f args kws p =>
        cases f with
        | Name y q => exact cE_callN ih xo go h
        | Attribute o m q => exact cE_callA ih xo go h
        | _ =>
          unfold compE at h
          dsimp only at h
          split at h <;> cases h
      | ListComp elt gens scope p => exact cE_comp ih xo go h
      | _ => unfold compE at h; cases h
    refine ⟨hE, ?_, ?_, ?_, fun xo go h => cIt ih xo go h⟩
    · intro X c G e x xo go h
      have hv := hE xo go h
      cases e with
      | UnaryOp o a p =>
        unfold compE at h
        cases o with
        | Not =>
          dsimp only at h
          cases z : compE n c true a with
          | none => rw [z] at h; cases h
          | some y => rw [z] at h; cases h; exact st_not (ih.t xo go z)
        | USub =>
          exact st_val hv (fun wh => rfl) rfl
        | _ => cases h
      | BoolOp o vs p => exact cT_boolop ih xo go h
      | Compare a ops bs p => exact cT_cmp ih xo go h
      | IfExp t a b p =>
        unfold compE at h
        dsimp only at h
        split at h
        · rename_i h1 h2 h3
          cases h
          exact st_ife (ih.t xo go h1) (ih.t xo go h2) (ih.t xo go h3)
        · cases h
      | _ => exact st_val hv (fun wh => rfl) rfl
    · intro X c G r es xs xo go h
      unfold compEs at h
      try dsimp only at h
      split at h
      · cases h; exact True.intro
      · split at h
        · cases h
        · rename_i hst
          split at h
          · rename_i h1 h2
            cases h
            exact ⟨by simpa using hst, ih.e xo go h1, ih.es xo go h2⟩
          · cases h
    · intro X c G o x xo go h
      unfold compO at h
      try dsimp only at h
      split at h
      · cases h; exact so_none
      · rename_i e
        cases z : compE n c true e with
        | none => rw [z] at h; cases h
        | some y => rw [z] at h; cases h; exact so_some (ih.e xo go z)
end
end Ev
set_option Elab.async false
set_option linter.all false
set_option maxRecDepth 100000
set_option maxHeartbeats 8000000
namespace Ev
open PySem L2 PyProof.Rows
/-- the frame from the def's entry (W0, H0) on -/
structure Fs (K : PySem.W.Frag) (W0 : Wd) (H0 : Hp) (Wb W : Wd) (τ : Sl) (S : List Ob) (σ : L2.St) (H : Hp) : Prop where
  ext : Ext W0 H0 W H
  sg : Sg K W τ S σ H
  own : ∀ (i : Nat) (s : Slot) (a : Addr), τ[i]? = some s → isOwn s = true → σ[i]? = some (some (.ref a)) → H0 a = none
  le : Le Wb W
section
variable {K : PySem.W.Frag} {W0 Wb W W' : Wd} {H0 H H' : Hp} {τ : Sl} {S S' : List Ob} {σ : L2.St}
theorem Fs.step (f : Fs K W0 H0 Wb W τ S σ H) (e : Ext W H W' H') (r : Rel K W' S' H') : Fs K W0 H0 Wb W' τ S' σ H' :=
  ⟨f.ext.trans f.sg.rel e, f.sg.ext e r, f.own, f.le.trans e.le⟩
theorem set_eq {α : Type} {l : List α} {i j : Nat} {x y : α} (h : (l.set i x)[j]? = some y) : (i = j ∧ i < l.length ∧ y = x) ∨ (i ≠ j ∧ l[j]? = some y) := by
  by_cases e : i = j
  · subst e
    by_cases hl : i < l.length
    · rw [List.getElem?_set_self hl] at h
      cases h
      exact .inl ⟨rfl, hl, rfl⟩
    · rw [List.getElem?_eq_none (by rw [List.length_set]; omega)] at h
      cases h
  · rw [List.getElem?_set_ne e] at h
    exact .inr ⟨e, h⟩
theorem Fs.setVal (f : Fs K W0 H0 Wb W τ S σ H) {i : Nat} {d : D} {v : V} (r : Rep K W d v) : Fs K W0 H0 Wb W (τ.set i (.val d)) S (σ.set i (some v)) H := by
  refine ⟨f.ext, f.sg.setVal r, fun j s a hs os h => ?_, f.le⟩
  rcases set_eq hs with ⟨_, _, rfl⟩ | ⟨hij, hs⟩
  · cases os
  · rw [List.getElem?_set_ne hij] at h
    exact f.own j s a hs os h
theorem SlR.ref {s : Slot} {o : Option (Option V)} (h : SlR K W H s o) (os : isOwn s = true) : ∃ a u, o = some (some (.ref a)) ∧ H a = some u := by
  cases s with
  | own xs => obtain ⟨a, vs, e, q, _⟩ := h; exact ⟨a, _, e, q⟩
  | ownd xs => obtain ⟨a, vs, e, q, _⟩ := h; exact ⟨a, _, e, q⟩
  | _ => cases os
theorem SlR.other {s : Slot} {o : Option (Option V)} {p : Addr} {u : HO} (h : SlR K W H s o) (hn : isOwn s = true → o ≠ some (some (.ref p))) : SlR K W (upd H p u) s o := by
  cases s with
  | own xs =>
    obtain ⟨a, vs, e, q, r, f, m⟩ := h
    exact ⟨a, vs, e, by rw [upd_ne (fun z => hn rfl (by rw [e, z]))]; exact q, r, f, m⟩
  | ownd xs =>
    obtain ⟨a, vs, e, q, r, f, m⟩ := h
    exact ⟨a, vs, e, by rw [upd_ne (fun z => hn rfl (by rw [e, z]))]; exact q, r, f, m⟩
  | _ => exact h
/-- what a slot owns is changed -/
theorem Fs.chg (f : Fs K W0 H0 Wb W τ S σ H) {i : Nat} {a : Addr} {s s' : Slot} {o : HO} (hs : τ[i]? = some s) (os : isOwn s = true) (ha : σ[i]? = some (some (.ref a))) (h0 : H0 a = none) (fF : W.F a = none) (fm : ∀ j, j < W.n → W.m j ≠ a)
    (os' : isOwn s' = true) (hs' : SlR K W (upd H a o) s' (some (some (.ref a)))) : Fs K W0 H0 Wb W (τ.set i s') S σ (upd H a o) := by
  have hl : i < τ.length := (List.getElem?_eq_some_iff.mp hs).1
  refine ⟨f.ext.upd h0, ⟨f.sg.rel.retrack fF fm, by rw [List.length_set]; exact f.sg.len, fun j t h => ?_, fun j k t u b hjk ht hu ot ou h1 h2 => ?_⟩, fun j t b ht ot h => ?_, f.le⟩
  · rcases set_eq h with ⟨rfl, _, rfl⟩ | ⟨hij, h⟩
    · rw [ha]; exact hs'
    · exact (f.sg.sl j t h).other fun ot e => f.sg.dis i j s t a hij hs h os ot ha e
  · rcases set_eq ht with ⟨rfl, _, rfl⟩ | ⟨hij, ht2⟩
    · rcases set_eq hu with ⟨e, _⟩ | ⟨_, hu⟩
      · exact hjk e
      · exact f.sg.dis i k s u b hjk hs hu os ou h1 h2
    · rcases set_eq hu with ⟨rfl, _, rfl⟩ | ⟨_, hu⟩
      · exact f.sg.dis j i t s b hjk ht2 hs ot os h1 h2
      · exact f.sg.dis j k t u b hjk ht2 hu ot ou h1 h2
  · rcases set_eq ht with ⟨rfl, _, rfl⟩ | ⟨_, ht2⟩
    · rw [ha] at h; cases h; exact h0
    · exact f.own j t b ht2 ot h
/-- a slot comes to own something new -/
theorem Fs.newOwn (f : Fs K W0 H0 Wb W τ S σ H) {i : Nat} {a : Addr} {s' : Slot} (h0 : H0 a = none) (hs' : SlR K W H s' (some (some (.ref a))))
    (hne : ∀ (j : Nat) (s : Slot), τ[j]? = some s → isOwn s = true → σ[j]? ≠ some (some (.ref a))) : Fs K W0 H0 Wb W (τ.set i s') S (σ.set i (some (.ref a))) H := by
  refine ⟨f.ext, ⟨f.sg.rel, by rw [List.length_set, List.length_set]; exact f.sg.len, fun j t h => ?_, fun j k t u b hjk ht hu ot ou h1 h2 => ?_⟩, fun j t b ht ot h => ?_, f.le⟩
  · rcases set_eq h with ⟨rfl, hl, rfl⟩ | ⟨hij, h⟩
    · rw [List.getElem?_set_self (by rw [← f.sg.len]; exact hl)]; exact hs'
    · rw [List.getElem?_set_ne hij]; exact f.sg.sl j t h
  · rcases set_eq ht with ⟨rfl, hl, rfl⟩ | ⟨hij, ht2⟩
    · rcases set_eq hu with ⟨e, _⟩ | ⟨hik, hu⟩
      · exact hjk e
      · rw [List.getElem?_set_self (by rw [← f.sg.len]; exact hl)] at h1
        cases h1
        rw [List.getElem?_set_ne hik] at h2
        exact hne k u hu ou h2
    · rw [List.getElem?_set_ne hij] at h1
      rcases set_eq hu with ⟨rfl, hl, rfl⟩ | ⟨hik, hu⟩
      · rw [List.getElem?_set_self (by rw [← f.sg.len]; exact hl)] at h2
        cases h2
        exact hne j t ht2 ot h1
      · rw [List.getElem?_set_ne hik] at h2
        exact f.sg.dis j k t u b hjk ht2 hu ot ou h1 h2
  · rcases set_eq ht with ⟨rfl, hl, rfl⟩ | ⟨hij, ht2⟩
    · rw [List.getElem?_set_self (by rw [← f.sg.len]; exact hl)] at h
      cases h
      exact h0
    · rw [List.getElem?_set_ne hij] at h
      exact f.own j t b ht2 ot h
/-- what a slot owns becomes a value -/
theorem Fs.frozen (f : Fs K W0 H0 Wb W τ S σ H) {i : Nat} {a : Addr} {s : Slot} {d : D} {o : HO} (hs : τ[i]? = some s) (os : isOwn s = true) (ha : σ[i]? = some (some (.ref a))) (fF : W.F a = none) (fm : ∀ j, j < W.n → W.m j ≠ a)
    (hd : ∀ W', Le W W' → W'.F a = some o → Rep K W' d (.ref a)) : Fs K W0 H0 Wb ⟨upd W.F a o, W.m, W.n⟩ (τ.set i (.val d)) S σ (upd H a o) := by
  have h0 := f.own i s a hs os ha
  obtain ⟨le, rP⟩ := f.sg.rel.putF (o := o) fF fm
  refine ⟨f.ext.put h0 fF, ⟨rP, by rw [List.length_set]; exact f.sg.len, fun j t h => ?_, fun j k t u b hjk ht hu ot ou h1 h2 => ?_⟩, fun j t b ht ot h => ?_, f.le.trans le⟩
  · rcases set_eq h with ⟨rfl, _, rfl⟩ | ⟨hij, h⟩
    · rw [ha]; exact ⟨_, rfl, hd _ le upd_same⟩
    · have q := f.sg.sl j t h
      have hn : isOwn t = true → σ[j]? ≠ some (some (.ref a)) := fun ot e => f.sg.dis i j s t a hij hs h os ot ha e
      have q := q.other (u := o) hn
      cases t with
      | un => exact True.intro
      | val d =>
        obtain ⟨v, e, r⟩ := q
        exact ⟨v, e, r.mono le⟩
      | own xs =>
        obtain ⟨b, vs, e, q, r, g, m⟩ := q
        exact ⟨b, vs, e, q, r.mono le, by show upd W.F a o b = none; rw [upd_ne (fun z => hn rfl (by rw [e, z]))]; exact g, m⟩
      | ownd xs =>
        obtain ⟨b, vs, e, q, r, g, m⟩ := q
        exact ⟨b, vs, e, q, r.mono le, by show upd W.F a o b = none; rw [upd_ne (fun z => hn rfl (by rw [e, z]))]; exact g, m⟩
      | exn x =>
        obtain ⟨b, dd, vs, e, q, r⟩ := q
        exact ⟨b, dd, vs, e, le.F _ _ q, r.mono le⟩
  · rcases set_eq ht with ⟨rfl, _, rfl⟩ | ⟨hij, ht⟩
    · cases ot
    · rcases set_eq hu with ⟨rfl, _, rfl⟩ | ⟨_, hu⟩
      · cases ou
      · exact f.sg.dis j k t u b hjk ht hu ot ou h1 h2
  · rcases set_eq ht with ⟨rfl, _, rfl⟩ | ⟨_, ht⟩
    · cases ot
    · exact f.own j t b ht ot h
end
def WS (X : Cx) (st : Stmt) (D : Ends) (σ : L2.St) (H : Hp) : Prop := ∀ (pins : List (Addr × Obj)) (s : Shared), Inv X pins σ H s → wpAny (model X.prog X.w) X.A (exec st X.env) (SP X pins D) X.xe s
def WSs (X : Cx) (st : List Stmt) (D : Ends) (σ : L2.St) (H : Hp) : Prop := ∀ (pins : List (Addr × Obj)) (s : Shared), Inv X pins σ H s → wpAny (model X.prog X.w) X.A (execs st X.env) (SP X pins D) X.xe s
theorem ps_ws {X : Cx} {st : Stmt} : PS X st (WS X st) := ⟨fun pins s σ H D I h => h pins s I⟩
theorem pss_wss {X : Cx} {st : List Stmt} : PSs X st (WSs X st) := ⟨fun pins s σ H D I h => h pins s I⟩
theorem WS.of {X : Cx} {st : Stmt} {t : TS} {D : Ends} {σ : L2.St} {H : Hp} (p : PS X st t) (h : t D σ H) : WS X st D σ H := fun pins s I => p.run pins s σ H D I h
theorem WSs.of {X : Cx} {st : List Stmt} {t : TS} {D : Ends} {σ : L2.St} {H : Hp} (p : PSs X st t) (h : t D σ H) : WSs X st D σ H := fun pins s I => p.run pins s σ H D I h
def PoS (X : Cx) (W0 : Wd) (H0 : Hp) (Wb : Wd) (D : Ends) : RS → Prop
  | .bad => False
  | .next τ' S' => ∀ W' σ' H', Fs X.K W0 H0 Wb W' τ' S' σ' H' → D.nx σ' H'
  | .ret d S' => ∀ W' H' v, Ext W0 H0 W' H' → Rel X.K W' S' H' → Rep X.K W' d v → D.rt v H'
  | .exc e τ' S' => ∀ W' σ' H' c dd, Fs X.K W0 H0 Wb W' τ' S' σ' H' → ExR X.K W' e c dd → TX X c dd σ' H'
def SS (X : Cx) (st : Stmt) (m : Sl → List Ob → RS) : Prop := ∀ (W0 : Wd) (H0 : Hp) (Wb W : Wd) (τ : Sl) (S : List Ob) (σ : L2.St) (H : Hp) (D : Ends), Fs X.K W0 H0 Wb W τ S σ H → PoS X W0 H0 Wb D (m τ S) → WS X st D σ H
def SSs (X : Cx) (st : List Stmt) (m : Sl → List Ob → RS) : Prop := ∀ (W0 : Wd) (H0 : Hp) (Wb W : Wd) (τ : Sl) (S : List Ob) (σ : L2.St) (H : Hp) (D : Ends), Fs X.K W0 H0 Wb W τ S σ H → PoS X W0 H0 Wb D (m τ S) → WSs X st D σ H
section
variable {X : Cx} {W0 Wb W : Wd} {H0 H : Hp} {τ : Sl} {S : List Ob} {σ : L2.St} {D : Ends}
theorem PoS.lift {α : Type} {r : R α} {k : α → List Ob → RS} (f : Fs X.K W0 H0 Wb W τ S σ H) (hp : PoS X W0 H0 Wb D (Ev.lift τ r k)) : Po X W H σ (fun a W' S' H' => Fs X.K W0 H0 Wb W' τ S' σ H' ∧ PoS X W0 H0 Wb D (k a S')) r := by
  cases r with
  | bad => exact hp
  | ok a S' => exact fun W' H' e r => ⟨f.step e r, hp⟩
  | exc x S' => exact fun W' H' c dd e r ex => hp W' σ H' c dd (f.step e r) ex
theorem SE.stm {e : Expr} {m : Sl → M Ev.D} {r : Bool} {k : Ev.D → List Ob → RS} (h : SE X e m r) (f : Fs X.K W0 H0 Wb W τ S σ H) (hp : PoS X W0 H0 Wb D (Ev.lift τ (m τ S) k)) :
    WE X e σ H (fun v H1 => ∃ d W1 S1, Fs X.K W0 H0 Wb W1 τ S1 σ H1 ∧ Rr X.K r W1 H1 d v ∧ Ext W H W1 H1 ∧ PoS X W0 H0 Wb D (k d S1)) :=
  h τ S W σ H _ f.sg ((hp.lift f).imp fun d W1 S1 H1 e1 r1 ⟨f1, p1⟩ v rv => ⟨d, W1, S1, f1, rv, e1, p1⟩)
theorem SA.stm {es : List Expr} {m : Sl → M (List Ev.D)} {r : Bool} {k : List Ev.D → List Ob → RS} (h : SA X es m r) (f : Fs X.K W0 H0 Wb W τ S σ H) (hp : PoS X W0 H0 Wb D (Ev.lift τ (m τ S) k)) :
    WA X es σ H (fun v H1 => ∃ d W1 S1, Fs X.K W0 H0 Wb W1 τ S1 σ H1 ∧ Rrl X.K r W1 H1 d v ∧ Ext W H W1 H1 ∧ PoS X W0 H0 Wb D (k d S1)) :=
  h τ S W σ H _ f.sg ((hp.lift f).imp fun d W1 S1 H1 e1 r1 ⟨f1, p1⟩ v rv => ⟨d, W1, S1, f1, rv, e1, p1⟩)
theorem STt.stm {e : Expr} {m : Sl → M Ev.D} {k : Bool → List Ob → RS} (h : STt X e m) (f : Fs X.K W0 H0 Wb W τ S σ H) (hp : PoS X W0 H0 Wb D (Ev.lift τ (testM (m τ) S) k)) :
    WT X e σ H (fun b H1 => ∃ W1 S1, Fs X.K W0 H0 Wb W1 τ S1 σ H1 ∧ PoS X W0 H0 Wb D (k b S1)) :=
  h _ (.inr rfl) τ S W σ H _ f.sg ((hp.lift f).imp fun d W1 S1 H1 e1 r1 ⟨f1, p1⟩ => ⟨W1, S1, f1, p1⟩)
/-- the slots' lists and dicts become values, where they stand -/
theorem ws_freeze {st : Stmt} : ∀ {is : List Nat} {W : Wd} {τ : Sl} {H : Hp}, Fs X.K W0 H0 Wb W τ S σ H → (∀ W' H', Fs X.K W0 H0 Wb W' (freeze τ is) S σ H' → WS X st D σ H') → WS X st D σ H
  | [], _, _, _, f, k => k _ _ f
  | i :: is, W, τ, H, f, k => by
    have k' : ∀ W' H', Fs X.K W0 H0 Wb W' (freeze (match τ[i]? with
      | some (.own xs) => τ.set i (.val (.lst xs))
      | some (.ownd kvs) => τ.set i (.val (.dct kvs))
      | _ => τ) is) S σ H' → WS X st D σ H' := k
    cases z : τ[i]? with
    | none => rw [z] at k'; exact ws_freeze f k'
    | some s =>
      rw [z] at k'
      cases s with
      | own xs =>
        obtain ⟨a, vs, ha, hH, rl, fF, fm⟩ := f.sg.sl i _ z
        have f' := f.frozen (d := .lst xs) (o := .lst vs) z rfl ha fF fm fun W' le e => .lst e (rl.mono le)
        rw [upd_id hH] at f'
        exact ws_freeze f' k'
      | ownd kvs =>
        obtain ⟨a, kv, ha, hH, rl, fF, fm⟩ := f.sg.sl i _ z
        intro pins s I
        obtain ⟨od, I2⟩ := I.lock (d := a) hH True.intro
        have f' := f.frozen (d := .dct kvs) (o := .frz od (.dK kv)) z rfl ha fF fm fun W' le e => .dct e (rl.mono le)
        exact ws_freeze f' k' pins s I2
      | un => exact ws_freeze f k'
      | val d => exact ws_freeze f k'
      | exn e => exact ws_freeze f k'
theorem Fs.base {W1 : Wd} (f : Fs X.K W0 H0 W1 W τ S σ H) (l : Le Wb W1) : Fs X.K W0 H0 Wb W τ S σ H := ⟨f.ext, f.sg, f.own, l.trans f.le⟩
theorem Fs.here (f : Fs X.K W0 H0 Wb W τ S σ H) : Fs X.K W0 H0 W W τ S σ H := ⟨f.ext, f.sg, f.own, Le.refl⟩
theorem Fs.fresh (f : Fs X.K W0 H0 Wb W τ S σ H) {p : Addr} (hp : H p = none) : H0 p = none ∧ ∀ (j : Nat) (s : Slot), τ[j]? = some s → isOwn s = true → σ[j]? ≠ some (some (.ref p)) := by
  refine ⟨f.ext.noneOf f.sg.rel hp, fun j s hs os e => ?_⟩
  obtain ⟨a, u, e2, q⟩ := (f.sg.sl j s hs).ref os
  rw [e] at e2
  cases e2
  rw [hp] at q
  cases q
theorem tgS_own {tg : Tg} {d : Ev.D} {τ1 : Sl} (h : tgS tg d τ = some τ1) {i : Nat} {s : Slot} (hs : τ1[i]? = some s) (os : isOwn s = true) : i ∉ tgSlots tg ∧ τ[i]? = some s := by
  have many : ∀ {is : List Nat} {ds : List Ev.D} {τ τ1 : Sl}, setMany τ is ds = some τ1 → τ1[i]? = some s → i ∉ is ∧ τ[i]? = some s := by
    intro is
    induction is with
    | nil =>
      intro ds τ τ1 h hs
      cases ds with
      | nil => cases h; exact ⟨List.not_mem_nil, hs⟩
      | cons _ _ => cases h
    | cons j js ih =>
      intro ds τ τ1 h hs
      cases ds with
      | nil => cases h
      | cons d ds =>
        obtain ⟨h1, h2⟩ := ih (show setMany (τ.set j (.val d)) js ds = some τ1 from h) hs
        rcases set_eq h2 with ⟨_, _, rfl⟩ | ⟨hji, h3⟩
        · cases os
        · exact ⟨fun z => (List.mem_cons.mp z).elim (fun e => hji e.symm) h1, h3⟩
  unfold tgS at h
  split at h
  · rename_i j
    cases h
    rcases set_eq hs with ⟨_, _, rfl⟩ | ⟨hji, h3⟩
    · cases os
    · exact ⟨fun z => hji (List.mem_singleton.mp z).symm, h3⟩
  · split at h
    · exact many h hs
    · cases h
theorem Fs.tgt {tg : Tg} {d : Ev.D} {τ1 : Sl} {σ1 : L2.St} (f : Fs X.K W0 H0 Wb W τ S σ H) (h : tgS tg d τ = some τ1) (g : Sg X.K W τ1 S σ1 H) (sm : Same (tgSlots tg) σ σ1) : Fs X.K W0 H0 Wb W τ1 S σ1 H :=
  ⟨f.ext, g, fun i s a hs os e => by
    obtain ⟨h1, h2⟩ := tgS_own h hs os
    rw [sm.2 i h1] at e
    exact f.own i s a h2 os e, f.le⟩
end
end Ev
set_option Elab.async false
set_option linter.all false
set_option maxRecDepth 100000
set_option maxHeartbeats 8000000
namespace Ev
open PySem L2 PyProof.Rows
theorem noComp {e : Expr} {t : Option Expr} {l : Nat} {env : Env} (h : isComp e = false) : swapsWith e t l env = pure false := by
  cases e <;> first | rfl | cases h
def PSG (X : Cx) : TSet := fun o i v H Q => ∃ r, PSet X r ∧ r o i v H Q
theorem pset_PSG {X : Cx} : PSet X (PSG X) := fun pins s σ H o i v ov iv u Q I ro ri rv ⟨_, p, h⟩ => p pins s σ H o i v ov iv u Q I ro ri rv h
theorem bnd_lift {α β : Type} {τ : Sl} {m : M α} {k : α → M β} {S : List Ob} {q : β → List Ob → RS} : lift τ (bnd m k S) q = lift τ (m S) (fun a S1 => lift τ (k a S1) q) := by
  unfold bnd
  cases m S <;> rfl
section
variable {X : Cx} {c : CC} {G : Gs} {e a b o k : Expr} {m ma mk mo : Sl → M D} {ms : Sl → M (List D)} {x y f : Str} {i j : Nat} {p pos apos cpos spos : Pos}
theorem ss_pass : SS X (.Pass pos) (fun τ S => .next τ S) := fun W0 H0 Wb W τ S σ H D f hp => WS.of ps_pass (hp W σ H f)
theorem ss_doc {z : Str} {n : Nat} : SS X (.Expr (.Constant (.str z) n p) pos) (fun τ S => .next τ S) := fun W0 H0 Wb W τ S σ H D f hp => WS.of ps_doc (hp W σ H f)
theorem ss_expr (hn : isComp e = false) (he : SE X e m false) : SS X (.Expr e pos) (fun τ S => lift τ (m τ S) fun _ S1 => .next τ S1) := fun W0 H0 Wb W τ S σ H D f hp =>
  WS.of (ps_expr pe_we (noComp hn)) ((he.stm f hp).mono fun v H1 ⟨d, W1, S1, f1, rv, e1, p1⟩ => p1 W1 σ H1 f1)
theorem ss_set (xo : XOk X c) (hs : c.slot x = some i) (hc : c.canSet x = true) (hn : isComp e = false) (he : SE X e m false) :
    SS X (.Assign [.Name x p] e pos) (fun τ S => lift τ (m τ S) fun d S1 => .next (τ.set i (.val d)) S1) := fun W0 H0 Wb W τ S σ H D f hp => by
  obtain ⟨hN, _⟩ := slot_ok xo hs
  obtain ⟨h1, h2⟩ := set_loc xo hc
  exact WS.of (ps_set (by rw [xo.N]; exact xo.nd) hN h1 pe_we (noComp hn) h2) ((he.stm f hp).mono fun v H1 ⟨d, W1, S1, f1, rv, e1, p1⟩ => p1 W1 _ H1 (f1.setVal rv))
theorem ss_setC {elt tg iter : Expr} {ifs : List Expr} {gens : List Comprehension} {scope : Scope} {own : List (Str × Nat)} {wi : TI} {g : TG} {tt : TT} {te : TE} {pl : Pos} (xo : XOk X c) (hs : c.slot x = some i) (hl : c.sc.names.lookup x = some .local) (hp : (p.line == pl.line) = true)
    (ha : (scope.names.any fun (m, k) => m == x && (k == .local || k == .cell)) = false) (L : LcOk X elt gens scope own m tg iter ifs wi g tt te) :
    SS X (.Assign [.Name x p] (.ListComp elt gens scope pl) pos) (fun τ S => lift τ (m τ S) fun d S1 => .next (τ.set i (.val d)) S1) := fun W0 H0 Wb W τ S σ H D f hp2 pins s I => by
  obtain ⟨hN, _⟩ := slot_ok xo hs
  have hl' : X.env.scope.names.lookup x = some .local := by rw [xo.sc]; exact hl
  have eg := L.gens
  subst eg
  refine (ps_setLc xo.calm L.nd hN hl' (sw_true I.ok.kind hl' hp ha) L.it L.blk L.tg L.ifs L.elt L.fold).run pins s σ H D I ?_
  refine L.run false τ S W σ H _ f.sg ((hp2.lift f).imp fun d W1 S1 H1 e1 r1 ⟨f1, p1⟩ v rv => ?_)
  exact p1 W1 _ H1 (f1.setVal rv)
theorem ss_setT {t : Expr} {tg : Tg} (ht : isTupD e = false) (hn : isComp e = false) (hst : isStar t = false) (st : STg X t tg) (he : SE X e m false) :
    SS X (.Assign [t] e pos) (fun τ S => lift τ (m τ S) fun d S1 => match tgS tg d τ with
      | some τ1 => .next τ1 S1
      | none => .bad) := fun W0 H0 Wb W τ S σ H D f hp => by
  have hw : swappedStores [t] e X.env = pure none := by
    cases e <;> first | (cases t <;> rfl) | cases ht
  refine WS.of (ps_asg pe_we pg_wg (noComp hn) hw (by rw [star_assign hst]; rfl)) ((he.stm f hp).mono fun v H1 ⟨d, W1, S1, f1, rv, e1, p1⟩ => ?_)
  cases z : tgS tg d τ with
  | none => rw [z] at p1; exact p1.elim
  | some τ1 =>
    rw [z] at p1
    exact st τ τ1 S1 W1 σ H1 d v _ f1.sg rv z fun σ1 g1 sm => p1 W1 σ1 H1 (f1.tgt z g1 sm)
section
variable {K : PySem.W.Frag} {W W' : Wd} {a : Addr} {od : Obj} {kv : List (Key × V)}
/-- a world without what was lent -/
structure Lx (W W' : Wd) (a : Addr) (od : Obj) (kv : List (Key × V)) : Prop where
  at_ : W.F a = some (.frz od (.dK kv))
  F : ∀ b o, b ≠ a → W.F b = some o → W'.F b = some o
  m : W'.m = W.m
  n : W'.n = W.n
theorem Lx.sqT (l : Lx W W' a od kv) {b : Addr} {vs : List V} (h : SqT K W.F b vs) : SqT K W'.F b vs := by
  rcases h with (h | ⟨o, h⟩) | h
  · exact .inl (.inl (l.F _ _ (fun z => by rw [z, l.at_] at h; cases h) h))
  · exact .inl (.inr ⟨o, l.F _ _ (fun z => by rw [z, l.at_] at h; cases h) h⟩)
  · exact .inr h
theorem Lx.sqL (l : Lx W W' a od kv) {b : Addr} {vs : List V} (h : SqL K W.F b vs) : SqL K W'.F b vs := by
  rcases h with (h | ⟨o, h⟩) | h
  · exact .inl (.inl (l.F _ _ (fun z => by rw [z, l.at_] at h; cases h) h))
  · exact .inl (.inr ⟨o, l.F _ _ (fun z => by rw [z, l.at_] at h; cases h) h⟩)
  · exact .inr h
theorem noD_tup {xs : List Ev.D} : noD (.tup xs) = noDs xs := by rw [noD]
theorem noD_lst {xs : List Ev.D} : noD (.lst xs) = noDs xs := by rw [noD]
theorem noD_frz {xs : List Ev.D} : noD (.frz xs) = noDs xs := by rw [noD]
theorem noD_dct {kvs : List (Key × Ev.D)} : noD (.dct kvs) = false := by rw [noD]
theorem noD_obj {i : Nat} : noD (.obj i) = false := by rw [noD]
theorem noDs_cons {x : Ev.D} {xs : List Ev.D} : noDs (x :: xs) = (noD x && noDs xs) := by rw [noDs]
theorem noW_tup {xs : List Ev.D} : noW (.tup xs) = noWs xs := by rw [noW]
theorem noW_lst {xs : List Ev.D} : noW (.lst xs) = noWs xs := by rw [noW]
theorem noW_frz {xs : List Ev.D} : noW (.frz xs) = noWs xs := by rw [noW]
theorem noW_dct {kvs : List (Key × Ev.D)} : noW (.dct kvs) = false := by rw [noW]
theorem noWs_cons {x : Ev.D} {xs : List Ev.D} : noWs (x :: xs) = (noW x && noWs xs) := by rw [noWs]
mutual
theorem Lx.rep (l : Lx W W' a od kv) : ∀ {d : Ev.D} {v : V}, Rep K W d v → noW d = true → Rep K W' d v
  | _, _, .non, _ => .non
  | _, _, .bl b, _ => .bl b
  | _, _, .int i, _ => .int i
  | _, _, .str s, _ => .str s
  | _, _, .tup h r, n => .tup (l.sqT h) (Lx.repL l r (noW_tup.symm.trans n))
  | _, _, .lst h r, n => .lst (l.F _ _ (fun z => by rw [z, l.at_] at h; cases h) h) (Lx.repL l r (noW_lst.symm.trans n))
  | _, _, .frz h r, n => .frz (l.sqL h) (Lx.repL l r (noW_frz.symm.trans n))
  | _, _, .dct h r, n => (Bool.false_ne_true (noW_dct.symm.trans n)).elim
  | _, _, .obj (i := i) h, _ => by
    rw [← l.m]
    exact .obj (l.n ▸ h)
theorem Lx.repL (l : Lx W W' a od kv) : ∀ {ds : List Ev.D} {vs : List V}, RepL K W ds vs → noWs ds = true → RepL K W' ds vs
  | _, _, .nil, _ => .nil
  | _, _, .cons h r, n => .cons (Lx.rep l h (Bool.and_eq_true_iff.mp (noWs_cons.symm.trans n)).1) (Lx.repL l r (Bool.and_eq_true_iff.mp (noWs_cons.symm.trans n)).2)
end
theorem Lx.repK (l : Lx W W' a od kv) : ∀ {ds : List (Key × Ev.D)} {vs : List (Key × V)}, RepK K W ds vs → noWk ds = true → RepK K W' ds vs
  | _, _, .nil, _ => .nil
  | _, _, .cons h r, n => by
    unfold noWk at n
    rw [Bool.and_eq_true] at n
    exact .cons (l.rep h n.1) (Lx.repK l r n.2)
theorem Lx.repF (l : Lx W W' a od kv) : ∀ {ds : List (Str × Ev.D)} {vs : List (Str × V)}, RepF K W ds vs → noWf ds = true → RepF K W' ds vs
  | _, _, .nil, _ => .nil
  | _, _, .cons h r, n => by
    unfold noWf at n
    rw [Bool.and_eq_true] at n
    exact .cons (l.rep h n.1) (Lx.repF l r n.2)
/-- the dict is had back -/
theorem Lx.back {W1 : Wd} {S1 : List Ob} {H H1 : Hp} (e : Ext ⟨upd W.F a (.frz od (.dK kv)), W.m, W.n⟩ (upd H a (.frz od (.dK kv))) W1 H1) (r : Rel K W1 S1 H1) (hH : H a = some (.dK kv)) (fF : W.F a = none) (hn : S1.all obW = true) :
    ∃ W2, Lx W1 W2 a od kv ∧ Ext W H W2 (upd H1 a (.dK kv)) ∧ Rel K W2 S1 (upd H1 a (.dK kv)) ∧ H1 a = some (.frz od (.dK kv)) := by
  have at1 : W1.F a = some (.frz od (.dK kv)) := e.le.F a _ upd_same
  have l : Lx W1 ⟨fun b => if b = a then none else W1.F b, W1.m, W1.n⟩ a od kv := ⟨at1, fun b o hb h => by
    show (if b = a then none else W1.F b) = _
    rw [if_neg hb]; exact h, rfl, rfl⟩
  have ma : ∀ i, i < W1.n → W1.m i ≠ a := fun i hi z => by
    have := r.nf i hi
    rw [z, at1] at this
    cases this
  refine ⟨_, l, ⟨⟨fun b o h => ?_, e.le.n, e.le.m⟩, fun b o h => ?_, fun i h1 h2 => ?_, fun b o h1 h2 => ?_⟩, ⟨r.n, fun b o h => ?_, fun i o h => ?_, fun i hi => ?_, r.inj⟩, r.fz a _ at1⟩
  · have hb : b ≠ a := fun z => by rw [z, fF] at h; cases h
    exact l.F b o hb (e.le.F b o (by show upd W.F a _ b = _; rw [upd_ne hb]; exact h))
  · have h : (if b = a then none else W1.F b) = some o := h
    by_cases hb : b = a
    · rw [if_pos hb] at h; cases h
    · rw [if_neg hb] at h
      rcases e.Fn b o h with z | z
      · have z : upd W.F a _ b = some o := z
        rw [upd_ne hb] at z
        exact .inl z
      · rw [upd_ne hb] at z
        exact .inr z
  · have z := e.mn i h1 h2
    have hb : W1.m i ≠ a := ma i h2
    rw [upd_ne hb] at z
    exact z
  · by_cases hb : b = a
    · rw [hb, hH] at h1
      rw [hb, upd_same]
      exact h1
    · rw [upd_ne hb]
      exact e.keep b o (by rw [upd_ne hb]; exact h1) h2
  · have h : (if b = a then none else W1.F b) = some o := h
    by_cases hb : b = a
    · rw [if_pos hb] at h; cases h
    · rw [if_neg hb] at h
      rw [upd_ne hb]
      exact r.fz b o h
  · have hi : i < W1.n := by
      rw [r.n]
      exact (List.getElem?_eq_some_iff.mp h).1
    have ho : obW o = true := List.all_eq_true.mp hn o (List.mem_of_getElem? h)
    have q := r.ob i o h
    cases o with
    | lst xs =>
      obtain ⟨vs, q, g⟩ := q
      exact ⟨vs, by show upd H1 a _ (W1.m i) = _; rw [upd_ne (ma i hi)]; exact q, l.repL g ho⟩
    | dct xs =>
      obtain ⟨vs, q, g⟩ := q
      exact ⟨vs, by show upd H1 a _ (W1.m i) = _; rw [upd_ne (ma i hi)]; exact q, l.repK g ho⟩
    | ins c fs =>
      obtain ⟨dx, vs, q, g⟩ := q
      exact ⟨dx, vs, by show upd H1 a _ (W1.m i) = _; rw [upd_ne (ma i hi)]; exact q, l.repF g ho⟩
  · show (if W1.m i = a then none else W1.F (W1.m i)) = none
    rw [if_neg (ma i hi)]
    exact r.nf i hi
end
theorem WE.lent {X : Cx} {e : Expr} {σ : L2.St} {H : Hp} {Q : VK} {a : Addr} {kv : List (Key × V)} (hH : H a = some (.dK kv))
    (h : ∀ od, WE X e σ (upd H a (.frz od (.dK kv))) (fun v H1 => Q v H1 ∨ (H1 a = some (.frz od (.dK kv)) ∧ Q v (upd H1 a (.dK kv))))) : WE X e σ H Q := by
  intro pins s I
  obtain ⟨od, I2⟩ := I.lock (d := a) hH True.intro
  refine thn (h od pins s I2) fun u s1 ⟨v, H1, I1, r1, q⟩ => ?_
  rcases q with q | ⟨e1, q⟩
  · exact ⟨v, H1, I1, r1, q⟩
  · exact ⟨v, _, I1.unlock e1 (I.nofrz hH True.intro), r1, q⟩
theorem ss_lend {t : Expr} {tg : Tg} (ht : isTupD e = false) (hn : isComp e = false) (hst : isStar t = false) (st : STg X t tg) (he : SE X e m false) :
    SS X (.Assign [t] e pos) (fun τ S => match τ[i]? with
    | some (.ownd kvs) => lift (τ.set i (.val (.dct kvs))) (m (τ.set i (.val (.dct kvs))) S) fun d S1 => match tgS tg d (if noW d && S1.all obW then τ else τ.set i (.val (.dct kvs))) with
      | some σ1 => .next σ1 S1
      | none => .bad
    | _ => lift (freeze τ [i]) (m (freeze τ [i]) S) fun d S1 => match tgS tg d (freeze τ [i]) with
      | some σ1 => .next σ1 S1
      | none => .bad) := fun W0 H0 Wb W τ S σ H D f hp => by
  dsimp only at hp
  split at hp
  · rename_i kvs z
    obtain ⟨a, kv, ha, hH, rl, fF, fm⟩ := f.sg.sl i _ z
    have hw : swappedStores [t] e X.env = pure none := by
      cases e <;> first | (cases t <;> rfl) | cases ht
    refine WS.of (ps_asg pe_we pg_wg (noComp hn) hw (by rw [star_assign hst]; rfl)) (WE.lent hH fun od => ?_)
    have f' := f.frozen (d := .dct kvs) (o := .frz od (.dK kv)) z rfl ha fF fm fun W' le e => .dct e (rl.mono le)
    refine (he.stm f' hp).mono fun v H1 ⟨d, W1, S1, f1, rv, e1, p1⟩ => ?_
    cases hc : noW d && S1.all obW with
    | false =>
      rw [hc] at p1
      refine .inl ?_
      simp only [Bool.false_eq_true, if_false] at p1
      cases y : tgS tg d (τ.set i (.val (.dct kvs))) with
      | none => rw [y] at p1; exact p1.elim
      | some τ1 =>
        rw [y] at p1
        exact st _ τ1 S1 W1 σ H1 d v _ f1.sg rv y fun σ1 g1 sm => p1 W1 σ1 H1 (f1.tgt y g1 sm)
    | true =>
      rw [hc] at p1
      rw [Bool.and_eq_true] at hc
      obtain ⟨W2, l, e2, r2, at1⟩ := Lx.back e1 f1.sg.rel hH fF hc.2
      have f2 := f.step e2 r2
      refine .inr ⟨at1, ?_⟩
      simp only [if_true] at p1
      cases y : tgS tg d τ with
      | none => rw [y] at p1; exact p1.elim
      | some τ1 =>
        rw [y] at p1
        exact st _ τ1 S1 W2 σ _ d v _ f2.sg (l.rep rv hc.1) y fun σ1 g1 sm => p1 W2 σ1 _ (f2.tgt y g1 sm)
  · exact ws_freeze f fun W' H' f' => ss_setT ht hn hst st he W0 H0 Wb W' _ S σ H' D f' hp
def SFr (X : Cx) (e : Expr) (m : Sl → M Slot) : Prop := ∀ (W0 : Wd) (H0 : Hp) (Wb W : Wd) (τ : Sl) (S : List Ob) (σ : L2.St) (H : Hp) (D : Ends) (k : Slot → List Ob → RS), Fs X.K W0 H0 Wb W τ S σ H → PoS X W0 H0 Wb D (lift τ (m τ S) k) →
  WE X e σ H (fun v H2 => ∃ a W1 S1 sl, v = .ref a ∧ Fs X.K W0 H0 Wb W1 τ S1 σ H2 ∧ H0 a = none ∧ SlR X.K W1 H2 sl (some (some (.ref a))) ∧ (∀ (j : Nat) (s : Slot), τ[j]? = some s → isOwn s = true → σ[j]? ≠ some (some (.ref a))) ∧ PoS X W0 H0 Wb D (k sl S1))
theorem sfr_lst {es : List Expr} (h : SA X es ms false) : SFr X (.List es pos) (fun τ => bnd (ms τ) fun ds => if ds.length ≤ sizeLine then ret (.own ds) else bad) := by
  intro W0 H0 Wb W τ S σ H D k f hp
  dsimp only at hp
  rw [bnd_lift] at hp
  refine WE.of (pe_lst pa_wa) ((h.stm f hp).mono fun vs H1 ⟨ds, W1, S1, f1, rv, e1, p1⟩ => ?_)
  split at p1
  · rename_i hz
    have rv : RepL X.K W1 ds vs := rv
    refine ⟨by rw [← rv.length]; exact hz, fun q hq => ?_⟩
    obtain ⟨h1, h2⟩ := f1.fresh hq
    obtain ⟨fF, fm⟩ := f1.sg.rel.fresh hq
    obtain ⟨e2, r2⟩ := f1.sg.rel.track (o := .lst vs) hq
    exact ⟨q, W1, S1, .own ds, rfl, f1.step e2 r2, h1, ⟨q, vs, rfl, upd_same, rv, fF, fm⟩, h2, p1⟩
  · exact p1.elim
theorem sfr_dic {ks : List (Option Expr)} {vs : List Expr} {qs : List Key} {xs : Es} (hk : mapO keyOfE ks = some qs) (hl : ks.length = vs.length) (h15 : ks.length ≤ 15) (hs : SEs X G false vs xs) :
    SFr X (.Dict ks vs pos) (fun τ => bnd (evEs G τ xs) fun ds => if qs.length = ds.length ∧ ds.length ≤ 15 then ret (.ownd (kMerge [] (qs.zip ds))) else bad) := by
  intro W0 H0 Wb W τ S σ H D k f hp
  have hp2 := hp.lift f
  dsimp only at hp2
  refine (disp_core hk hl h15 hs f.sg hp2).mono fun v H1 ⟨q, H2, W2, S2, ds, ws, e1, hpn, e2, eE, r2, fF, fm, rl, hp3⟩ => ?_
  split at hp3
  · subst e1 e2
    obtain ⟨h1, h2⟩ := f.fresh hpn
    have rk : RepK X.K W2 (kMerge [] (qs.zip ds)) (mergeK [] (qs.zip ws)) := RepK.merge (zip_repK rl) .nil
    obtain ⟨f3, p3⟩ := hp3 W2 _ (eE.upd (o := .dK (mergeK [] (qs.zip ws))) hpn) (r2.retrack fF fm)
    exact ⟨q, W2, S2, .ownd (kMerge [] (qs.zip ds)), rfl, f3, h1, ⟨q, _, rfl, upd_same, rk, fF, fm⟩, h2, p3⟩
  · exact hp3.elim
/-- a new list at q -/
theorem sfr_new {W0 : Wd} {H0 : Hp} {Wb W : Wd} {τ : Sl} {S : List Ob} {σ : L2.St} {H : Hp} {D : Ends} {k : Slot → List Ob → RS} {ds : List Ev.D} {vs : List V} {q : Addr} (f1 : Fs X.K W0 H0 Wb W τ S σ H) (rv : RepL X.K W ds vs) (hq : H q = none) (p1 : PoS X W0 H0 Wb D (k (.own ds) S)) :
    ∃ a W1 S1 sl, V.ref q = .ref a ∧ Fs X.K W0 H0 Wb W1 τ S1 σ (upd H q (.lst vs)) ∧ H0 a = none ∧ SlR X.K W1 (upd H q (.lst vs)) sl (some (some (.ref a))) ∧ (∀ (j : Nat) (s : Slot), τ[j]? = some s → isOwn s = true → σ[j]? ≠ some (some (.ref a))) ∧ PoS X W0 H0 Wb D (k sl S1) := by
  obtain ⟨h1, h2⟩ := f1.fresh hq
  obtain ⟨fF, fm⟩ := f1.sg.rel.fresh hq
  obtain ⟨e2, r2⟩ := f1.sg.rel.track (o := .lst vs) hq
  exact ⟨q, W, S, .own ds, rfl, f1.step e2 r2, h1, ⟨q, vs, rfl, upd_same, rv, fF, fm⟩, h2, p1⟩
theorem sfr_list {y : Str} (go : GOk X c G) (hg : Gl X "list") (hcm : X.calm = true) (h1 : isStar a = false) (ha : SE X a ma true) : SFr X (.Call (.Name "list" p) [a] [] pos) (fun τ => bnd (ma τ) fun x => Ev.ask fun S => match bfS S .list [x] with
    | some (.lst xs) => some (.own xs)
    | _ => none) := by
  intro W0 H0 Wb W τ S σ H D k f hp
  dsimp only at hp
  rw [bnd_lift] at hp
  refine WE.of (pe_callTy (T := "list") callR_CG hg (go.free _ (by simp [bltNames])) (by decide +kernel) (pa_cons pe_we pa_nil (star_cons h1)) (he := star_cons h1) (hpl := by rfl)) ((ha.stm f hp).mono fun v H1 ⟨d, W1, S1, f1, rv, e1, p1⟩ => ?_)
  unfold Ev.ask at p1
  dsimp only at p1
  show CG X _ [v] H1 _
  cases z : Ev.dctOf S1 d with
  | some kvs =>
    have zb : bfS S1 .list [d] = some (.lst (keysD kvs)) := by
      show (match Ev.dctOf S1 d with
        | some kvs => some (Ev.D.lst (keysD kvs))
        | none => _) = _
      rw [z]
    rw [zb] at p1
    obtain ⟨q, ws, rfl, hq, g⟩ := rv.a.dctOf f1.sg.rel z
    exact ⟨_, call_listD hcm, q, ws, rfl, hq, fun q hq => sfr_new f1 g.keys hq p1⟩
  | none =>
    cases z2 : Ev.seqOf S1 d with
    | some xs =>
      have zb : bfS S1 .list [d] = some (.lst xs) := by
        show (match Ev.dctOf S1 d with
          | some kvs => some (Ev.D.lst (keysD kvs))
          | none => match Ev.seqOf S1 d with
            | some xs => some (Ev.D.lst xs)
            | none => none) = _
        rw [z, z2]
      rw [zb] at p1
      obtain ⟨q, ws, rfl, hq, g⟩ := rv.a.seqOf f1.sg.rel z2
      exact ⟨_, call_list_of, q, ws, rfl, hq, fun q hq => sfr_new f1 g hq p1⟩
    | none =>
      have zb : bfS S1 .list [d] = none := by
        show (match Ev.dctOf S1 d with
          | some kvs => some (Ev.D.lst (keysD kvs))
          | none => match Ev.seqOf S1 d with
            | some xs => some (Ev.D.lst xs)
            | none => none) = _
        rw [z, z2]
      rw [zb] at p1
      exact p1.elim
theorem sfr_dict (go : GOk X c G) (hg : Gl X "dict") (hcm : X.calm = true) (h1 : isStar a = false) (ha : SE X a ma true) : SFr X (.Call (.Name "dict" p) [a] [] pos) (fun τ => bnd (ma τ) fun x => Ev.ask fun S => match bfS S .dict [x] with
    | some (.dct kvs) => some (.ownd kvs)
    | _ => none) := by
  intro W0 H0 Wb W τ S σ H D k f hp
  dsimp only at hp
  rw [bnd_lift] at hp
  refine WE.of (pe_callTy (T := "dict") callR_CG hg (go.free _ (by simp [bltNames])) (by decide +kernel) (pa_cons pe_we pa_nil (star_cons h1)) (he := star_cons h1) (hpl := by rfl)) ((ha.stm f hp).mono fun v H1 ⟨d, W1, S1, f1, rv, e1, p1⟩ => ?_)
  unfold Ev.ask at p1
  dsimp only at p1
  show CG X _ [v] H1 _
  have eb : bfS S1 .dict [d] = (match Ev.dctOf S1 d with
    | some kvs => some (.dct kvs)
    | none => match Ev.lstOf S1 d with
      | some xs => (prsOf xs).map fun ps => .dct (kMerge [] ps)
      | none => none) := rfl
  rw [eb] at p1
  cases z : Ev.dctOf S1 d with
  | some kvs =>
    rw [z] at p1
    obtain ⟨q, ws, rfl, hq, g⟩ := rv.a.dctOf f1.sg.rel z
    refine ⟨_, call_dictD, q, ws, rfl, hq, fun q hq => ?_⟩
    obtain ⟨h1, h2⟩ := f1.fresh hq
    obtain ⟨fF, fm⟩ := f1.sg.rel.fresh hq
    obtain ⟨e2, r2⟩ := f1.sg.rel.track (o := .dK ws) hq
    exact ⟨q, W1, S1, .ownd kvs, rfl, f1.step e2 r2, h1, ⟨q, ws, rfl, upd_same, g, fF, fm⟩, h2, p1⟩
  | none =>
    rw [z] at p1
    cases z1 : Ev.lstOf S1 d with
    | none => rw [z1] at p1; exact p1.elim
    | some xs =>
      rw [z1] at p1
      dsimp only at p1
      cases z2 : prsOf xs with
      | none => rw [z2] at p1; exact p1.elim
      | some ps =>
        rw [z2] at p1
        obtain ⟨q, ws, rfl, hq, g⟩ := rv.a.lstOf f1.sg.rel z1
        obtain ⟨as, kvs, rfl, hpp, hr⟩ := prs_rep f1.sg.rel.fz g z2
        have hr := RepK.merge hr (K := X.K) (W := W1) (xs := []) (vs := []) .nil
        refine ⟨_, call_dictP hcm, q, as, kvs, rfl, .inl (.inl hq), hpp, fun q hq => ?_⟩
        obtain ⟨h1, h2⟩ := f1.fresh hq
        obtain ⟨fF, fm⟩ := f1.sg.rel.fresh hq
        obtain ⟨e2, r2⟩ := f1.sg.rel.track (o := .dK (mergeK [] kvs)) hq
        exact ⟨q, W1, S1, .ownd (kMerge [] ps), rfl, f1.step e2 r2, h1, ⟨q, _, rfl, upd_same, hr, fF, fm⟩, h2, p1⟩
theorem sfr_cat (ha : SE X a ma true) (hb : SE X b mb true) : SFr X (.BinOp a .Add b pos) (fun τ => bnd (ma τ) fun x => bnd (mb τ) fun y => Ev.ask fun S => catS S x y) := by
  intro W0 H0 Wb W τ S σ H D k f hp
  dsimp only at hp
  rw [bnd_lift] at hp
  refine WE.of (pe_op opR_RG pe_we pe_we) ((ha.stm f hp).mono fun x H1 ⟨d1, W1, S1, f1, r1, e1, p1⟩ => ?_)
  rw [bnd_lift] at p1
  refine (hb.stm f1 p1).mono fun y H2 ⟨d2, W2, S2, f2, r2, e2, p2⟩ => ?_
  unfold Ev.ask catS at p2
  dsimp only at p2
  cases z1 : Ev.lstOf S2 d1 with
  | none => rw [z1] at p2; exact p2.elim
  | some xs =>
    rw [z1] at p2
    cases z2 : Ev.lstOf S2 d2 with
    | none => rw [z2] at p2; exact p2.elim
    | some ys =>
      rw [z2] at p2
      dsimp only at p2
      by_cases hz : xs.length + ys.length ≤ sizeLine
      · rw [if_pos hz] at p2
        obtain ⟨a1, vs, rfl, k1, g1⟩ := (r1.a.ext e2).lstOf f2.sg.rel z1
        obtain ⟨a2, ws, rfl, k2, g2⟩ := r2.a.lstOf f2.sg.rel z2
        have l1 := g1.length
        have l2 := g2.length
        exact ⟨_, op_cat, a1, a2, vs, ws, rfl, rfl, k1, k2, by omega, fun q hq => sfr_new f2 (g1.append g2) hq p2⟩
      · rw [if_neg hz] at p2; exact p2.elim
theorem ss_own {m : Sl → M Slot} (xo : XOk X c) (hs : c.slot x = some i) (hc : c.canSet x = true) (hn : isComp e = false) (he : SFr X e m) :
    SS X (.Assign [.Name x p] e pos) (fun τ S => lift τ (m τ S) fun sl S1 => .next (τ.set i sl) S1) := fun W0 H0 Wb W τ S σ H D f hp => by
  obtain ⟨hN, _⟩ := slot_ok xo hs
  obtain ⟨h1, h2⟩ := set_loc xo hc
  refine WS.of (ps_set (by rw [xo.N]; exact xo.nd) hN h1 pe_we (noComp hn) h2) ((he W0 H0 Wb W τ S σ H D _ f hp).mono fun v H1 ⟨a, W1, S1, sl, ev, f1, h0, hsl, hne, p1⟩ => ?_)
  subst ev
  exact p1 W1 _ H1 (f1.newOwn h0 hsl hne)
theorem own_at {W0 : Wd} {H0 : Hp} {Wb W : Wd} {τ : Sl} {S : List Ob} {σ : L2.St} {H : Hp} {xs : List Ev.D} (f : Fs X.K W0 H0 Wb W τ S σ H) (z : τ[i]? = some (.own xs)) :
    ∃ l vs, σ[i]? = some (some (.ref l)) ∧ H l = some (.lst vs) ∧ RepL X.K W xs vs ∧ H0 l = none ∧ ∀ (ys : List Ev.D) (ws : List V), RepL X.K W ys ws → Fs X.K W0 H0 Wb W (τ.set i (.own ys)) S σ (upd H l (.lst ws)) := by
  obtain ⟨l, vs, hl, hH, rl, fF, fm⟩ := f.sg.sl i _ z
  have h0 := f.own i _ l z rfl hl
  exact ⟨l, vs, hl, hH, rl, h0, fun ys ws rr => f.chg z rfl hl h0 fF fm rfl ⟨l, ws, rfl, upd_same, rr, fF, fm⟩⟩
theorem ss_app (xo : XOk X c) (hs : c.slot x = some i) (h1 : isStar e = false) (hl : (apos.endLine == cpos.line) = true) (he : SE X e m false) :
    SS X (.Expr (.Call (.Attribute (.Name x p) "append" apos) [e] [] cpos) pos) (fun τ S => match τ[i]? with
      | some (.own xs) => lift τ (m τ S) fun d S1 => if xs.length < sizeLine then .next (τ.set i (.own (xs ++ [d]))) S1 else .bad
      | _ => .bad) := fun W0 H0 Wb W τ S σ H D f hp => by
  obtain ⟨hN, hv, hd, hcd⟩ := slot_ok xo hs
  dsimp only at hp
  split at hp
  · rename_i xs z
    have hall : [e].all (fun e => !isStar e) = true := by
      rw [List.all_cons, h1]
      rfl
    refine WS.of (ps_expr (pe_bm (T := "list") PySem.F.plainAttrs_list PySem.F.slot_list_append PySem.F.type_list_append mtR_MG (pe_var hN hv hd hcd) (pa_cons pe_we pa_nil (star_cons h1)) (attrBase rfl) (few_ok hall (by show 1 < 30; decide)) hl (star_cons h1) rfl) (noComp rfl)) ?_
    obtain ⟨l, vs, hσ, hH, rl, h0, _⟩ := own_at f z
    refine ⟨.ref l, hσ, .inl ⟨rfl, vs, .inl (.inl hH)⟩, (he.stm f hp).mono fun w H1 ⟨d, W1, S1, f1, rv, e1, p1⟩ => ?_⟩
    split at p1
    · rename_i hz
      obtain ⟨l', vs', hσ', hH', rl', h0', mk⟩ := own_at f1 z
      rw [hσ] at hσ'
      cases hσ'
      exact ⟨_, mt_append, l, vs', w, rfl, rfl, hH', by rw [← rl'.length]; exact hz, p1 W1 _ _ (mk _ _ (rl'.append (RepL.one rv)))⟩
    · exact p1.elim
  · exact hp.elim
theorem ss_ext (xo : XOk X c) (hs : c.slot x = some i) (h1 : isStar e = false) (hl : (apos.endLine == cpos.line) = true) (he : SE X e m true) :
    SS X (.Expr (.Call (.Attribute (.Name x p) "extend" apos) [e] [] cpos) pos) (fun τ S => match τ[i]? with
      | some (.own xs) => lift τ (m τ S) fun d S1 => match Ev.lstOf S1 d with
        | some ys => if xs.length + ys.length ≤ sizeLine then .next (τ.set i (.own (xs ++ ys))) S1 else .bad
        | none => .bad
      | _ => .bad) := fun W0 H0 Wb W τ S σ H D f hp => by
  obtain ⟨hN, hv, hd, hcd⟩ := slot_ok xo hs
  dsimp only at hp
  split at hp
  · rename_i xs z
    have hall : [e].all (fun e => !isStar e) = true := by
      rw [List.all_cons, h1]
      rfl
    refine WS.of (ps_expr (pe_bm (T := "list") PySem.F.plainAttrs_list PySem.F.slot_list_extend PySem.F.type_list_extend mtR_MG (pe_var hN hv hd hcd) (pa_cons pe_we pa_nil (star_cons h1)) (attrBase rfl) (few_ok hall (by show 1 < 30; decide)) hl (star_cons h1) rfl) (noComp rfl)) ?_
    obtain ⟨l, vs, hσ, hH, rl, h0, _⟩ := own_at f z
    refine ⟨.ref l, hσ, .inl ⟨rfl, vs, .inl (.inl hH)⟩, (he.stm f hp).mono fun w H1 ⟨d, W1, S1, f1, rv, e1, p1⟩ => ?_⟩
    split at p1
    · rename_i ys hy
      split at p1
      · rename_i hz
        obtain ⟨l', vs', hσ', hH', rl', h0', mk⟩ := own_at f1 z
        rw [hσ] at hσ'
        cases hσ'
        obtain ⟨b, zs, rfl, hB, rz⟩ := rv.a.lstOf f1.sg.rel hy
        exact ⟨_, mt_extend, l, b, vs', zs, rfl, rfl, hH', hB, by rw [← rl'.length, ← rz.length]; exact hz, p1 W1 _ _ (mk _ _ (rl'.append rz))⟩
      · exact p1.elim
    · exact p1.elim
  · exact hp.elim
theorem ss_pop (xo : XOk X c) (hs : c.slot x = some i) (hy : c.slot y = some j) (hc : c.canSet y = true) (hl : (apos.endLine == cpos.line) = true) :
    SS X (.Assign [.Name y spos] (.Call (.Attribute (.Name x p) "pop" apos) [] [] cpos) pos) (fun τ S => match τ[i]? with
      | some (.own xs) => match xs[xs.length - 1]? with
        | some x => if j ≠ i then .next ((τ.set i (.own xs.dropLast)).set j (.val x)) S else .bad
        | none => .bad
      | _ => .bad) := fun W0 H0 Wb W τ S σ H D f hp => by
  obtain ⟨hN, hv, hd, hcd⟩ := slot_ok xo hs
  obtain ⟨hN2, _⟩ := slot_ok xo hy
  obtain ⟨k1, k2⟩ := set_loc xo hc
  dsimp only at hp
  split at hp
  · rename_i xs z
    split at hp
    · rename_i w hw
      split at hp
      · refine WS.of (ps_set (by rw [xo.N]; exact xo.nd) hN2 k1 (pe_bm0 (T := "list") PySem.F.plainAttrs_list PySem.F.slot_list_pop PySem.F.type_list_pop mtR_MG (pe_var hN hv hd hcd) (attrBase rfl) hl) (noComp rfl) k2) ?_
        obtain ⟨l, vs, hσ, hH, rl, h0, mk⟩ := own_at f z
        obtain ⟨u, hu, ru⟩ := rl.get hw
        exact ⟨.ref l, hσ, .inl ⟨rfl, vs, .inl (.inl hH)⟩, _, mt_pop, l, vs, u, rfl, rfl, hH, by rw [← rl.length]; exact hu, hp W _ _ ((mk _ _ rl.dropLast).setVal ru)⟩
      · exact hp.elim
    · exact hp.elim
  · exact hp.elim
end
end Ev
set_option Elab.async false
set_option linter.all false
set_option maxRecDepth 100000
set_option maxHeartbeats 8000000
namespace Ev
open PySem L2 PyProof.Rows
structure XS (X : Cx) : Prop where
  po : PassesOwn (model X.prog X.w) X.A X.env X.xe
  st : X.stack = X.env :: X.outer
  fr : X.env.frame = some X.env.locals
section
variable {X : Cx} {c : CC} {G : Gs} {e a b o k t : Expr} {m ma mk mo mt : Sl → M D} {ms : Sl → M (List D)} {x y f : Str} {i j : Nat} {p pos apos cpos spos : Pos}
theorem ownd_at {W0 : Wd} {H0 : Hp} {Wb W : Wd} {τ : Sl} {S : List Ob} {σ : L2.St} {H : Hp} {xs : List (Key × D)} (f : Fs X.K W0 H0 Wb W τ S σ H) (z : τ[i]? = some (.ownd xs)) :
    ∃ l vs, σ[i]? = some (some (.ref l)) ∧ H l = some (.dK vs) ∧ RepK X.K W xs vs ∧ H0 l = none ∧ ∀ (ys : List (Key × D)) (ws : List (Key × V)), RepK X.K W ys ws → Fs X.K W0 H0 Wb W (τ.set i (.ownd ys)) S σ (upd H l (.dK ws)) := by
  obtain ⟨l, vs, hl, hH, rl, fF, fm⟩ := f.sg.sl i _ z
  have h0 := f.own i _ l z rfl hl
  exact ⟨l, vs, hl, hH, rl, h0, fun ys ws rr => f.chg z rfl hl h0 fF fm rfl ⟨l, ws, rfl, upd_same, rr, fF, fm⟩⟩
/-- d.update(e), e another dict -/
theorem mt_update : MtR X "dict.update" (fun x xs H Q => ∃ (a b : Addr) (kvs more : List (L2.Key × V)), x = .ref a ∧ xs = [.ref b] ∧ a ≠ b ∧ H a = some (.dK kvs) ∧ H b = some (.dK more) ∧ kvs.length + more.length ≤ sizeLine ∧ Q .non (upd H a (.dK (mergeK kvs more)))) := by
  intro pins s σ H x xs v us Q I rx rs h
  obtain ⟨a, b, kvs, more, rfl, rfl, hab, e1, e2, hz, q⟩ := h
  obtain ⟨u, eu, ru⟩ := vals1 rs
  subst eu
  cases rx
  cases ru
  obtain ⟨z1, lo1, vs1, r1, d1⟩ := dk_of I.hok e1
  obtain ⟨z2, lo2, vs2, r2, d2⟩ := dk_of I.hok e2
  have hl := length_mergeK more kvs
  refine PySem.call_meetsIn PySem.F.slot_dict_update d1.typeIs PySem.F.entry_dict_update (PySem.F.args_dict_update_1 _) (PySem.meets_dict_update (mixKind X.prog X.w) a b hab lo2) ⟨vs1, vs2, d1, d2, by rw [← r1.length, ← r2.length]; exact hz, fun h' d' _ hs => ?_⟩
  have he : ∃ q, h'.get? a = some q := let ⟨q, _, _, hq, _⟩ := d'; ⟨q, hq⟩
  exact ⟨.non, _, d_write (t' := s.toks) I (by rw [e1]; exact True.intro) hs he (dk_new (by omega) lo1 (r2.merge r1) d'), rfl, q⟩
theorem units1 (go : GOk X c G) : X.A.units + 1 < cLine := Nat.lt_of_le_of_lt (Nat.add_le_add_left (by decide) _) go.room
theorem ss_upd {ks : List (Option Expr)} {vs es : List Expr} {xs : Es} {pd : Pos} (xo : XOk X c) (hs : c.slot x = some i) (hl : (apos.endLine == cpos.line) = true) (ha : altE ks vs = some es) (h15 : ks.length ≤ 15) (hne : ks ≠ []) (hS : SEs X G false es xs) :
    SS X (.Expr (.Call (.Attribute (.Name x p) "update" apos) [.Dict ks vs pd] [] cpos) pos) (fun τ S => match τ[i]? with
      | some (.ownd kvs) => lift τ (evEs G τ xs S) fun ds S1 => match altOf ds with
        | some ps => if kvs.length + ps.length ≤ sizeLine ∧ ps.length ≤ 15 then .next (τ.set i (.ownd (kMerge kvs (kMerge [] ps)))) S1 else .bad
        | none => .bad
      | _ => .bad) := fun W0 H0 Wb W τ S σ H D f hp => by
  obtain ⟨hN, hv, hd, hcd⟩ := slot_ok xo hs
  dsimp only at hp
  split at hp
  · rename_i kvs z
    obtain ⟨q1, q2, q4, q3⟩ := alt_ok (X := X) (pos := pd) ha hS
    have hall : [Expr.Dict ks vs pd].all (fun e => !isStar e) = true := rfl
    refine WS.of (ps_expr (pe_bm (T := "dict") PySem.F.plainAttrs_dict PySem.F.slot_dict_update PySem.F.type_dict_update mt_update (pe_var hN hv hd hcd) (pa_cons (pe_disp q1 q2 q4 hne h15) pa_nil (star_cons rfl)) (attrBase rfl) (few_ok hall (by show 1 < 30; decide)) hl (star_cons rfl) rfl) (noComp rfl)) ?_
    obtain ⟨l, ws, hσ, hH, rl, h0, _⟩ := ownd_at f z
    have hpl := hp.lift f
    refine ⟨.ref l, hσ, ?_, fun p hpn => ?_⟩
    · exact .inr (.inr (.inl ⟨rfl, .inl ⟨ws, hH⟩⟩))
    · have hlp : l ≠ p := fun e => by rw [e, hpn] at hH; cases hH
      obtain ⟨f1, f2⟩ := f.sg.rel.fresh hpn
      obtain ⟨e1, r1⟩ := f.sg.rel.track (o := .dK []) hpn
      refine q3 τ S W σ _ _ (f.sg.ext e1 r1) ?_
      have hp' := Po.mono e1 r1 hpl
      cases z2 : evEs G τ xs S with
      | bad => rw [z2] at hp'; exact hp'
      | exc _ _ => rw [z2] at hp'; exact hp'
      | ok ds S2 =>
        rw [z2] at hpl
        intro W2 H2 e2 r2 us rw'
        obtain ⟨h1, h2, h3⟩ := e2.free upd_same f1 f2
        cases z3 : altOf ds with
        | none =>
          have := (hpl W2 H2 (e1.trans r1 e2) r2).2
          rw [z3] at this
          exact this.elim
        | some ps =>
          obtain ⟨kvs', ek, rk⟩ := alt_rep rw' z3
          have hkl := rk.length
          have rk2 := RepK.merge rk (K := X.K) (W := W2) (xs := []) (vs := []) .nil
          obtain ⟨f3, p3⟩ := hpl W2 _ ((e1.trans r1 e2).upd (o := .dK (mergeK [] kvs')) hpn) (r2.retrack h2 h3)
          rw [z3] at p3
          dsimp only at p3
          split at p3
          · rename_i hz
            obtain ⟨l', vs', hσ', hH', rl', h0', mk'⟩ := ownd_at f3 z
            rw [hσ] at hσ'
            cases hσ'
            refine ⟨h1, kvs', ek, by omega, ?_⟩
            have hml := length_mergeK kvs' []
            have hml2 : (mergeK [] kvs').length ≤ kvs'.length := by rw [List.length_nil] at hml; omega
            refine ⟨l, p, vs', mergeK [] kvs', rfl, rfl, hlp, hH', upd_same, by have := rl'.length; omega, p3 W2 _ _ (mk' _ _ (RepK.merge rk2 rl'))⟩
          · exact p3.elim
  · exact hp.elim
theorem put_len {kvs : List (Key × D)} {k : Key} {d : D} : True := trivial
theorem ss_ownIx (xo : XOk X c) (go : GOk X c G) (hs : c.slot x = some i) (hn : isComp e = false) (hsl : isSlice k = false) (he : SE X e m false) (hk : SE X k mk true) :
    SS X (.Assign [.Subscript (.Name x p) k spos] e pos) (fun τ S => match τ[i]? with
    | some (.own xs) => lift τ (m τ S) fun d S1 => lift τ (mk τ S1) fun y S2 => match y with
      | .int j => match L2.ixN xs.length j with
        | some p => .next (τ.set i (.own (xs.set p d))) S2
        | none => .bad
      | _ => .bad
    | some (.ownd kvs) => lift τ (m τ S) fun d S1 => lift τ (mk τ S1) fun y S2 => match keyOf y with
      | some q => if kvs.length < sizeLine then .next (τ.set i (.ownd (kPut kvs q d))) S2 else .bad
      | none => .bad
    | _ => .bad) := fun W0 H0 Wb W τ S σ H D f hp => by
  obtain ⟨hN, hv, hd, hcd⟩ := slot_ok xo hs
  refine WS.of (ps_asg pe_we (pg_sub (pe_var hN hv hd hcd) pe_we pset_PSG (by intro v; cases k <;> first | rfl | cases hsl)) (show swapsWith e (some (.Subscript (.Name x p) k spos)) pos.line X.env = pure false from noComp hn) (by cases e <;> rfl) (by rfl)) ?_
  dsimp only at hp
  split at hp
  · rename_i xs z
    refine (he.stm f hp).mono fun w H1 ⟨d, W1, S1, f1, rv, e1, p1⟩ => ?_
    obtain ⟨l, vs, hσ, hH, rl, h0, mk1⟩ := own_at f1 z
    refine ⟨.ref l, hσ, (hk.stm f1 p1).mono fun u H2 ⟨d2, W2, S2, f2, rk, e2, p2⟩ => ?_⟩
    split at p2
    · split at p2
      · rename_i jj _ q hq
        cases rk.a.int
        obtain ⟨l', vs', hσ', hH', rl', h0', mk'⟩ := own_at f2 z
        rw [hσ] at hσ'
        cases hσ'
        exact ⟨_, set_list, l, vs', jj, q, rfl, rfl, hH', by rw [← rl'.length]; exact hq, p2 W2 _ _ (mk' _ _ (rl'.set q (Rep.mono e2.le rv)))⟩
      · exact p2.elim
    · exact p2.elim
  · rename_i xs z
    refine (he.stm f hp).mono fun w H1 ⟨d, W1, S1, f1, rv, e1, p1⟩ => ?_
    obtain ⟨l, vs, hσ, hH, rl, h0, mk1⟩ := ownd_at f1 z
    refine ⟨.ref l, hσ, (hk.stm f1 p1).mono fun u H2 ⟨d2, W2, S2, f2, rk, e2, p2⟩ => ?_⟩
    split at p2
    · rename_i q hq
      split at p2
      · rename_i hz
        have hu := key_of rk.a hq
        subst hu
        obtain ⟨l', vs', hσ', hH', rl', h0', mk'⟩ := ownd_at f2 z
        rw [hσ] at hσ'
        cases hσ'
        exact ⟨_, set_dict (units1 go), l, _, rfl, DPut.k hH' (by rw [← rl'.length]; exact hz), p2 W2 _ _ (mk' _ _ (rl'.put q (Rep.mono e2.le rv)))⟩
      · exact p2.elim
    · exact p2.elim
  · exact hp.elim
theorem ss_setIx (xo : XOk X c) (go : GOk X c G) (hn : isComp e = false) (hsl : isSlice k = false) (he : SE X e m false) (ho : SE X o mo false) (hk : SE X k mk true) :
    SS X (.Assign [.Subscript o k spos] e pos) (fun τ S => lift τ (m τ S) fun d S1 => lift τ (mo τ S1) fun x S2 => lift τ (mk τ S2) fun y S3 => match x with
    | .obj i => match S3[i]? with
      | some (.lst xs) => match y with
        | .int j => match L2.ixN xs.length j with
          | some p => .next τ (S3.set i (.lst (xs.set p d)))
          | none => .bad
        | _ => .bad
      | some (.dct kvs) => match keyOf y with
        | some q => if kvs.length < sizeLine then .next τ (S3.set i (.dct (kPut kvs q d))) else .bad
        | none => .bad
      | _ => .bad
    | _ => .bad) := fun W0 H0 Wb W τ S σ H D f hp => by
  refine WS.of (ps_asg pe_we (pg_sub pe_we pe_we pset_PSG (by intro v; cases k <;> first | rfl | cases hsl)) (show swapsWith e (some (.Subscript o k spos)) pos.line X.env = pure false from noComp hn) (by cases e <;> rfl) (by rfl)) ?_
  refine (he.stm f hp).mono fun w H1 ⟨d, W1, S1, f1, rv, e1, p1⟩ => ?_
  refine (ho.stm f1 p1).mono fun v H2 ⟨x, W2, S2, f2, rx, e2, p2⟩ => ?_
  refine (hk.stm f2 p2).mono fun u H3 ⟨y, W3, S3, f3, rk, e3, p3⟩ => ?_
  cases x with
  | obj i =>
    have rx3 : Rep X.K W3 (.obj i) v := Rep.mono e3.le rx
    have rd3 : Rep X.K W3 d w := Rep.mono (e2.le.trans e3.le) rv
    cases rx3 with
    | obj hi =>
      dsimp only at p3
      split at p3
      · rename_i xs hS
        split at p3
        · rename_i jj
          split at p3
          · rename_i q hq
            cases rk.a.int
            obtain ⟨vs, hH, rl⟩ := f3.sg.rel.ob i _ hS
            obtain ⟨e4, r4⟩ := f3.sg.rel.setOb (b := .lst (xs.set q d)) (u := .lst (vs.set q w)) hS ⟨_, upd_same, rl.set q rd3⟩
            exact ⟨_, set_list, _, vs, jj, q, rfl, rfl, hH, by rw [← rl.length]; exact hq, p3 W3 _ _ (f3.step e4 r4)⟩
          · exact p3.elim
        · exact p3.elim
      · rename_i kvs hS
        split at p3
        · rename_i q hq
          split at p3
          · rename_i hz
            have hu := key_of rk.a hq
            subst hu
            obtain ⟨vs, hH, rl⟩ := f3.sg.rel.ob i _ hS
            obtain ⟨e4, r4⟩ := f3.sg.rel.setOb (b := .dct (kPut kvs q d)) (u := .dK (putK vs q w)) hS ⟨_, upd_same, rl.put q rd3⟩
            exact ⟨_, set_dict (units1 go), _, _, rfl, DPut.k hH (by rw [← rl.length]; exact hz), p3 W3 _ _ (f3.step e4 r4)⟩
          · exact p3.elim
        · exact p3.elim
      · exact p3.elim
  | _ => exact p3.elim
theorem ss_setF (xo : XOk X c) (go : GOk X c G) (hn : isComp e = false) (he : SE X e m false) (ho : SE X o mo false) :
    SS X (.Assign [.Attribute o f spos] e pos) (fun τ S => lift τ (m τ S) fun d S1 => lift τ (mo τ S1) fun x S2 => match x with
    | .obj i => match S2[i]? with
      | some (.ins c fs) => if fs.length < 1000 ∧ G.hasF c f = true then .next τ (S2.set i (.ins c (fPut f d fs))) else .bad
      | _ => .bad
    | _ => .bad) := fun W0 H0 Wb W τ S σ H D fr hp => by
  refine WS.of (ps_fld pe_we pe_we (noComp hn)) ?_
  refine (he.stm fr hp).mono fun w H1 ⟨d, W1, S1, f1, rv, e1, p1⟩ => ?_
  refine (ho.stm f1 p1).mono fun v H2 ⟨x, W2, S2, f2, rx, e2, p2⟩ => ?_
  cases x with
  | obj i =>
    have rx2 : Rep X.K W2 (.obj i) v := rx
    have rd2 : Rep X.K W2 d w := Rep.mono e2.le rv
    cases rx2 with
    | obj hi =>
      dsimp only at p2
      split at p2
      · rename_i cc fs hS
        split at p2
        · rename_i hz
          obtain ⟨dx, vs, hH, rf⟩ := f2.sg.rel.ob i _ hS
          obtain ⟨C, n⟩ := go.fld cc f hz.2
          obtain ⟨e4, r4⟩ := f2.sg.rel.setOb (b := .ins cc (fPut f d fs)) (u := .ins (He.ga X.K cc) dx (putF f w vs)) hS ⟨dx, _, upd_same, rf.put f rd2⟩
          exact ⟨_, _, dx, vs, rfl, hH, C, n, by rw [← rf.length]; exact hz.1, p2 W2 _ _ (f2.step e4 r4)⟩
        · exact p2.elim
      · exact p2.elim
  | _ => exact p2.elim
theorem ss_ret (he : SE X e m false) : SS X (.Return (some e) pos) (fun τ S => lift τ (m τ S) fun d S1 => .ret d S1) := fun W0 H0 Wb W τ S σ H D f hp =>
  WS.of (ps_ret pe_we) ((he.stm f hp).mono fun v H1 ⟨d, W1, S1, f1, rv, e1, p1⟩ => p1 W1 H1 v f1.ext f1.sg.rel rv)
theorem ss_retN : SS X (.Return none pos) (fun τ S => .ret .non S) := fun W0 H0 Wb W τ S σ H D f hp => WS.of ps_retN (hp W H .non f.ext f.sg.rel .non)
theorem ss_fz {st : Stmt} {ms : Sl → List Ob → RS} {is : List Nat} (h : SS X st ms) : SS X st (fun τ S => ms (freeze τ is) S) := fun W0 H0 Wb W τ S σ H D f hp =>
  ws_freeze f fun W' H' f' => h W0 H0 Wb W' _ S σ H' D f' hp
/-- what nothing tells of becomes a thing of the store -/
theorem adopt {K : PySem.W.Frag} {W0 : Wd} {H0 : Hp} {W : Wd} {S : List Ob} {H : Hp} {a : Addr} {b : Ob} (e : Ext W0 H0 W H) (r : Rel K W S H) (h0 : H0 a = none) (fF : W.F a = none) (fm : ∀ j, j < W.n → W.m j ≠ a) (hb : ∀ W', Le W W' → ObR K W' H b a) :
    ∃ W', Ext W0 H0 W' H ∧ Rel K W' (S ++ [b]) H ∧ W'.n = S.length + 1 ∧ W'.m S.length = a ∧ Le W W' ∧ W'.F = W.F := by
  have nn : W.n = S.length := r.n
  have hm : ∀ i, i < W.n → (if i = S.length then a else W.m i) = W.m i := fun i hi => if_neg (by omega)
  have hmn : (if S.length = S.length then a else W.m S.length) = a := if_pos rfl
  have le : Le W ⟨W.F, fun i => if i = S.length then a else W.m i, S.length + 1⟩ := ⟨fun _ _ h => h, by show W.n ≤ S.length + 1; omega, hm⟩
  refine ⟨⟨W.F, fun i => if i = S.length then a else W.m i, S.length + 1⟩, ⟨e.le.trans le, e.Fn, fun i h1 h2 => ?_, e.keep⟩, ⟨by simp, r.fz, fun i o h => ?_, fun i hi => ?_, fun i j hi hj e => ?_⟩, rfl, hmn, le, rfl⟩
  · have h2 : i < S.length + 1 := h2
    show H0 (if i = S.length then a else W.m i) = none
    by_cases z : i = S.length
    · rw [if_pos z]; exact h0
    · rw [if_neg z]; exact e.mn i h1 (by omega)
  · by_cases hi : i < S.length
    · rw [List.getElem?_append_left hi] at h
      have q := r.ob i o h
      show ObR K _ _ o (if i = S.length then a else W.m i)
      rw [hm i (by omega)]
      cases o with
      | lst xs =>
        obtain ⟨vs, e, g⟩ := q
        exact ⟨vs, e, g.mono le⟩
      | dct xs =>
        obtain ⟨vs, e, g⟩ := q
        exact ⟨vs, e, g.mono le⟩
      | ins c fs =>
        obtain ⟨dx, vs, e, g⟩ := q
        exact ⟨dx, vs, e, g.mono le⟩
    · rw [List.getElem?_append_right (by omega)] at h
      have ei : i = S.length := by
        by_cases z : i - S.length = 0
        · omega
        · rw [List.getElem?_eq_none (by simp; omega)] at h; cases h
      subst ei
      rw [Nat.sub_self] at h
      cases h
      show ObR K _ _ b (if S.length = S.length then a else W.m S.length)
      rw [hmn]
      exact hb _ le
  · have hi : i < S.length + 1 := hi
    show W.F (if i = S.length then a else W.m i) = none
    by_cases z : i = S.length
    · rw [if_pos z]; exact fF
    · rw [if_neg z]; exact r.nf i (by omega)
  · have hi : i < S.length + 1 := hi
    have hj : j < S.length + 1 := hj
    have e : (if i = S.length then a else W.m i) = (if j = S.length then a else W.m j) := e
    by_cases zi : i = S.length
    · by_cases zj : j = S.length
      · omega
      · rw [if_pos zi, if_neg zj] at e
        exact absurd e.symm (fm j (by omega))
    · by_cases zj : j = S.length
      · rw [if_neg zi, if_pos zj] at e
        exact absurd e (fm i (by omega))
      · rw [if_neg zi, if_neg zj] at e
        exact r.inj i j (by omega) (by omega) e
/-- what a slot owns becomes a thing of the store, where it stands -/
theorem Fs.given {K : PySem.W.Frag} {W0 Wb W : Wd} {H0 H : Hp} {τ : Sl} {S : List Ob} {σ : L2.St} (f : Fs K W0 H0 Wb W τ S σ H) {i : Nat} {a : Addr} {s : Slot} {b : Ob} (hs : τ[i]? = some s) (os : isOwn s = true) (ha : σ[i]? = some (some (.ref a))) (fF : W.F a = none) (fm : ∀ j, j < W.n → W.m j ≠ a)
    (hb : ∀ W', Le W W' → ObR K W' H b a) : ∃ W', Fs K W0 H0 Wb W' (τ.set i (.val (.obj S.length))) (S ++ [b]) σ H ∧ Le W W' ∧ W'.F = W.F ∧ W'.n = S.length + 1 ∧ W'.m S.length = a := by
  have h0 := f.own i s a hs os ha
  obtain ⟨W', e2, r2, n2, m2, le, eF⟩ := adopt f.ext f.sg.rel h0 fF fm hb
  have nn : W.n = S.length := f.sg.rel.n
  have away : ∀ (b : Addr), (∀ j, j < W.n → W.m j ≠ b) → a ≠ b → ∀ j, j < W'.n → W'.m j ≠ b := fun b m hab j hj => by
    by_cases z : j < W.n
    · rw [le.m j z]; exact m j z
    · have : j = S.length := by omega
      rw [this, m2]; exact hab
  refine ⟨W', ⟨e2, ⟨r2, by rw [List.length_set]; exact f.sg.len, fun j t h => ?_, fun j k t u b hjk ht hu ot ou h1 h2 => ?_⟩, fun j t b ht ot h => ?_, f.le.trans le⟩, le, eF, n2, m2⟩
  · rcases set_eq h with ⟨rfl, _, rfl⟩ | ⟨hij, h⟩
    · refine ⟨_, ha, ?_⟩
      rw [← m2]
      exact .obj (by omega)
    · have q := f.sg.sl j t h
      have hn : isOwn t = true → ∀ b, σ[j]? = some (some (.ref b)) → a ≠ b := fun ot b e z => f.sg.dis i j s t a hij hs h os ot ha (by rw [e, z])
      cases t with
      | un => exact True.intro
      | val d =>
        obtain ⟨v, e, r⟩ := q
        exact ⟨v, e, r.mono le⟩
      | own xs =>
        obtain ⟨b, vs, e, q, r, g, m⟩ := q
        exact ⟨b, vs, e, q, r.mono le, by rw [eF]; exact g, away b m (hn rfl b e)⟩
      | ownd xs =>
        obtain ⟨b, vs, e, q, r, g, m⟩ := q
        exact ⟨b, vs, e, q, r.mono le, by rw [eF]; exact g, away b m (hn rfl b e)⟩
      | exn x =>
        obtain ⟨b, dd, vs, e, q, r⟩ := q
        exact ⟨b, dd, vs, e, le.F _ _ q, r.mono le⟩
  · rcases set_eq ht with ⟨rfl, _, rfl⟩ | ⟨hij, ht⟩
    · cases ot
    · rcases set_eq hu with ⟨rfl, _, rfl⟩ | ⟨_, hu⟩
      · cases ou
      · exact f.sg.dis j k t u b hjk ht hu ot ou h1 h2
  · rcases set_eq ht with ⟨rfl, _, rfl⟩ | ⟨_, ht⟩
    · cases ot
    · exact f.own j t b ht ot h
mutual
theorem Rep.flat {K : PySem.W.Frag} {W W' : Wd} (hF : ∀ b o, W.F b = some o → W'.F b = some o) : ∀ {d : Ev.D} {v : V}, Rep K W d v → noD d = true → Rep K W' d v
  | _, _, .non, _ => .non
  | _, _, .bl b, _ => .bl b
  | _, _, .int i, _ => .int i
  | _, _, .str s, _ => .str s
  | _, _, .tup h r, n => .tup (SqT.sub hF h) (RepL.flat hF r (noD_tup.symm.trans n))
  | _, _, .lst h r, n => .lst (hF _ _ h) (RepL.flat hF r (noD_lst.symm.trans n))
  | _, _, .frz h r, n => .frz (SqL.sub hF h) (RepL.flat hF r (noD_frz.symm.trans n))
  | _, _, .dct h r, n => (Bool.false_ne_true (noD_dct.symm.trans n)).elim
  | _, _, .obj h, n => (Bool.false_ne_true (noD_obj.symm.trans n)).elim
theorem RepL.flat {K : PySem.W.Frag} {W W' : Wd} (hF : ∀ b o, W.F b = some o → W'.F b = some o) : ∀ {ds : List Ev.D} {vs : List V}, RepL K W ds vs → noDs ds = true → RepL K W' ds vs
  | _, _, .nil, _ => .nil
  | _, _, .cons h r, n => .cons (Rep.flat hF h (Bool.and_eq_true_iff.mp (noDs_cons.symm.trans n)).1) (RepL.flat hF r (Bool.and_eq_true_iff.mp (noDs_cons.symm.trans n)).2)
end
theorem RepK.flat {K : PySem.W.Frag} {W W' : Wd} (hF : ∀ b o, W.F b = some o → W'.F b = some o) : ∀ {ds : List (Key × Ev.D)} {vs : List (Key × V)}, RepK K W ds vs → noDk ds = true → RepK K W' ds vs
  | _, _, .nil, _ => .nil
  | _, _, .cons h r, n => by
    unfold noDk at n
    rw [Bool.and_eq_true] at n
    exact .cons (h.flat hF n.1) (RepK.flat hF r n.2)
theorem RepF.flat {K : PySem.W.Frag} {W W' : Wd} (hF : ∀ b o, W.F b = some o → W'.F b = some o) : ∀ {ds : List (Str × Ev.D)} {vs : List (Str × V)}, RepF K W ds vs → noDf ds = true → RepF K W' ds vs
  | _, _, .nil, _ => .nil
  | _, _, .cons h r, n => by
    unfold noDf at n
    rw [Bool.and_eq_true] at n
    exact .cons (h.flat hF n.1) (RepF.flat hF r n.2)
theorem obr_flat {K : PySem.W.Frag} {W W' : Wd} {H : Hp} (hF : ∀ b o, W.F b = some o → W'.F b = some o) {o : Ob} {a : Addr} (h : ObR K W H o a) (n : obN o = true) : ObR K W' H o a := by
  cases o with
  | lst xs => obtain ⟨vs, e, g⟩ := h; exact ⟨vs, e, g.flat hF n⟩
  | dct xs => obtain ⟨vs, e, g⟩ := h; exact ⟨vs, e, g.flat hF n⟩
  | ins c fs => obtain ⟨dx, vs, e, g⟩ := h; exact ⟨dx, vs, e, g.flat hF n⟩
/-- what was given is had back; what came behind it goes -/
theorem Fs.taken {K : PySem.W.Frag} {W0 Wb W W1 W2 : Wd} {H0 H H2 : Hp} {τ τ1 : Sl} {S S2 : List Ob} {σ : L2.St} (f : Fs K W0 H0 Wb W τ S σ H) {i : Nat} {a : Addr} {s : Slot} (hs : τ[i]? = some s) (os : isOwn s = true) (ha : σ[i]? = some (some (.ref a)))
    (le1 : Le W W1) (eF : W1.F = W.F) (n1 : W1.n = S.length + 1) (m1 : W1.m S.length = a) (f2 : Fs K W0 H0 Wb W2 τ1 S2 σ H2) (e2 : Ext W1 H W2 H2) {sl : Slot} (hsl : slOb S2[S.length]? = some sl) (hn : (S2.take S.length).all obN = true) : ∃ W3, Fs K W0 H0 Wb W3 (τ.set i sl) (S2.take S.length) σ H2 := by
  have nn : W.n = S.length := f.sg.rel.n
  have r2 := f2.sg.rel
  have n2 : S.length + 1 ≤ W2.n := by rw [← n1]; exact e2.le.n
  have l2 : S.length + 1 ≤ S2.length := by rw [← r2.n]; exact n2
  have m2 : W2.m S.length = a := by rw [e2.le.m _ (by omega)]; exact m1
  have le3 : Le W ⟨W2.F, W2.m, S.length⟩ := ⟨fun b o h => e2.le.F b o (by rw [eF]; exact h), Nat.le_of_eq nn, fun j hj => (e2.le.m j (by omega)).trans (le1.m j hj)⟩
  have hF : ∀ b o, W2.F b = some o → (⟨W2.F, W2.m, S.length⟩ : Wd).F b = some o := fun _ _ h => h
  have e0 := f2.ext
  have away : ∀ j, j < S.length → W2.m j ≠ a := fun j hj z => by
    have := r2.inj j S.length (by omega) (by omega) (by rw [z, m2])
    omega
  have keep : ∀ b o, b ≠ a → H b = some o → (∀ j, j < W.n → W.m j ≠ b) → H2 b = some o := fun b o hb h m => e2.keep b o h fun j hj z => by
    by_cases hj2 : j < W.n
    · rw [le1.m j hj2] at z; exact m j hj2 z.symm
    · have : j = S.length := by omega
      rw [this, m1] at z; exact hb z
  have noF : ∀ b o, H b = some o → W.F b = none → W2.F b = none := fun b o h g => by
    cases z : W2.F b with
    | none => rfl
    | some u =>
      rcases e2.Fn b u z with q | q
      · rw [eF, g] at q; cases q
      · rw [h] at q; cases q
  refine ⟨⟨W2.F, W2.m, S.length⟩, ⟨⟨fun b o h => e0.le.F b o h, ?_, fun j hj => e0.le.m j hj⟩, e0.Fn, fun j h1 h2 => e0.mn j h1 (by have h2 : j < S.length := h2; omega), e0.keep⟩, ⟨⟨?_, r2.fz, fun j o h => ?_, fun j hj => r2.nf j (by have hj : j < S.length := hj; omega), fun j k hj hk e => r2.inj j k (by have hj : j < S.length := hj; omega) (by have hk : k < S.length := hk; omega) e⟩, by rw [List.length_set]; exact f.sg.len, fun j t h => ?_, fun j k t u b hjk ht hu ot ou h1 h2 => ?_⟩, fun j t b ht ot h => ?_, f.le.trans le3⟩
  · rw [← nn]; exact f.ext.le.n
  · show S.length = (S2.take S.length).length
    rw [List.length_take]; omega
  · have ho : obN o = true := List.all_eq_true.mp hn o (List.mem_of_getElem? h)
    have hj : j < S.length := by
      have := (List.getElem?_eq_some_iff.mp h).1
      rw [List.length_take] at this; omega
    rw [List.getElem?_take, if_pos hj] at h
    exact obr_flat hF (r2.ob j o h) ho
  · rcases set_eq h with ⟨rfl, _, rfl⟩ | ⟨hij, h⟩
    · cases hb : S2[S.length]? with
      | none => rw [hb] at hsl; cases hsl
      | some b =>
        rw [hb] at hsl
        have q := r2.ob _ _ hb
        rw [m2] at q
        have fa : W2.F a = none := by rw [← m2]; exact r2.nf _ (by omega)
        cases b with
        | lst xs =>
          unfold slOb at hsl
          dsimp only at hsl
          split at hsl
          · rename_i hx
            cases hsl
            obtain ⟨vs, e, g⟩ := q
            exact ⟨a, vs, ha, e, g.flat hF hx, fa, away⟩
          · cases hsl
        | dct xs =>
          unfold slOb at hsl
          dsimp only at hsl
          split at hsl
          · rename_i hx
            cases hsl
            obtain ⟨vs, e, g⟩ := q
            exact ⟨a, vs, ha, e, g.flat hF hx, fa, away⟩
          · cases hsl
        | ins c fs => cases hsl
    · have q := f.sg.sl j t h
      have hn : isOwn t = true → ∀ b, σ[j]? = some (some (.ref b)) → b ≠ a := fun ot b e z => f.sg.dis i j s t a hij hs h os ot ha (by rw [e, z])
      have aw : ∀ b, (∀ j, j < W.n → W.m j ≠ b) → ∀ j, j < S.length → W2.m j ≠ b := fun b m j hj => by
        rw [le3.m j (by omega)]
        exact m j (by omega)
      cases t with
      | un => exact True.intro
      | val d =>
        obtain ⟨v, e, r⟩ := q
        exact ⟨v, e, r.mono le3⟩
      | own xs =>
        obtain ⟨b, vs, e, q, r, g, m⟩ := q
        exact ⟨b, vs, e, keep b _ (hn rfl b e) q m, r.mono le3, noF b _ q g, aw b m⟩
      | ownd xs =>
        obtain ⟨b, vs, e, q, r, g, m⟩ := q
        exact ⟨b, vs, e, keep b _ (hn rfl b e) q m, r.mono le3, noF b _ q g, aw b m⟩
      | exn x =>
        obtain ⟨b, dd, vs, e, q, r⟩ := q
        exact ⟨b, dd, vs, e, le3.F _ _ q, r.mono le3⟩
  · rcases set_eq ht with ⟨ej, _, _⟩ | ⟨_, ht2⟩
    · rcases set_eq hu with ⟨ek, _, _⟩ | ⟨_, hu2⟩
      · exact hjk (ej.symm.trans ek)
      · subst ej
        exact f.sg.dis _ k s u b hjk hs hu2 os ou h1 h2
    · rcases set_eq hu with ⟨ek, _, _⟩ | ⟨_, hu2⟩
      · subst ek
        exact f.sg.dis j _ t s b hjk ht2 hs ot os h1 h2
      · exact f.sg.dis j k t u b hjk ht2 hu2 ot ou h1 h2
  · rcases set_eq ht with ⟨rfl, _, rfl⟩ | ⟨_, ht⟩
    · exact f.own _ s b hs os h
    · exact f.own j t b ht ot h
theorem ss_loan {y : E} {i : Nat} (hn : isComp e = false) (he : SE X e (fun τ => evE G τ y) false) : SS X (.Expr e pos) (fun τ S => match obSl τ[i]? with
    | some b => match evE G (τ.set i (.val (.obj S.length))) y (S ++ [b]) with
      | .ok _ S' => match slOb S'[S.length]? with
        | some sl => if (S'.take S.length).all obN = true then .next (τ.set i sl) (S'.take S.length) else .bad
        | none => .bad
      | _ => .bad
    | none => .bad) := fun W0 H0 Wb W τ S σ H D f hp => by
  dsimp only at hp
  have main : ∀ (s : Slot) (b : Ob) (a : Addr), τ[i]? = some s → isOwn s = true → σ[i]? = some (some (.ref a)) → W.F a = none → (∀ j, j < W.n → W.m j ≠ a) → (∀ W', Le W W' → ObR X.K W' H b a) →
      PoS X W0 H0 Wb D (match evE G (τ.set i (.val (.obj S.length))) y (S ++ [b]) with
      | .ok _ S' => match slOb S'[S.length]? with
        | some sl => if (S'.take S.length).all obN = true then .next (τ.set i sl) (S'.take S.length) else .bad
        | none => .bad
      | _ => .bad) → WS X (.Expr e pos) D σ H := fun s b a hs os ha fF fm hb hp => by
    obtain ⟨W1, f1, le1, eF, n1, m1⟩ := f.given hs os ha fF fm hb
    have hp' : PoS X W0 H0 Wb D (Ev.lift (τ.set i (.val (.obj S.length))) (evE G (τ.set i (.val (.obj S.length))) y (S ++ [b])) fun _ S' => match slOb S'[S.length]? with
        | some sl => if (S'.take S.length).all obN = true then .next (τ.set i sl) (S'.take S.length) else .bad
        | none => .bad) := by
      cases z : evE G (τ.set i (.val (.obj S.length))) y (S ++ [b]) with
      | ok d S' => rw [z] at hp; exact hp
      | exc _ _ => rw [z] at hp; exact hp.elim
      | bad => rw [z] at hp; exact hp.elim
    refine WS.of (ps_expr pe_we (noComp hn)) ((SE.stm (m := fun τ => evE G τ y) he f1 hp').mono fun v H2 ⟨d, W2, S2, f2, rv, e2, p2⟩ => ?_)
    cases z : slOb S2[S.length]? with
    | none => rw [z] at p2; exact p2.elim
    | some sl =>
      rw [z] at p2
      dsimp only at p2
      split at p2
      · rename_i hall
        obtain ⟨W3, f3⟩ := f.taken hs os ha le1 eF n1 m1 f2 e2 z hall
        exact p2 W3 σ H2 f3
      · exact p2.elim
  cases z : τ[i]? with
  | none => rw [z] at hp; exact hp.elim
  | some sl =>
    rw [z] at hp
    cases sl with
    | own xs =>
      obtain ⟨a, vs, ea, hH, rl, fF, fm⟩ := f.sg.sl i _ z
      exact main _ (.lst xs) a z rfl ea fF fm (fun W' le => ⟨vs, hH, rl.mono le⟩) hp
    | ownd kvs =>
      obtain ⟨a, vs, ea, hH, rl, fF, fm⟩ := f.sg.sl i _ z
      exact main _ (.dct kvs) a z rfl ea fF fm (fun W' le => ⟨vs, hH, rl.mono le⟩) hp
    | un => exact hp.elim
    | val d => exact hp.elim
    | exn x => exact hp.elim
/-- what a slot owns is told as a thing of the store -/
theorem ret_own {W0 Wb W : Wd} {H0 H : Hp} {S : List Ob} {D : Ends} {sl : Slot} {a : Addr} (e : Ext W0 H0 W H) (r : Rel X.K W S H) (h0 : H0 a = none) (hs : SlR X.K W H sl (some (some (.ref a)))) (hp : PoS X W0 H0 Wb D (retBS sl S)) : D.rt (.ref a) H := by
  unfold retBS at hp
  cases sl with
  | own xs =>
    obtain ⟨b, vs, eb, hH, rl, fF, fm⟩ := hs
    cases eb
    obtain ⟨W2, e2, r2, n2, m2, _, _⟩ := adopt (b := .lst xs) e r h0 fF fm fun W' le => ⟨vs, hH, rl.mono le⟩
    refine hp W2 H _ e2 r2 ?_
    rw [← m2]
    exact .obj (by omega)
  | ownd kvs =>
    obtain ⟨b, vs, eb, hH, rl, fF, fm⟩ := hs
    cases eb
    obtain ⟨W2, e2, r2, n2, m2, _, _⟩ := adopt (b := .dct kvs) e r h0 fF fm fun W' le => ⟨vs, hH, rl.mono le⟩
    refine hp W2 H _ e2 r2 ?_
    rw [← m2]
    exact .obj (by omega)
  | un => exact hp.elim
  | val d => exact hp.elim
  | exn x => exact hp.elim
theorem ss_retB {m : Sl → M Slot} (he : SFr X e m) : SS X (.Return (some e) pos) (fun τ S => lift τ (m τ S) fun sl S1 => retBS sl S1) := fun W0 H0 Wb W τ S σ H D f hp =>
  WS.of (ps_ret pe_we) ((he W0 H0 Wb W τ S σ H D _ f hp).mono fun v H1 ⟨a, W1, S1, sl, ev, f1, h0, hsl, hne, p1⟩ => by
    subst ev
    exact ret_own f1.ext f1.sg.rel h0 hsl p1)
theorem ss_retOb (xo : XOk X c) (hs : c.slot x = some i) : SS X (.Return (some (.Name x p)) pos) (fun τ S => match τ[i]? with
    | some sl => retBS sl S
    | none => .bad) := fun W0 H0 Wb W τ S σ H D f hp => by
  dsimp only at hp
  cases z : τ[i]? with
  | none => rw [z] at hp; exact hp.elim
  | some sl =>
    rw [z] at hp
    have os : isOwn sl = true := by
      unfold retBS at hp
      cases sl with
      | own xs => rfl
      | ownd kvs => rfl
      | un => exact hp.elim
      | val d => exact hp.elim
      | exn x => exact hp.elim
    have hsl := f.sg.sl i sl z
    obtain ⟨a, u, ea, hH⟩ := hsl.ref os
    rw [ea] at hsl
    obtain ⟨hN, hv, hd, hcd⟩ := slot_ok xo hs
    exact WS.of (ps_ret (pe_var hN hv hd hcd)) ⟨_, ea, ret_own f.ext f.sg.rel (f.own i sl a z os ea) hsl hp⟩
theorem ss_retO (xo : XOk X c) (hs : c.slot x = some i) : SS X (.Return (some (.Name x p)) pos) (fun τ S => match τ[i]? with
    | some (.val d) => .ret d S
    | some (.own xs) => .ret (.lst xs) S
    | some (.ownd kvs) => .ret (.dct kvs) S
    | _ => .bad) := fun W0 H0 Wb W τ S σ H D f hp => by
  refine ss_fz (is := [i]) (ss_ret (se_loc (r := false) xo hs)) W0 H0 Wb W τ S σ H D f ?_
  dsimp only at hp ⊢
  have hfz : freeze τ [i] = (match τ[i]? with
    | some (.own xs) => τ.set i (.val (.lst xs))
    | some (.ownd kvs) => τ.set i (.val (.dct kvs))
    | _ => τ) := rfl
  rw [hfz]
  split at hp
  · rename_i d z
    rw [z]
    dsimp only
    rw [z]
    exact hp
  · rename_i d z
    rw [z]
    dsimp only
    rw [List.getElem?_set_self (List.getElem?_eq_some_iff.mp z).1]
    exact hp
  · rename_i d z
    rw [z]
    dsimp only
    rw [List.getElem?_set_self (List.getElem?_eq_some_iff.mp z).1]
    exact hp
  · exact hp.elim
theorem ss_if {p q : List Stmt} {mp mq : Sl → List Ob → RS} (ht : STt X t mt) (hp : SSs X p mp) (hq : SSs X q mq) :
    SS X (.If t p q pos) (fun τ S => lift τ (testM (mt τ) S) fun k S1 => if k = true then mp τ S1 else mq τ S1) := fun W0 H0 Wb W τ S σ H D f hp0 =>
  WS.of (ps_if pt_wt pss_wss pss_wss) ((ht.stm f hp0).mono fun k H1 ⟨W1, S1, f1, p1⟩ => by
    cases k with
    | true => exact hp W0 H0 Wb W1 τ S1 σ H1 D f1 p1
    | false => exact hq W0 H0 Wb W1 τ S1 σ H1 D f1 p1)
theorem ss_while {b : List Stmt} {mb : Sl → List Ob → RS} {n : Nat} (xs : XS X) (ht : STt X t mt) (hb : SSs X b mb) :
    SS X (.While t b [] pos) (fun τ S => whlN (fun τ => testM (mt τ)) mb n τ S) := fun W0 H0 Wb W τ S σ H D f hp => by
  refine WS.of (ps_while xs.po pt_wt pss_wss) ⟨fun n σ H => ∃ W τ S, Fs X.K W0 H0 Wb W τ S σ H ∧ PoS X W0 H0 Wb D (whlN (fun τ => testM (mt τ)) mb n τ S), ⟨n, W, τ, S, f, hp⟩, ?_⟩
  rintro m σ H ⟨W, τ, S, f, hp⟩
  cases m with
  | zero => exact hp.elim
  | succ m =>
    unfold whlN at hp
    refine (ht.stm f hp).mono fun k H1 ⟨W1, S1, f1, p1⟩ => ?_
    cases k with
    | false => exact p1 W1 σ H1 f1
    | true =>
      rw [if_pos rfl] at p1 ⊢
      refine ⟨fun σ H => ∃ W τ S, Fs X.K W0 H0 Wb W τ S σ H ∧ PoS X W0 H0 Wb D (whlN (fun τ => testM (mt τ)) mb m τ S), fun σ' H' h => ⟨m, Nat.lt_succ_self m, h⟩, ?_⟩
      refine hb W0 H0 Wb W1 τ S1 σ H1 _ f1 ?_
      cases z : mb τ S1 with
      | bad => rw [z] at p1; exact p1.elim
      | next τ2 S2 =>
        rw [z] at p1
        exact fun W' σ' H' f' => ⟨W', τ2, S2, f', p1⟩
      | ret d S2 => rw [z] at p1; exact p1
      | exc e τ2 S2 => rw [z] at p1; exact p1
theorem ss_for {tg : Tg} {iter : Expr} {b : List Stmt} {mi : Sl → M (List Ev.D)} {mb : Sl → List Ob → RS} (xo : XOk X c) (xs : XS X) (stg : STg X t tg) (hi : SI X t iter mi) (hb : SSs X b mb) (hf : ∀ x, foldedSetIterable iter X.env x = pure x) :
    SS X (.For t iter b [] pos) (fun τ S => lift τ (mi τ S) fun ds S1 => forL (fun x τ S => match tgS tg x τ with
      | some τ1 => mb τ1 S
      | none => .bad) ds τ S1) := fun W0 H0 Wb W τ S σ H D f hp => by
  refine WS.of (ps_for xs.po xo.calm pi_wi pg_wg pss_wss hf) ?_
  refine hi τ S W σ H _ f.sg ((hp.lift f).imp fun ds W1 S1 H1 e1 r1 ⟨f1, p1⟩ J wk => ?_)
  refine ⟨fun i m σ' H' => m = ds.length - i ∧ i ≤ ds.length ∧ ∃ Wi τi Si, Fs X.K W0 H0 W1 Wi τi Si σ' H' ∧ PoS X W0 H0 Wb D (forL (fun x τ S => match tgS tg x τ with
      | some τ1 => mb τ1 S
      | none => .bad) (ds.drop i) τi Si), ⟨ds.length, by simp, Nat.zero_le _, W1, τ, S1, f1.here, p1⟩, ?_⟩
  rintro i m σ' H' ⟨rfl, hi, Wi, τi, Si, fi, hpi⟩
  by_cases hlt : i < ds.length
  · obtain ⟨hgo, hyl⟩ := wk.go i _ (List.getElem?_eq_getElem hlt) Wi Si H' fi.le fi.sg.rel
    rw [List.drop_eq_getElem_cons hlt] at hpi
    refine .inr ⟨hgo, _, fun σ'' H'' n => ⟨ds.length - (i + 1), by omega, rfl, hlt, n⟩, fun x H2 y => ?_⟩
    obtain ⟨W2, e2, r2, rx⟩ := hyl x H2 y
    have f2 := fi.step e2 r2
    unfold forL at hpi
    cases z : tgS tg ds[i] τi with
    | none => simp only [z] at hpi; exact hpi.elim
    | some τ1 =>
      simp only [z] at hpi
      refine stg τi τ1 Si W2 σ' H2 _ x _ f2.sg rx z fun σ1 g1 sm => ?_
      have f3 := f2.tgt z g1 sm
      refine hb W0 H0 W1 W2 τ1 Si σ1 H2 _ f3 ?_
      cases z2 : mb τ1 Si with
      | bad => rw [z2] at hpi; exact hpi.elim
      | next τ2 S2 =>
        rw [z2] at hpi
        exact fun W' σ'' H'' f' => ⟨W', τ2, S2, f', hpi⟩
      | ret d S2 => rw [z2] at hpi; exact hpi
      | exc e τ2 S2 =>
        rw [z2] at hpi
        exact fun W' σ'' H'' cc dd f' ex => hpi W' σ'' H'' cc dd (f'.base f1.le) ex
  · have e : i = ds.length := by omega
    subst e
    rw [List.drop_length] at hpi
    exact .inl ⟨wk.stop Wi Si H' fi.le fi.sg.rel, hpi Wi σ' H' (fi.base f1.le)⟩
theorem sss_nil : SSs X [] (fun τ S => .next τ S) := fun W0 H0 Wb W τ S σ H D f hp => WSs.of pss_nil (hp W σ H f)
theorem sss_cons {st : Stmt} {rest : List Stmt} {m1 m2 : Sl → List Ob → RS} (h1 : SS X st m1) (h2 : SSs X rest m2) : SSs X (st :: rest) (fun τ S => match m1 τ S with
    | .next τ1 S1 => m2 τ1 S1
    | r => r) := fun W0 H0 Wb W τ S σ H D f hp => by
  refine WSs.of (pss_cons ps_ws pss_wss) ?_
  refine h1 W0 H0 Wb W τ S σ H _ f ?_
  dsimp only at hp
  cases z : m1 τ S with
  | bad => rw [z] at hp; exact hp
  | next τ1 S1 =>
    rw [z] at hp
    exact fun W' σ' H' f' => h2 W0 H0 Wb W' τ1 S1 σ' H' D f' hp
  | ret d S2 => rw [z] at hp; exact hp
  | exc e τ2 S2 => rw [z] at hp; exact hp
end
end Ev
set_option Elab.async false
set_option linter.all false
set_option maxRecDepth 100000
set_option maxHeartbeats 8000000
namespace Ev
open PySem L2 PyProof.Rows
section
variable {X : Cx} {c : CC} {G : Gs} {a b e : Expr} {ma mb : Sl → M D} {ms : Sl → M (List D)} {p p2 q pos : Pos}
theorem ss_pub {st : Stmt} {m : Sl → List Ob → RS} (h : SS X st m) : ∀ is : List Nat, SS X st (fun τ S => m (pubS τ S is).1 (pubS τ S is).2)
  | [] => h
  | i :: is => fun W0 H0 Wb W τ S σ H D f hp => by
    have ih := ss_pub h is
    have main : ∀ (s : Slot) (b : Ob) (a : Addr), τ[i]? = some s → isOwn s = true → σ[i]? = some (some (.ref a)) → W.F a = none → (∀ j, j < W.n → W.m j ≠ a) → (∀ W', Le W W' → ObR X.K W' H b a) → obSl τ[i]? = some b → WS X st D σ H := fun s b a hs os ha fF fm hb ho => by
      obtain ⟨W1, f1, _⟩ := f.given hs os ha fF fm hb
      refine ih W0 H0 Wb W1 _ _ σ H D f1 ?_
      have e : pubS τ S (i :: is) = pubS (τ.set i (.val (.obj S.length))) (S ++ [b]) is := by
        rw [pubS, ho]
      dsimp only at hp
      rw [e] at hp
      exact hp
    have none_ : obSl τ[i]? = none → WS X st D σ H := fun ho => by
      refine ih W0 H0 Wb W τ S σ H D f ?_
      have e : pubS τ S (i :: is) = pubS τ S is := by
        rw [pubS, ho]
      dsimp only at hp
      rw [e] at hp
      exact hp
    cases z : τ[i]? with
    | none => exact none_ (by rw [z]; rfl)
    | some sl =>
      cases sl with
      | own xs =>
        obtain ⟨a, vs, ea, hH, rl, fF, fm⟩ := f.sg.sl i _ z
        exact main _ (.lst xs) a z rfl ea fF fm (fun W' le => ⟨vs, hH, rl.mono le⟩) (by rw [z]; rfl)
      | ownd kvs =>
        obtain ⟨a, vs, ea, hH, rl, fF, fm⟩ := f.sg.sl i _ z
        exact main _ (.dct kvs) a z rfl ea fF fm (fun W' le => ⟨vs, hH, rl.mono le⟩) (by rw [z]; rfl)
      | un => exact none_ (by rw [z]; rfl)
      | val d => exact none_ (by rw [z]; rfl)
      | exn x => exact none_ (by rw [z]; rfl)
theorem sfr_zdic (go : GOk X c G) (gD : Gl X "dict") (gZ : Gl X "zip") (calm : X.calm = true) (h1 : isStar a = false) (h2 : isStar b = false) (ha : SE X a ma false) (hb : SE X b mb false) :
    SFr X (.Call (.Name "dict" p) [.Call (.Name "zip" p2) [a, b] [] q] [] pos) (fun τ => bnd (ma τ) fun x => bnd (mb τ) fun y => Ev.ask fun _ => (zdS x y).map .ownd) := by
  intro W0 H0 Wb W τ S σ H D k f hp
  have hsa := sa_cons h1 ha (sa_cons h2 hb sa_nil)
  have eq : lift τ (bnd (ma τ) (fun x => bnd (mb τ) fun y => Ev.ask fun _ => (zdS x y).map Slot.ownd) S) k = lift τ ((bnd (ma τ) fun x => bnd (bnd (mb τ) fun y => bnd (ret []) fun ys => ret (y :: ys)) fun xs => ret (x :: xs)) S) fun ds S1 => match ds with
      | [x, y] => match zdS x y with
        | some kvs => k (.ownd kvs) S1
        | none => .bad
      | _ => .bad := by
    unfold bnd Ev.ask ret lift
    cases ma τ S with
    | bad => rfl
    | exc _ _ => rfl
    | ok x S1 =>
      dsimp only
      cases mb τ S1 with
      | bad => rfl
      | exc _ _ => rfl
      | ok y S2 =>
        dsimp only
        cases zdS x y <;> rfl
  dsimp only at hp
  rw [eq] at hp
  refine WE.of (pe_dzip calm gD (go.free _ (by simp [bltNames])) gZ (go.free _ (by simp [bltNames])) pa_wa (star_cons h1) (back_any _ _ _ (by rw [List.all_cons, h2]; rfl))) ((hsa.stm f hp).mono fun vs H1 ⟨ds, W1, S1, f1, r1, e1, p1⟩ => ?_)
  split at p1
  · rename_i x y
    cases (show RepL X.K W1 [x, y] vs from r1) with
    | cons rv t =>
      cases t with
      | cons rw t =>
        cases t
        cases z : zdS x y with
        | none => rw [z] at p1; exact p1.elim
        | some kvs =>
          rw [z] at p1
          obtain ⟨u1, u2, a1, b1, ks, ws, rfl, rfl, q1, q2, rk⟩ := zd_rep rv rw z
          refine ⟨u1, u2, a1, b1, ks, ws, rfl, q1.sub f1.sg.rel.fz, q2.sub f1.sg.rel.fz, fun d hd => ?_⟩
          obtain ⟨k1, k2⟩ := f1.fresh hd
          obtain ⟨fF, fm⟩ := f1.sg.rel.fresh hd
          obtain ⟨e2, r2⟩ := f1.sg.rel.track (o := .dK (mergeK [] (ks.zip ws))) hd
          exact ⟨d, W1, S1, .ownd kvs, rfl, f1.step e2 r2, k1, ⟨d, _, rfl, upd_same, rk, fF, fm⟩, k2, p1⟩
  · exact p1.elim
theorem del_upd {H : Hp} {a dx : Addr} {o1 o2 o3 o4 : HO} (ha : H a = none) (hd : dx ≠ a) : upd (L2.del (upd (upd (upd H a o1) dx o2) a o3) a) dx o4 = upd H dx o4 := by
  funext b
  by_cases h1 : b = dx
  · rw [h1, upd_same, upd_same]
  · rw [upd_ne h1, upd_ne h1]
    by_cases h2 : b = a
    · rw [h2, L2.del_same, ha]
    · rw [L2.del_ne h2, upd_ne h2, upd_ne h1, upd_ne h2]
theorem ss_rais {x fl : Str} {es : Es} (xo : XOk X c) (go : GOk X c G) (hg : Gl X x) (hd : (x == ("__debug__" : Str)) = false) (hx : c.excs.lookup x = some fl) (hst : isStar a = false) (ha : SA X [a] (fun τ => evEs G τ es) false) :
    SS X (.Raise (some (.Call (.Name x p) [a] [] p2)) none pos) (fun τ S => lift τ (evEs G τ es S) fun ds S1 => match ds with
      | [d] => .exc ⟨x, [(fl, d)]⟩ τ S1
      | _ => .bad) := fun W0 H0 Wb W τ S σ H D f hp => by
  obtain ⟨fI, fd, ps, k, E, F, hm, hb, hr⟩ := go.rai x fl hx
  have pass : Passes CX0 X (fun _ _ _ => False) := pass0
  refine WS.of (ps_raise xo.calm takes_TX (pmk_oex E.T E.iC E.tI F hr hb .nil pass hg hm (pa_wa (X := X) (es := [a])) hd (star_cons hst) rfl)) ?_
  refine (SA.stm (m := fun τ => evEs G τ es) ha f hp).mono fun vs H1 ⟨ds, W1, S1, f1, r1, e1, p1⟩ => ?_
  have r1 : RepL X.K W1 ds vs := r1
  have hlen : vs.length = 1 := by
    cases ds with
    | nil => exact p1.elim
    | cons d ds =>
      cases ds with
      | nil => rw [← r1.length]; rfl
      | cons _ _ => exact p1.elim
  refine ⟨by omega, fun y hy => ?_⟩
  cases ds with
  | nil => exact p1.elim
  | cons d ds =>
    cases ds with
    | cons _ _ => exact p1.elim
    | nil =>
      cases r1 with
      | @cons _ _ v _ rv t =>
        cases t
        refine ⟨y, He.ga X.K x, v, rfl, E.T, E.no, upd_same, fun dx hdx hne => ⟨rfl, dx, [(fl, v)], upd_same, ?_, ?_, ?_⟩⟩
        · rw [upd_ne hne, upd_same]
        · rw [upd_ne hne] at hdx
          exact hdx
        · rw [upd_ne hne] at hdx
          rw [del_upd hy hne]
          obtain ⟨e2, r2⟩ := f1.sg.rel.alloc (o := .xd [(fl, v)]) hdx
          refine p1 _ σ _ _ _ (f1.step e2 r2) ⟨rfl, .inr ⟨dx, [(fl, v)], rfl, upd_same, .cons (rv.mono e2.le) .nil⟩⟩
section
variable {nm : Str} {i : Nat} {x : Str} {oe : Obj} {cls : Value} {dd : Option Addr} {pn : List (Addr × Obj)} {A : Addr}
/-- what the clause's parts tell -/
theorem suf_one (xo : XOk X c) (go : GOk X c G) (hi : c.slot nm = some i) {ex : Exc} {vs : List (Str × V)} {d0 : Addr} {W : Wd} {S : List Ob} {σ : L2.St} {H : Hp} {τ : Sl} (rl : Rel X.K W S H)
    (hz : Zc cls dd oe) (hfz : ∃ vs, oe.data = .fields vs) (hτ : ∀ s, τ[i]? = some s → s = .exn ex ∧ σ[i]? = some (some (.ref A))) (hc : cls = .ref (He.ga X.K ex.cls)) (hdd : ex.fs = [] ∨ (dd = some d0 ∧ W.F d0 = some (.xd vs) ∧ RepF X.K W ex.fs vs))
    (hsl : ∀ (j : Nat) (d : Ev.D), j ≠ i → τ[j]? = some (.val d) → ∃ v, σ[j]? = some (some v) ∧ Rep X.K W d v)
    {e : Expr} {y : E} (h : sufE c nm i e = some y) {dv : Ev.D} {S2 : List Ob} (hv : evE G τ y S = .ok dv S2) : S2 = S ∧ ∃ v, Rep X.K W dv v ∧ ∀ Q : VK, Q v H → WE (X.suite A ((A, oe) :: pn)) e σ H Q := by
  unfold sufE at h
  split at h
  · rename_i k kk kp
    cases z : cstOf k with
    | none => rw [z] at h; cases h
    | some d =>
      rw [z] at h
      cases h
      rw [evE] at hv
      cases hv
      refine ⟨rfl, ?_⟩
      cases k with
      | int n => cases z; exact ⟨.int n, .int n, fun Q q => WE.of pe_int q⟩
      | str s => cases z; exact ⟨.str s, .str s, fun Q q => WE.of pe_str q⟩
      | bool b => cases z; exact ⟨.bl b, .bl b, fun Q q => WE.of pe_bl q⟩
      | none => cases z; exact ⟨.non, .non, fun Q q => WE.of pe_non q⟩
      | _ => cases z
  · rename_i y1 yp f1 fp
    obtain ⟨hN, hvis, hdb, hcd⟩ := slot_ok xo hi
    split at h
    · rename_i hy
      cases h
      subst hy
      rw [evE] at hv
      unfold ofO at hv
      split at hv
      · rename_i d hd
        cases hv
        split at hd
        case h_2 => cases hd
        rename_i ex2 hx2
        obtain ⟨ee, hσ⟩ := hτ _ hx2
        cases ee
        split at hd
        · rename_i hE
          obtain ⟨T, no⟩ := go.efl _ _ hE
          rcases hdd with hdd | ⟨e1, e2, rf⟩
          · rw [hdd] at hd
            cases hd
          · rcases rf.get f1 with ⟨z, _⟩ | ⟨d', v, z1, z2, rv⟩
            · rw [z] at hd; cases hd
            · rw [z1] at hd
              cases hd
              exact ⟨rfl, v, rv, fun Q q => WE.of (pe_xf T no hz hfz (pe_var (X := X.suite A ((A, oe) :: pn)) hN hvis hdb hcd) rfl) ⟨_, hσ, rfl, hc, d0, vs, v, e1, rl.fz _ _ e2, z2, q⟩⟩
        · cases hd
      · cases hv
    · split at h
      · rename_i j hj
        split at h
        · cases h
        · rename_i hji
          cases h
          obtain ⟨hN2, hvis2, hdb2, hcd2⟩ := slot_ok xo hj
          have hv : bnd (evE G τ (.loc j)) (fun x => Ev.ask fun S => match x with
            | .obj i => match S[i]? with
              | some (.ins c fs) => if G.hasF c f1 then fGet fs f1 else none
              | _ => none
            | _ => none) S = .ok dv S2 := by rw [evE] at hv; exact hv
          rw [evE] at hv
          unfold bnd ofO Ev.ask at hv
          dsimp only at hv
          split at hv
          · rename_i dx S1 hx
            split at hx
            · rename_i d3 hd3
              cases hx
              split at hd3
              · rename_i d4 hd4
                cases hd3
                obtain ⟨v, ev, rv⟩ := hsl j _ hji hd4
                split at hv
                · rename_i d5 hd5
                  cases hv
                  split at hd5
                  · rename_i i2
                    split at hd5
                    · rename_i cn fs ho
                      split at hd5
                      · rename_i hF
                        obtain ⟨C, n⟩ := go.fld cn f1 hF
                        cases rv with
                        | obj hlt =>
                          obtain ⟨dx2, vs2, hH, rf⟩ := rl.ob i2 _ ho
                          rcases rf.get f1 with ⟨z, _⟩ | ⟨d', v, z1, z2, rv⟩
                          · rw [z] at hd5; cases hd5
                          · rw [z1] at hd5
                            cases hd5
                            exact ⟨rfl, v, rv, fun Q q => WE.of (pe_fld (pe_var (X := X.suite A ((A, oe) :: pn)) hN2 hvis2 hdb2 hcd2) rfl) ⟨_, ev, W.m i2, _, dx2, vs2, v, rfl, hH, C, n, z2, q⟩⟩
                      · cases hd5
                    · cases hd5
                  · cases hd5
                · cases hv
              · cases hd3
            · cases hx
          · cases hv
          · cases hv
      · cases h
  · cases h
theorem suf_all (xo : XOk X c) (go : GOk X c G) (hi : c.slot nm = some i) {ex : Exc} {vs : List (Str × V)} {d0 : Addr} {W : Wd} {S : List Ob} {σ : L2.St} {H : Hp} {τ : Sl} (rl : Rel X.K W S H)
    (hz : Zc cls dd oe) (hfz : ∃ vs, oe.data = .fields vs) (hτ : ∀ s, τ[i]? = some s → s = .exn ex ∧ σ[i]? = some (some (.ref A))) (hc : cls = .ref (He.ga X.K ex.cls)) (hdd : ex.fs = [] ∨ (dd = some d0 ∧ W.F d0 = some (.xd vs) ∧ RepF X.K W ex.fs vs))
    (hsl : ∀ (j : Nat) (d : Ev.D), j ≠ i → τ[j]? = some (.val d) → ∃ v, σ[j]? = some (some v) ∧ Rep X.K W d v) :
    ∀ {es : List Expr} {ys : Es}, sufEs c nm i es = some ys → ∀ {ds : List Ev.D} {S2 : List Ob}, evEs G τ ys S = .ok ds S2 → S2 = S ∧ ∃ ws, RepL X.K W ds ws ∧ ∀ Q : List V → Hp → Prop, Q ws H → WA (X.suite A ((A, oe) :: pn)) es σ H Q
  | [], ys, h, ds, S2, hv => by
    cases h
    rw [evEs] at hv
    cases hv
    exact ⟨rfl, [], .nil, fun Q q => WA.of pa_nil q⟩
  | e :: es, ys, h, ds, S2, hv => by
    unfold sufEs at h
    split at h
    · rename_i y ys1 h1 h2
      cases h
      rw [evEs] at hv
      unfold bnd ret at hv
      cases z1 : evE G τ y S with
      | bad => rw [z1] at hv; cases hv
      | exc _ _ => rw [z1] at hv; cases hv
      | ok d S3 =>
        rw [z1] at hv
        dsimp only at hv
        obtain ⟨rfl, v, rv, k1⟩ := suf_one (pn := pn) xo go hi rl hz hfz hτ hc hdd hsl h1 z1
        cases z2 : evEs G τ ys1 S3 with
        | bad => rw [z2] at hv; cases hv
        | exc _ _ => rw [z2] at hv; cases hv
        | ok ds1 S4 =>
          rw [z2] at hv
          cases hv
          obtain ⟨rfl, ws, rws, k2⟩ := suf_all xo go hi rl hz hfz hτ hc hdd hsl h2 z2
          refine ⟨rfl, v :: ws, .cons rv rws, fun Q q => ?_⟩
          have hns : isStar e = false := by
            unfold sufE at h1
            split at h1 <;> first | rfl | cases h1
          exact WA.of (pa_cons pe_we pa_wa (star_cons hns)) (k1 _ (k2 _ q))
    · cases h
end
theorem ev_ret1 {ys : Es} {τ : Sl} {S : List Ob} : evSs G (.cons (.ret (.tup ys)) .nil) τ S = (match evEs G τ ys S with
    | .ok ds S2 => if ds.length ≤ sizeLine then .ret (.tup ds) S2 else .bad
    | .exc e S2 => .exc e τ S2
    | .bad => .bad) := by
  rw [evSs, evS, evE]
  unfold lift bnd
  cases evEs G τ ys S with
  | ok ds S2 =>
    dsimp only
    by_cases h : ds.length ≤ sizeLine
    · rw [if_pos h, if_pos h]; rfl
    · rw [if_neg h, if_neg h]; rfl
  | exc _ _ => rfl
  | bad => rfl
theorem ss_tr {body : List Stmt} {nm x : Str} {i kk : Nat} {es : List Expr} {ys : Es} {b : Sms} {np pos' rp tp : Pos} (xo : XOk X c) (go : GOk X c G) (xs : XS X) (hi : c.slot nm = some i) (hg : Gl X x) (hgd : (x == ("__debug__" : Str)) = false) (hx : c.cat.contains x = true) (hl : c.sc.names.lookup nm = some .local) (hlen : es.length ≤ 100)
    (hy : sufEs c nm i es = some ys) (hb : ∀ (pn : List (Addr × Obj)) (xe : Value → Shared → Prop), PassesOwn (model X.prog X.w) X.A X.env xe → SSs (X.tr pn xe) body (evSs G b)) :
    SS X (.Try body [.ExceptHandler (some (.Name x np)) (some nm) [.Return (some (.Tuple es kk tp)) rp] pos'] [] [] pos) (evS G (.tr b x (some i) (.cons (.ret (.tup ys)) .nil))) := fun W0 H0 Wb W τ S σ H D f hp => by
  obtain ⟨hN, hvis, hdb, hcd⟩ := slot_ok xo hi
  have hm := go.cat x hx
  refine WS.of (ps_try_as (tb := fun Wx D σ H => ∀ (pn : List (Addr × Obj)) (xe : Value → Shared → Prop), Takes (X.tr pn xe) Wx → PassesOwn (model X.prog X.w) X.A X.env xe → WSs (X.tr pn xe) body D σ H)
    (ts := fun a cls d D σ H => ∀ (oe : Obj) (pn : List (Addr × Obj)), Zc cls d oe → (∃ vs, oe.data = .fields vs) → WSs (X.suite a ((a, oe) :: pn)) [.Return (some (.Tuple es kk tp)) rp] D σ H)
    xs.st xs.fr (by rw [xo.N]; exact xo.nd) hN (by unfold Env.kindOf; rw [xo.sc]; exact hl) ⟨hg, hgd, .inl hm⟩ takes_TX ?_ ?_) ?_
  · exact fun Wx pn xe tk po => ⟨fun pins s σ H D I h => h pn xe tk po pins s I⟩
  · exact fun a oe cls d pn hz hf => ⟨fun pins s σ H D I h => h oe pn hz hf pins s I⟩
  · intro pn xe tk po
    refine hb pn xe po W0 H0 Wb W τ S σ H D f ?_
    rw [evS] at hp
    cases z : evSs G b τ S with
    | bad => rw [z] at hp; exact hp
    | next τ1 S1 => rw [z] at hp; exact hp
    | ret d S1 => rw [z] at hp; exact hp
    | exc ex τ1 S1 =>
      rw [z] at hp
      dsimp only at hp
      intro W1 σ1 H1 cv dd f1 er
      obtain ⟨ec, efs⟩ := er
      cases zx : G.exm ex.cls x with
      | none => rw [zx] at hp; exact hp.elim
      | some k =>
        rw [zx] at hp
        refine ⟨_, tk, k, ?_, fun hk a ha => ?_, fun hk => ?_⟩
        · rw [ec]; exact go.exm _ _ _ zx
        · subst hk
          dsimp only at hp
          intro oe pn2 hz hfz
          have hp2 : PoS X W0 H0 Wb D (match evSs G (.cons (.ret (.tup ys)) .nil) (τ1.set i (.exn ex)) S1 with
              | .next σ2 S2 => .next (σ2.set i .un) S2
              | .ret d S2 => .ret d S2
              | _ => .bad) := hp
          rw [ev_ret1] at hp2
          cases z2 : evEs G (τ1.set i (.exn ex)) ys S1 with
          | bad => rw [z2] at hp2; exact hp2.elim
          | exc _ _ => rw [z2] at hp2; exact hp2.elim
          | ok ds S2 =>
            rw [z2] at hp2
            dsimp only at hp2
            have hτ : ∀ s, (τ1.set i (.exn ex))[i]? = some s → s = .exn ex ∧ (σ1.set i (some (.ref a)))[i]? = some (some (.ref a)) := fun s hs => by
              have hi2 : i < (τ1.set i (.exn ex)).length := (List.getElem?_eq_some_iff.mp hs).1
              rw [List.length_set] at hi2
              rw [List.getElem?_set_self hi2] at hs
              rw [f1.sg.len] at hi2
              exact ⟨(Option.some.inj hs).symm, by rw [List.getElem?_set_self hi2]⟩
            have hsl : ∀ (j : Nat) (d : Ev.D), j ≠ i → (τ1.set i (.exn ex))[j]? = some (.val d) → ∃ v, (σ1.set i (some (.ref a)))[j]? = some (some v) ∧ Rep X.K W1 d v := fun j d hji hj => by
              rw [List.getElem?_set_ne (Ne.symm hji)] at hj ⊢
              exact f1.sg.sl j _ hj
            have fin : ∃ (d0 : Addr) (vs : List (Str × V)), ex.fs = [] ∨ (dd = some d0 ∧ W1.F d0 = some (.xd vs) ∧ RepF X.K W1 ex.fs vs) := by
              rcases efs with h | ⟨d0, vs, h⟩
              · exact ⟨0, [], .inl h⟩
              · exact ⟨d0, vs, .inr h⟩
            obtain ⟨d0, vs, hdd⟩ := fin
            obtain ⟨rfl, ws, rws, k⟩ := suf_all (pn := pn2) xo go hi f1.sg.rel hz hfz hτ ec hdd hsl hy z2
            have hds : ds.length ≤ sizeLine := by
              by_cases h : ds.length ≤ sizeLine
              · exact h
              · rw [if_neg h] at hp2
                exact hp2.elim
            rw [if_pos hds] at hp2
            refine WSs.of (pss_one (ps_ret (pe_tup (pa_wa (X := X.suite a ((a, oe) :: pn2)) (es := es))))) (k _ ⟨by rw [← rws.length]; exact hds, fun t ht => ?_⟩)
            obtain ⟨e2, r2⟩ := f1.sg.rel.alloc (o := .tup ws) ht
            exact hp2 _ _ _ (f1.ext.trans f1.sg.rel e2) r2 (.tup (.inl (.inl upd_same)) (rws.mono e2.le))
        · subst hk
          exact hp W1 σ1 H1 cv dd f1 ⟨ec, efs⟩
end
end Ev
set_option Elab.async false
set_option linter.all false
set_option maxRecDepth 100000
set_option maxHeartbeats 8000000
namespace Ev
open PySem L2 PyProof.Rows
section
variable {n : Nat} {X : Cx} {c : CC} {G : Gs} {pos : Pos}
theorem ss_cfz {st : Stmt} {l : List Nat} {s : Sm} (h : SS X st (evS G s)) : SS X st (evS G (c.fz l s)) := by
  unfold CC.fz
  split
  · exact h
  · have e : ∀ js, evS G (.fz js s) = fun τ S => evS G s (freeze τ js) S := fun js => by
      funext τ S
      rw [evS]
    rw [e]
    exact ss_fz h
theorem ss_fzS {st : Stmt} {js : List Nat} {s : Sm} (h : SS X st (evS G s)) : SS X st (evS G (.fz js s)) := by
  have e : evS G (.fz js s) = fun τ S => evS G s (freeze τ js) S := by
    funext τ S
    rw [evS]
  rw [e]
  exact ss_fz h
theorem ss_clo {e : Expr} {b : Bool} {l : List Nat} {y : E} (hn : isComp e = false) (he : SE X e (fun τ => evE G τ y) false) : SS X (.Expr e pos) (evS G (c.lo b l y)) := by
  unfold CC.lo
  split
  · rename_i i _
    have e : evS G (.loan i y) = fun τ S => match obSl τ[i]? with
        | some b => match evE G (τ.set i (.val (.obj S.length))) y (S ++ [b]) with
          | .ok _ S' => match slOb S'[S.length]? with
            | some sl => if (S'.take S.length).all obN = true then .next (τ.set i sl) (S'.take S.length) else .bad
            | none => .bad
          | _ => .bad
        | none => .bad := by
      funext τ S
      rw [evS]
      all_goals rfl
    rw [e]
    exact ss_loan hn he
  · exact ss_expr hn he
  · exact ss_fzS (ss_expr hn he)
theorem ownSlot_ok {x : Str} {i : Nat} (h : ownSlot c x = some i) : c.slot x = some i := by
  unfold ownSlot at h
  split at h
  · rename_i j hj
    split at h
    · cases h; exact hj
    · cases h
  · cases h
theorem compFr_ok (xo : XOk X c) (go : GOk X c G) {e : Expr} {f : Fr} {l : List Nat} (h : compFr n c e = some (f, l)) : SFr X e (fun τ => evFr G τ f) ∧ isComp e = false := by
  unfold compFr at h
  split at h
  · split at h
    · cases h
    · rename_i es p _
      cases z : compEs n c false es with
      | none => rw [z] at h; cases h
      | some ys => rw [z] at h; cases h; exact ⟨sfr_lst ((comp_ok n).es xo go z).sa, rfl⟩
  · split at h
    · cases h
    · split at h
      · rename_i qs xs h1 h2
        split at h
        · rename_i hl
          cases h
          exact ⟨sfr_dic h1 hl.1 hl.2 ((comp_ok n).es xo go h2), rfl⟩
        · cases h
      · cases h
  · rename_i x p a cp
    split at h
    · cases h
    · rename_i hst
      rw [not_or] at hst
      have hg : c.gl x = true := by simpa using hst.1
      have h1 : isStar a = false := by simpa using hst.2
      split at h
      · rename_i hx
        subst hx
        cases z : compE n c true a with
        | none => rw [z] at h; cases h
        | some y => rw [z] at h; cases h; exact ⟨sfr_list (y := "") go (gl_ok xo hg).1 xo.calm h1 ((comp_ok n).e xo go z), rfl⟩
      · split at h
        · rename_i hx
          subst hx
          split at h
          · rename_i p1 q1 hz
            obtain ⟨p2, q2, _, ea, hzg, s1, s2⟩ := zdArg_ok hz
            obtain rfl := (List.cons.inj ea).1
            split at h
            · rename_i e1 e2
              cases h
              exact ⟨sfr_zdic go (gl_ok xo hg).1 (gl_ok xo hzg).1 xo.calm s1 s2 ((comp_ok n).e xo go e1) ((comp_ok n).e xo go e2), rfl⟩
            · cases h
          · cases z : compE n c true a with
            | none => rw [z] at h; cases h
            | some y => rw [z] at h; cases h; exact ⟨sfr_dict go (gl_ok xo hg).1 xo.calm h1 ((comp_ok n).e xo go z), rfl⟩
        · cases h
  · split at h
    · rename_i h1 h2
      cases h
      exact ⟨sfr_cat ((comp_ok n).e xo go h1) ((comp_ok n).e xo go h2), rfl⟩
    · cases h
  · cases h
theorem compFrR_ok (xo : XOk X c) (go : GOk X c G) {e : Expr} {f : Fr} {l : List Nat} (h : compFrR n c e = some (f, l)) : SFr X e (fun τ => evFr G τ f) := by
  unfold compFrR at h
  split at h
  · rename_i elt gens scope pl
    cases z : compE n c false (.ListComp elt gens scope pl) with
    | none => rw [z] at h; cases h
    | some y =>
      rw [z] at h
      cases h
      cases n with
      | zero => cases z
      | succ n =>
        intro W0 H0 Wb W τ S σ H D k f hp
        have hp : PoS X W0 H0 Wb D (lift τ (bnd (evE G τ y) (fun x => ofO (lcS x)) S) k) := hp
        rw [bnd_lift] at hp
        refine cE_compN (comp_ok n) xo go z τ S W σ H _ f.sg ((hp.lift f).imp fun d W1 S1 H1 e1 r1 ⟨f1, p1⟩ LA av ys ed h0 hD ra fF fm => ?_)
        subst ed
        exact ⟨LA, W1, S1, .own ys, rfl, f1, f.ext.noneOf f.sg.rel h0, ⟨LA, av, rfl, hD, ra, fF, fm⟩, (f.fresh h0).2, p1⟩
  · exact (compFr_ok xo go h).1
theorem tg_one {x : Str} {p : Pos} {t : Tg} (h : tgOf c (.Name x p) = some t) : ∃ i, t = .one i ∧ c.slot x = some i ∧ c.canSet x = true := by
  unfold tgOf at h
  dsimp only at h
  split at h
  · rename_i i hs
    split at h
    · rename_i hc
      cases h
      exact ⟨i, rfl, hs, hc⟩
    · cases h
  · cases h
structure CompSOk (n : Nat) : Prop where
  s : ∀ {X : Cx} {c : CC} {G : Gs} {st : Stmt} {x : Sm}, XOk X c → GOk X c G → XS X → compS n c st = some x → SS X st (evS G x)
  ss : ∀ {X : Cx} {c : CC} {G : Gs} {st : List Stmt} {x : Sms}, XOk X c → GOk X c G → XS X → compSs n c st = some x → SSs X st (evSs G x)
theorem evS_set1 {i : Nat} {y : E} : evS G (.set (.one i) y) = fun τ S => lift τ (evE G τ y S) fun d S1 => .next (τ.set i (.val d)) S1 := by
  funext τ S
  rw [evS]
  rfl
theorem cS_expr (xo : XOk X c) (go : GOk X c G) {e : Expr} {x : Sm} (h : compS (n + 1) c (.Expr e pos) = some x) : SS X (.Expr e pos) (evS G x) := by
  have gen : ∀ {x : Sm}, isComp e = false → (compE n c false e).map (fun y => c.fz (locE y) (.expr y)) = some x → SS X (.Expr e pos) (evS G x) := fun {x} hn h => by
    cases z : compE n c false e with
    | none => rw [z] at h; cases h
    | some y => rw [z] at h; cases h; exact ss_cfz (ss_expr hn ((comp_ok n).e xo go z))
  unfold compS at h
  dsimp only at h
  split at h
  · cases h; exact ss_doc
  · rename_i z zp m ap a cp
    split at h
    · rename_i i hi
      split at h
      · cases h
      · rename_i hst
        simp only [Bool.or_eq_true, not_or, Bool.not_eq_true] at hst
        have hl : (ap.endLine == cp.line) = true := by
          cases z : (ap.endLine == cp.line) with
          | true => rfl
          | false => have := hst.2; rw [z] at this; cases this
        split at h
        · rename_i hm
          subst hm
          cases z : compE n c false a with
          | none => rw [z] at h; cases h
          | some y => rw [z] at h; cases h; exact ss_cfz (ss_app xo (ownSlot_ok hi) hst.1 hl ((comp_ok n).e xo go z))
        · split at h
          · rename_i hm
            subst hm
            cases z : compE n c true a with
            | none => rw [z] at h; cases h
            | some y => rw [z] at h; cases h; exact ss_cfz (ss_ext xo (ownSlot_ok hi) hst.1 hl ((comp_ok n).e xo go z))
          · split at h
            · rename_i hm
              subst hm
              split at h
              · rename_i ks vs pd
                split at h
                · rename_i es ha
                  split at h
                  · rename_i h15
                    cases z : compEs n c false es with
                    | none => rw [z] at h; cases h
                    | some y =>
                      rw [z] at h
                      cases h
                      have hne : ks ≠ [] := fun e => by rw [e] at h15; exact absurd h15.2 (by simp)
                      refine ss_cfz ?_
                      have ee : evS G (.upd i y) = fun τ S => match τ[i]? with
                          | some (.ownd kvs) => lift τ (evEs G τ y S) fun ds S1 => match altOf ds with
                            | some ps => if kvs.length + ps.length ≤ sizeLine ∧ ps.length ≤ 15 then .next (τ.set i (.ownd (kMerge kvs (kMerge [] ps)))) S1 else .bad
                            | none => .bad
                          | _ => .bad := by
                        funext τ S
                        rw [evS]
                        all_goals rfl
                      rw [ee]
                      exact ss_upd xo (ownSlot_ok hi) hl ha h15.1 hne ((comp_ok n).es xo go z)
                  · cases h
                · cases h
              · cases h
            · cases h
    · exact gen rfl h
  · split at h
    · cases h
    · rename_i hc
      cases z : compE n c false e with
      | none => rw [z] at h; cases h
      | some y => rw [z] at h; cases h; exact ss_clo (by simpa using hc) ((comp_ok n).e xo go z)
theorem cS_assignN (xo : XOk X c) (go : GOk X c G) {y : Str} {p : Pos} {e : Expr} {x : Sm} (h : compS (n + 1) c (.Assign [.Name y p] e pos) = some x) : SS X (.Assign [.Name y p] e pos) (evS G x) := by
  have gen : ∀ {x : Sm}, isComp e = false → (match tgOf c (.Name y p), compE n c false e with
      | some g, some y => some (c.fz (locE y) (.set g y))
      | _, _ => none) = some x → SS X (.Assign [.Name y p] e pos) (evS G x) := fun {x} hn h => by
    split at h
    · rename_i g w h1 h2
      cases h
      obtain ⟨i, rfl, hs, hc⟩ := tg_one h1
      refine ss_cfz ?_
      rw [evS_set1]
      exact ss_set xo hs hc hn ((comp_ok n).e xo go h2)
    · cases h
  unfold compS at h
  dsimp only at h
  split at h
  · rename_i i hi
    split at h
    · rename_i hc
      cases z : compFr n c e with
      | none => rw [z] at h; cases h
      | some f =>
        rw [z] at h
        cases h
        obtain ⟨h1, h2⟩ := compFr_ok (l := f.2) xo go z
        refine ss_cfz ?_
        exact ss_own xo (ownSlot_ok hi) hc h2 h1
    · cases h
  · split at h
    · rename_i l lp m ap cp
      split at h
      · rename_i i hi
        split at h
        · rename_i hm
          rw [Bool.and_eq_true] at hm
          have hmm := of_decide_eq_true hm.1
          subst hmm
          split at h
          · rename_i k hk
            cases h
            obtain ⟨j, ej, hs, hc⟩ := tg_one hk
            cases ej
            exact ss_pop xo (ownSlot_ok hi) hs hc hm.2
          · cases h
        · cases h
      · exact gen rfl h
    · rename_i elt gens scope pl
      split at h
      · rename_i hcond
        simp only [Bool.and_eq_true, decide_eq_true_eq, beq_iff_eq] at hcond
        split at h
        · rename_i g w h1 h2
          cases h
          obtain ⟨i, rfl, hs, hc⟩ := tg_one h1
          refine ss_cfz ?_
          rw [evS_set1]
          cases n with
          | zero => cases h2
          | succ n =>
            obtain ⟨tg, iter, ifs, wi, g, tt, te, L⟩ := cE_lc (X := X) (comp_ok n) xo go h2
            exact ss_setC xo hs hcond.1.2 (by simpa using hcond.1.1) (by simpa using hcond.2) L
        · cases h
      · cases h
    · split at h
      · cases h
      · rename_i hc
        exact gen (by simpa using hc) h
theorem cS_assignT (xo : XOk X c) (go : GOk X c G) {es : List Expr} {kk : Nat} {p : Pos} {e : Expr} {x : Sm} (h : compS (n + 1) c (.Assign [.Tuple es kk p] e pos) = some x) : SS X (.Assign [.Tuple es kk p] e pos) (evS G x) := by
  unfold compS at h
  dsimp only at h
  split at h
  · cases h
  · rename_i hc
    simp only [Bool.or_eq_true, not_or, Bool.not_eq_true] at hc
    split at h
    · rename_i g w h1 h2
      split at h
      · cases h
      · cases h
        have ee : evS G (.set g w) = fun τ S => lift τ (evE G τ w S) fun d S1 => match tgS g d τ with
          | some σ1 => .next σ1 S1
          | none => .bad := by
          funext τ S
          rw [evS]
          all_goals rfl
        have hs : SS X (.Assign [.Tuple es kk p] e pos) (evS G (.set g w)) := by
          rw [ee]
          exact ss_setT hc.2 hc.1 rfl (stg_of xo h1) ((comp_ok n).e xo go h2)
        unfold CC.lz
        split
        · exact hs
        · rename_i i _
          have el : evS G (.lend i g w) = fun τ S => match τ[i]? with
            | some (.ownd kvs) => lift (τ.set i (.val (.dct kvs))) (evE G (τ.set i (.val (.dct kvs))) w S) fun d S1 => match tgS g d (if noW d && S1.all obW then τ else τ.set i (.val (.dct kvs))) with
              | some σ1 => .next σ1 S1
              | none => .bad
            | _ => lift (freeze τ [i]) (evE G (freeze τ [i]) w S) fun d S1 => match tgS g d (freeze τ [i]) with
              | some σ1 => .next σ1 S1
              | none => .bad := by
            funext τ S
            rw [evS]
            all_goals rfl
          rw [el]
          exact ss_lend hc.2 hc.1 rfl (stg_of xo h1) ((comp_ok n).e xo go h2)
        · exact ss_fzS hs
    · cases h
theorem cS_assignS (xo : XOk X c) (go : GOk X c G) {o k : Expr} {p : Pos} {e : Expr} {x : Sm} (h : compS (n + 1) c (.Assign [.Subscript o k p] e pos) = some x) : SS X (.Assign [.Subscript o k p] e pos) (evS G x) := by
  unfold compS at h
  dsimp only at h
  split at h
  · cases h
  · rename_i hc
    have hc : isComp e = false := by simpa using hc
    split at h
    · cases h
    · rename_i hsl
      have hsl : isSlice k = false := by
        unfold isSlice
        split
        · exact absurd rfl (hsl _ _ _ _)
        · rfl
      have gen : ∀ {x : Sm}, (match compE n c false o, compE n c true k, compE n c false e with
          | some z, some y, some v => some (c.fz (locE z ++ (locE y ++ locE v)) (.setIx z y v))
          | _, _, _ => none) = some x → SS X (.Assign [.Subscript o k p] e pos) (evS G x) := fun {x} h => by
        split at h
        · rename_i h1 h2 h3
          cases h
          refine ss_cfz ?_
          have main := ss_setIx (pos := pos) (spos := p) xo go hc hsl ((comp_ok n).e xo go h3) ((comp_ok n).e xo go h1) ((comp_ok n).e xo go h2)
          exact main
        · cases h
      split at h
      · rename_i y py
        split at h
        · rename_i i hi
          split at h
          · rename_i h1 h2
            cases h
            refine ss_cfz ?_
            have main := ss_ownIx (p := py) (pos := pos) (spos := p) xo go (ownSlot_ok hi) hc hsl ((comp_ok n).e xo go h2) ((comp_ok n).e xo go h1)
            exact main
          · cases h
        · exact gen h
      · exact gen h
theorem cS_assignA (xo : XOk X c) (go : GOk X c G) {o : Expr} {f : Str} {p : Pos} {e : Expr} {x : Sm} (h : compS (n + 1) c (.Assign [.Attribute o f p] e pos) = some x) : SS X (.Assign [.Attribute o f p] e pos) (evS G x) := by
  unfold compS at h
  dsimp only at h
  split at h
  · cases h
  · rename_i hc
    have hc : isComp e = false := by simpa using hc
    split at h
    · rename_i h1 h2
      cases h
      refine ss_cfz ?_
      have main := ss_setF (f := f) (pos := pos) (spos := p) xo go hc ((comp_ok n).e xo go h2) ((comp_ok n).e xo go h1)
      exact main
    · cases h
theorem cS_ret (xo : XOk X c) (go : GOk X c G) {o : Option Expr} {x : Sm} (h : compS (n + 1) c (.Return o pos) = some x) : SS X (.Return o pos) (evS G x) := by
  cases o with
  | none =>
    unfold compS at h
    dsimp only at h
    cases h
    exact ss_retN
  | some e =>
    have gen : ∀ {x : Sm}, (compE n c false e).map (fun y => c.fz (locE y) (.ret y)) = some x → SS X (.Return (some e) pos) (evS G x) := fun {x} h => by
      cases z : compE n c false e with
      | none => rw [z] at h; cases h
      | some y => rw [z] at h; cases h; exact ss_cfz (ss_ret ((comp_ok n).e xo go z))
    unfold compS at h
    dsimp only at h
    split at h
    · split at h
      · rename_i i hi
        split at h
        · cases h
          exact ss_retOb xo hi
        · cases h
          exact ss_retO xo hi
      · exact gen h
    · split at h
      · cases z : compFrR n c e with
        | none =>
          rw [z] at h
          cases z2 : compE n c false e with
          | none => rw [z2] at h; cases h
          | some y =>
            rw [z2] at h
            cases h
            show SS X _ (evS G (c.pb (locE y) (.ret y)))
            unfold CC.pb
            split
            · exact ss_ret ((comp_ok n).e xo go z2)
            · rename_i is _
              have ep : evS G (.pub (c.ow.filter fun i => (locE y).contains i) (.ret y)) = fun τ S => evS G (.ret y) (pubS τ S (c.ow.filter fun i => (locE y).contains i)).1 (pubS τ S (c.ow.filter fun i => (locE y).contains i)).2 := by
                funext τ S
                conv => lhs; rw [evS]
              rw [ep]
              exact ss_pub (ss_ret ((comp_ok n).e xo go z2)) _
        | some f =>
          rw [z] at h
          cases h
          exact ss_cfz (ss_retB (compFrR_ok (l := f.2) xo go z))
      · exact gen h
theorem ss_bad {st : Stmt} : SS X st (evS G .bad) := fun W0 H0 Wb W τ S σ H D f hp => by
  rw [evS] at hp
  exact hp.elim
theorem raisArg_ok {eo co : Option Expr} {y fl : Str} {a : Expr} (h : raisArg c eo co = some (y, fl, a)) : ∃ py pc, eo = some (.Call (.Name y py) [a] [] pc) ∧ co = none ∧ c.excs.lookup y = some fl ∧ c.gl y = true ∧ isStar a = false := by
  unfold raisArg at h
  split at h
  · split at h
    · rename_i f hf
      split at h
      · rename_i hc
        cases h
        rw [Bool.and_eq_true] at hc
        exact ⟨_, _, rfl, rfl, hf, hc.1, by simpa using hc.2⟩
      · cases h
    · cases h
  · cases h
theorem tryArg_ok {hs : List ExceptHandler} {oe fe : List Stmt} {y : Str} {i : Nat} {ys : Es} (h : tryArg c hs oe fe = some (y, i, ys)) : ∃ nm es kk np pos' rp tp, hs = [.ExceptHandler (some (.Name y np)) (some nm) [.Return (some (.Tuple es kk tp)) rp] pos'] ∧ oe = [] ∧ fe = [] ∧
    c.slot nm = some i ∧ sufEs c nm i es = some ys ∧ c.gl y = true ∧ c.cat.contains y = true ∧ c.sc.names.lookup nm = some .local ∧ es.length ≤ 100 := by
  unfold tryArg at h
  split at h
  · split at h
    · rename_i hi hy
      split at h
      · rename_i hc
        cases h
        simp only [Bool.and_eq_true, decide_eq_true_eq] at hc
        rw [hi] at hy
        exact ⟨_, _, _, _, _, _, _, rfl, rfl, rfl, hi, hy, hc.1.1.1, hc.1.1.2, hc.1.2, hc.2⟩
      · cases h
    · cases h
  · cases h
theorem compS_ok : ∀ n, CompSOk n
  | 0 => by constructor <;> (intros; rename_i h; cases h)
  | n + 1 => by
    have ih := compS_ok n
    refine ⟨?_, ?_⟩
    · intro X c G st x xo go xs h
      cases st with
      | Pass p => unfold compS at h; dsimp only at h; cases h; exact ss_pass
      | Expr e p => exact cS_expr xo go h
      | Assign ts e p =>
        match ts with
        | [t] =>
          cases t with
          | Name y q => exact cS_assignN xo go h
          | Tuple es k q => exact cS_assignT xo go h
          | Subscript o k q => exact cS_assignS xo go h
          | Attribute o f q => exact cS_assignA xo go h
          | _ => unfold compS at h; cases h
        | [] => unfold compS at h; cases h
        | _ :: _ :: _ => unfold compS at h; cases h
      | Return o p => exact cS_ret xo go h
      | If t a b p =>
        unfold compS at h
        dsimp only at h
        split at h
        · rename_i h1 h2 h3
          cases h
          exact ss_cfz (ss_if ((comp_ok n).t xo go h1) (ih.ss xo go xs h2) (ih.ss xo go xs h3))
        · cases h
      | While t b orelse p =>
        unfold compS at h
        dsimp only at h
        split at h
        · cases h
        · rename_i ho
          have ho : orelse = [] := by
            cases orelse with
            | nil => rfl
            | cons _ _ => exact absurd rfl ho
          subst ho
          split at h
          · rename_i h1 h2
            split at h
            · cases h
              exact ss_while xs ((comp_ok n).t xo go h1) (ih.ss xo go xs h2)
            · cases h
          · cases h
      | For t it b orelse p =>
        unfold compS at h
        dsimp only at h
        split at h
        · cases h
        · rename_i ho
          have ho : orelse = [] := by
            cases orelse with
            | nil => rfl
            | cons _ _ => exact absurd rfl ho
          subst ho
          split at h
          · rename_i h1 h2 h3
            split at h
            · cases h
            · cases h
              exact ss_cfz (ss_for xo xs (stg_of xo h1) ((comp_ok n).it xo go h2) (ih.ss xo go xs h3) (folded (compIt_set h2)))
          · cases h
      | Raise eo co p =>
        unfold compS at h
        dsimp only at h
        split at h
        · rename_i y fl a hr
          obtain ⟨py, pc, rfl, rfl, hf, hg, hst⟩ := raisArg_ok hr
          obtain ⟨g1, g2⟩ := gl_ok xo hg
          cases z : compE n c false a with
          | none => rw [z] at h; cases h
          | some w =>
            rw [z] at h
            cases h
            refine ss_cfz ?_
            have ee : evS G (.rais y (some fl) (.cons w .nil)) = fun τ S => lift τ (evEs G τ (.cons w .nil) S) fun ds S1 => match ds with
                | [d] => .exc ⟨y, [(fl, d)]⟩ τ S1
                | _ => .bad := by
              funext τ S
              rw [evS]
              congr 1
              funext ds S1
              match ds with
              | [] => rfl
              | [_] => rfl
              | _ :: _ :: _ => rfl
            rw [ee]
            have hs : SA X [a] (fun τ => evEs G τ (.cons w .nil)) false := by
              have e2 : (fun τ => evEs G τ (.cons w .nil)) = fun τ => bnd (evE G τ w) fun x => bnd (ret []) fun xs => ret (x :: xs) := by
                funext τ
                rw [evEs, evEs]
              rw [e2]
              exact sa_cons hst ((comp_ok n).e xo go z) sa_nil
            exact ss_rais xo go g1 g2 hf hst hs
        · cases h
      | Try body hs oe fe p =>
        unfold compS at h
        dsimp only at h
        split at h
        · rename_i y i ys ht
          obtain ⟨nm, es, kk, np, pos', rp, tp, rfl, rfl, rfl, hi, hy, hg, hx, hl, hlen⟩ := tryArg_ok ht
          obtain ⟨g1, g2⟩ := gl_ok xo hg
          cases z : compSs n c body with
          | none => rw [z] at h; cases h
          | some b =>
            rw [z] at h
            cases h
            exact ss_tr xo go xs hi g1 g2 hx hl hlen hy fun pn xe po => ih.ss (X := X.tr pn xe) ⟨xo.N, xo.nd, xo.sc, xo.calm, xo.fn⟩
              ⟨go.room, go.call, go.mak, go.meth, go.fld, go.glob, go.free, go.tab, go.inI, go.bas, go.rai, go.cat, go.exm, go.efl⟩ ⟨po, xs.st, xs.fr⟩ z
        · cases h
      | _ => unfold compS at h; cases h
    · intro X c G st x xo go xs h
      unfold compSs at h
      split at h
      · cases h; exact sss_nil
      · split at h
        · rename_i st r _ _ h2
          cases h
          cases z : compS n c st with
          | none => exact sss_cons (m1 := evS G .bad) (ss_bad (G := G)) (ih.ss xo go xs h2)
          | some y => exact sss_cons (ih.s xo go xs z) (ih.ss xo go xs h2)
        · cases h
end
end Ev
set_option Elab.async false
set_option linter.all false
set_option maxRecDepth 100000
set_option maxHeartbeats 8000000
namespace Ev
open PySem L2 PyProof.Rows
/-- one def: the head's datum, its parameters, its names by slots, the slots that own, the displays that make things of the store, its compiled body -/
structure Df where
  d : He.DefD
  ps : List Str
  N : List Str
  ow : List Nat := []
  ids : List (Nat × Nat) := []
  ir : Sms
/-- a class of errors with one field, its __init__ -/
structure ExD where
  cls : Str
  fl : Str
  d : He.DefD
/-- the program, as far as a law reaches it -/
structure Tab where
  defs : List Df
  /-- classes whose instances are made -/
  clss : List Str := []
  /-- fields, methods: class and name -/
  flds : List (Str × Str) := []
  mths : List (Str × Str) := []
  kis : List (Str × Int) := []
  kss : List (Str × Str) := []
  /-- dicts of the top: text keys, whole numbers -/
  tbs : List (Str × List (Str × Int)) := []
  /-- classes whose __init__ is called off the class; errors; classes that are caught; which error is caught by which; classes whose instances isinstance is asked of -/
  bas : List Str := []
  exc : List ExD := []
  cat : List Str := []
  exm : List ((Str × Str) × Bool) := []
  ins : List Str := []
  fuel : Nat := 100000
def Tab.find (T : Tab) (p : Str × Option Str) : Option Df := T.defs.find? fun f => decide (f.d.at_ = p)
def Tab.glob (T : Tab) (x : Str) : Option D := match T.kis.lookup x with
  | some i => some (.int i)
  | none => (T.kss.lookup x).map .str
def Tab.fns (T : Tab) : List Str := T.defs.filterMap fun f => match f.d.at_ with
  | (x, none) => some x
  | _ => none
def Tab.cc (T : Tab) (f : Df) : CC := ⟨f.N, f.d.scope, f.ow, f.ids, [], cellNames f.d.scope, T.fns, T.clss, T.mths.map (·.2), T.kis.map (·.1) ++ T.kss.map (·.1), T.tbs.map (·.1), T.bas, T.exc.map fun e => (e.cls, e.fl), T.cat⟩
def Tab.tab (T : Tab) (y z : Str) : Option Int := match T.tbs.lookup y with
  | some kvs => kvs.lookup z
  | none => none
def startS (N : List Str) (ds : List D) : Sl := ds.map .val ++ List.replicate (N.length - ds.length) .un
def runDf (G : Gs) (f : Df) (ds : List D) : M D := fun S => if ds.length = f.ps.length then (match evSs G f.ir (startS f.N ds) S with
    | .next _ S' => .ok .non S'
    | .ret d S' => .ok d S'
    | .exc e _ S' => .exc e S'
    | .bad => .bad) else .bad
def Tab.run (T : Tab) (G : Gs) (p : Str × Option Str) (ds : List D) : M D := match T.find p with
  | some f => runDf G f ds
  | none => bad
def Tab.mkG (T : Tab) (cl : Str → List D → M D) (me : Str → Str → List D → M D) (ini : Str → List D → M D) : Gs :=
  ⟨cl, me, T.glob, fun y x => T.exm.lookup (y, x), fun x f => T.flds.contains (x, f), fun x m => T.mths.contains (x, m), T.fuel, T.tab, ini, fun x => T.ins.contains x, fun x => T.bas.contains x, fun y f => T.exc.any fun e => decide (e.cls = y ∧ e.fl = f)⟩
/-- what is around at a level; what __init__ means there -/
def Tab.gp (T : Tab) : Nat → Gs × (Str → List D → M D)
  | 0 => (T.mkG (fun _ _ => bad) (fun _ _ _ => bad) (fun _ _ => bad), fun _ _ => bad)
  | k + 1 => (T.mkG (fun x ds => T.run (T.gp k).1 (x, none) ds) (fun x m ds => T.run (T.gp k).1 (x, some m) ds) (T.gp k).2, fun x ds => T.run (T.gp k).1 (x, some "__init__") ds)
def Tab.gs (T : Tab) (k : Nat) : Gs := (T.gp k).1
def Tab.fa0 (T : Tab) : List He.Fa := T.fns.map .glo ++ (T.clss.map .glo ++ (T.clss.map .mkr ++ (T.flds.map (fun q => .cls q.1) ++ (T.flds.map (fun q => .noat q.1 q.2) ++ (T.mths.map (fun q => .cls q.1) ++ (T.mths.map (fun q => .meth q.1 q.2) ++
  (T.kis.map (fun q => .int q.1 q.2) ++ (T.kss.map (fun q => .str q.1 q.2) ++ (bltNames.map .free ++ T.tbs.map fun q => .glo q.1)))))))))
def Tab.fa1 (T : Tab) : List He.Fa := T.bas.map .glo ++ (T.exc.map (fun e => .glo e.cls) ++ (T.cat.map .glo ++ (T.exm.map (fun q => .exm q.1.1 q.1.2 q.2) ++ T.ins.map .cls)))
def Tab.fa (T : Tab) : List He.Fa := T.fa0 ++ T.fa1
def Tab.fn (T : Tab) : List He.DefD := T.defs.map (·.d) ++ T.exc.map (·.d)
def Tab.ts (T : Tab) : List He.Tab := T.tbs.map fun q => (fun K => He.ga K q.1, q.2.map (·.1))
def exI (K : PySem.W.Frag) (a : Addr) (kvs : List (Str × Int)) : Bool := kvs.all fun q => match PySem.W.nsIn K a q.1 with
  | some (some (.int j _)) => decide (j = q.2)
  | _ => false
def basB (K : PySem.W.Frag) (x : Str) : Bool := PySem.W.readsIn K (He.ga K x) (.type "type") && (decide (PySem.W.specialIn K (.ref (He.ga K x)) "__getattribute__" = some (some (.builtin "type.__getattribute__"))) && match PySem.W.findCls K (.ref (He.ga K x)) (.type "type") "__init__" with
  | some (.val (.ref f)) => decide (f = He.fAd K (x, some "__init__"))
  | _ => false)
def oexB (K : PySem.W.Frag) (C : Addr) : Bool := (match K.lookup C with
  | some ⟨.type "type", _, .cls cd, sl⟩ => (match cd.mro, sl.toList with
    | .ref C2 :: bm, [_, _, _, _, some (.builtin n), _] => decide (C2 = C) && (decide (n = "ValueError.__new__") && (!cd.hasDel && (cd.hasDict && PySem.HandSPX.refsVE bm)))
    | _, _ => false)
  | _ => false) && (decide (PySem.W.findIn K (.ref C) "__setattr__" = some (some (.builtin "object.__setattr__"))) && (decide (PySem.W.subIn K (.ref C) (.type "BaseException") = some true) && (decide (PySem.W.typeIn K (.ref C) = some (.type "type")) && PySem.W.keepIn K (.ref C))))
def excB (K : PySem.W.Frag) (e : ExD) : Bool := oexB K (He.ga K e.cls) && (xfB K (He.ga K e.cls) && (decide (PySem.W.findIn K (.ref (He.ga K e.cls)) "__init__" = some (some (.ref (He.fAd K (e.cls, some "__init__"))))) &&
  (decide (PySem.W.typeIn K (.ref (He.fAd K (e.cls, some "__init__"))) = some (.type "function")) && decide (PySem.W.findIn K (.ref (He.ga K e.cls)) e.fl = some none))))
def tysAll : List Ty := [.int, .str, .bool, .tuple, .list, .dict]
def insB (K : PySem.W.Frag) (x : Str) : Bool := decide (PySem.W.findIn K (.ref (He.ga K x)) "__class__" = some (some (.builtin "object.__class__"))) && (decide (PySem.W.specialIn K (.builtin "object.__class__") "__get__" = some (some (.builtin "getset_descriptor.__get__"))) &&
  (decide (PySem.W.takesIn K (.builtin "object.__class__") = some true) && (decide (PySem.W.mroIn K (He.ga K x) (.type "object") = some true) && tysAll.all fun t => decide (PySem.W.kitOne K (.ref (He.ga K x)) (.type (tyS t)) = some false))))
def Tab.exT (T : Tab) (K : PySem.W.Frag) : Bool := T.tbs.all fun q => exI K (He.ga K q.1) q.2
def Tab.ex (T : Tab) (K : PySem.W.Frag) : Bool := T.exT K && (T.bas.all (basB K) && (T.exc.all (excB K) && T.ins.all (insB K)))
theorem basB_ok {K : PySem.W.Frag} {x : Str} (h : basB K x = true) : BasK K (He.ga K x) (He.fAd K (x, some "__init__")) := by
  unfold basB at h
  rw [Bool.and_eq_true, Bool.and_eq_true] at h
  obtain ⟨h1, h2, h3⟩ := h
  refine ⟨⟨h1, of_decide_eq_true h2⟩, ⟨?_, rfl⟩⟩
  split at h3
  · rename_i f hf
    rw [hf, of_decide_eq_true h3]
  · cases h3
theorem oexB_ok {K : PySem.W.Frag} {C : Addr} (h : oexB K C = true) : OexC K C := by
  unfold oexB at h
  simp only [Bool.and_eq_true, decide_eq_true_eq] at h
  obtain ⟨h0, h1, h2, h3, h4⟩ := h
  refine ⟨?_, h1, h2, h3, h4⟩
  split at h0
  · rename_i dd cd sl ho
    split at h0
    · rename_i C2 bm k0 k1 k2 k3 n k5 hm hs
      simp only [Bool.and_eq_true, decide_eq_true_eq, Bool.not_eq_true'] at h0
      obtain ⟨rfl, rfl, e1, e2, e3⟩ := h0
      obtain ⟨nm, bs, mro, ns, qn, hd, sn, sub, ab, col, del⟩ := cd
      dsimp only at hm e1 e2
      subst hm e1 e2
      have hsl : sl = #[k0, k1, k2, k3, some (.builtin "ValueError.__new__"), k5] := by
        obtain ⟨l⟩ := sl
        simp only at hs
        rw [hs]
      subst hsl
      exact ⟨nm, qn, ns, bs, bm, sn, sub, ab, col, dd, k0, k1, k2, k3, k5, ho, e3⟩
    · cases h0
  · cases h0
theorem excB_ok {K : PySem.W.Frag} {e : ExD} (h : excB K e = true) : ExcK K (He.ga K e.cls) (He.fAd K (e.cls, some "__init__")) e.fl ∧ XfC K (He.ga K e.cls) := by
  unfold excB at h
  simp only [Bool.and_eq_true, decide_eq_true_eq] at h
  exact ⟨⟨oexB_ok h.1, h.2.2.1, h.2.2.2.1, h.2.2.2.2⟩, xfB_ok h.2.1⟩
theorem insB_ok {K : PySem.W.Frag} {x : Str} (c : Cls K (He.ga K x)) (h : insB K x = true) : InsK K (He.ga K x) := by
  unfold insB at h
  simp only [Bool.and_eq_true, decide_eq_true_eq] at h
  refine ⟨c, h.1, h.2.1, h.2.2.1, h.2.2.2.1, fun t => ?_⟩
  have := List.all_eq_true.mp h.2.2.2.2 t (by cases t <;> decide)
  exact of_decide_eq_true this
/-- what is checked of an error's __init__ -/
structure ExOk (e : ExD) : Prop where
  at_ : e.d.at_ = (e.cls, some ("__init__" : Str))
  dfl : e.d.dfl = [] ∧ e.d.kwd = []
  body : ∃ q1 q2 q3 q4, e.d.body = [.Assign [.Attribute (.Name "self" q1) e.fl q2] (.Name e.fl q3) q4]
  sc : FnScope ["self", e.fl] ["self", e.fl] e.d.scope
  bind : ∀ (kV doc pm : Value) (an : Option Addr) (cdv ct : Value) (us : List Value), us.length = 2 → bindArgs (PySem.W.fnOf e.d.name e.d.qual e.d.params e.d.body e.d.scope .none kV doc pm an cdv ct) ⟨us, []⟩ = pure ([("self" : Str), e.fl].zip us)
  vis : Vis e.d.scope "self" ∧ Vis e.d.scope e.fl
  dbg : (e.fl == ("__debug__" : Str)) = false ∧ (e.fl == ("__classdict__" : Str)) = false
/-- what is checked of each def -/
structure Tab.Ok (T : Tab) : Prop where
  sc : ∀ f, f ∈ T.defs → FnScope f.N f.ps f.d.scope
  dfl : ∀ f, f ∈ T.defs → f.d.dfl = [] ∧ f.d.kwd = []
  bind : ∀ f, f ∈ T.defs → ∀ (kV doc pm : Value) (an : Option Addr) (cdv ct : Value) (us : List Value), us.length = f.ps.length → bindArgs (PySem.W.fnOf f.d.name f.d.qual f.d.params f.d.body f.d.scope .none kV doc pm an cdv ct) ⟨us, []⟩ = pure (f.ps.zip us)
  ir : ∀ f, f ∈ T.defs → compSs 200 (T.cc f) f.d.body = some f.ir
  fnd : ∀ f, f ∈ T.defs → T.find f.d.at_ = some f
  init : ∀ x, x ∈ T.clss → (T.find (x, some "__init__")).isSome = true
  mth : ∀ q, q ∈ T.mths → (T.find (q.1, some q.2)).isSome = true
  bas : ∀ x, x ∈ T.bas → (T.find (x, some "__init__")).isSome = true := by exact fun _ h => nomatch h
  exc : ∀ e, e ∈ T.exc → ExOk e := by exact fun _ h => nomatch h
section
variable {T : Tab} {K : PySem.W.Frag} {mg : Str → Option Value} {P : Program} {w : World} {h base : Heap}
/-- a def of the program, its function object -/
structure At (K : PySem.W.Frag) (f : Df) (fd : FuncData) : Prop where
  F : FunD K f.d.name f.d.qual f.d.params f.d.body f.d.scope [] [] (He.fAd K f.d.at_) fd
theorem Tab.at (c : He.SaysD T.fa T.fn K) (ok : T.Ok) {f : Df} (hf : f ∈ T.defs) : ∃ fd, At K f fd := by
  obtain ⟨fd, F⟩ := c.defs (d := f.d) (List.mem_append.mpr (.inl (List.mem_map.mpr ⟨f, hf, rfl⟩)))
  obtain ⟨h1, h2⟩ := ok.dfl f hf
  have e1 : f.d.dvs K = [] := by unfold He.DefD.dvs; rw [h1]; rfl
  have e2 : f.d.kws K = [] := by unfold He.DefD.kws; rw [h2]; rfl
  rw [e1, e2] at F
  exact ⟨fd, ⟨F⟩⟩
theorem find_mem {p : Str × Option Str} {f : Df} (h : T.find p = some f) : f ∈ T.defs ∧ f.d.at_ = p := by
  unfold Tab.find at h
  exact ⟨List.mem_of_find?_eq_some h, by simpa using List.find?_some h⟩
theorem start_get {N : List Str} {ds : List D} {i : Nat} {s : Slot} (h : (startS N ds)[i]? = some s) : (∃ d, ds[i]? = some d ∧ s = .val d) ∨ (ds.length ≤ i ∧ s = .un) := by
  unfold startS at h
  by_cases hi : i < ds.length
  · rw [List.getElem?_append_left (by rw [List.length_map]; exact hi), List.getElem?_map] at h
    rw [List.getElem?_eq_getElem hi] at h ⊢
    cases h
    exact .inl ⟨_, rfl, rfl⟩
  · rw [List.getElem?_append_right (by rw [List.length_map]; omega)] at h
    have := List.eq_of_mem_replicate (List.mem_of_getElem? h)
    exact .inr ⟨by omega, this⟩
theorem start_len {N : List Str} {ds : List D} {vs : List V} (h : ds.length = vs.length) : (startS N ds).length = (L2.start N vs).length := by
  unfold startS L2.start
  simp [h]
theorem sg_start {N : List Str} {W : Wd} {S : List Ob} {H : Hp} {ds : List D} {vs : List V} (rel : Rel K W S H) (r : RepL K W ds vs) : Fs K W H W W (startS N ds) S (L2.start N vs) H := by
  refine ⟨.refl, ⟨rel, start_len r.length, fun i s hs => ?_, fun i j s t a _ hs _ os _ _ _ => ?_⟩, fun i s a hs os _ => ?_, .refl⟩
  · rcases start_get hs with ⟨d, hd, rfl⟩ | ⟨_, rfl⟩
    · obtain ⟨v, hv, rv⟩ := r.get hd
      refine ⟨v, ?_, rv⟩
      unfold L2.start
      have hl : i < vs.length := (List.getElem?_eq_some_iff.mp hv).1
      rw [List.getElem?_append_left (by rw [List.length_map]; exact hl), List.getElem?_map, hv]
      rfl
    · exact True.intro
  · rcases start_get hs with ⟨d, hd, rfl⟩ | ⟨_, rfl⟩ <;> cases os
  · rcases start_get hs with ⟨d, hd, rfl⟩ | ⟨_, rfl⟩ <;> cases os
def rm (_T : Tab) (k : Nat) : Nat := k + 2
theorem fn_calm2 {P : Program} {w : World} {K : PySem.W.Frag} {mg : Str → Option Value} {base : Heap} {k : Nat} {f : Addr} {fd : FuncData} {ps : List Str} {sp : Sp} (F : FnOk P w K mg base (L2.CX P w) k f fd ps sp) :
    FnOk P w K mg base CX0 k f fd ps (fun vs H Q _ => sp vs H Q fun _ _ _ => False) := by
  refine ⟨fun vs H Q E h => F.len _ _ _ _ h, fun A outer s H args us vs Q E hr he hb hv hs => codeAny_mono (F.run A outer s H args us vs Q (fun _ _ _ => False) hr he hb hv hs) fun r s' q => ?_⟩
  cases r with
  | error e =>
    obtain ⟨_, _, _, _, _, _, _, _, _, _, _, _, z⟩ := (show L2.CX P w outer H s (fun _ _ _ => False) e s' from q)
    exact z.elim
  | ok fl =>
    cases fl with
    | ret u => exact q
    | next => exact q
    | brk => exact q
    | cont => exact q
theorem spOf_bad {m : List D → M D} (hm : ∀ ds S, m ds S = .bad) {vs : List V} {H : Hp} {Q : VK} {E : XK} (h : spOf K m vs H Q E) : False := by
  obtain ⟨W, S, ds, _, _, q⟩ := h
  rw [hm ds S] at q
  exact q
theorem fn_bad {m : List D → M D} {k : Nat} {f : Addr} {fd : FuncData} {ps : List Str} (hm : ∀ ds S, m ds S = .bad) : FnOk P w K mg base (L2.CX P w) k f fd ps (spOf K m) :=
  ⟨fun vs H Q E h => (spOf_bad hm h).elim, fun A outer s H args us vs Q E _ _ _ _ h => (spOf_bad hm h).elim⟩
/-- the table's names stand as they should -/
structure Std (T : Tab) (K : PySem.W.Frag) (w : World) (mg : Str → Option Value) : Prop where
  says : He.SaysD T.fa T.fn K
  glo : ∀ x, x ∈ T.fns ∨ x ∈ T.clss → mg x = some (.ref (He.ga K x))
  free : ∀ x, x ∈ bltNames → mg x = none
  int : ∀ x i, (x, i) ∈ T.kis → ∃ t, mg x = some (.int i t)
  str : ∀ x z, (x, z) ∈ T.kss → ∃ t, mg x = some (.str z t)
  tab : ∀ q, q ∈ T.tbs → mg q.1 = some (.ref (He.ga K q.1)) ∧ He.dicW K (He.ga K q.1) = some (He.keysIn w.params (q.2.map (·.1))) ∧ exI K (He.ga K q.1) q.2 = true
  glo2 : ∀ x, x ∈ T.bas ∨ (∃ e, e ∈ T.exc ∧ e.cls = x) ∨ x ∈ T.cat → mg x = some (.ref (He.ga K x))
  ex : (∀ x, x ∈ T.bas → basB K x = true) ∧ (∀ e, e ∈ T.exc → excB K e = true) ∧ ∀ x, x ∈ T.ins → insB K x = true
/-- what the head tells -/
structure Head (T : Tab) (K : PySem.W.Frag) (w : World) : Prop where
  d : He.SaysD T.fa T.fn K
  t : ∀ q, q ∈ T.tbs → He.dicW K (He.ga K q.1) = some (He.keysIn w.params (q.2.map (·.1)))
  ex : T.ex K = true
theorem Head.exA {T : Tab} {K : PySem.W.Frag} {w : World} (h : Head T K w) : T.exT K = true ∧ (∀ x, x ∈ T.bas → basB K x = true) ∧ (∀ e, e ∈ T.exc → excB K e = true) ∧ ∀ x, x ∈ T.ins → insB K x = true := by
  have h := h.ex
  unfold Tab.ex at h
  simp only [Bool.and_eq_true, List.all_eq_true] at h
  exact ⟨h.1, h.2.1, h.2.2.1, h.2.2.2⟩
theorem head_of {h : Heap} (c : He.SaysX T.fa T.fn T.ts [] T.ex w h K) : Head T K w := by
  refine ⟨c.t.d, fun q hq => ?_, c.more⟩
  have e : T.ts.map (fun t => He.dicW K (t.1 K)) = T.ts.map fun t => some (He.keysIn w.params t.2) := congrArg (fun z : He.AlT => z.2) c.t
  obtain ⟨i, hi, rfl⟩ := List.mem_iff_getElem.mp hq
  have e2 : (T.ts.map (fun t => He.dicW K (t.1 K)))[i]? = (T.ts.map fun t => some (He.keysIn w.params t.2))[i]? := by rw [e]
  have e3 : T.ts[i]? = some (fun K => He.ga K T.tbs[i].1, T.tbs[i].2.map (·.1)) := by
    unfold Tab.ts
    rw [List.getElem?_map, List.getElem?_eq_getElem hi]
    rfl
  rw [List.getElem?_map, List.getElem?_map, e3] at e2
  exact Option.some.inj e2
def frY (n : Nat) (g : Addr → Option Obj) : PySem.W.Frag := He.frG g (He.asD g n ++ [cStatics])
def obsY (n : Nat) (fa : List He.Fa) (fn : List He.DefD) (ts : List He.Tab) (ex : PySem.W.Frag → Bool) (g : Addr → Option Obj) : He.AlX := (He.obsT fa fn ts (frY n g), ex (frY n g))
theorem saysY_of {n : Nat} {fa : List He.Fa} {fn : List He.DefD} {ts : List He.Tab} {ex : PySem.W.Frag → Bool} {w : World} {h : Heap} (e : obsY n fa fn ts ex h.get? = He.valX fn ts w) : He.SaysX fa fn ts [] ex w h (frY n h.get?) :=
  ⟨congrArg (fun z : He.AlX => z.1) e, congrArg (fun z : He.AlX => z.2) e, (fun _ hp => nomatch hp), (fun _ hp => nomatch hp), (fun _ hp => nomatch hp)⟩
def hookY (n : Nat) (fa : List He.Fa) (fn : List He.DefD) (ts : List He.Tab) (ex : PySem.W.Frag → Bool) : PySem.W.Hook where
  α := He.AlX
  obs := fun s => obsY n fa fn ts ex s.heap.get?
  val := fun w => He.valX fn ts w
  says := fun w h => ∃ K : PySem.W.Frag, K.In h ∧ He.SaysX fa fn ts [] ex w h K
  of := fun _ _ e => ⟨_, He.frG_in, saysY_of e⟩
  keeps := fun _ _ _ ⟨K, hK, c⟩ k => ⟨K, PySem.W.Frag.In.keeps hK k, ⟨c.t, c.more, c.hd, c.out, (fun _ hp => nomatch hp)⟩⟩
theorem obsY_eq {n : Nat} {fa : List He.Fa} {fn : List He.DefD} {ts : List He.Tab} {ex : PySem.W.Frag → Bool} {g : Addr → Option Obj} {s : Shared} (h : ∀ a, g a = s.heap.get? a) : obsY n fa fn ts ex g = (hookY n fa fn ts ex).obs s := by
  have e : g = s.heap.get? := funext h
  rw [e] <;> rfl
/-- a key that the dict has not -/
theorem ns_absent {a : Addr} {P : Params} {ks : List Str} (h : He.dicW K a = some (He.keysIn P ks)) {z : Str} (hz : z ∉ ks) : PySem.W.nsIn K a z = some none := by
  unfold He.dicW at h
  unfold PySem.W.nsIn
  cases q : K.lookup a with
  | none => rw [q] at h; cases h
  | some o =>
    obtain ⟨oc, od, dt, osl⟩ := o
    rw [q] at h
    cases oc with
    | type c =>
      cases od with
      | none =>
        cases dt with
        | dict es n =>
          dsimp only at h ⊢
          split at h
          · have h := Option.some.inj h
            have key : ∀ e, e ∈ es.toList → e.key.isStr z = false ∧ e.refKey = false := fun e he => by
              have hm : He.keyOf e ∈ He.keysIn P ks := by rw [← h]; exact List.mem_map.mpr ⟨e, he, rfl⟩
              obtain ⟨k, hk, ek⟩ := List.mem_map.mp hm
              unfold He.keyOf at ek
              unfold DictEntry.refKey Value.isStr
              cases hq : e.key with
              | str x t =>
                rw [hq] at ek
                have e1 := (Prod.mk.inj (Option.some.inj ek)).1
                subst e1
                exact ⟨beq_eq_false_iff_ne.mpr fun e => hz (by rw [← e]; exact hk), rfl⟩
              | _ => rw [hq] at ek; cases ek
            have f1 : es.toList.find? (fun e => e.key.isStr z) = none := List.find?_eq_none.mpr fun e he => by rw [(key e he).1]; exact Bool.false_ne_true
            have f2 : (es.toList.any fun e => e.refKey) = false := by
              cases hq : es.toList.any fun e => e.refKey with
              | false => rfl
              | true =>
                obtain ⟨e, he, hr⟩ := List.any_eq_true.mp hq
                rw [(key e he).2] at hr
                cases hr
            rw [f1]
            dsimp only
            rw [f2]
            rfl
          · cases h
        | _ => cases h
      | some b => cases dt <;> cases h
    | _ => cases od <;> cases dt <;> cases h
theorem std_of (cc : Head T K w) (X : K.In h) (G : h.Ns mainGlobals mg) : Std T K w mg := by
  have c := cc.d
  refine ⟨c, fun x hx => ?_, fun x hx => ?_, fun x i hx => ?_, fun x z hx => ?_, fun q hq => ⟨?_, cc.t q hq, List.all_eq_true.mp cc.exA.1 q hq⟩, fun x hx => ?_, cc.exA.2⟩
  · refine He.glo_ok X G (c.facts ?_)
    unfold Tab.fa Tab.fa0
    refine List.mem_append.mpr (.inl ?_)
    simp only [List.mem_append, List.mem_map]
    rcases hx with hx | hx
    · exact .inl ⟨x, hx, rfl⟩
    · exact .inr (.inl ⟨x, hx, rfl⟩)
  · refine He.free_ok X G (c.facts ?_)
    unfold Tab.fa Tab.fa0
    refine List.mem_append.mpr (.inl ?_)
    simp only [List.mem_append, List.mem_map]
    exact .inr (.inr (.inr (.inr (.inr (.inr (.inr (.inr (.inr (.inl ⟨x, hx, rfl⟩)))))))))
  · refine He.int_ok X G (c.facts ?_)
    unfold Tab.fa Tab.fa0
    refine List.mem_append.mpr (.inl ?_)
    simp only [List.mem_append, List.mem_map]
    exact .inr (.inr (.inr (.inr (.inr (.inr (.inr (.inl ⟨(x, i), hx, rfl⟩)))))))
  · refine He.str_ok X G (c.facts ?_)
    unfold Tab.fa Tab.fa0
    refine List.mem_append.mpr (.inl ?_)
    simp only [List.mem_append, List.mem_map]
    exact .inr (.inr (.inr (.inr (.inr (.inr (.inr (.inr (.inl ⟨(x, z), hx, rfl⟩))))))))
  · refine He.glo_ok X G (c.facts ?_)
    unfold Tab.fa Tab.fa0
    refine List.mem_append.mpr (.inl ?_)
    simp only [List.mem_append, List.mem_map]
    exact .inr (.inr (.inr (.inr (.inr (.inr (.inr (.inr (.inr (.inr ⟨q, hq, rfl⟩)))))))))
  · refine He.glo_ok X G (c.facts (List.mem_append.mpr (.inr ?_)))
    unfold Tab.fa1
    simp only [List.mem_append, List.mem_map]
    rcases hx with h | ⟨e, h, rfl⟩ | h
    · exact .inl ⟨x, h, rfl⟩
    · exact .inr (.inl ⟨e, h, rfl⟩)
    · exact .inr (.inr (.inl ⟨x, h, rfl⟩))
theorem fact_fa1 (c : He.SaysD T.fa T.fn K) {f : He.Fa} (h : f ∈ T.fa1) : f.ok K = true := c.facts (List.mem_append.mpr (.inr h))
theorem fact_exm (c : He.SaysD T.fa T.fn K) {y x : Str} {b : Bool} (h : ((y, x), b) ∈ T.exm) : PySem.W.exmOne K (.ref (He.ga K y)) (.ref (He.ga K x)) = some b := by
  refine He.exm_ok (fact_fa1 c (f := .exm y x b) ?_)
  unfold Tab.fa1
  simp only [List.mem_append, List.mem_map]
  exact .inr (.inr (.inr (.inl ⟨((y, x), b), h, rfl⟩)))
theorem fact_ins (c : He.SaysD T.fa T.fn K) {x : Str} (h : x ∈ T.ins) : Cls K (He.ga K x) := by
  refine He.cls_ok (fact_fa1 c (f := .cls x) ?_)
  unfold Tab.fa1
  simp only [List.mem_append, List.mem_map]
  exact .inr (.inr (.inr (.inr ⟨x, h, rfl⟩)))
theorem fact_cls (c : He.SaysD T.fa T.fn K) {x : Str} (hx : (∃ f, (x, f) ∈ T.flds) ∨ ∃ m, (x, m) ∈ T.mths) : Cls K (He.ga K x) := by
  refine He.cls_ok (c.facts (f := .cls x) ?_)
  unfold Tab.fa Tab.fa0
  refine List.mem_append.mpr (.inl ?_)
  simp only [List.mem_append, List.mem_map]
  rcases hx with ⟨f, hx⟩ | ⟨f, hx⟩
  · exact .inr (.inr (.inr (.inl ⟨(x, f), hx, rfl⟩)))
  · exact .inr (.inr (.inr (.inr (.inr (.inl ⟨(x, f), hx, rfl⟩)))))
theorem fact_noat (c : He.SaysD T.fa T.fn K) {x f : Str} (hx : (x, f) ∈ T.flds) : NoAttr K (He.ga K x) f := by
  refine He.noat_ok (c.facts (f := .noat x f) ?_)
  unfold Tab.fa Tab.fa0
  refine List.mem_append.mpr (.inl ?_)
  simp only [List.mem_append, List.mem_map]
  exact .inr (.inr (.inr (.inr (.inl ⟨(x, f), hx, rfl⟩))))
theorem fact_meth (c : He.SaysD T.fa T.fn K) {x f : Str} (hx : (x, f) ∈ T.mths) : Meth K (He.ga K x) f (He.ma K (He.ga K x) f) := by
  refine He.meth_ok (c.facts (f := .meth x f) ?_)
  unfold Tab.fa Tab.fa0
  refine List.mem_append.mpr (.inl ?_)
  simp only [List.mem_append, List.mem_map]
  exact .inr (.inr (.inr (.inr (.inr (.inr (.inl ⟨(x, f), hx, rfl⟩))))))
theorem fact_mkr (c : He.SaysD T.fa T.fn K) {x : Str} (hx : x ∈ T.clss) : Mk K (He.ga K x) (He.ma K (He.ga K x) "__init__") := by
  refine He.mkr_ok (c.facts (f := .mkr x) ?_)
  unfold Tab.fa Tab.fa0
  refine List.mem_append.mpr (.inl ?_)
  simp only [List.mem_append, List.mem_map]
  exact .inr (.inr (.inl ⟨x, hx, rfl⟩))
theorem ns_find {α : Type} {x : Str} : ∀ {l : List (Str × α)}, x ∈ l.map (·.1) → ∃ i, l.lookup x = some i
  | [], h => by cases h
  | (y, i) :: r, h => by
    unfold List.lookup
    by_cases e : x = y
    · subst e
      exact ⟨i, by simp⟩
    · have : (x == y) = false := by simpa using e
      rw [this]
      rcases List.mem_cons.mp h with z | z
      · exact absurd z e
      · exact ns_find z
theorem ns_none {α : Type} {x : Str} : ∀ {l : List (Str × α)}, ¬ x ∈ l.map (·.1) → l.lookup x = none
  | [], h => rfl
  | (y, i) :: r, h => by
    unfold List.lookup
    have : (x == y) = false := by
      simp only [beq_eq_false_iff_ne]
      exact fun e => h (by rw [e]; exact List.mem_cons_self)
    rw [this]
    exact ns_none fun z => h (List.mem_cons_of_mem _ z)
end
end Ev
set_option Elab.async false
set_option linter.all false
set_option maxRecDepth 100000
set_option maxHeartbeats 8000000
namespace Ev
open PySem L2 PyProof.Rows
def Tab.at_ (T : Tab) : Nat → Str × Option Str → List D → M D
  | 0, _ => fun _ => bad
  | k + 1, p => T.run (T.gs k) p
section
variable {T : Tab} {K : PySem.W.Frag} {mg : Str → Option Value} {P : Program} {w : World} {h base : Heap}
theorem gs_call (k : Nat) (x : Str) : (T.gs k).call x = T.at_ k (x, none) := by cases k <;> rfl
theorem gs_meth (k : Nat) (x m : Str) : (T.gs k).meth x m = T.at_ k (x, some m) := by cases k <;> rfl
theorem gs_glob (k : Nat) : (T.gs k).glob = T.glob := by cases k <;> rfl
theorem gs_tab (k : Nat) : (T.gs k).tab = T.tab := by cases k <;> rfl
theorem gs_hasF (k : Nat) (x f : Str) : (T.gs k).hasF x f = T.flds.contains (x, f) := by cases k <;> rfl
theorem gs_hasM (k : Nat) (x f : Str) : (T.gs k).hasM x f = T.mths.contains (x, f) := by cases k <;> rfl
/-- level k: what is called keeps its promise -/
def Lev (T : Tab) (K : PySem.W.Frag) (mg : Str → Option Value) (P : Program) (w : World) (base : Heap) (k : Nat) : Prop := ∀ f fd, f ∈ T.defs → At K f fd → FnOk P w K mg base (L2.CX P w) (rm T k) (He.fAd K f.d.at_) fd f.ps (spOf K (T.at_ k f.d.at_))
theorem callee (ok : T.Ok) (c : He.SaysD T.fa T.fn K) {k : Nat} (lv : Lev T K mg P w base k) {p : Str × Option Str} (hp : (T.find p).isSome = true) :
    ∃ fd ps, FnOk P w K mg base (L2.CX P w) (rm T k) (He.fAd K p) fd ps (spOf K (T.at_ k p)) ∧ PySem.W.keepIn K (.ref (He.fAd K p)) = true ∧ Binds K fd ps [] := by
  cases z : T.find p with
  | none => rw [z] at hp; cases hp
  | some f =>
    obtain ⟨hf, e⟩ := find_mem z
    obtain ⟨fd, F⟩ := Tab.at c ok hf
    have q := lv f fd hf F
    rw [e] at q
    have kp := F.F.kp
    rw [e] at kp
    exact ⟨fd, f.ps, q, kp, F.F.bindsN (ok.bind f hf)⟩
theorem gs_init (k : Nat) (x : Str) : (T.gs k).init x = T.at_ (k - 1) (x, some "__init__") := by
  cases k with
  | zero => rfl
  | succ k => cases k <;> rfl
theorem gs_exm (k : Nat) (y x : Str) : (T.gs k).exm y x = T.exm.lookup (y, x) := by cases k <;> rfl
theorem gs_hasI (k : Nat) (x : Str) : (T.gs k).hasI x = T.ins.contains x := by cases k <;> rfl
theorem gs_hasB (k : Nat) (x : Str) : (T.gs k).hasB x = T.bas.contains x := by cases k <;> rfl
theorem gs_efl (k : Nat) (y f : Str) : (T.gs k).efl y f = T.exc.any fun e => decide (e.cls = y ∧ e.fl = f) := by cases k <;> rfl
theorem lookup_mem {α β : Type} [BEq α] [LawfulBEq α] {a : α} {b : β} : ∀ {l : List (α × β)}, l.lookup a = some b → (a, b) ∈ l
  | [], h => by cases h
  | (x, y) :: l, h => by
    rw [List.lookup_cons] at h
    cases e : a == x with
    | true =>
      rw [e] at h
      cases h
      have := eq_of_beq e
      subst this
      exact List.mem_cons_self
    | false =>
      rw [e] at h
      exact List.mem_cons_of_mem _ (lookup_mem h)
/-- an error's __init__ -/
theorem exc_init (ok : T.Ok) (std : Std T K w mg) {e : ExD} (he : e ∈ T.exc) : ∃ fd, FnOk P w K mg base CX0 1 (He.fAd K (e.cls, some "__init__")) fd ["self", e.fl] (spInit K e.fl) ∧ Binds K fd ["self", e.fl] [] := by
  have o := ok.exc e he
  obtain ⟨fd, F⟩ := std.says.defs (d := e.d) (List.mem_append.mpr (.inr (List.mem_map.mpr ⟨e, he, rfl⟩)))
  have e1 : e.d.dvs K = [] := by unfold He.DefD.dvs; rw [o.dfl.1]; rfl
  have e2 : e.d.kws K = [] := by unfold He.DefD.kws; rw [o.dfl.2]; rfl
  rw [e1, e2, o.at_] at F
  refine ⟨fd, fn_calm2 (P := P) (w := w) (mg := mg) (base := base) (k := 1) (sp := spInit K e.fl) (F.ok o.sc (fun vs H Q E h => ?_) (fun cdv A outer s H vs Q E hr h => ?_)), F.bindsN (o.bind)⟩
  · obtain ⟨a, C, y, rfl, _⟩ := h
    rfl
  · obtain ⟨a, C, y, rfl, hT, hno, ha, k⟩ := h
    obtain ⟨q1, q2, q3, q4, eb⟩ := o.body
    rw [eb]
    refine ⟨_, pss_one (ps_ost (pe_var (i := 0) rfl o.vis.1) (pe_var (i := 1) rfl o.vis.2 o.dbg.1 o.dbg.2)), ?_⟩
    exact ⟨y, rfl, .ref a, rfl, a, C, rfl, hT, hno, .inl ⟨ha, fun dx h1 h2 => k dx h1 h2⟩⟩
theorem gok_of (ok : T.Ok) (std : Std T K w mg) {k : Nat} (lv : Lev T K mg P w base k) (lv1 : Lev T K mg P w base (k - 1)) {X : Cx} {f : Df} (hP : X.prog = P) (hw : X.w = w) (hK : X.K = K) (hmg : X.mg = mg) (hb : X.base = base) (hr : Room (rm T k) X.A) : GOk X (T.cc f) (T.gs k) := by
  subst hP hw hK hmg hb
  have hr' : Room (rm T k) X.A := hr
  refine ⟨?_, fun x hx => ?_, fun x hx => ?_, fun x m hx => ?_, fun x f hx => ?_, fun x hx => ?_, std.free, fun y hy => ?_, fun x hx => ?_, fun x hx => ?_, fun x fl hx => ?_, fun x hx => ?_, fun y x b hx => ?_, fun y fl hx => ?_⟩
  · have := hr.un
    omega
  · have hx : T.fns.contains x = true := hx
    rw [List.contains_iff_mem] at hx
    have hf : (T.find (x, none)).isSome = true := by
      unfold Tab.fns at hx
      obtain ⟨f, hf, e⟩ := List.mem_filterMap.mp hx
      have ea : f.d.at_ = (x, none) := by
        revert e
        cases f.d.at_ with
        | mk y o => cases o with
          | none => intro e; cases e; rfl
          | some _ => intro e; cases e
      have := ok.fnd f hf
      rw [ea] at this
      rw [this]
      rfl
    obtain ⟨fd, ps, F, kp, bb⟩ := callee ok std.says lv hf
    rw [gs_call]
    exact ⟨_, fd, ps, _, F, std.glo x (.inl hx), kp, bb, hr'⟩
  · have hx : T.clss.contains x = true := hx
    rw [List.contains_iff_mem] at hx
    obtain ⟨fd, ps, F, kp, bb⟩ := callee ok std.says lv1 (ok.init x hx)
    rw [gs_init]
    cases k with
    | zero => exact ⟨_, fd, ps, 0, fact_mkr std.says hx, fn_bad (fun _ _ => rfl), std.glo x (.inr hx), bb, hr.mono (by show 0 + 1 ≤ 0 + 2; omega)⟩
    | succ k => exact ⟨_, fd, ps, _, fact_mkr std.says hx, F, std.glo x (.inr hx), bb, hr⟩
  · rw [gs_hasM, List.contains_iff_mem] at hx
    obtain ⟨fd, ps, F, kp, bb⟩ := callee ok std.says lv (ok.mth (x, m) hx)
    rw [gs_meth]
    exact ⟨_, fd, ps, _, fact_cls std.says (.inr ⟨m, hx⟩), fact_meth std.says hx, F, bb, hr'⟩
  · rw [gs_hasF, List.contains_iff_mem] at hx
    exact ⟨fact_cls std.says (.inl ⟨f, hx⟩), fact_noat std.says hx⟩
  · have hx : (T.kis.map (·.1) ++ T.kss.map (·.1)).contains x = true := hx
    rw [List.contains_iff_mem, List.mem_append] at hx
    rw [gs_glob]
    unfold Tab.glob
    by_cases hi : x ∈ T.kis.map (·.1)
    · obtain ⟨i, hi2⟩ := ns_find hi
      obtain ⟨t, ht⟩ := std.int x i (PySem.mem_of_lookup hi2)
      refine ⟨_, .int i, ht, ⟨t, rfl⟩, fun d hd W => ?_⟩
      rw [hi2] at hd
      cases hd
      exact .int i
    · have hs : x ∈ T.kss.map (·.1) := hx.resolve_left hi
      obtain ⟨i, hi2⟩ := ns_find hs
      obtain ⟨t, ht⟩ := std.str x i (PySem.mem_of_lookup hi2)
      refine ⟨_, .str i, ht, ⟨t, rfl⟩, fun d hd W => ?_⟩
      rw [ns_none hi, hi2] at hd
      cases hd
      exact .str i
  · have hy : (T.tbs.map (·.1)).contains y = true := hy
    rw [List.contains_iff_mem] at hy
    obtain ⟨kvs, hl⟩ := ns_find hy
    have hm := PySem.mem_of_lookup hl
    obtain ⟨h1, h2, h3⟩ := std.tab (y, kvs) hm
    obtain ⟨es, n, hD⟩ := He.dicW_ok h2
    have hv : ∀ z i, kvs.lookup z = some i → ∃ t, PySem.W.nsIn X.K (He.ga X.K y) z = some (some (.int i t)) := fun z i hz => by
      have h4 := List.all_eq_true.mp h3 (z, i) (PySem.mem_of_lookup hz)
      dsimp only at h4
      split at h4
      · rename_i j t hj
        have := of_decide_eq_true h4
        subst this
        exact ⟨t, hj⟩
      · cases h4
    have ht : ∀ z, (T.gs k).tab y z = kvs.lookup z := fun z => by
      rw [gs_tab]
      unfold Tab.tab
      rw [hl]
    refine ⟨He.ga X.K y, h1, fun z i hz => ?_, ⟨es, n, hD⟩, fun z => ?_⟩
    · rw [ht] at hz
      obtain ⟨t, hj⟩ := hv z i hz
      exact ⟨es, n, _, hD.at_, hD.lit, hj, t, rfl⟩
    · rw [ht]
      cases hz : kvs.lookup z with
      | some i =>
        obtain ⟨t, hj⟩ := hv z i hz
        exact ⟨_, hj, rfl⟩
      | none =>
        refine ⟨none, ns_absent h2 fun hm => ?_, rfl⟩
        obtain ⟨i, hi⟩ := ns_find hm
        rw [hz] at hi
        cases hi
  · rw [gs_hasI, List.contains_iff_mem] at hx
    exact insB_ok (fact_ins std.says hx) (std.ex.2.2 x hx)
  · have hx : T.bas.contains x = true := hx
    have hB : (T.gs k).hasB x = true := by rw [gs_hasB]; exact hx
    rw [List.contains_iff_mem] at hx
    obtain ⟨fd, ps, F, kp, bb⟩ := callee ok std.says lv (ok.bas x hx)
    rw [gs_meth]
    exact ⟨_, fd, ps, _, hB, basB_ok (std.ex.1 x hx), F, std.glo2 x (.inl hx), kp, bb, hr'⟩
  · have hx : (T.exc.map fun e => (e.cls, e.fl)).lookup x = some fl := hx
    obtain ⟨e, he, ee⟩ := List.mem_map.mp (PySem.mem_of_lookup hx)
    cases ee
    obtain ⟨fd, F, bb⟩ := exc_init (P := X.prog) (base := X.base) ok std he
    exact ⟨_, fd, _, 1, (excB_ok (std.ex.2.1 e he)).1, F, std.glo2 e.cls (.inr (.inl ⟨e, he, rfl⟩)), bb, hr'.mono (by show 2 ≤ k + 2; omega)⟩
  · have hx : T.cat.contains x = true := hx
    rw [List.contains_iff_mem] at hx
    exact std.glo2 x (.inr (.inr hx))
  · rw [gs_exm] at hx
    exact fact_exm std.says (lookup_mem hx)
  · rw [gs_efl] at hx
    obtain ⟨e, he, h⟩ := List.any_eq_true.mp hx
    obtain ⟨rfl, rfl⟩ := of_decide_eq_true h
    obtain ⟨h1, h2⟩ := excB_ok (std.ex.2.1 e he)
    exact ⟨h2, h1.no⟩
theorem run_ok (ok : T.Ok) (std : Std T K w mg) {k : Nat} (lv : Lev T K mg P w base k) (lv1 : Lev T K mg P w base (k - 1)) {f : Df} {fd : FuncData} (hf : f ∈ T.defs) (F : At K f fd) : FnOk P w K mg base (L2.CX P w) (rm T k + 1) (He.fAd K f.d.at_) fd f.ps (spOf K (runDf (T.gs k) f)) := by
  have sc := ok.sc f hf
  refine F.F.ok sc (fun vs H Q E h => ?_) (fun cdv A outer s H vs Q E hr h => ?_)
  · obtain ⟨W, S, ds, rel, rl, q⟩ := h
    unfold runDf at q
    by_cases e : ds.length = f.ps.length
    · rw [← rl.length]; exact e
    · simp only [if_neg e] at q
  · obtain ⟨W, S, ds, rel, rl, q⟩ := h
    have xo : XOk (cxOf (L2.CX P w) P w K mg base f.N f.d.qual f.d.scope (He.fAd K f.d.at_) cdv A outer s H E) (T.cc f) := ⟨rfl, sc.nd, rfl, rfl, fun _ _ => rfl⟩
    have go : GOk (cxOf (L2.CX P w) P w K mg base f.N f.d.qual f.d.scope (He.fAd K f.d.at_) cdv A outer s H E) (T.cc f) (T.gs k) := gok_of ok std lv lv1 rfl rfl rfl rfl rfl hr
    have xs : XS (cxOf (L2.CX P w) P w K mg base f.N f.d.qual f.d.scope (He.fAd K f.d.at_) cdv A outer s H E) := ⟨passes_of rfl, rfl, rfl⟩
    refine ⟨_, pss_wss, (compS_ok 200).ss xo go xs (ok.ir f hf) W H W W (startS f.N ds) S _ H _ (sg_start rel rl) ?_⟩
    unfold runDf at q
    by_cases e : ds.length = f.ps.length
    · simp only [if_pos e] at q
      cases z : evSs (T.gs k) f.ir (startS f.N ds) S with
      | bad => rw [z] at q; exact q
      | next τ' S' =>
        rw [z] at q
        exact fun W' σ' H' f' => q W' H' .non f'.ext f'.sg.rel .non
      | ret d S' =>
        rw [z] at q
        exact fun W' H' v e' r' rv => q W' H' v e' r' rv
      | exc x τ' S' =>
        rw [z] at q
        exact fun W' σ' H' c dd f' ex => ⟨_, takes_of rfl rfl rfl rfl, q W' H' c dd f'.ext f'.sg.rel ex⟩
    · simp only [if_neg e] at q
theorem lev2 (ok : T.Ok) (std : Std T K w mg) : ∀ k, Lev T K mg P w base k ∧ Lev T K mg P w base (k - 1)
  | 0 => ⟨fun f fd _ _ => fn_bad fun _ _ => rfl, fun f fd _ _ => fn_bad fun _ _ => rfl⟩
  | k + 1 => by
    obtain ⟨h1, h2⟩ := lev2 ok std k
    refine ⟨fun f fd hf F => ?_, h1⟩
    have e : T.at_ (k + 1) f.d.at_ = runDf (T.gs k) f := by
      show T.run (T.gs k) f.d.at_ = _
      unfold Tab.run
      funext ds
      rw [ok.fnd f hf]
    rw [e]
    exact run_ok ok std h1 h2 hf F
theorem lev (ok : T.Ok) (std : Std T K w mg) (k : Nat) : Lev T K mg P w base k := (lev2 ok std k).1
end
end Ev
set_option Elab.async false
set_option linter.all false
set_option maxRecDepth 100000
set_option maxHeartbeats 8000000
namespace Ev
open PySem L2 PyProof.Rows
theorem fn_calm {P : Program} {w : World} {K : PySem.W.Frag} {mg : Str → Option Value} {base : Heap} {k : Nat} {f : Addr} {fd : FuncData} {ps : List Str} {sp : Sp} (F : FnOk P w K mg base (L2.CX P w) k f fd ps sp) :
    FnOk P w K mg base CX0 k f fd ps (fun vs H Q _ => sp vs H Q fun _ _ _ => False) := by
  refine ⟨fun vs H Q E h => F.len _ _ _ _ h, fun A outer s H args us vs Q E hr he hb hv hs => codeAny_mono (F.run A outer s H args us vs Q (fun _ _ _ => False) hr he hb hv hs) fun r s' q => ?_⟩
  cases r with
  | error e =>
    obtain ⟨_, _, _, _, _, _, _, _, _, _, _, _, z⟩ := (show L2.CX P w outer H s (fun _ _ _ => False) e s' from q)
    exact z.elim
  | ok fl =>
    cases fl with
    | ret u => exact q
    | next => exact q
    | brk => exact q
    | cont => exact q
/-- the script at the start -/
theorem sp_start {K : PySem.W.Frag} {m : List D → M D} {H : Hp} {a : Addr} {ns : List Int} {S' : List Ob} (hS : SqL K H a (ns.map V.int)) (hm : m [.frz (ns.map .int)] [] = .ok (.bl true) S') : spOf K m [.ref a] H (fun v _ => v = .bl true) fun _ _ _ => False := by
  have rl : RepL K ⟨H, fun _ => 0, 0⟩ (ns.map D.int) (ns.map V.int) := by
    clear hm hS
    induction ns with
    | nil => exact .nil
    | cons n ns ih => exact .cons (.int n) ih
  refine ⟨⟨H, fun _ => 0, 0⟩, [], [.frz (ns.map .int)], ⟨rfl, fun _ _ h => h, fun i o h => (by cases h), fun i hi => absurd hi (Nat.not_lt_zero i), fun i j hi _ _ => absurd hi (Nat.not_lt_zero i)⟩, .cons (.frz hS rl) .nil, ?_⟩
  rw [hm]
  intro W' H' v _ _ rv
  cases rv
  rfl
theorem law_facts {T : Tab} (ok : T.Ok) {x : Str} {fL : Df} (hL : T.find ("law", none) = some fL) (hps : fL.ps = [x]) (k : Nat) {P : Program} {w : World} {K : PySem.W.Frag} {h : Heap} {mg : Str → Option Value} {f : Addr} (X : K.In h) (G : h.Ns mainGlobals mg) (hfa : mg ("law" : Str) = some (.ref f)) (c : Head T K w) :
    ∃ fd : FuncData, (∀ (s : Shared) (v : Value), BindsTo s fd ⟨[v], []⟩ [(x, v)]) ∧ ∀ base : Heap, K.In base → base.Ns mainGlobals mg → FnOk P w K mg base CX0 (rm T k) f fd [x] (fun vs H Q _ => spOf K (T.at_ k ("law", none)) vs H Q fun _ _ _ => False) := by
  obtain ⟨hf, e⟩ := find_mem hL
  obtain ⟨fd, F⟩ := Tab.at c.d ok hf
  have hin : ("law" : Str) ∈ T.fns := by
    unfold Tab.fns
    refine List.mem_filterMap.mpr ⟨fL, hf, ?_⟩
    rw [e]
  have hg := (std_of c X G).glo "law" (.inl hin)
  rw [hfa] at hg
  cases hg
  have ea : He.fAd K fL.d.at_ = He.ga K "law" := by rw [e]; rfl
  refine ⟨fd, fun s v => ?_, fun base KX GB => ?_⟩
  · have b := FunD.bindsA F.F (ok.bind fL hf) s [v] (by rw [hps]; rfl)
    rw [hps] at b
    exact b
  · have q := lev (P := P) (w := w) (base := base) ok (std_of c X G) k fL fd hf F
    rw [e, hps] at q
    exact fn_calm q
end Ev
set_option Elab.async false
set_option linter.all false
set_option maxRecDepth 100000
set_option maxHeartbeats 8000000
namespace Ev
open PySem L2
/-- m gives a value of which Q is true, or raises what E takes -/
def Gv {α : Type} (m : M α) (S : List Ob) (Q : α → List Ob → Prop) (E : Exc → List Ob → Prop := fun _ _ => False) : Prop := match m S with
  | .ok a S' => Q a S'
  | .exc e S' => E e S'
  | .bad => False
section
variable {α β : Type} {S : List Ob} {Q Q' : α → List Ob → Prop} {E E' : Exc → List Ob → Prop}
theorem Gv.mono {m : M α} (h : Gv m S Q E) (k : ∀ a S', Q a S' → Q' a S') (ke : ∀ e S', E e S' → E' e S') : Gv m S Q' E' := by
  unfold Gv at *
  split at h
  · exact k _ _ h
  · exact ke _ _ h
  · exact h
theorem Gv.imp {m : M α} (h : Gv m S Q E) (k : ∀ a S', Q a S' → Q' a S') : Gv m S Q' E := h.mono k fun _ _ h => h
theorem gv_ret {a : α} : Gv (ret a) S Q E ↔ Q a S := Iff.rfl
theorem gv_bnd {m : M β} {k : β → M α} : Gv (bnd m k) S Q E ↔ Gv m S (fun b S' => Gv (k b) S' Q E) E := by
  unfold Gv bnd
  cases m S <;> rfl
theorem gv_ofO {o : Option α} : Gv (ofO o) S Q E ↔ ∃ a, o = some a ∧ Q a S := by
  unfold Gv ofO
  cases o with
  | none => exact ⟨fun h => h.elim, fun ⟨a, h, _⟩ => by cases h⟩
  | some a => exact ⟨fun h => ⟨a, rfl, h⟩, fun ⟨b, h, q⟩ => by cases h; exact q⟩
theorem gv_ask {f : List Ob → Option α} : Gv (ask f) S Q E ↔ ∃ a, f S = some a ∧ Q a S := by
  unfold Gv ask
  cases f S with
  | none => exact ⟨fun h => h.elim, fun ⟨a, h, _⟩ => by cases h⟩
  | some a => exact ⟨fun h => ⟨a, rfl, h⟩, fun ⟨b, h, q⟩ => by cases h; exact q⟩
theorem gv_ok {m : M α} {a : α} {S' : List Ob} (h : m S = .ok a S') : Gv m S Q E ↔ Q a S' := by
  unfold Gv
  rw [h]
theorem Gv.out {m : M α} (h : Gv m S Q) : ∃ a S', m S = .ok a S' ∧ Q a S' := by
  unfold Gv at h
  split at h
  · exact ⟨_, _, by assumption, h⟩
  · exact h.elim
  · exact h.elim
end
/-- the same of statements -/
def Gs_ (r : RS) (N : Sl → List Ob → Prop) (Rt : D → List Ob → Prop) (E : Exc → List Ob → Prop := fun _ _ => False) : Prop := match r with
  | .next τ S => N τ S
  | .ret d S => Rt d S
  | .exc e _ S => E e S
  | .bad => False
section
variable {α : Type} {S : List Ob} {τ : Sl} {N N' : Sl → List Ob → Prop} {Rt Rt' : D → List Ob → Prop} {E E' : Exc → List Ob → Prop}
theorem Gs_.mono {r : RS} (h : Gs_ r N Rt E) (k : ∀ τ S, N τ S → N' τ S) (kr : ∀ d S, Rt d S → Rt' d S) (ke : ∀ e S, E e S → E' e S) : Gs_ r N' Rt' E' := by
  cases r with
  | next τ S => exact k _ _ h
  | ret d S => exact kr _ _ h
  | exc e τ S => exact ke _ _ h
  | bad => exact h
theorem gs_lift {m : M α} {k : α → List Ob → RS} : Gs_ (lift τ (m S) k) N Rt E ↔ Gv m S (fun a S' => Gs_ (k a S') N Rt E) E := by
  unfold Gv lift
  cases m S <;> rfl
theorem gs_nil {G : Gs} : Gs_ (evSs G .nil τ S) N Rt E ↔ N τ S := by
  rw [evSs]
  rfl
theorem gs_cons {G : Gs} {s : Sm} {ss : Sms} : Gs_ (evSs G (.cons s ss) τ S) N Rt E ↔ Gs_ (evS G s τ S) (fun τ' S' => Gs_ (evSs G ss τ' S') N Rt E) Rt E := by
  rw [evSs]
  cases evS G s τ S <;> rfl
theorem gs_st0 {G : Gs} : Gs_ (evSs G (stsOf []) τ S) N Rt E ↔ N τ S := gs_nil
theorem gs_st {G : Gs} {s : Sm} {r : List Sm} : Gs_ (evSs G (stsOf (s :: r)) τ S) N Rt E ↔ Gs_ (evS G s τ S) (fun τ' S' => Gs_ (evSs G (stsOf r) τ' S') N Rt E) Rt E := gs_cons
theorem gs_for {b : D → Sl → List Ob → RS} (I : Nat → Sl → List Ob → Prop) {xs : List D} (h0 : I 0 τ S) (hs : ∀ (i : Nat) (x : D) (τ : Sl) (S : List Ob), xs[i]? = some x → I i τ S → Gs_ (b x τ S) (I (i + 1)) Rt E) (hd : ∀ τ S, I xs.length τ S → N τ S) : Gs_ (forL b xs τ S) N Rt E := by
  have main : ∀ (n i : Nat) (τ : Sl) (S : List Ob), xs.length - i = n → i ≤ xs.length → I i τ S → Gs_ (forL b (xs.drop i) τ S) N Rt E := by
    intro n
    induction n with
    | zero =>
      intro i τ S hn hi h
      have e : i = xs.length := by omega
      subst e
      rw [List.drop_length]
      exact hd τ S h
    | succ n ih =>
      intro i τ S hn hi h
      have hlt : i < xs.length := by omega
      rw [List.drop_eq_getElem_cons hlt]
      have q := hs i _ τ S (List.getElem?_eq_getElem hlt) h
      unfold forL
      cases z : b xs[i] τ S with
      | next τ2 S2 =>
        rw [z] at q
        exact ih (i + 1) τ2 S2 (by omega) hlt q
      | ret d S2 => rw [z] at q; exact q
      | exc e τ2 S2 => rw [z] at q; exact q
      | bad => rw [z] at q; exact q
  exact main xs.length 0 τ S (by omega) (Nat.zero_le _) h0
/-- the invariant by a measure that goes down -/
theorem whl_ok {c : Sl → List Ob → R Bool} {b : Sl → List Ob → RS} (I : Nat → Sl → List Ob → Prop)
    (hs : ∀ (m : Nat) (τ : Sl) (S : List Ob), I m τ S → (match c τ S with
      | .ok k S1 => if k = true then Gs_ (b τ S1) (fun τ' S' => ∃ m', m' < m ∧ I m' τ' S') Rt E else N τ S1
      | .exc e S1 => E e S1
      | .bad => False)) : ∀ (n m : Nat) (τ : Sl) (S : List Ob), m < n → I m τ S → Gs_ (whlN c b n τ S) N Rt E := by
  intro n
  induction n with
  | zero => intro m τ S h; exact absurd h (Nat.not_lt_zero m)
  | succ n ih =>
    intro m τ S hm h
    have q := hs m τ S h
    unfold whlN lift
    cases z : c τ S with
    | bad => rw [z] at q; exact q.elim
    | exc e S1 => rw [z] at q; exact q
    | ok k S1 =>
      rw [z] at q
      dsimp only at q ⊢
      cases k with
      | false => exact q
      | true =>
        rw [if_pos rfl] at q ⊢
        cases z2 : b τ S1 with
        | next τ2 S2 =>
          rw [z2] at q
          obtain ⟨m', h1, h2⟩ := q
          exact ih m' τ2 S2 (by omega) h2
        | ret d S2 => rw [z2] at q; exact q
        | exc e τ2 S2 => rw [z2] at q; exact q
        | bad => rw [z2] at q; exact q
/-- a def, by its body -/
theorem gv_run {G : Gs} {f : Df} {ds : List D} (hl : ds.length = f.ps.length) (h : Gs_ (evSs G f.ir (startS f.N ds) S) (fun _ S' => Rt .non S') Rt E) : Gv (runDf G f ds) S Rt E := by
  unfold Gv runDf
  rw [if_pos hl]
  cases z : evSs G f.ir (startS f.N ds) S with
  | next τ2 S2 => rw [z] at h; exact h
  | ret d S2 => rw [z] at h; exact h
  | exc e τ2 S2 => rw [z] at h; exact h
  | bad => rw [z] at h; exact h
end
theorem atI_pos {α : Type} {xs : List α} {i : Int} (h0 : 0 ≤ i) (h1 : i < xs.length) : ∃ x, L2.atI xs i = some x ∧ x ∈ xs := by
  have hn : i.toNat < xs.length := by omega
  refine ⟨xs[i.toNat], ?_, List.getElem_mem hn⟩
  unfold L2.atI L2.ixN
  rw [if_pos h0, if_pos h1]
  exact List.getElem?_eq_getElem hn
theorem cut_take {xs : List D} (k : Nat) : cutD xs none (some (k : Int)) = xs.take k := by
  unfold cutD
  rw [HT.sIx_none, HT.sIx_nat, Nat.sub_zero, List.drop_zero, List.take_eq_take_iff]
  omega
theorem cut_drop {xs : List D} (k : Nat) : cutD xs (some (k : Int)) none = xs.drop k := by
  unfold cutD
  rw [HT.sIx_none, HT.sIx_nat]
  by_cases h : k ≤ xs.length
  · rw [Nat.min_eq_left h, List.take_of_length_le (by rw [List.length_drop]; omega)]
  · rw [Nat.min_eq_right (by omega), Nat.sub_self, List.take_zero, List.drop_eq_nil_of_le (by omega)]
theorem cut_mid {xs : List D} (j k : Nat) : cutD xs (some (j : Int)) (some (k : Int)) = (xs.take k).drop j := by
  unfold cutD
  rw [HT.sIx_nat, HT.sIx_nat]
  apply List.ext_getElem?
  intro i
  simp only [List.getElem?_take, List.getElem?_drop]
  by_cases h1 : j ≤ xs.length
  · rw [Nat.min_eq_left h1]
    by_cases h2 : k ≤ xs.length
    · rw [Nat.min_eq_left h2]
      by_cases h3 : j + i < k
      · rw [if_pos (by omega), if_pos h3]
      · rw [if_neg (by omega), if_neg h3]
    · rw [Nat.min_eq_right (by omega)]
      by_cases h3 : j + i < xs.length
      · rw [if_pos (by omega), if_pos (by omega)]
      · rw [if_neg (by omega)]
        split
        · rw [List.getElem?_eq_none (by omega)]
        · rfl
  · rw [if_neg (by omega)]
    split
    · rw [List.getElem?_eq_none (by omega)]
    · rfl
end Ev
set_option Elab.async false
set_option linter.all false
set_option maxRecDepth 100000
set_option maxHeartbeats 8000000
namespace Ev
open PySem L2
section
variable {S : List Ob} {i j : Int} {s t : Str} {xs ys : List D} {a b : D}
theorem b_addI : binS S .add (.int i) (.int j) = some (.int (i + j)) := rfl
theorem b_addS : binS S .add (.str s) (.str t) = if s.length + t.length ≤ sizeLine then some (.str (s ++ t)) else none := rfl
theorem b_addT : binS S .add (.tup xs) (.tup ys) = if xs.length + ys.length ≤ sizeLine then some (.tup (xs ++ ys)) else none := rfl
theorem b_addL : binS S .add (.lst xs) (.lst ys) = if xs.length + ys.length ≤ sizeLine then some (.lst (xs ++ ys)) else none := rfl
theorem b_subI : binS S .sub (.int i) (.int j) = some (.int (i - j)) := rfl
theorem b_mulI : binS S .mul (.int i) (.int j) = if i.natAbs.log2 + j.natAbs.log2 < 1000000 then some (.int (i * j)) else none := rfl
theorem b_mulL : binS S .mul (.lst xs) (.int j) = if -(2 ^ 63) ≤ j ∧ j < 2 ^ 63 ∧ xs.length * j.toNat ≤ sizeLine then some (.lst (List.replicate j.toNat xs).flatten) else none := rfl
theorem b_fdiv : binS S .fdiv (.int i) (.int j) = if 0 < j ∧ j.natAbs.log2 < 9000 then some (.int (i / j)) else none := rfl
theorem b_mod : binS S .mod (.int i) (.int j) = if 0 < j then some (.int (i % j)) else none := rfl
theorem c_lt : cmpS S .lt (.int i) (.int j) = some (.bl (decide (i < j))) := rfl
theorem c_le : cmpS S .le (.int i) (.int j) = some (.bl (decide (i ≤ j))) := rfl
theorem c_gt : cmpS S .gt (.int i) (.int j) = some (.bl (decide (j < i))) := rfl
theorem c_ge : cmpS S .ge (.int i) (.int j) = some (.bl (decide (j ≤ i))) := rfl
theorem c_eqI : cmpS S .eq (.int i) (.int j) = some (.bl (decide (i = j))) := by
  show (match (nilK S (.int i) (.int j)) with
    | some k => some (D.bl k)
    | none => (eqD S (.int i) (.int j)).map .bl) = _
  have e : eqD S (.int i) (.int j) = some (PyData.eqv (.int i) (.int j)) := rfl
  show (eqD S (.int i) (.int j)).map D.bl = _
  rw [e]
  rfl
theorem x_lst : ixS S (.lst xs) (.int i) = L2.atI xs i := rfl
theorem x_tup : ixS S (.tup xs) (.int i) = L2.atI xs i := rfl
theorem x_str : ixS S (.str s) (.int i) = if s.length ≤ sizeLine then (L2.atI s.cps.toList i).map fun c => .str ⟨#[c]⟩ else none := rfl
theorem x_dct {kvs : List (Key × D)} : ixS S (.dct kvs) (.str s) = kGet kvs (.inr s) := rfl
theorem x_obd {n : Nat} {kvs : List (Key × D)} (h : S[n]? = some (.dct kvs)) : ixS S (.obj n) (.str s) = kGet kvs (.inr s) := by
  show (match (match S[n]? with
    | some (.dct kvs) => some kvs
    | _ => none : Option (List (Key × D))) with
    | some kvs => (match keyOf (.str s) with
      | some k => kGet kvs k
      | none => none)
    | none => _) = _
  rw [h]
  rfl
theorem x_obl {n : Nat} (h : S[n]? = some (.lst xs)) : ixS S (.obj n) (.int i) = L2.atI xs i := by
  unfold ixS dctOf seqOf
  simp only [h]
theorem f_lenL : bfS S .len [.lst xs] = some (.int xs.length) := rfl
theorem f_lenT : bfS S .len [.tup xs] = some (.int xs.length) := rfl
theorem f_lenD {kvs : List (Key × D)} : bfS S .len [.dct kvs] = some (.int kvs.length) := rfl
end
end Ev
set_option Elab.async false
set_option linter.all false
set_option maxRecDepth 100000
set_option maxHeartbeats 8000000
namespace Ev
open PySem L2
def slV (σ : Sl) (i : Nat) : Option D := match σ[i]? with
  | some (.val d) => some d
  | _ => none
def slR (σ : Sl) (i : Nat) : Option D := match σ[i]? with
  | some (.val d) => some d
  | some (.own xs) => some (.lst xs)
  | some (.ownd kvs) => some (.dct kvs)
  | _ => none
def slO (σ : Sl) (i : Nat) : Option (List D) := match σ[i]? with
  | some (.own xs) => some xs
  | _ => none
/-- one round of a comprehension -/
def cbody (G : Gs) (σ : Sl) (elt : E) (vs : List Nat) (tg : Tg) (c : OE) (x : D) : M (Option D) := match tgS tg x (wipeS σ vs) with
  | some σ1 => noX (match c with
    | .none => bnd (evE G σ1 elt) fun y => ret (some y)
    | .some t => bnd (evE G σ1 t) fun k => bnd (ask fun S => truth S k) fun k => if k = true then bnd (evE G σ1 elt) fun y => ret (some y) else ret none)
  | none => bad
def intO : D → Option (Option Int)
  | .int i => some (some i)
  | _ => none
def negO : D → Option D
  | .int i => some (.int (-i))
  | _ => none
def methO (G : Gs) (m : Str) (S : List Ob) : D → Option Str
  | .obj i => match S[i]? with
    | some (.ins c fs) => if (fGet fs m).isNone && G.hasM c m then some c else none
    | _ => none
  | _ => none
def fldO (G : Gs) (f : Str) (S : List Ob) : D → Option D
  | .obj i => match S[i]? with
    | some (.ins c fs) => if G.hasF c f then fGet fs f else none
    | _ => none
  | _ => none
def rngO : D → Option (List D)
  | .int n => if -(2 ^ 62) ≤ n ∧ n < 2 ^ 62 then some (rngD 0 n.toNat) else none
  | _ => none
def itemsO : D → Option (List D)
  | .dct kvs => some (kvs.map fun kv => .tup [keyD kv.1, kv.2])
  | _ => none
def enmO : D → Option (List D)
  | .lst xs => some (enumD 0 xs)
  | _ => none
def zipO : D → D → Option (List D)
  | .tup xs, .tup ys => some (zipD xs ys)
  | .lst xs, .lst ys => some (zipD xs ys)
  | .tup xs, .lst ys => some (zipD xs ys)
  | .lst xs, .tup ys => some (zipD xs ys)
  | _, _ => none
def cmp2O : D → Option Bool
  | .bl b => some b
  | _ => none
theorem noX_gv {α : Type} {m : M α} {S : List Ob} {Q : α → List Ob → Prop} {E : Exc → List Ob → Prop} : Gv (noX m) S Q E ↔ Gv m S Q := by
  unfold Gv noX
  cases m S <;> rfl
section
variable {G : Gs} {σ : Sl} {S : List Ob} {E : Exc → List Ob → Prop}
theorem w_ofS {α : Type} {a : α} {Q : α → List Ob → Prop} : Gv (ofO (some a)) S Q E ↔ Q a S := Iff.rfl
theorem w_ofI {α : Type} {p : Prop} [Decidable p] {o : Option α} {Q : α → List Ob → Prop} : Gv (ofO (if p then o else none)) S Q E ↔ p ∧ Gv (ofO o) S Q E := by
  by_cases h : p
  · rw [if_pos h]; exact ⟨fun q => ⟨h, q⟩, fun q => q.2⟩
  · rw [if_neg h]; exact ⟨fun q => q.elim, fun q => (h q.1).elim⟩
theorem w_ret {α : Type} {a : α} {Q : α → List Ob → Prop} : Gv (ret a) S Q E ↔ Q a S := Iff.rfl
/-- where a truth decides -/
def brS (S : List Ob) (x : D) (Y N : Prop) : Prop := match truth S x with
  | some true => Y
  | some false => N
  | none => False
theorem br_if {S : List Ob} {x : D} {Y N : Prop} {p : Prop} [Decidable p] (h : truth S x = some (decide p)) : brS S x Y N ↔ (p → Y) ∧ (¬p → N) := by
  unfold brS
  rw [h]
  by_cases q : p
  · rw [decide_eq_true q]; exact ⟨fun y => ⟨fun _ => y, fun n => absurd q n⟩, fun z => z.1 q⟩
  · rw [decide_eq_false q]; exact ⟨fun y => ⟨fun z => absurd z q, fun _ => y⟩, fun z => z.2 q⟩
def brA (S : List Ob) (x : D) (Y : Prop) (F : D → Prop) : Prop := match truth S x with
  | some true => Y
  | some false => F x
  | none => False
def brO (S : List Ob) (x : D) (F : D → Prop) (Y : Prop) : Prop := match truth S x with
  | some true => F x
  | some false => Y
  | none => False
variable {Q : D → List Ob → Prop}
theorem w_loc {i : Nat} : Gv (evE G σ (.loc i)) S Q E ↔ Gv (ofO (slV σ i)) S Q E := by rw [evE]; rfl
theorem w_rd {i : Nat} : Gv (evE G σ (.rd i)) S Q E ↔ Gv (ofO (slR σ i)) S Q E := by rw [evE]; rfl
theorem w_cst {d : D} : Gv (evE G σ (.cst d)) S Q E ↔ Q d S := by rw [evE]; rfl
theorem w_glob {x : Str} : Gv (evE G σ (.glob x)) S Q E ↔ Gv (ofO (G.glob x)) S Q E := by rw [evE]
theorem w_bin {op : BO} {a b : Ev.E} : Gv (evE G σ (.bin op a b)) S Q E ↔ Gv (evE G σ a) S (fun x S1 => Gv (evE G σ b) S1 (fun y S2 => Gv (ofO (binS S2 op x y)) S2 Q E) E) E := by
  rw [evE, gv_bnd]; simp only [gv_bnd, gv_ask, gv_ofO]
theorem w_neg {a : Ev.E} : Gv (evE G σ (.neg a)) S Q E ↔ Gv (evE G σ a) S (fun x S1 => Gv (ofO (negO x)) S1 Q E) E := by
  rw [evE, gv_bnd]; rfl
theorem w_not {a : Ev.E} : Gv (evE G σ (.not a)) S Q E ↔ Gv (evE G σ a) S (fun x S1 => brS S1 x (Q (.bl false) S1) (Q (.bl true) S1)) E := by
  rw [evE, gv_bnd]
  have : ∀ x S1, Gv (ask fun S => (truth S x).map fun b => D.bl !b) S1 Q E ↔ brS S1 x (Q (.bl false) S1) (Q (.bl true) S1) := by
    intro x S1
    unfold brS Gv ask
    dsimp only
    cases truth S1 x with
    | none => exact Iff.rfl
    | some k => cases k <;> exact Iff.rfl
  simp only [this]
theorem br_bnd {α : Type} {x : D} {S1 : List Ob} {A B : M α} {Q : α → List Ob → Prop} : Gv (bnd (ask fun S => truth S x) fun k => if k = true then A else B) S1 Q E ↔ brS S1 x (Gv A S1 Q E) (Gv B S1 Q E) := by
  unfold brS
  rw [gv_bnd]
  unfold Gv ask
  dsimp only
  cases truth S1 x with
  | none => exact Iff.rfl
  | some k => cases k <;> exact Iff.rfl
theorem w_and {a b : Ev.E} : Gv (evE G σ (.and a b)) S Q E ↔ Gv (evE G σ a) S (fun x S1 => brA S1 x (Gv (evE G σ b) S1 Q E) (fun x => Q x S1)) E := by
  rw [evE, gv_bnd]; simp only [br_bnd, w_ret]
  exact Iff.rfl
theorem w_or {a b : Ev.E} : Gv (evE G σ (.or a b)) S Q E ↔ Gv (evE G σ a) S (fun x S1 => brO S1 x (fun x => Q x S1) (Gv (evE G σ b) S1 Q E)) E := by
  rw [evE, gv_bnd]; simp only [br_bnd, w_ret]
  exact Iff.rfl
theorem w_cmp {op : CO} {a b : Ev.E} : Gv (evE G σ (.cmp op a b)) S Q E ↔ Gv (evE G σ a) S (fun x S1 => Gv (evE G σ b) S1 (fun y S2 => Gv (ofO (cmpS S2 op x y)) S2 Q E) E) E := by
  rw [evE, gv_bnd]; simp only [gv_bnd, gv_ask, gv_ofO]
theorem w_cmp2 {o p : CO} {a b c : Ev.E} : Gv (evE G σ (.cmp2 o p a b c)) S Q E ↔ Gv (evE G σ a) S (fun x S1 => Gv (evE G σ b) S1 (fun y S2 => Gv (ofO ((cmpS S2 o x y).bind cmp2O)) S2 (fun k S3 => (k = true → Gv (evE G σ c) S3 (fun z S4 => Gv (ofO (cmpS S4 p y z)) S4 Q E) E) ∧ (k ≠ true → Q (.bl false) S3)) E) E) E := by
  rw [evE, gv_bnd]; simp only [gv_bnd]
  have key : ∀ (x : D) (y : D) (S2 : List Ob), Gv (ask fun S => cmpS S o x y) S2 (fun k S3 => Gv (match k with
      | .bl true => bnd (evE G σ c) fun z => ask fun S => cmpS S p y z
      | .bl false => ret (.bl false)
      | _ => bad) S3 Q E) E ↔ Gv (ofO ((cmpS S2 o x y).bind cmp2O)) S2 (fun k S3 => (k = true → Gv (evE G σ c) S3 (fun z S4 => Gv (ofO (cmpS S4 p y z)) S4 Q E) E) ∧ (k ≠ true → Q (.bl false) S3)) E := by
    intro x y S2
    have h : ∀ z S4, Gv (ask fun S => cmpS S p y z) S4 Q E ↔ Gv (ofO (cmpS S4 p y z)) S4 Q E := fun z S4 => by simp only [gv_ask, gv_ofO]
    have e := gv_bnd (m := evE G σ c) (k := fun z => ask fun S => cmpS S p y z) (S := S2) (Q := Q) (E := E)
    simp only [h] at e
    rw [gv_ask, gv_ofO]
    cases cmpS S2 o x y with
    | none => exact ⟨fun ⟨_, h, _⟩ => (by cases h), fun ⟨_, h, _⟩ => (by cases h)⟩
    | some k =>
      constructor
      · rintro ⟨k', h1, q⟩
        cases h1
        cases k with
        | bl b =>
          cases b
          · exact ⟨false, rfl, fun z => (Bool.false_ne_true z).elim, fun _ => q⟩
          · exact ⟨true, rfl, fun _ => e.mp q, fun z => (z rfl).elim⟩
        | _ => exact q.elim
      · rintro ⟨k', h1, q⟩
        refine ⟨k, rfl, ?_⟩
        cases k with
        | bl bb =>
          cases bb with
          | false => cases h1; exact q.2 Bool.false_ne_true
          | true => cases h1; exact e.mpr (q.1 rfl)
        | _ => cases h1
  exact ⟨fun h => h.imp fun x S1 h => h.imp fun y S2 h => (key x y S2).mp h, fun h => h.imp fun x S1 h => h.imp fun y S2 h => (key x y S2).mpr h⟩
theorem w_ife {t a b : Ev.E} : Gv (evE G σ (.ife t a b)) S Q E ↔ Gv (evE G σ t) S (fun x S1 => brS S1 x (Gv (evE G σ a) S1 Q E) (Gv (evE G σ b) S1 Q E)) E := by
  rw [evE, gv_bnd]; simp only [br_bnd]
theorem w_tup {es : Es} : Gv (evE G σ (.tup es)) S Q E ↔ Gv (evEs G σ es) S (fun ds S1 => ds.length ≤ sizeLine ∧ Q (.tup ds) S1) E := by
  rw [evE, gv_bnd]
  have : ∀ ds S1, Gv (if ds.length ≤ sizeLine then ret (.tup ds) else bad) S1 Q E ↔ (ds.length ≤ sizeLine ∧ Q (.tup ds) S1) := fun ds S1 => by
    by_cases hp : ds.length ≤ sizeLine
    · rw [if_pos hp]; exact ⟨fun q => ⟨hp, q⟩, fun q => q.2⟩
    · rw [if_neg hp]; exact ⟨fun q => q.elim, fun q => (hp q.1).elim⟩
  simp only [this]
theorem w_lst {es : Es} : Gv (evE G σ (.lst es)) S Q E ↔ Gv (evEs G σ es) S (fun ds S1 => ds.length ≤ sizeLine ∧ Q (.lst ds) S1) E := by
  rw [evE, gv_bnd]
  have : ∀ ds S1, Gv (if ds.length ≤ sizeLine then ret (.lst ds) else bad) S1 Q E ↔ (ds.length ≤ sizeLine ∧ Q (.lst ds) S1) := fun ds S1 => by
    by_cases hp : ds.length ≤ sizeLine
    · rw [if_pos hp]; exact ⟨fun q => ⟨hp, q⟩, fun q => q.2⟩
    · rw [if_neg hp]; exact ⟨fun q => q.elim, fun q => (hp q.1).elim⟩
  simp only [this]
theorem w_newL {es : Es} : Gv (evE G σ (.newL es)) S Q E ↔ Gv (evEs G σ es) S (fun ds S1 => ds.length ≤ sizeLine ∧ Q (.obj S1.length) (S1 ++ [.lst ds])) E := by
  rw [evE, gv_bnd]
  have : ∀ ds S1, Gv (fun S : List Ob => if ds.length ≤ sizeLine then R.ok (D.obj S.length) (S ++ [.lst ds]) else .bad) S1 Q E ↔ (ds.length ≤ sizeLine ∧ Q (.obj S1.length) (S1 ++ [.lst ds])) := fun ds S1 => by
    unfold Gv
    by_cases hp : ds.length ≤ sizeLine
    · dsimp only; rw [if_pos hp]; exact ⟨fun q => ⟨hp, q⟩, fun q => q.2⟩
    · dsimp only; rw [if_neg hp]; exact ⟨fun q => q.elim, fun q => (hp q.1).elim⟩
  simp only [this]
theorem w_dic {ks : List Key} {es : Es} : Gv (evE G σ (.dic ks es)) S Q E ↔ Gv (evEs G σ es) S (fun ds S1 => (ks.length = ds.length ∧ ds.length ≤ 15) ∧ Q (.dct (kMerge [] (ks.zip ds))) S1) E := by
  rw [evE, gv_bnd]
  have : ∀ ds S1, Gv (if ks.length = ds.length ∧ ds.length ≤ 15 then ret (.dct (kMerge [] (ks.zip ds))) else bad) S1 Q E ↔ ((ks.length = ds.length ∧ ds.length ≤ 15) ∧ Q (.dct (kMerge [] (ks.zip ds))) S1) := fun ds S1 => by
    by_cases hp : ks.length = ds.length ∧ ds.length ≤ 15
    · rw [if_pos hp]; exact ⟨fun q => ⟨hp, q⟩, fun q => q.2⟩
    · rw [if_neg hp]; exact ⟨fun q => q.elim, fun q => (hp q.1).elim⟩
  simp only [this]
theorem w_newD {ks : List Key} {es : Es} : Gv (evE G σ (.newD ks es)) S Q E ↔ Gv (evEs G σ es) S (fun ds S1 => (ks.length = ds.length ∧ ds.length ≤ 15) ∧ Q (.obj S1.length) (S1 ++ [.dct (kMerge [] (ks.zip ds))])) E := by
  rw [evE, gv_bnd]
  have : ∀ ds S1, Gv (fun S : List Ob => if ks.length = ds.length ∧ ds.length ≤ 15 then R.ok (D.obj S.length) (S ++ [.dct (kMerge [] (ks.zip ds))]) else .bad) S1 Q E ↔ ((ks.length = ds.length ∧ ds.length ≤ 15) ∧ Q (.obj S1.length) (S1 ++ [.dct (kMerge [] (ks.zip ds))])) := fun ds S1 => by
    unfold Gv
    by_cases hp : ks.length = ds.length ∧ ds.length ≤ 15
    · dsimp only; rw [if_pos hp]; exact ⟨fun q => ⟨hp, q⟩, fun q => q.2⟩
    · dsimp only; rw [if_neg hp]; exact ⟨fun q => q.elim, fun q => (hp q.1).elim⟩
  simp only [this]
theorem w_ix {a b : Ev.E} : Gv (evE G σ (.ix a b)) S Q E ↔ Gv (evE G σ a) S (fun x S1 => Gv (evE G σ b) S1 (fun y S2 => Gv (ofO (ixS S2 x y)) S2 Q E) E) E := by
  rw [evE, gv_bnd]; simp only [gv_bnd, gv_ask, gv_ofO]
theorem w_slc {a : Ev.E} {lo hi : OE} : Gv (evE G σ (.slc a lo hi)) S Q E ↔ Gv (evE G σ a) S (fun x S1 => Gv (evO G σ lo) S1 (fun l S2 => Gv (evO G σ hi) S2 (fun h S3 => Gv (ofO (slS S3 x l h)) S3 Q E) E) E) E := by
  rw [evE, gv_bnd]; simp only [gv_bnd, gv_ask, gv_ofO]
theorem w_rev {a : Ev.E} : Gv (evE G σ (.rev a)) S Q E ↔ Gv (evE G σ a) S (fun x S1 => Gv (ofO (revS S1 x)) S1 Q E) E := by
  rw [evE, gv_bnd]; simp only [gv_ask, gv_ofO]
theorem w_isi {a : Ev.E} {t : Ty} : Gv (evE G σ (.isi a t)) S Q E ↔ Gv (evE G σ a) S (fun x S1 => Gv (ofO ((isiS S1 x t).map .bl)) S1 Q E) E := by
  rw [evE, gv_bnd]; simp only [gv_ask, gv_ofO]
theorem w_bi {f : BF} {es : Es} : Gv (evE G σ (.bi f es)) S Q E ↔ Gv (evEs G σ es) S (fun ds S1 => Gv (ofO (bfS S1 f ds)) S1 Q E) E := by
  rw [evE, gv_bnd]; simp only [gv_ask, gv_ofO]
theorem w_vm {m : VM} {a : Ev.E} {es : Es} : Gv (evE G σ (.vm m a es)) S Q E ↔ Gv (evE G σ a) S (fun x S1 => Gv (ofO (vmK S1 m x)) S1 (fun _ S2 => Gv (evEs G σ es) S2 (fun ds S3 => Gv (ofO (vmS S3 m x ds)) S3 Q E) E) E) E := by
  rw [evE, gv_bnd]; simp only [gv_bnd, gv_ask, gv_ofO]
theorem w_om {m : OM} {a : Ev.E} {es : Es} : Gv (evE G σ (.om m a es)) S Q E ↔ Gv (evE G σ a) S (fun x S1 => Gv (ofO (omK S1 x)) S1 (fun _ S2 => Gv (evEs G σ es) S2 (fun ds S3 => Gv (omS m x ds) S3 Q E) E) E) E := by
  rw [evE, gv_bnd]; simp only [gv_bnd, gv_ask, gv_ofO]
theorem w_call {f : Str} {es : Es} : Gv (evE G σ (.call f es)) S Q E ↔ Gv (evEs G σ es) S (fun ds S1 => Gv (G.call f ds) S1 Q E) E := by
  rw [evE, gv_bnd]
theorem w_mk {f : Str} {es : Es} : Gv (evE G σ (.mk f es)) S Q E ↔ Gv (evEs G σ es) S (fun ds S1 => Gv (G.make f ds) S1 Q E) E := by
  rw [evE, gv_bnd]
theorem w_meth {m : Str} {a : Ev.E} {es : Es} : Gv (evE G σ (.meth m a es)) S Q E ↔ Gv (evE G σ a) S (fun x S1 => Gv (ofO (methO G m S1 x)) S1 (fun c S2 => Gv (evEs G σ es) S2 (fun ds S3 => Gv (G.meth c m (x :: ds)) S3 Q E) E) E) E := by
  rw [evE, gv_bnd]; simp only [gv_bnd, gv_ask, gv_ofO]
  rfl
theorem w_fld {a : Ev.E} {f : Str} : Gv (evE G σ (.fld a f)) S Q E ↔ Gv (evE G σ a) S (fun x S1 => Gv (ofO (fldO G f S1 x)) S1 Q E) E := by
  rw [evE, gv_bnd]; simp only [gv_ask, gv_ofO]
  rfl
theorem w_gix {y : Str} {a : Ev.E} : Gv (evE G σ (.gix y a)) S Q E ↔ Gv (evE G σ a) S (fun x S1 => Gv (ofO (gixO G y x)) S1 Q E) E := by
  rw [evE, gv_bnd]; rfl
theorem w_gin {y : Str} {a : Ev.E} : Gv (evE G σ (.gin y a)) S Q E ↔ Gv (evE G σ a) S (fun x S1 => Gv (ofO (ginO G y x)) S1 Q E) E := by
  rw [evE, gv_bnd]; rfl
theorem w_nset {a : Ev.E} : Gv (evE G σ (.nset a)) S Q E ↔ Gv (evE G σ a) S (fun x S1 => Gv (ofO (nsetS x)) S1 Q E) E := by
  rw [evE, gv_bnd]
theorem w_comp {elt : Ev.E} {vs : List Nat} {tg : Tg} {it : It} {c : OE} : Gv (evE G σ (.comp elt vs tg it c)) S Q E ↔ Gv (evIt G σ it) S (fun xs S1 => xs.length ≤ sizeLine ∧ Gv (collect (cbody G σ elt vs tg c) xs) S1 (fun ys S2 => Q (.lst ys) S2) E) E := by
  rw [evE]
  show Gv (bnd (evIt G σ it) (fun xs => if xs.length ≤ sizeLine then bnd (collect (cbody G σ elt vs tg c) xs) (fun ys => ret (.lst ys)) else bad)) S Q E ↔ _
  rw [gv_bnd]
  have : ∀ xs S1, Gv (if xs.length ≤ sizeLine then bnd (collect (cbody G σ elt vs tg c) xs) fun ys => ret (.lst ys) else bad) S1 Q E ↔ (xs.length ≤ sizeLine ∧ Gv (collect (cbody G σ elt vs tg c) xs) S1 (fun ys S2 => Q (.lst ys) S2) E) := fun xs S1 => by
    by_cases hp : xs.length ≤ sizeLine
    · rw [if_pos hp, gv_bnd]; exact ⟨fun q => ⟨hp, q⟩, fun q => q.2⟩
    · rw [if_neg hp]; exact ⟨fun q => q.elim, fun q => (hp q.1).elim⟩
  simp only [this]
theorem w_es0 {Q : List D → List Ob → Prop} : Gv (evEs G σ (esOf [])) S Q E ↔ Q [] S := by
  show Gv (evEs G σ .nil) S Q E ↔ _
  rw [evEs]; rfl
theorem w_esS {e : Ev.E} {es : List Ev.E} {Q : List D → List Ob → Prop} : Gv (evEs G σ (esOf (e :: es))) S Q E ↔ Gv (evE G σ e) S (fun x S1 => Gv (evEs G σ (esOf es)) S1 (fun xs S2 => Q (x :: xs) S2) E) E := by
  show Gv (evEs G σ (.cons e (esOf es))) S Q E ↔ _
  rw [evEs, gv_bnd]; simp only [gv_bnd, w_ret]
theorem w_o0 {Q : Option Int → List Ob → Prop} : Gv (evO G σ .none) S Q E ↔ Q none S := by
  rw [evO]; rfl
theorem w_oS {e : Ev.E} {Q : Option Int → List Ob → Prop} : Gv (evO G σ (.some e)) S Q E ↔ Gv (evE G σ e) S (fun x S1 => Gv (ofO (intO x)) S1 Q E) E := by
  rw [evO, gv_bnd]; rfl
theorem w_seq {e : Ev.E} {Q : List D → List Ob → Prop} : Gv (evIt G σ (.seq e)) S Q E ↔ Gv (evE G σ e) S (fun x S1 => Gv (ofO (seqIt x)) S1 Q E) E := by
  rw [evIt, gv_bnd]
theorem w_rng {e : Ev.E} {Q : List D → List Ob → Prop} : Gv (evIt G σ (.rng e)) S Q E ↔ Gv (evE G σ e) S (fun x S1 => Gv (ofO (rngO x)) S1 Q E) E := by
  rw [evIt, gv_bnd]; rfl
theorem w_zip {e f : Ev.E} {Q : List D → List Ob → Prop} : Gv (evIt G σ (.zip e f)) S Q E ↔ Gv (evE G σ e) S (fun x S1 => Gv (evE G σ f) S1 (fun y S2 => Gv (ofO (zipO x y)) S2 Q E) E) E := by
  rw [evIt, gv_bnd]; simp only [gv_bnd]; rfl
theorem w_enm {e : Ev.E} {Q : List D → List Ob → Prop} : Gv (evIt G σ (.enm e)) S Q E ↔ Gv (evE G σ e) S (fun x S1 => Gv (ofO (enmO x)) S1 Q E) E := by
  rw [evIt, gv_bnd]; rfl
theorem w_items {e : Ev.E} {Q : List D → List Ob → Prop} : Gv (evIt G σ (.items e)) S Q E ↔ Gv (evE G σ e) S (fun x S1 => Gv (ofO (itemsO x)) S1 Q E) E := by
  rw [evIt, gv_bnd]; rfl
end
section
variable {G : Gs} {τ : Sl} {S : List Ob} {N : Sl → List Ob → Prop} {Rt : D → List Ob → Prop} {E : Exc → List Ob → Prop}
def tgN (N : Sl → List Ob → Prop) (o : Option Sl) (S : List Ob) : Prop := match o with
  | some τ => N τ S
  | none => False
theorem s_pass : Gs_ (evS G .pass τ S) N Rt E ↔ N τ S := by rw [evS]; rfl
theorem s_set1 {i : Nat} {e : Ev.E} : Gs_ (evS G (.set (.one i) e) τ S) N Rt E ↔ Gv (evE G τ e) S (fun d S1 => N (τ.set i (.val d)) S1) E := by
  rw [evS, gs_lift]; rfl
theorem s_set {tg : Tg} {e : Ev.E} : Gs_ (evS G (.set tg e) τ S) N Rt E ↔ Gv (evE G τ e) S (fun d S1 => tgN N (tgS tg d τ) S1) E := by
  rw [evS, gs_lift]
  have : ∀ d S1, Gs_ (match tgS tg d τ with
    | some σ1 => RS.next σ1 S1
    | none => RS.bad) N Rt E ↔ tgN N (tgS tg d τ) S1 := fun d S1 => by
    unfold tgN
    cases tgS tg d τ <;> exact Iff.rfl
  exact ⟨fun h => h.imp fun d S1 h => (this d S1).mp h, fun h => h.imp fun d S1 h => (this d S1).mpr h⟩
theorem s_own {i : Nat} {f : Fr} : Gs_ (evS G (.own i f) τ S) N Rt E ↔ Gv (evFr G τ f) S (fun s S1 => N (τ.set i s) S1) E := by
  rw [evS, gs_lift]; rfl
theorem s_fz {is : List Nat} {s : Sm} : Gs_ (evS G (.fz is s) τ S) N Rt E ↔ Gs_ (evS G s (freeze τ is) S) N Rt E := by rw [evS]
theorem s_expr {e : Ev.E} : Gs_ (evS G (.expr e) τ S) N Rt E ↔ Gv (evE G τ e) S (fun _ S1 => N τ S1) E := by
  rw [evS, gs_lift]; rfl
theorem s_ret {e : Ev.E} : Gs_ (evS G (.ret e) τ S) N Rt E ↔ Gv (evE G τ e) S Rt E := by
  rw [evS, gs_lift]; rfl
theorem s_retO {i : Nat} : Gs_ (evS G (.retO i) τ S) N Rt E ↔ Gv (ofO (slR τ i)) S Rt E := by
  rw [evS]
  unfold slR
  cases τ[i]? with
  | none => exact Iff.rfl
  | some s => cases s <;> exact Iff.rfl
theorem s_retN : Gs_ (evS G .retN τ S) N Rt E ↔ Rt .non S := by rw [evS]; rfl
theorem s_ife {t : Ev.E} {a b : Sms} : Gs_ (evS G (.ife t a b) τ S) N Rt E ↔ Gv (evE G τ t) S (fun x S1 => brS S1 x (Gs_ (evSs G a τ S1) N Rt E) (Gs_ (evSs G b τ S1) N Rt E)) E := by
  rw [evS, gs_lift]
  unfold testE
  rw [gv_bnd]
  have : ∀ x S1, Gv (ask fun S => truth S x) S1 (fun k S2 => Gs_ (if k = true then evSs G a τ S2 else evSs G b τ S2) N Rt E) E ↔ brS S1 x (Gs_ (evSs G a τ S1) N Rt E) (Gs_ (evSs G b τ S1) N Rt E) := fun x S1 => by
    unfold brS Gv ask
    dsimp only
    cases truth S1 x with
    | none => exact Iff.rfl
    | some k => cases k <;> exact Iff.rfl
  simp only [this]
theorem s_app {i : Nat} {e : Ev.E} : Gs_ (evS G (.app i e) τ S) N Rt E ↔ ∃ xs, slO τ i = some xs ∧ Gv (evE G τ e) S (fun d S1 => xs.length < sizeLine ∧ N (τ.set i (.own (xs ++ [d]))) S1) E := by
  rw [evS]
  unfold slO
  cases τ[i]? with
  | none => exact ⟨fun h => h.elim, fun ⟨_, h, _⟩ => (by cases h)⟩
  | some s =>
    cases s with
    | own xs =>
      have : ∀ d S1, Gs_ (if xs.length < sizeLine then RS.next (τ.set i (.own (xs ++ [d]))) S1 else .bad) N Rt E ↔ (xs.length < sizeLine ∧ N (τ.set i (.own (xs ++ [d]))) S1) := fun d S1 => by
        by_cases hp : xs.length < sizeLine
        · rw [if_pos hp]; exact ⟨fun q => ⟨hp, q⟩, fun q => q.2⟩
        · rw [if_neg hp]; exact ⟨fun q => q.elim, fun q => (hp q.1).elim⟩
      dsimp only
      rw [gs_lift]
      simp only [this]
      exact ⟨fun h => ⟨xs, rfl, h⟩, fun ⟨_, h, q⟩ => (by cases h; exact q)⟩
    | _ => exact ⟨fun h => h.elim, fun ⟨_, h, _⟩ => (by cases h)⟩
/-- for an own slot that is known -/
def owQ (o : Option (List D)) (P : List D → Prop) : Prop := match o with
  | some xs => P xs
  | none => False
theorem s_app' {i : Nat} {e : Ev.E} : Gs_ (evS G (.app i e) τ S) N Rt E ↔ owQ (slO τ i) fun xs => Gv (evE G τ e) S (fun d S1 => xs.length < sizeLine ∧ N (τ.set i (.own (xs ++ [d]))) S1) E := by
  rw [s_app]
  unfold owQ
  cases slO τ i with
  | none => exact ⟨fun ⟨_, h, _⟩ => (by cases h), fun h => h.elim⟩
  | some xs => exact ⟨fun ⟨_, h, q⟩ => (by cases h; exact q), fun q => ⟨xs, rfl, q⟩⟩
theorem s_ext' {i : Nat} {e : Ev.E} : Gs_ (evS G (.ext i e) τ S) N Rt E ↔ owQ (slO τ i) fun xs => Gv (evE G τ e) S (fun d S1 => Gv (ofO (lstOf S1 d)) S1 (fun ys S2 => xs.length + ys.length ≤ sizeLine ∧ N (τ.set i (.own (xs ++ ys))) S2) E) E := by
  rw [evS]
  unfold slO owQ
  cases τ[i]? with
  | none => exact Iff.rfl
  | some s =>
    cases s with
    | own xs =>
      dsimp only
      rw [gs_lift]
      have : ∀ d S1, Gs_ (match lstOf S1 d with
        | some ys => if xs.length + ys.length ≤ sizeLine then RS.next (τ.set i (.own (xs ++ ys))) S1 else .bad
        | none => .bad) N Rt E ↔ Gv (ofO (lstOf S1 d)) S1 (fun ys S2 => xs.length + ys.length ≤ sizeLine ∧ N (τ.set i (.own (xs ++ ys))) S2) E := fun d S1 => by
        cases lstOf S1 d with
        | none => exact Iff.rfl
        | some ys =>
          rw [w_ofS]
          dsimp only
          by_cases hp : xs.length + ys.length ≤ sizeLine
          · rw [if_pos hp]; exact ⟨fun q => ⟨hp, q⟩, fun q => q.2⟩
          · rw [if_neg hp]; exact ⟨fun q => q.elim, fun q => (hp q.1).elim⟩
      exact ⟨fun h => h.imp fun d S1 h => (this d S1).mp h, fun h => h.imp fun d S1 h => (this d S1).mpr h⟩
    | _ => exact Iff.rfl
/-- a list's last one and what is ahead of it -/
def popO (xs : List D) : Option D := xs[xs.length - 1]?
theorem s_pop {t i : Nat} : Gs_ (evS G (.pop t i) τ S) N Rt E ↔ owQ (slO τ i) fun xs => Gv (ofO (popO xs)) S (fun x S1 => t ≠ i ∧ N ((τ.set i (.own xs.dropLast)).set t (.val x)) S1) E := by
  rw [evS]
  unfold slO owQ
  cases τ[i]? with
  | none => exact Iff.rfl
  | some s =>
    cases s with
    | own xs =>
      dsimp only
      unfold popO
      cases xs[xs.length - 1]? with
      | none => exact Iff.rfl
      | some x =>
        rw [w_ofS]
        dsimp only
        by_cases hp : t ≠ i
        · rw [if_pos hp]; exact ⟨fun q => ⟨hp, q⟩, fun q => q.2⟩
        · rw [if_neg hp]; exact ⟨fun q => q.elim, fun q => (hp q.1).elim⟩
    | _ => exact Iff.rfl
/-- a slot's own list or dict with one place put otherwise -/
def putO (s : Option Slot) (y d : D) : Option Slot := match s with
  | some (.own xs) => match y with
    | .int j => match L2.ixN xs.length j with
      | some p => some (.own (xs.set p d))
      | none => none
    | _ => none
  | some (.ownd kvs) => match keyOf y with
    | some q => if kvs.length < sizeLine then some (.ownd (kPut kvs q d)) else none
    | none => none
  | _ => none
def isOw (s : Option Slot) : Prop := match s with
  | some (.own _) => True
  | some (.ownd _) => True
  | _ => False
theorem s_ownIx {i : Nat} {k v : Ev.E} : Gs_ (evS G (.ownIx i k v) τ S) N Rt E ↔ isOw τ[i]? ∧ Gv (evE G τ v) S (fun d S1 => Gv (evE G τ k) S1 (fun y S2 => Gv (ofO (putO τ[i]? y d)) S2 (fun s S3 => N (τ.set i s) S3) E) E) E := by
  rw [evS]
  unfold isOw
  cases τ[i]? with
  | none => exact ⟨fun h => h.elim, fun h => h.1.elim⟩
  | some s =>
    cases s with
    | own xs =>
      dsimp only
      rw [gs_lift]
      simp only [gs_lift, true_and]
      have : ∀ (d : D) (S1 : List Ob) (y : D) (S2 : List Ob), Gs_ (match y with
      | .int j => match L2.ixN xs.length j with
        | some p => RS.next (τ.set i (.own (xs.set p d))) S2
        | none => .bad
      | _ => .bad) N Rt E ↔ Gv (ofO (putO (some (.own xs)) y d)) S2 (fun s S3 => N (τ.set i s) S3) E := fun d S1 y S2 => by
        unfold putO
        cases y with
        | int j =>
          dsimp only
          cases L2.ixN xs.length j <;> exact Iff.rfl
        | _ => exact Iff.rfl
      exact ⟨fun h => h.imp fun d S1 h => h.imp fun y S2 h => (this d S1 y S2).mp h, fun h => h.imp fun d S1 h => h.imp fun y S2 h => (this d S1 y S2).mpr h⟩
    | ownd kvs =>
      dsimp only
      rw [gs_lift]
      simp only [gs_lift, true_and]
      have : ∀ (d : D) (S1 : List Ob) (y : D) (S2 : List Ob), Gs_ (match keyOf y with
      | some q => if kvs.length < sizeLine then RS.next (τ.set i (.ownd (kPut kvs q d))) S2 else .bad
      | none => .bad) N Rt E ↔ Gv (ofO (putO (some (.ownd kvs)) y d)) S2 (fun s S3 => N (τ.set i s) S3) E := fun d S1 y S2 => by
        unfold putO
        dsimp only
        cases keyOf y with
        | none => exact Iff.rfl
        | some q =>
          dsimp only
          by_cases hp : kvs.length < sizeLine
          · rw [if_pos hp, if_pos hp]; exact Iff.rfl
          · rw [if_neg hp, if_neg hp]; exact Iff.rfl
      exact ⟨fun h => h.imp fun d S1 h => h.imp fun y S2 h => (this d S1 y S2).mp h, fun h => h.imp fun d S1 h => h.imp fun y S2 h => (this d S1 y S2).mpr h⟩
    | _ => exact ⟨fun h => h.elim, fun h => h.1.elim⟩
/-- the store with one place of a thing put otherwise -/
def stO (S : List Ob) (x y d : D) : Option (List Ob) := match x with
  | .obj i => match S[i]? with
    | some (.lst xs) => match y with
      | .int j => match L2.ixN xs.length j with
        | some p => some (S.set i (.lst (xs.set p d)))
        | none => none
      | _ => none
    | some (.dct kvs) => match keyOf y with
      | some q => if kvs.length < sizeLine then some (S.set i (.dct (kPut kvs q d))) else none
      | none => none
    | _ => none
  | _ => none
def stQ (o : Option (List Ob)) (P : List Ob → Prop) : Prop := match o with
  | some S => P S
  | none => False
theorem s_setIx {o k v : Ev.E} : Gs_ (evS G (.setIx o k v) τ S) N Rt E ↔ Gv (evE G τ v) S (fun d S1 => Gv (evE G τ o) S1 (fun x S2 => Gv (evE G τ k) S2 (fun y S3 => stQ (stO S3 x y d) (N τ)) E) E) E := by
  rw [evS]
  simp only [gs_lift]
  have : ∀ (d : D) (S1 : List Ob) (x : D) (S2 : List Ob) (y : D) (S3 : List Ob), Gs_ (match x with
    | .obj i => match S3[i]? with
      | some (.lst xs) => match y with
        | .int j => match L2.ixN xs.length j with
          | some p => RS.next τ (S3.set i (.lst (xs.set p d)))
          | none => .bad
        | _ => .bad
      | some (.dct kvs) => match keyOf y with
        | some q => if kvs.length < sizeLine then .next τ (S3.set i (.dct (kPut kvs q d))) else .bad
        | none => .bad
      | _ => .bad
    | _ => .bad) N Rt E ↔ stQ (stO S3 x y d) (N τ) := fun d S1 x S2 y S3 => by
    unfold stO
    cases x with
    | obj i =>
      dsimp only
      cases S3[i]? with
      | none => exact Iff.rfl
      | some u =>
        cases u with
        | lst xs =>
          cases y with
          | int j =>
            dsimp only
            cases L2.ixN xs.length j <;> exact Iff.rfl
          | _ => exact Iff.rfl
        | dct kvs =>
          dsimp only
          cases keyOf y with
          | none => exact Iff.rfl
          | some q =>
            dsimp only
            by_cases hp : kvs.length < sizeLine
            · rw [if_pos hp, if_pos hp]; exact Iff.rfl
            · rw [if_neg hp, if_neg hp]; exact Iff.rfl
        | _ => exact Iff.rfl
    | _ => exact Iff.rfl
  exact ⟨fun h => h.imp fun d S1 h => h.imp fun x S2 h => h.imp fun y S3 h => (this d S1 x S2 y S3).mp h, fun h => h.imp fun d S1 h => h.imp fun x S2 h => h.imp fun y S3 h => (this d S1 x S2 y S3).mpr h⟩
/-- one round of a for -/
def fbody (G : Gs) (tg : Tg) (b : Sms) (x : D) (σ : Sl) (S : List Ob) : RS := match tgS tg x σ with
  | some σ1 => evSs G b σ1 S
  | none => .bad
theorem s_fo {tg : Tg} {it : It} {b : Sms} : Gs_ (evS G (.fo tg it b) τ S) N Rt E ↔ Gv (evIt G τ it) S (fun xs S1 => Gs_ (forL (fbody G tg b) xs τ S1) N Rt E) E := by
  rw [evS, gs_lift]; rfl
theorem s_whl {t : Ev.E} {b : Sms} : Gs_ (evS G (.whl t b) τ S) N Rt E ↔ Gs_ (whlN (fun σ => testE G σ t) (evSs G b) G.fuel τ S) N Rt E := by rw [evS]
theorem fb_one {i : Nat} {b : Sms} {x : D} : Gs_ (fbody G (.one i) b x τ S) N Rt E ↔ Gs_ (evSs G b (τ.set i (.val x)) S) N Rt E := Iff.rfl
theorem f_lst {es : Es} {Q : Slot → List Ob → Prop} : Gv (evFr G τ (.lst es)) S Q E ↔ Gv (evEs G τ es) S (fun ds S1 => ds.length ≤ sizeLine ∧ Q (.own ds) S1) E := by
  unfold evFr
  rw [gv_bnd]
  have : ∀ ds S1, Gv (if ds.length ≤ sizeLine then ret (Slot.own ds) else bad) S1 Q E ↔ (ds.length ≤ sizeLine ∧ Q (.own ds) S1) := fun ds S1 => by
    by_cases hp : ds.length ≤ sizeLine
    · rw [if_pos hp]; exact ⟨fun q => ⟨hp, q⟩, fun q => q.2⟩
    · rw [if_neg hp]; exact ⟨fun q => q.elim, fun q => (hp q.1).elim⟩
  simp only [this]
def lstSl : Option D → Option Slot
  | some (.lst xs) => some (.own xs)
  | _ => none
theorem f_listOf {e : Ev.E} {Q : Slot → List Ob → Prop} : Gv (evFr G τ (.listOf e)) S Q E ↔ Gv (evE G τ e) S (fun x S1 => Gv (ofO (lstSl (bfS S1 .list [x]))) S1 Q E) E := by
  unfold evFr
  rw [gv_bnd]
  simp only [gv_ask, gv_ofO]
  rfl
theorem f_dic {ks : List Key} {es : Es} {Q : Slot → List Ob → Prop} : Gv (evFr G τ (.dic ks es)) S Q E ↔ Gv (evEs G τ es) S (fun ds S1 => (ks.length = ds.length ∧ ds.length ≤ 15) ∧ Q (.ownd (kMerge [] (ks.zip ds))) S1) E := by
  unfold evFr
  rw [gv_bnd]
  have : ∀ ds S1, Gv (if ks.length = ds.length ∧ ds.length ≤ 15 then ret (Slot.ownd (kMerge [] (ks.zip ds))) else bad) S1 Q E ↔ ((ks.length = ds.length ∧ ds.length ≤ 15) ∧ Q (.ownd (kMerge [] (ks.zip ds))) S1) := fun ds S1 => by
    by_cases hp : ks.length = ds.length ∧ ds.length ≤ 15
    · rw [if_pos hp]; exact ⟨fun q => ⟨hp, q⟩, fun q => q.2⟩
    · rw [if_neg hp]; exact ⟨fun q => q.elim, fun q => (hp q.1).elim⟩
  simp only [this]
def dctSl : Option D → Option Slot
  | some (.dct kvs) => some (.ownd kvs)
  | _ => none
theorem f_dictOf {e : Ev.E} {Q : Slot → List Ob → Prop} : Gv (evFr G τ (.dictOf e)) S Q E ↔ Gv (evE G τ e) S (fun x S1 => Gv (ofO (dctSl (bfS S1 .dict [x]))) S1 Q E) E := by
  unfold evFr
  rw [gv_bnd]
  simp only [gv_ask, gv_ofO]
  have : ∀ o : Option D, (match o with
    | some (.dct kvs) => some (Slot.ownd kvs)
    | _ => none) = dctSl o := fun o => by
    cases o with
    | none => rfl
    | some d => cases d <;> rfl
  exact ⟨fun h => h.imp fun d S1 ⟨a, h, q⟩ => ⟨a, (this _).symm.trans h, q⟩, fun h => h.imp fun d S1 ⟨a, h, q⟩ => ⟨a, (this _).trans h, q⟩⟩
theorem f_cat {a b : Ev.E} {Q : Slot → List Ob → Prop} : Gv (evFr G τ (.cat a b)) S Q E ↔ Gv (evE G τ a) S (fun x S1 => Gv (evE G τ b) S1 (fun y S2 => Gv (ofO (catS S2 x y)) S2 Q E) E) E := by
  unfold evFr
  rw [gv_bnd]
  simp only [gv_bnd, gv_ask, gv_ofO]
theorem f_lc {e : Ev.E} {Q : Slot → List Ob → Prop} : Gv (evFr G τ (.lc e)) S Q E ↔ Gv (evE G τ e) S (fun x S1 => Gv (ofO (lcS x)) S1 Q E) E := by
  unfold evFr
  rw [gv_bnd]
/-- what is told of a slot as a new thing -/
def rtB (Rt : D → List Ob → Prop) (sl : Slot) (S : List Ob) : Prop := match sl with
  | .own xs => Rt (.obj S.length) (S ++ [.lst xs])
  | .ownd kvs => Rt (.obj S.length) (S ++ [.dct kvs])
  | _ => False
theorem gs_retBS {sl : Slot} : Gs_ (retBS sl S) N Rt E ↔ rtB Rt sl S := by cases sl <;> exact Iff.rfl
theorem s_retB {f : Fr} : Gs_ (evS G (.retB f) τ S) N Rt E ↔ Gv (evFr G τ f) S (fun sl S1 => rtB Rt sl S1) E := by
  rw [evS, gs_lift]
  simp only [gs_retBS]
def rtO (Rt : D → List Ob → Prop) (o : Option Slot) (S : List Ob) : Prop := match o with
  | some sl => rtB Rt sl S
  | none => False
theorem s_retOb {i : Nat} : Gs_ (evS G (.retOb i) τ S) N Rt E ↔ rtO Rt τ[i]? S := by
  rw [evS]
  unfold rtO
  cases τ[i]? with
  | none => exact Iff.rfl
  | some sl => exact gs_retBS
theorem rt_o {xs : List D} : rtB Rt (.own xs) S = Rt (.obj S.length) (S ++ [.lst xs]) := rfl
theorem rt_d {xs : List (Key × D)} : rtB Rt (.ownd xs) S = Rt (.obj S.length) (S ++ [.dct xs]) := rfl
theorem rt_s {sl : Slot} : rtO Rt (some sl) S = rtB Rt sl S := rfl
theorem lc_s {xs : List D} : lcS (.lst xs) = some (.own xs) := rfl
theorem cat_s {xs ys : List D} : catS S (.lst xs) (.lst ys) = if xs.length + ys.length ≤ sizeLine then some (.own (xs ++ ys)) else none := rfl
def slD (σ : Sl) (i : Nat) : Option (List (Key × D)) := match σ[i]? with
  | some (.ownd xs) => some xs
  | _ => none
def owK (o : Option (List (Key × D))) (P : List (Key × D) → Prop) : Prop := match o with
  | some xs => P xs
  | none => False
theorem s_upd {i : Nat} {es : Es} : Gs_ (evS G (.upd i es) τ S) N Rt E ↔ owK (slD τ i) fun kvs => Gv (evEs G τ es) S (fun ds S1 => Gv (ofO (altOf ds)) S1 (fun ps S2 => (kvs.length + ps.length ≤ sizeLine ∧ ps.length ≤ 15) ∧ N (τ.set i (.ownd (kMerge kvs (kMerge [] ps)))) S2) E) E := by
  rw [evS]
  unfold slD owK
  cases τ[i]? with
  | none => exact Iff.rfl
  | some s =>
    cases s with
    | ownd kvs =>
      dsimp only
      rw [gs_lift]
      have : ∀ ds S1, Gs_ (match altOf ds with
        | some ps => if kvs.length + ps.length ≤ sizeLine ∧ ps.length ≤ 15 then RS.next (τ.set i (.ownd (kMerge kvs (kMerge [] ps)))) S1 else .bad
        | none => .bad) N Rt E ↔ Gv (ofO (altOf ds)) S1 (fun ps S2 => (kvs.length + ps.length ≤ sizeLine ∧ ps.length ≤ 15) ∧ N (τ.set i (.ownd (kMerge kvs (kMerge [] ps)))) S2) E := fun ds S1 => by
        cases altOf ds with
        | none => exact Iff.rfl
        | some ps =>
          rw [w_ofS]
          dsimp only
          by_cases hp : kvs.length + ps.length ≤ sizeLine ∧ ps.length ≤ 15
          · rw [if_pos hp]; exact ⟨fun q => ⟨hp, q⟩, fun q => q.2⟩
          · rw [if_neg hp]; exact ⟨fun q => q.elim, fun q => (hp q.1).elim⟩
      exact ⟨fun h => h.imp fun d S1 h => (this d S1).mp h, fun h => h.imp fun d S1 h => (this d S1).mpr h⟩
    | _ => exact Iff.rfl
theorem w_newDk {es : Es} {Q : D → List Ob → Prop} : Gv (evE G τ (.newDk es)) S Q E ↔ Gv (evEs G τ es) S (fun ds S1 => Gv (ofO (altOf ds)) S1 (fun ps S2 => ps.length ≤ 15 ∧ Q (.obj S2.length) (S2 ++ [.dct (kMerge [] ps)])) E) E := by
  rw [evE, gv_bnd]
  have : ∀ ds S1, Gv (fun S : List Ob => match altOf ds with
    | some ps => if ps.length ≤ 15 then R.ok (D.obj S.length) (S ++ [.dct (kMerge [] ps)]) else .bad
    | none => .bad) S1 Q E ↔ Gv (ofO (altOf ds)) S1 (fun ps S2 => ps.length ≤ 15 ∧ Q (.obj S2.length) (S2 ++ [.dct (kMerge [] ps)])) E := fun ds S1 => by
    cases altOf ds with
    | none => exact Iff.rfl
    | some ps =>
      rw [w_ofS]
      unfold Gv
      dsimp only
      by_cases hp : ps.length ≤ 15
      · rw [if_pos hp]; exact ⟨fun q => ⟨hp, q⟩, fun q => q.2⟩
      · rw [if_neg hp]; exact ⟨fun q => q.elim, fun q => (hp q.1).elim⟩
  exact ⟨fun h => h.imp fun d S1 h => (this d S1).mp h, fun h => h.imp fun d S1 h => (this d S1).mpr h⟩
def dctV : Option D → Option (List (Key × D))
  | some (.dct kvs) => some kvs
  | _ => none
theorem dcv_s {kvs : List (Key × D)} : dctV (some (.dct kvs)) = some kvs := rfl
theorem w_newDo {e : Ev.E} {Q : D → List Ob → Prop} : Gv (evE G τ (.newDo e)) S Q E ↔ Gv (evE G τ e) S (fun x S1 => Gv (ofO (dctV (bfS S1 .dict [x]))) S1 (fun kvs S2 => Q (.obj S2.length) (S2 ++ [.dct kvs])) E) E := by
  rw [evE, gv_bnd]
  have : ∀ x S1, Gv (fun S : List Ob => match bfS S .dict [x] with
    | some (.dct kvs) => R.ok (D.obj S.length) (S ++ [.dct kvs])
    | _ => .bad) S1 Q E ↔ Gv (ofO (dctV (bfS S1 .dict [x]))) S1 (fun kvs S2 => Q (.obj S2.length) (S2 ++ [.dct kvs])) E := fun x S1 => by
    unfold Gv
    dsimp only
    cases bfS S1 .dict [x] with
    | none => exact Iff.rfl
    | some d => cases d <;> exact Iff.rfl
  exact ⟨fun h => h.imp fun d S1 h => (this d S1).mp h, fun h => h.imp fun d S1 h => (this d S1).mpr h⟩
def loK (o : Option Ob) (P : Ob → Prop) : Prop := match o with
  | some b => P b
  | none => False
def slK (o : Option Slot) (P : Slot → Prop) : Prop := match o with
  | some b => P b
  | none => False
theorem lok_s {b : Ob} {P : Ob → Prop} : loK (some b) P = P b := rfl
theorem slk_s {b : Slot} {P : Slot → Prop} : slK (some b) P = P b := rfl
theorem obs_o {xs : List D} : obSl (some (.own xs)) = some (.lst xs) := rfl
theorem obs_d {xs : List (Key × D)} : obSl (some (.ownd xs)) = some (.dct xs) := rfl
theorem s_loan {i : Nat} {e : Ev.E} : Gs_ (evS G (.loan i e) τ S) N Rt E ↔ loK (obSl τ[i]?) fun b => Gv (evE G (τ.set i (.val (.obj S.length))) e) (S ++ [b]) (fun _ S' => slK (slOb S'[S.length]?) fun sl => (S'.take S.length).all obN = true ∧ N (τ.set i sl) (S'.take S.length)) (fun _ _ => False) := by
  rw [evS]
  unfold loK
  cases obSl τ[i]? with
  | none => exact Iff.rfl
  | some b =>
    dsimp only
    unfold Gv
    cases evE G (τ.set i (.val (.obj S.length))) e (S ++ [b]) with
    | bad => exact Iff.rfl
    | exc _ _ => exact Iff.rfl
    | ok d S' =>
      dsimp only
      unfold slK
      cases slOb S'[S.length]? with
      | none => exact Iff.rfl
      | some sl =>
        dsimp only
        by_cases h : (S'.take S.length).all obN = true
        · rw [if_pos h]; exact ⟨fun q => ⟨h, q⟩, fun q => q.2⟩
        · rw [if_neg h]; exact ⟨fun q => q.elim, fun q => (h q.1).elim⟩
theorem w_compZ {elt e f : Ev.E} {vs : List Nat} {tg : Tg} {c : OE} {Q : D → List Ob → Prop} : Gv (evE G τ (.compZ elt vs tg e f c)) S Q E ↔ Gv (evE G τ e) S (fun x S1 => Gv (evE G τ f) S1 (fun y S2 => Gv (ofO (zipG S2 x y)) S2 (fun xg S3 => xg.1.length ≤ sizeLine ∧ Gv (collect (gdF xg.2 (cbody G τ elt vs tg c)) xg.1) S3 (fun ys S4 => Q (.lst ys) S4) E) E) E) E := by
  rw [evE]
  show Gv (bnd (bnd (evE G τ e) fun x => bnd (evE G τ f) fun y => Ev.ask fun S => zipG S x y) (fun xg => if xg.1.length ≤ sizeLine then bnd (collect (gdF xg.2 (cbody G τ elt vs tg c)) xg.1) (fun ys => ret (.lst ys)) else bad)) S Q E ↔ _
  rw [gv_bnd]
  simp only [gv_bnd, gv_ask]
  have : ∀ (xg : List D × List (Nat × List D)) S1, Gv (if xg.1.length ≤ sizeLine then bnd (collect (gdF xg.2 (cbody G τ elt vs tg c)) xg.1) fun ys => ret (.lst ys) else bad) S1 Q E ↔ (xg.1.length ≤ sizeLine ∧ Gv (collect (gdF xg.2 (cbody G τ elt vs tg c)) xg.1) S1 (fun ys S2 => Q (.lst ys) S2) E) := fun xg S1 => by
    by_cases hp : xg.1.length ≤ sizeLine
    · rw [if_pos hp, gv_bnd]; exact ⟨fun q => ⟨hp, q⟩, fun q => q.2⟩
    · rw [if_neg hp]; exact ⟨fun q => q.elim, fun q => (hp q.1).elim⟩
  simp only [this, gv_ofO]
end
end Ev
set_option Elab.async false
set_option linter.all false
set_option maxRecDepth 100000
set_option maxHeartbeats 8000000
namespace Ev
open PySem L2
theorem ty_beq (a b : Ty) : (a == b) = decide (a = b) := by cases a <;> cases b <;> rfl
theorem le_sz {n : Nat} : n ≤ sizeLine ↔ n ≤ 16777216 := Iff.rfl
theorem lt_sz {n : Nat} : n < sizeLine ↔ n < 16777216 := Iff.rfl
section
variable {d : D} {σ : Sl} {i : Nat} {s : Slot} {xs : List D} {kvs : List (Key × D)}
theorem slV_0 : slV (.val d :: σ) 0 = some d := rfl
theorem slV_s : slV (s :: σ) (i + 1) = slV σ i := rfl
theorem slR_0 : slR (.val d :: σ) 0 = some d := rfl
theorem slR_o : slR (.own xs :: σ) 0 = some (.lst xs) := rfl
theorem slR_d : slR (.ownd kvs :: σ) 0 = some (.dct kvs) := rfl
theorem slR_s : slR (s :: σ) (i + 1) = slR σ i := rfl
theorem slO_0 : slO (.own xs :: σ) 0 = some xs := rfl
theorem slO_s : slO (s :: σ) (i + 1) = slO σ i := rfl
theorem fz_0 : freeze σ [] = σ := rfl
theorem fz_s {is : List Nat} : freeze σ (i :: is) = freeze (match σ[i]? with
    | some (.own xs) => σ.set i (.val (.lst xs))
    | some (.ownd kvs) => σ.set i (.val (.dct kvs))
    | _ => σ) is := rfl
theorem tg_1 : tgS (.one i) d σ = some (σ.set i (.val d)) := rfl
theorem tg_t {is : List Nat} : tgS (.tup is) (.tup xs) σ = setMany σ is xs := rfl
theorem sm_0 : setMany σ [] [] = some σ := rfl
theorem sm_s {is : List Nat} : setMany σ (i :: is) (d :: xs) = setMany (σ.set i (.val d)) is xs := rfl
theorem tgN_s {N : Sl → List Ob → Prop} {S : List Ob} : tgN N (some σ) S = N σ S := rfl
theorem slD_0 : slD (.ownd kvs :: σ) 0 = some kvs := rfl
theorem slD_s : slD (s :: σ) (i + 1) = slD σ i := rfl
theorem owK_s {P : List (Key × D) → Prop} : owK (some kvs) P = P kvs := rfl
theorem owQ_s {P : List D → Prop} : owQ (some xs) P = P xs := rfl
theorem stQ_s {P : List Ob → Prop} {S : List Ob} : stQ (some S) P = P S := rfl
theorem wipe_0 : wipeS σ [] = σ := rfl
theorem wipe_s {is : List Nat} : wipeS σ (i :: is) = (wipeS σ is).set i .un := rfl
end
section
variable {S : List Ob} {Y N : Prop} {b : Bool} {i : Int} {s : Str} {xs : List D} {kvs : List (Key × D)}
theorem br_non : brS S .non Y N ↔ N := Iff.rfl
theorem br_t : brS S (.bl true) Y N ↔ Y := Iff.rfl
theorem br_f : brS S (.bl false) Y N ↔ N := Iff.rfl
theorem br_d {p : Prop} [Decidable p] : brS S (.bl (decide p)) Y N ↔ (p → Y) ∧ (¬p → N) := br_if rfl
theorem br_nd {p : Prop} [Decidable p] : brS S (.bl !(decide p)) Y N ↔ (¬p → Y) ∧ (p → N) := by
  by_cases h : p
  · rw [decide_eq_true h]; exact ⟨fun n => ⟨fun z => (z h).elim, fun _ => n⟩, fun q => q.2 h⟩
  · rw [decide_eq_false h]; exact ⟨fun n => ⟨fun _ => n, fun z => (h z).elim⟩, fun q => q.1 h⟩
theorem br_int : brS S (.int i) Y N ↔ (i ≠ 0 → Y) ∧ (i = 0 → N) := by
  have h : truth S (.int i) = some (decide (i ≠ 0)) := by
    show some (i != 0) = _
    rw [← Bool.not_not (decide (i ≠ 0)), ← decide_not]
    by_cases h : i = 0 <;> simp [h]
  rw [br_if h]
  exact ⟨fun q => ⟨q.1, fun z => q.2 (fun n => n z)⟩, fun q => ⟨q.1, fun z => q.2 (Classical.not_not.mp z)⟩⟩
theorem ba_non {F : D → Prop} : brA S .non Y F ↔ F .non := Iff.rfl
theorem ba_t {F : D → Prop} : brA S (.bl true) Y F ↔ Y := Iff.rfl
theorem ba_f {F : D → Prop} : brA S (.bl false) Y F ↔ F (.bl false) := Iff.rfl
theorem ba_d {p : Prop} [Decidable p] {F : D → Prop} : brA S (.bl (decide p)) Y F ↔ (p → Y) ∧ (¬p → F (.bl false)) := by
  by_cases h : p
  · rw [decide_eq_true h]; exact ⟨fun n => ⟨fun _ => n, fun z => (z h).elim⟩, fun q => q.1 h⟩
  · rw [decide_eq_false h]; exact ⟨fun n => ⟨fun z => (h z).elim, fun _ => n⟩, fun q => q.2 h⟩
theorem ba_nd {p : Prop} [Decidable p] {F : D → Prop} : brA S (.bl !(decide p)) Y F ↔ (¬p → Y) ∧ (p → F (.bl false)) := by
  by_cases h : p
  · rw [decide_eq_true h]; exact ⟨fun n => ⟨fun z => (z h).elim, fun _ => n⟩, fun q => q.2 h⟩
  · rw [decide_eq_false h]; exact ⟨fun n => ⟨fun _ => n, fun z => (h z).elim⟩, fun q => q.1 h⟩
theorem bo_non {F : D → Prop} : brO S .non F Y ↔ Y := Iff.rfl
theorem bo_t {F : D → Prop} : brO S (.bl true) F Y ↔ F (.bl true) := Iff.rfl
theorem bo_f {F : D → Prop} : brO S (.bl false) F Y ↔ Y := Iff.rfl
theorem bo_d {p : Prop} [Decidable p] {F : D → Prop} : brO S (.bl (decide p)) F Y ↔ (p → F (.bl true)) ∧ (¬p → Y) := by
  by_cases h : p
  · rw [decide_eq_true h]; exact ⟨fun n => ⟨fun _ => n, fun z => (z h).elim⟩, fun q => q.1 h⟩
  · rw [decide_eq_false h]; exact ⟨fun n => ⟨fun z => (h z).elim, fun _ => n⟩, fun q => q.2 h⟩
theorem bo_nd {p : Prop} [Decidable p] {F : D → Prop} : brO S (.bl !(decide p)) F Y ↔ (¬p → F (.bl true)) ∧ (p → Y) := by
  by_cases h : p
  · rw [decide_eq_true h]; exact ⟨fun n => ⟨fun z => (z h).elim, fun _ => n⟩, fun q => q.2 h⟩
  · rw [decide_eq_false h]; exact ⟨fun n => ⟨fun _ => n, fun z => (h z).elim⟩, fun q => q.1 h⟩
theorem bo_lst {F : D → Prop} : brO S (.lst xs) F Y ↔ (xs ≠ [] → F (.lst xs)) ∧ (xs = [] → Y) := by
  cases xs with
  | nil => exact ⟨fun n => ⟨fun z => (z rfl).elim, fun _ => n⟩, fun q => q.2 rfl⟩
  | cons x xs => exact ⟨fun n => ⟨fun _ => n, fun z => by cases z⟩, fun q => q.1 (by simp)⟩
theorem pow6 : binS S .pow (.int 10) (.int 6) = some (.int 1000000) := rfl
theorem pow9 : binS S .pow (.int 10) (.int 9) = some (.int 1000000000) := rfl
theorem pow18 : binS S .pow (.int 10) (.int 18) = some (.int 1000000000000000000) := rfl
theorem pow30 : binS S .pow (.int 10) (.int 30) = some (.int 1000000000000000000000000000000) := rfl
theorem br_lst : brS S (.lst xs) Y N ↔ (xs ≠ [] → Y) ∧ (xs = [] → N) := by
  cases xs with
  | nil => exact ⟨fun n => ⟨fun z => (z rfl).elim, fun _ => n⟩, fun q => q.2 rfl⟩
  | cons x xs => exact ⟨fun n => ⟨fun _ => n, fun z => by cases z⟩, fun q => q.1 (by simp)⟩
end
section
variable {S : List Ob} {i j : Int} {s t : Str} {xs ys : List D} {a b : D} {p q : Bool} {kvs : List (Key × D)}
theorem c_eqS : cmpS S .eq (.str s) (.str t) = some (.bl (decide (s = t))) := rfl
theorem c_neS : cmpS S .ne (.str s) (.str t) = some (.bl (!decide (s = t))) := rfl
theorem c_neI : cmpS S .ne (.int i) (.int j) = some (.bl (!decide (i = j))) := by
  show (eqD S (.int i) (.int j)).map (fun k => D.bl !k) = _
  have e : eqD S (.int i) (.int j) = some (PyData.eqv (.int i) (.int j)) := rfl
  rw [e]
  rfl
theorem c_neB : cmpS S .ne (.bl p) (.bl q) = some (.bl (!decide (p = q))) := by
  show (eqD S (.bl p) (.bl q)).map (fun k => D.bl !k) = _
  have e : eqD S (.bl p) (.bl q) = some (PyData.eqv (.bool p) (.bool q)) := rfl
  rw [e]
  cases p <;> cases q <;> rfl
theorem c_eqB : cmpS S .eq (.bl p) (.bl q) = some (.bl (decide (p = q))) := by
  show (eqD S (.bl p) (.bl q)).map (fun k => D.bl k) = _
  have e : eqD S (.bl p) (.bl q) = some (PyData.eqv (.bool p) (.bool q)) := rfl
  rw [e]
  cases p <;> cases q <;> rfl
theorem c_neK0 : cmpS S .ne (.dct kvs) (.dct []) = some (.bl (!decide (kvs = []))) := by
  show some (D.bl !kvs.isEmpty) = _
  cases kvs <;> rfl
theorem c_neNK : cmpS S .ne .non (.dct kvs) = some (.bl true) := rfl
theorem c_eqL0 : cmpS S .eq (.lst xs) (.lst []) = some (.bl (decide (xs = []))) := by
  show (eqD S (.lst xs) (.lst [])).map D.bl = _
  show some (D.bl xs.isEmpty) = _
  cases xs <;> rfl
theorem c_neL0 : cmpS S .ne (.lst xs) (.lst []) = some (.bl (!decide (xs = []))) := by
  show some (D.bl !xs.isEmpty) = _
  cases xs <;> rfl
theorem c_eqK0 : cmpS S .eq (.dct kvs) (.dct []) = some (.bl (decide (kvs = []))) := by
  show some (D.bl kvs.isEmpty) = _
  cases kvs <;> rfl
theorem b_mulS : binS S .mul (.str s) (.int i) = if 2 ≤ i ∧ i ≤ 1000 ∧ 1 ≤ s.length ∧ s.length ≤ 1000 then some (.str ⟨(List.replicate i.toNat s.cps).foldl (· ++ ·) #[]⟩) else none := rfl
theorem f_dctD : bfS S .dict [.dct kvs] = some (.dct kvs) := rfl
theorem dsl_s : dctSl (some (.dct kvs)) = some (.ownd kvs) := rfl
theorem lsl_s : lstSl (some (.lst xs)) = some (.own xs) := rfl
theorem alt_0 : altOf [] = some [] := rfl
theorem lo_l : lstOf S (.lst xs) = some xs := rfl
theorem gx_s {T : Tab} {k : Nat} {y : Str} : gixO (T.gs k) y (.str s) = (T.tab y s).map .int := by
  show ((T.gs k).tab y s).map _ = _
  rw [gs_tab]
theorem gn_s {T : Tab} {k : Nat} {y : Str} : ginO (T.gs k) y (.str s) = some (.bl (T.tab y s).isSome) := by
  show some (D.bl ((T.gs k).tab y s).isSome) = _
  rw [gs_tab]
theorem f_intI : bfS S .int [.int i] = some (.int i) := rfl
theorem f_intB : bfS S .int [.bl p] = some (.int (if p then 1 else 0)) := rfl
theorem f_boolI : bfS S .bool [.int i] = some (.bl (i != 0)) := rfl
theorem f_boolB : bfS S .bool [.bl p] = some (.bl p) := rfl
theorem f_abs : bfS S .abs [.int i] = some (.int (if i < 0 then -i else i)) := rfl
theorem f_max : bfS S .max [.int i, .int j] = some (.int (if j > i then j else i)) := rfl
theorem f_min : bfS S .min [.int i, .int j] = some (.int (if j < i then j else i)) := rfl
theorem f_tupL : bfS S .tuple [.lst xs] = some (.tup xs) := rfl
theorem f_tupT : bfS S .tuple [.tup xs] = some (.tup xs) := rfl
theorem f_tupD : bfS S .tuple [.dct kvs] = some (.tup (keysD kvs)) := rfl
theorem f_lstL : bfS S .list [.lst xs] = some (.lst xs) := rfl
theorem f_lstT : bfS S .list [.tup xs] = some (.lst xs) := rfl
theorem f_lstD : bfS S .list [.dct kvs] = some (.lst (keysD kvs)) := rfl
theorem f_lenS : bfS S .len [.str s] = if s.length ≤ sizeLine then some (.int s.length) else none := by
  unfold bfS lenS
  dsimp only
  split <;> rfl
theorem f_all (bs : List Bool) : bfS S .all [.lst (bs.map .bl)] = some (.bl (bs.all id)) := by
  have h : boolsOf (bs.map .bl) = some bs := by
    induction bs with
    | nil => rfl
    | cons b bs ih => simp [boolsOf, ih]
  show (boolsOf (bs.map .bl)).map _ = _
  rw [h]; rfl
theorem i_non {t : Ty} : isiS S .non t = some false := rfl
theorem i_bl {t : Ty} : isiS S (.bl p) t = some (t == .bool || t == .int) := rfl
theorem i_int {t : Ty} : isiS S (.int i) t = some (t == .int) := rfl
theorem i_str {t : Ty} : isiS S (.str s) t = some (t == .str) := rfl
theorem i_tup {t : Ty} : isiS S (.tup xs) t = some (t == .tuple) := rfl
theorem i_lst {t : Ty} : isiS S (.lst xs) t = some (t == .list) := rfl
theorem i_dct {t : Ty} : isiS S (.dct kvs) t = some (t == .dict) := rfl
theorem sl_tup {lo hi : Option Int} : slS S (.tup xs) lo hi = some (.tup (cutD xs lo hi)) := rfl
theorem sl_lst {lo hi : Option Int} : slS S (.lst xs) lo hi = some (.lst (cutD xs lo hi)) := rfl
theorem sl_frz {lo hi : Option Int} : slS S (.frz xs) lo hi = some (.lst (cutD xs lo hi)) := rfl
theorem sl_str {lo hi : Option Int} : slS S (.str s) lo hi = if s.length ≤ sizeLine then some (.str (L2.cutS s lo hi)) else none := rfl
theorem r_tup : revS S (.tup xs) = some (.tup xs.reverse) := rfl
theorem r_lst : revS S (.lst xs) = some (.lst xs.reverse) := rfl
theorem io_i : intO (.int i) = some (some i) := rfl
theorem no_i : negO (.int i) = some (.int (-i)) := rfl
theorem co_b : cmp2O (.bl p) = some p := rfl
theorem it_str : seqIt (.str s) = some (strChars s) := rfl
theorem it_dct : seqIt (.dct kvs) = some (keysD kvs) := rfl
theorem it_tup : seqIt (.tup xs) = some xs := rfl
theorem it_lst : seqIt (.lst xs) = some xs := rfl
theorem ro_i : rngO (.int i) = if -(2 ^ 62) ≤ i ∧ i < 2 ^ 62 then some (rngD 0 i.toNat) else none := rfl
theorem vk_join : vmK S .join (.str s) = some () := rfl
theorem vk_split : vmK S .split (.str s) = some () := rfl
theorem vk_get : vmK S .get (.dct kvs) = some () := rfl
theorem vm_join (zs : List Str) : vmS S .join (.str s) [.lst (zs.map .str)] = if lensOf zs + zs.length * s.length ≤ 16777216 then some (.str (Txt.join s zs)) else none := by
  have h : strsOf (zs.map .str) = some zs := by
    induction zs with
    | nil => rfl
    | cons b bs ih => simp [strsOf, ih]
  show (match strsOf (zs.map .str) with
      | some ys => if lensOf ys + ys.length * s.length ≤ 16777216 then some (D.str (Txt.join s ys)) else none
      | none => none) = _
  rw [h]
theorem n_ch {c : Nat} : inS S (.str ⟨#[c]⟩) (.str s) = some (decide (c ∈ s.cps.toList)) := rfl
theorem n_dct : inS S (.str s) (.dct kvs) = some (kGet kvs (.inr s)).isSome := rfl
theorem c_in : cmpS S .isin a b = (inS S a b).map .bl := rfl
theorem c_nin : cmpS S .notin a b = (inS S a b).map fun k => .bl !k := rfl
theorem x_dctI : ixS S (.dct kvs) (.int i) = kGet kvs (.inl i) := rfl
end
theorem atI_nat {α : Type} {xs : List α} {k : Nat} : L2.atI xs (k : Int) = xs[k]? := by
  unfold L2.atI L2.ixN
  rw [if_pos (by omega)]
  by_cases h : k < xs.length
  · rw [if_pos (by omega)]; simp
  · rw [if_neg (by omega), List.getElem?_eq_none (by omega)]; rfl
theorem ixN_0 {n : Nat} (h : 0 < n) : L2.ixN n 0 = some 0 := by
  unfold L2.ixN
  rw [if_pos (by omega), if_pos (by omega)]; rfl
/-- the table has this def -/
def Has (T : Tab) (nm : Str × Option Str) (m n : Nat) (ir : Sms) : Prop := ∃ f, T.find nm = some f ∧ f.ps.length = m ∧ f.N.length = n ∧ f.ir = ir
theorem at_def {T : Tab} {k : Nat} {p : Str × Option Str} {f : Df} (h : T.find p = some f) : T.at_ (k + 1) p = runDf (T.gs k) f := by
  funext ds
  show T.run (T.gs k) p ds = _
  unfold Tab.run
  rw [h]
theorem has_run {T : Tab} {nm : Str × Option Str} {m n k : Nat} {ir : Sms} {ds : List D} {S : List Ob} {Rt : D → List Ob → Prop} {E : Exc → List Ob → Prop} (H : Has T nm m n ir) (hl : ds.length = m) (h : Gs_ (evSs (T.gs k) ir (ds.map .val ++ List.replicate (n - m) .un) S) (fun _ S' => Rt .non S') Rt E) : Gv (T.at_ (k + 1) nm ds) S Rt E := by
  obtain ⟨f, hf, h1, h2, h3⟩ := H
  rw [at_def hf]
  refine gv_run (by rw [hl, h1]) ?_
  unfold startS
  rw [h2, h3, hl]
  exact h
theorem gv_eq {α : Type} {m : M α} {S : List Ob} {a : α} : m S = .ok a S ↔ Gv m S (fun d S' => d = a ∧ S' = S) := by
  unfold Gv
  cases m S with
  | ok b S' =>
    constructor
    · intro h; cases h; exact ⟨rfl, rfl⟩
    · rintro ⟨h, g⟩
      have h : b = a := h
      have g : S' = S := g
      rw [h, g]
  | exc e S' => exact ⟨fun h => (nomatch h), fun h => h.elim⟩
  | bad => exact ⟨fun h => (nomatch h), fun h => h.elim⟩
/-- a statement, what is behind it by a name -/
theorem gs_stK {G : Gs} {s : Sm} {r : List Sm} {τ : Sl} {S : List Ob} {N : Sl → List Ob → Prop} {Rt : D → List Ob → Prop} {E : Exc → List Ob → Prop} (h : ∀ N' : Sl → List Ob → Prop, (∀ τ' S', Gs_ (evSs G (stsOf r) τ' S') N Rt E → N' τ' S') → Gs_ (evS G s τ S) N' Rt E) : Gs_ (evSs G (stsOf (s :: r)) τ S) N Rt E :=
  gs_st.mpr (h _ fun _ _ q => q)
theorem gs_st0K {G : Gs} {τ : Sl} {S : List Ob} {N : Sl → List Ob → Prop} {Rt : D → List Ob → Prop} {E : Exc → List Ob → Prop} (h : N τ S) : Gs_ (evSs G (stsOf []) τ S) N Rt E := gs_st0.mpr h
theorem has_runK {T : Tab} {nm : Str × Option Str} {m n k : Nat} {ir : Sms} {ds : List D} {S : List Ob} {Rt : D → List Ob → Prop} {E : Exc → List Ob → Prop} (H : Has T nm m n ir) (hl : ds.length = m) (h : ∀ R : D → List Ob → Prop, (∀ d S', Rt d S' → R d S') → Gs_ (evSs (T.gs k) ir (ds.map .val ++ List.replicate (n - m) .un) S) (fun _ S' => R .non S') R E) : Gv (T.at_ (k + 1) nm ds) S Rt E :=
  has_run H hl (h _ fun _ _ q => q)
def tapeD (cs : List Int) (sp lf : Int) : List (Key × D) := [(.inr "cells", .lst (cs.map .int)), (.inr "spot", .int sp), (.inr "left", .int lf)]
structure HP (t c : Nat) (l : List (Nat × Ob)) (S : List Ob) : Prop where
  tape : ∃ (cs : List Int) (sp lf : Int), S[t]? = some (.dct (tapeD cs sp lf)) ∧ 0 ≤ sp ∧ sp ≤ c ∧ 0 ≤ lf
  rest : ∀ p, p ∈ l → S[p.1]? = some p.2
  nd : (t :: l.map (·.1)).Nodup
  nn : S.all obW = true
section
theorem noWs_ints : ∀ cs : List Int, noWs (cs.map .int) = true
  | [] => rfl
  | c :: cs => by
    show noWs (cs.map D.int) = true
    exact noWs_ints cs
theorem noWk_tape {cs : List Int} {sp lf : Int} : noWk (tapeD cs sp lf) = true := by
  show (noWs (cs.map D.int) && true) = true
  rw [noWs_ints]
  rfl
theorem nn_set {S : List Ob} {o : Ob} (h : S.all obW = true) (ho : obW o = true) (j : Nat) : (S.set j o).all obW = true := by
  rw [List.all_eq_true] at h ⊢
  intro x hx
  rcases List.mem_or_eq_of_mem_set hx with hx | rfl
  · exact h x hx
  · exact ho
variable {t c : Nat} {l : List (Nat × Ob)} {S : List Ob} {j : Nat} {o o' : Ob}
theorem HP.le {c' : Nat} (h : HP t c l S) (hc : c ≤ c') : HP t c' l S := by
  obtain ⟨⟨cs, sp, lf, a, b, d, e⟩, r, n, nn⟩ := h
  exact ⟨⟨cs, sp, lf, a, b, by omega, e⟩, r, n, nn⟩
theorem HP.get (h : HP t c ((j, o) :: l) S) : S[j]? = some o := h.rest (j, o) List.mem_cons_self
theorem HP.lt (h : HP t c l S) : t < S.length := by
  obtain ⟨cs, sp, lf, a, _⟩ := h.tape
  exact (List.getElem?_eq_some_iff.mp a).1
theorem HP.upd (h : HP t c ((j, o) :: l) S) (ho : obW o' = true := by rfl) : HP t c ((j, o') :: l) (S.set j o') := by
  have hj : j < S.length := (List.getElem?_eq_some_iff.mp h.get).1
  have nd := h.nd
  simp only [List.map_cons, List.nodup_cons, List.mem_cons, not_or] at nd
  obtain ⟨⟨cs, sp, lf, a, b⟩, r, n, nn⟩ := h
  refine ⟨⟨cs, sp, lf, ?_, b⟩, ?_, n, nn_set nn ho j⟩
  · rw [List.getElem?_set_ne (fun e => nd.1.1 e.symm)]; exact a
  · intro p hp
    rcases List.mem_cons.mp hp with rfl | hp
    · rw [List.getElem?_set_self hj]
    · rw [List.getElem?_set_ne (fun e => nd.2.1 (List.mem_map.mpr ⟨p, hp, e.symm⟩))]
      exact r p (List.mem_cons_of_mem _ hp)
theorem HP.new (h : HP t c l S) (ho : obW o = true := by rfl) : HP t c ((S.length, o) :: l) (S ++ [o]) := by
  have ht := h.lt
  obtain ⟨⟨cs, sp, lf, a, b⟩, r, n, nn⟩ := h
  have lt : ∀ p ∈ l, p.1 < S.length := fun p hp => (List.getElem?_eq_some_iff.mp (r p hp)).1
  refine ⟨⟨cs, sp, lf, by rw [List.getElem?_append_left ht]; exact a, b⟩, ?_, ?_, by rw [List.all_append, nn]; show (true && (obW o && true)) = true; rw [ho]; rfl⟩
  · intro p hp
    rcases List.mem_cons.mp hp with rfl | hp
    · simp
    · rw [List.getElem?_append_left (lt p hp)]; exact r p hp
  · simp only [List.map_cons, List.nodup_cons, List.mem_cons, not_or, List.mem_map, not_exists, not_and] at n ⊢
    exact ⟨⟨by omega, n.1⟩, fun p hp e => by have := lt p hp; omega, n.2⟩
theorem HP.drop {p : Nat × Ob} (h : HP t c (p :: l) S) : HP t c l S := by
  refine ⟨h.tape, fun q hq => h.rest q (List.mem_cons_of_mem _ hq), ?_, h.nn⟩
  have n := h.nd
  simp only [List.map_cons, List.nodup_cons, List.mem_cons, not_or] at n ⊢
  exact ⟨n.1.2, n.2.2⟩
theorem HP.tput {cs : List Int} {sp lf : Int} {c' : Nat} (h : HP t c l S) (h1 : 0 ≤ sp) (h2 : sp ≤ c') (h3 : 0 ≤ lf) : HP t c' l (S.set t (.dct (tapeD cs sp lf))) := by
  have ht := h.lt
  have n := h.nd
  simp only [List.nodup_cons, List.mem_map, not_exists, not_and] at n
  refine ⟨⟨cs, sp, lf, by rw [List.getElem?_set_self ht], h1, h2, h3⟩, fun p hp => ?_, h.nd, nn_set h.nn (show obW (.dct (tapeD cs sp lf)) = true from noWk_tape) t⟩
  rw [List.getElem?_set_ne (fun e => n.1 p hp e.symm)]
  exact h.rest p hp
end
section
variable {α : Type} {E : Exc → List Ob → Prop}
theorem collect_cons {f : D → M (Option D)} {x : D} {xs : List D} {S : List Ob} {Q : List D → List Ob → Prop} : Gv (collect f (x :: xs)) S Q E ↔ Gv (f x) S (fun o S1 => Gv (collect f xs) S1 (fun ys S2 => Q (match o with
    | some y => y :: ys
    | none => ys) S2) E) E := by
  rw [collect, gv_bnd]
  simp only [gv_bnd, w_ret]
  all_goals exact Iff.rfl
/-- each round gives one thing; by an invariant -/
theorem gv_collect {f : D → M (Option D)} (I : Nat → List Ob → Prop) (P : Nat → D → Prop) {xs : List D} {S : List Ob} {Q : List D → List Ob → Prop} (h0 : I 0 S)
    (hs : ∀ (i : Nat) (x : D) (S : List Ob), xs[i]? = some x → I i S → Gv (f x) S (fun o S' => ∃ y, o = some y ∧ P i y ∧ I (i + 1) S') E)
    (hd : ∀ ys S, ys.length = xs.length → (∀ i y, ys[i]? = some y → P i y) → I xs.length S → Q ys S) : Gv (collect f xs) S Q E := by
  have main : ∀ (n i : Nat) (S : List Ob) (Q : List D → List Ob → Prop), xs.length - i = n → i ≤ xs.length → I i S →
      (∀ ys S, ys.length = n → (∀ k y, ys[k]? = some y → P (i + k) y) → I xs.length S → Q ys S) → Gv (collect f (xs.drop i)) S Q E := by
    intro n
    induction n with
    | zero =>
      intro i S Q hn hi h hq
      have e : i = xs.length := by omega
      subst e
      rw [List.drop_length]
      exact hq [] S rfl (fun k y hk => by simp at hk) h
    | succ n ih =>
      intro i S Q hn hi h hq
      have hlt : i < xs.length := by omega
      rw [List.drop_eq_getElem_cons hlt, collect_cons]
      refine (hs i _ S (List.getElem?_eq_getElem hlt) h).imp ?_
      rintro o S1 ⟨y, rfl, hy, h1⟩
      refine ih (i + 1) S1 _ (by omega) hlt h1 fun ys S2 hl hp hI => hq (y :: ys) S2 (by simp [hl]) (fun k z hk => ?_) hI
      cases k with
      | zero => simp at hk; subst hk; exact hy
      | succ k =>
        have := hp k z (by simpa using hk)
        rw [show i + (k + 1) = i + 1 + k by omega]
        exact this
  refine main xs.length 0 S Q (by omega) (Nat.zero_le _) h0 fun ys S hl hp hI => hd ys S hl (fun i y hy => ?_) hI
  have := hp i y hy
  rwa [Nat.zero_add] at this
/-- each round changes nothing; what is walked is told by other things -/
theorem gv_collectM {β : Type} {f : D → M (Option D)} (cs : List β) (u h : β → D) {S : List Ob} {Q : List D → List Ob → Prop}
    (hs : ∀ c, c ∈ cs → Gv (f (u c)) S (fun o S' => o = some (h c) ∧ S' = S) E) (hd : Q (cs.map h) S) : Gv (collect f (cs.map u)) S Q E := by
  induction cs generalizing Q with
  | nil => exact hd
  | cons c cs ih =>
    rw [List.map_cons, collect_cons]
    refine (hs c List.mem_cons_self).imp ?_
    rintro o S1 ⟨rfl, rfl⟩
    exact ih (fun y hy => hs y (List.mem_cons_of_mem _ hy)) hd
theorem cb_none {G : Gs} {σ : Sl} {elt : Ev.E} {vs : List Nat} {i : Nat} {x : D} {S : List Ob} {Q : Option D → List Ob → Prop} : Gv (cbody G σ elt vs (.one i) .none x) S Q E ↔ Gv (evE G ((wipeS σ vs).set i (.val x)) elt) S (fun y S' => Q (some y) S') := by
  unfold cbody
  show Gv (noX (bnd _ _)) S Q E ↔ _
  rw [noX_gv, gv_bnd]
  exact Iff.rfl
theorem cb_some {G : Gs} {σ : Sl} {elt t : Ev.E} {vs : List Nat} {i : Nat} {x : D} {S : List Ob} {Q : Option D → List Ob → Prop} : Gv (cbody G σ elt vs (.one i) (.some t) x) S Q E ↔ Gv (evE G ((wipeS σ vs).set i (.val x)) t) S (fun k S1 => brS S1 k (Gv (evE G ((wipeS σ vs).set i (.val x)) elt) S1 (fun y S' => Q (some y) S')) (Q none S1)) := by
  unfold cbody
  show Gv (noX (bnd _ _)) S Q E ↔ _
  rw [noX_gv, gv_bnd]
  simp only [br_bnd]
  simp only [gv_bnd, w_ret]
theorem cb_tup {G : Gs} {σ τ : Sl} {elt : Ev.E} {vs is : List Nat} {xs : List D} {S : List Ob} {Q : Option D → List Ob → Prop} (h : setMany (wipeS σ vs) is xs = some τ) : Gv (cbody G σ elt vs (.tup is) .none (.tup xs)) S Q E ↔ Gv (evE G τ elt) S (fun y S' => Q (some y) S') := by
  unfold cbody tgS
  dsimp only
  rw [h]
  dsimp only
  rw [noX_gv, gv_bnd]
  exact Iff.rfl
end
theorem rng_get {n i : Nat} {x : D} (h : (rngD 0 n)[i]? = some x) : x = .int i ∧ i < n := by
  unfold rngD at h
  rw [List.getElem?_map] at h
  cases hq : (List.range n)[i]? with
  | none => rw [hq] at h; cases h
  | some j =>
    rw [hq] at h
    obtain ⟨h1, h2⟩ := List.getElem?_eq_some_iff.mp hq
    rw [List.getElem_range] at h2
    subst h2
    cases h
    rw [List.length_range] at h1
    exact ⟨by simp, h1⟩
theorem rng_len {n : Nat} : (rngD 0 n).length = n := by simp [rngD]
def Pl (n : Nat) : Nat → D → Prop
  | 0, _ => False
  | d + 1, x => match x with
    | .non => True
    | .bl _ => True
    | .int _ => True
    | .str s => s.length ≤ n
    | .tup xs => xs.length ≤ n ∧ ∀ y, y ∈ xs → Pl n d y
    | .lst xs => xs.length ≤ n ∧ ∀ y, y ∈ xs → Pl n d y
    | .dct kvs => kvs.length ≤ n ∧ ∀ y, y ∈ kvs → Pl n d y.2
    | .frz _ => False
    | .obj _ => False
theorem Pl.mono {n n' : Nat} (hn : n ≤ n') : ∀ {d d' : Nat} {x : D}, d ≤ d' → Pl n d x → Pl n' d' x
  | 0, _, _, _, h => h.elim
  | d + 1, 0, _, hd, _ => by omega
  | d + 1, d' + 1, x, hd, h => by
    have hd : d ≤ d' := by omega
    cases x with
    | non => exact True.intro
    | bl b => exact True.intro
    | int i => exact True.intro
    | str s => exact Nat.le_trans h hn
    | tup xs => exact ⟨Nat.le_trans h.1 hn, fun y hy => Pl.mono hn hd (h.2 y hy)⟩
    | lst xs => exact ⟨Nat.le_trans h.1 hn, fun y hy => Pl.mono hn hd (h.2 y hy)⟩
    | dct xs => exact ⟨Nat.le_trans h.1 hn, fun y hy => Pl.mono hn hd (h.2 y hy)⟩
    | frz xs => exact h.elim
    | obj i => exact h.elim
def wA := And.intro @w_newDo <| And.intro @w_newDk <| And.intro @w_compZ <| And.intro @s_loan <| And.intro @w_loc <| And.intro @w_rd <| And.intro @w_cst <| And.intro @w_glob <| And.intro @w_bin <| And.intro @w_neg <| And.intro @w_not <| And.intro @w_and <| And.intro @w_or <| And.intro @w_cmp <| And.intro @w_cmp2 <| And.intro @w_ife <| And.intro @w_tup <| And.intro @w_lst <| And.intro @w_newL <| And.intro @w_dic <| And.intro @w_newD <| And.intro @w_ix <| And.intro @w_slc <| And.intro @w_rev <| And.intro @w_isi <| And.intro @w_bi <| And.intro @w_vm <| And.intro @w_om <| And.intro @w_call <| And.intro @w_mk <| And.intro @w_meth <| And.intro @w_fld <| And.intro @w_gix <| And.intro @w_gin <| And.intro @w_nset <| And.intro @s_upd <| And.intro @w_comp <| And.intro @w_es0 <| And.intro @w_esS <| And.intro @w_o0 <| And.intro @w_oS <| And.intro @w_seq <| And.intro @w_rng <| And.intro @w_zip <| And.intro @w_enm <| And.intro @w_items <| And.intro @s_pass <| And.intro @s_set1 <| And.intro @s_set <| And.intro @s_own <| And.intro @s_fz <| And.intro @s_expr <| And.intro @s_ret <| And.intro @s_retO <| And.intro @s_retN <| And.intro @s_ife <| And.intro @s_app' <| And.intro @s_ext' <| And.intro @s_pop <| And.intro @s_ownIx <| And.intro @s_setIx <| And.intro @s_fo <| And.intro @s_whl <| And.intro @fb_one <| And.intro @f_lst <| And.intro @f_listOf <| And.intro @f_dic <| And.intro @f_dictOf <| And.intro @f_cat <| And.intro @f_lc <| And.intro @s_retB <| And.intro @s_retOb <| And.intro @cb_none <| And.intro @cb_some <| And.intro @gs_call @gs_glob
def wB := And.intro @dcv_s <| And.intro @lok_s <| And.intro @slk_s <| And.intro @obs_o <| And.intro @obs_d <| And.intro @w_ofS <| And.intro @w_ofI <| And.intro @slV_0 <| And.intro @slV_s <| And.intro @slR_0 <| And.intro @slR_o <| And.intro @slR_d <| And.intro @slR_s <| And.intro @slO_0 <| And.intro @slO_s <| And.intro @slD_0 <| And.intro @slD_s <| And.intro @owK_s <| And.intro @f_dctD <| And.intro @dsl_s <| And.intro @rt_o <| And.intro @rt_d <| And.intro @rt_s <| And.intro @lc_s <| And.intro @cat_s <| And.intro @lsl_s <| And.intro @alt_0 <| And.intro @lo_l <| And.intro @gx_s <| And.intro @gn_s <| And.intro @fz_0 <| And.intro @fz_s <| And.intro @tg_1 <| And.intro @tg_t <| And.intro @sm_0 <| And.intro @sm_s <| And.intro @tgN_s <| And.intro @owQ_s <| And.intro @stQ_s <| And.intro @wipe_0 <| And.intro @wipe_s <|
  And.intro @br_non <| And.intro @br_t <| And.intro @br_f <| And.intro @br_d <| And.intro @br_nd <| And.intro @ba_non <| And.intro @ba_t <| And.intro @ba_f <| And.intro @ba_d <| And.intro @ba_nd <| And.intro @bo_non <| And.intro @bo_t <| And.intro @bo_f <| And.intro @bo_d <| And.intro @bo_nd <| And.intro @bo_lst <| And.intro @br_int <| And.intro @br_lst <|
  And.intro @b_addI <| And.intro @b_addS <| And.intro @b_addT <| And.intro @b_addL <| And.intro @b_subI <| And.intro @b_mulI <| And.intro @b_mulL <| And.intro @b_mulS <| And.intro @b_fdiv <| And.intro @b_mod <| And.intro @pow6 <| And.intro @pow9 <| And.intro @pow18 <| And.intro @pow30 <|
  And.intro @c_lt <| And.intro @c_le <| And.intro @c_gt <| And.intro @c_ge <| And.intro @c_eqI <| And.intro @c_neI <| And.intro @c_eqS <| And.intro @c_neS <| And.intro @c_eqB <| And.intro @c_neB <| And.intro @c_eqL0 <| And.intro @c_neL0 <| And.intro @c_eqK0 <| And.intro @c_neK0 <| And.intro @c_neNK <|
  And.intro @x_lst <| And.intro @x_tup <| And.intro @x_str <| And.intro @x_dct <| And.intro @x_dctI <| And.intro @f_lenL <| And.intro @f_lenT <| And.intro @f_lenD <| And.intro @f_lenS <| And.intro @f_intI <| And.intro @f_intB <| And.intro @f_boolI <| And.intro @f_boolB <| And.intro @f_abs <| And.intro @f_max <| And.intro @f_min <| And.intro @f_tupL <| And.intro @f_tupT <| And.intro @f_tupD <| And.intro @f_lstL <| And.intro @f_lstT <| And.intro @f_lstD <|
  And.intro @i_non <| And.intro @i_bl <| And.intro @i_int <| And.intro @i_str <| And.intro @i_tup <| And.intro @i_lst <| And.intro @i_dct <| And.intro @sl_tup <| And.intro @sl_lst <| And.intro @sl_frz <| And.intro @sl_str <| And.intro @r_tup <| And.intro @r_lst <| And.intro @io_i <| And.intro @no_i <| And.intro @co_b <|
  And.intro @it_str <| And.intro @it_dct <| And.intro @it_tup <| And.intro @it_lst <| And.intro @ro_i <| And.intro @vk_join <| And.intro @vk_split <| And.intro @vk_get <| And.intro @c_in <| And.intro @c_nin <| And.intro @n_dct @n_ch
def wC := And.intro @List.set_cons_succ.{0} <| And.intro @List.set_cons_zero.{0} <| And.intro @List.getElem?_cons_zero.{0} <| And.intro @List.getElem?_cons_succ.{0} <| And.intro @List.length_cons.{0} <| And.intro @List.length_nil.{0} <| And.intro @List.length_append.{0} <| And.intro @List.length_map.{0,0} <| And.intro @List.map_cons.{0,0} <| And.intro @List.map_nil.{0,0} <| And.intro @List.cons_append.{0} <| And.intro @List.nil_append.{0} <| And.intro @Ev.ty_beq <| And.intro @rng_len <| And.intro @decide_true <| And.intro @decide_false <| And.intro @Bool.true_or <| And.intro @Bool.or_true <| And.intro @Bool.or_false <| And.intro @Bool.false_or <| And.intro @Bool.not_true <| And.intro @Bool.not_false <| And.intro @Option.map_some.{0,0} <| And.intro @Option.bind_some.{0,0} <| And.intro @decide_eq_true_eq <| And.intro @le_sz <| And.intro @lt_sz <| And.intro @true_and <| And.intro @and_true <| And.intro @true_implies <| And.intro @false_implies <| And.intro @not_true_eq_false <| And.intro @not_false_eq_true @ne_eq.{1}
end Ev
set_option Elab.async false
set_option linter.all false
set_option maxRecDepth 100000
set_option maxHeartbeats 8000000
namespace Ev
open PySem L2
section
variable {G : Gs} {τ : Sl} {S : List Ob} {E : Exc → List Ob → Prop} {a b : Ev.E} {es : Es}
section
variable {Q : D → List Ob → Prop}
theorem w_isiO {t : Ty} : Gv (evE G τ (.isiO a t)) S Q E ↔ Gv (evE G τ a) S (fun x S1 => Gv (ofO ((isiG G S1 x t).map .bl)) S1 Q E) E := by
  rw [evE, gv_bnd]; simp only [gv_ask, gv_ofO]
theorem w_binit {c : Str} : Gv (evE G τ (.binit c es)) S Q E ↔ Gv (evEs G τ es) S (fun ds S1 => G.hasB c = true ∧ Gv (G.meth c "__init__" ds) S1 Q E) E := by
  rw [evE, gv_bnd]
  have : ∀ ds S1, Gv (if G.hasB c = true then G.meth c "__init__" ds else bad) S1 Q E ↔ (G.hasB c = true ∧ Gv (G.meth c "__init__" ds) S1 Q E) := fun ds S1 => by
    by_cases h : G.hasB c = true
    · rw [if_pos h]; exact ⟨fun q => ⟨h, q⟩, fun q => q.2⟩
    · rw [if_neg h]; exact ⟨fun q => q.elim, fun q => (h q.1).elim⟩
  simp only [this]
theorem w_zdic : Gv (evE G τ (.zdic a b)) S Q E ↔ Gv (evE G τ a) S (fun x S1 => Gv (evE G τ b) S1 (fun y S2 => Gv (ofO (zdS x y)) S2 (fun kvs S3 => Q (.dct kvs) S3) E) E) E := by
  rw [evE, gv_bnd]
  simp only [gv_bnd]
  have : ∀ x y S2, Gv (ask fun _ => (zdS x y).map D.dct) S2 Q E ↔ Gv (ofO (zdS x y)) S2 (fun kvs S3 => Q (.dct kvs) S3) E := fun x y S2 => by
    unfold ask ofO Gv
    cases zdS x y <;> exact Iff.rfl
  simp only [this]
theorem w_newDz : Gv (evE G τ (.newDz a b)) S Q E ↔ Gv (evE G τ a) S (fun x S1 => Gv (evE G τ b) S1 (fun y S2 => Gv (ofO (zdS x y)) S2 (fun kvs S3 => Q (.obj S3.length) (S3 ++ [.dct kvs])) E) E) E := by
  rw [evE, gv_bnd]
  simp only [gv_bnd]
  have : ∀ x y S2, Gv (fun S => match zdS x y with
    | some kvs => .ok (.obj S.length) (S ++ [.dct kvs])
    | none => .bad) S2 Q E ↔ Gv (ofO (zdS x y)) S2 (fun kvs S3 => Q (.obj S3.length) (S3 ++ [.dct kvs])) E := fun x y S2 => by
    unfold ofO Gv
    cases zdS x y <;> exact Iff.rfl
  exact ⟨fun h => h.imp fun x S1 h => h.imp fun y S2 h => (this x y S2).mp h, fun h => h.imp fun x S1 h => h.imp fun y S2 h => (this x y S2).mpr h⟩
def eflO (G : Gs) (f : Str) : Option Slot → Option D
  | some (.exn e) => if G.efl e.cls f = true then fGet e.fs f else none
  | _ => none
theorem w_efld {i : Nat} {f : Str} : Gv (evE G τ (.efld i f)) S Q E ↔ Gv (ofO (eflO G f τ[i]?)) S Q E := by
  rw [evE]; rfl
end
theorem f_zdic {Q : Slot → List Ob → Prop} : Gv (evFr G τ (.zdic a b)) S Q E ↔ Gv (evE G τ a) S (fun x S1 => Gv (evE G τ b) S1 (fun y S2 => Gv (ofO (zdS x y)) S2 (fun kvs S3 => Q (.ownd kvs) S3) E) E) E := by
  unfold evFr
  rw [gv_bnd]
  simp only [gv_bnd]
  have : ∀ x y S2, Gv (ask fun _ => (zdS x y).map Slot.ownd) S2 Q E ↔ Gv (ofO (zdS x y)) S2 (fun kvs S3 => Q (.ownd kvs) S3) E := fun x y S2 => by
    unfold ask ofO Gv
    cases zdS x y <;> exact Iff.rfl
  simp only [this]
variable {N : Sl → List Ob → Prop} {Rt : D → List Ob → Prop}
theorem s_pub {is : List Nat} {s : Sm} : Gs_ (evS G (.pub is s) τ S) N Rt E ↔ Gs_ (evS G s (pubS τ S is).1 (pubS τ S is).2) N Rt E := by
  rw [show evS G (.pub is s) τ S = evS G s (pubS τ S is).1 (pubS τ S is).2 by conv => lhs; rw [evS]]
theorem s_rais {c f : Str} {e : Ev.E} : Gs_ (evS G (.rais c (some f) (.cons e .nil)) τ S) N Rt E ↔ Gv (evE G τ e) S (fun d S1 => E ⟨c, [(f, d)]⟩ S1) E := by
  rw [evS, gs_lift, evEs, gv_bnd]
  simp only [gv_bnd, evEs, gv_ret, w_ret]
  rfl
/-- what comes of a body of one expression, what is caught of it -/
def trQ (G : Gs) (c : Str) (i : Nat) (h : Sms) (τ : Sl) (Rt : D → List Ob → Prop) (E : Exc → List Ob → Prop) (N : Sl → List Ob → Prop) (ex : Exc) (S : List Ob) : Prop := match G.exm ex.cls c with
  | some true => Gs_ (evSs G h (τ.set i (.exn ex)) S) (fun σ2 S2 => N (σ2.set i .un) S2) Rt fun _ _ => False
  | some false => E ex S
  | none => False
theorem s_tr {c : Str} {i : Nat} {h : Sms} {e : Ev.E} : Gs_ (evS G (.tr (stsOf [.expr e]) c (some i) h) τ S) N Rt E ↔ Gv (evE G τ e) S (fun _ S1 => N τ S1) (trQ G c i h τ Rt E N) := by
  rw [evS]
  have e1 : evSs G (stsOf [.expr e]) τ S = lift τ (evE G τ e S) fun _ S1 => .next τ S1 := by
    show evSs G (.cons (.expr e) .nil) τ S = _
    rw [evSs, evS]
    unfold lift
    cases evE G τ e S with
    | ok d S1 => dsimp only; rw [evSs]
    | exc _ _ => rfl
    | bad => rfl
  rw [e1]
  unfold lift Gv
  cases evE G τ e S with
  | ok d S1 => exact Iff.rfl
  | bad => exact Iff.rfl
  | exc ex S1 =>
    dsimp only
    unfold trQ
    cases G.exm ex.cls c with
    | none => exact Iff.rfl
    | some k =>
      cases k with
      | false => exact Iff.rfl
      | true =>
        dsimp only
        cases evSs G h (τ.set i (.exn ex)) S1 <;> exact Iff.rfl
def stFQ (G : Gs) (S : List Ob) (x : D) (f : Str) (d : D) (P : List Ob → Prop) : Prop := match x with
  | .obj i => match S[i]? with
    | some (.ins c fs) => (fs.length < 1000 ∧ G.hasF c f = true) ∧ P (S.set i (.ins c (fPut f d fs)))
    | _ => False
  | _ => False
theorem s_setF {o v : Ev.E} {f : Str} : Gs_ (evS G (.setF o f v) τ S) N Rt E ↔ Gv (evE G τ v) S (fun d S1 => Gv (evE G τ o) S1 (fun x S2 => stFQ G S2 x f d (N τ)) E) E := by
  rw [evS]
  simp only [gs_lift]
  have : ∀ (d : D) (x : D) (S2 : List Ob), Gs_ (match x with
    | .obj i => match S2[i]? with
      | some (.ins c fs) => if fs.length < 1000 ∧ G.hasF c f = true then RS.next τ (S2.set i (.ins c (fPut f d fs))) else .bad
      | _ => .bad
    | _ => .bad) N Rt E ↔ stFQ G S2 x f d (N τ) := fun d x S2 => by
    cases x with
    | obj i =>
      unfold stFQ
      dsimp only
      cases S2[i]? with
      | none => exact Iff.rfl
      | some ob =>
        cases ob with
        | ins c fs =>
          dsimp only
          by_cases hp : fs.length < 1000 ∧ G.hasF c f = true
          · rw [if_pos hp]; exact ⟨fun q => ⟨hp, q⟩, fun q => q.2⟩
          · rw [if_neg hp]; exact ⟨fun q => q.elim, fun q => (hp q.1).elim⟩
        | _ => exact Iff.rfl
    | _ => exact Iff.rfl
  exact ⟨fun h => h.imp fun d S1 h => h.imp fun x S2 h => (this d x S2).mp h, fun h => h.imp fun d S1 h => h.imp fun x S2 h => (this d x S2).mpr h⟩
end
section
variable {S : List Ob} {xs ys : List D} {s : Str}
theorem z_tt : zipO (.tup xs) (.tup ys) = some (zipD xs ys) := rfl
theorem z_ll : zipO (.lst xs) (.lst ys) = some (zipD xs ys) := rfl
theorem z_tl : zipO (.tup xs) (.lst ys) = some (zipD xs ys) := rfl
theorem z_lt : zipO (.lst xs) (.tup ys) = some (zipD xs ys) := rfl
theorem f_intS {n : Int} (h : PySem.intText? s = some n) (hl : s.length ≤ 640) : bfS S .int [.str s] = some (.int n) := by
  show (match PySem.intText? s with
    | some n => if s.length ≤ 640 then some (D.int n) else none
    | none => none) = _
  rw [h]
  dsimp only
  rw [if_pos hl]
end
def wY := And.intro @w_isiO <| And.intro @w_binit <| And.intro @w_zdic <| And.intro @w_newDz <| And.intro @w_efld <| And.intro @f_zdic <| And.intro @s_pub <| And.intro @s_rais <| And.intro @s_tr <| And.intro @s_setF <| And.intro @z_tt <| And.intro @z_ll <| And.intro @z_tl @z_lt
end Ev
set_option Elab.async false
set_option linter.all false
set_option maxRecDepth 100000
set_option maxHeartbeats 0
namespace K32
open PySem PySem.Spec PyProof.Rows L2 Ev
def top (i : Nat) : Stmt := PySem.Challenge.pw_onedoer_k32_worths_written.main.body.getD i (.Pass ⟨0, 0, 0, 0⟩)
def ir_is_name : Sms := (stsOf [
  .ife (.or (.not (.isi (.loc 0) .str)) (.or (.cmp .lt (.bi .len (esOf [(.loc 0)])) (.cst (.int 1))) (.or (.cmp .gt (.bi .len (esOf [(.loc 0)])) (.cst (.int 8))) (.cmp .notin (.ix (.loc 0) (.cst (.int 0))) (.glob "LETTERS"))))) (stsOf [
    .ret (.cst (.bl false))]) (stsOf []),
  .ret (.bi .all (esOf [(.comp (.or (.cmp .isin (.loc 1) (.glob "LETTERS")) (.cmp .isin (.loc 1) (.glob "FIGURES"))) [1] (.one 1) (.seq (.loc 0)) .none)]))])
def df_is_name : Df := ⟨⟨("is_name", none), "is_name", "is_name", defArgs (top 6), defBody (top 6), defScope (top 6), [], []⟩, ["thing"], ["thing", "sign"], [], [], ir_is_name⟩
def ir_is_whole : Sms := (stsOf [
  .ret (.and (.isi (.loc 0) .int) (.and (.not (.isi (.loc 0) .bool)) (.cmp .le (.bi .abs (esOf [(.loc 0)])) (.loc 1))))])
def df_is_whole : Df := ⟨⟨("is_whole", none), "is_whole", "is_whole", defArgs (top 7), defBody (top 7), defScope (top 7), [], []⟩, ["thing", "most"], ["thing", "most"], [], [], ir_is_whole⟩
def ir_worths_in : Sms := (stsOf [
  .ife (.isi (.loc 0) .int) (stsOf [
    .ret (.lst (esOf []))]) (stsOf []),
  .ife (.cmp .eq (.ix (.loc 0) (.cst (.int 0))) (.cst (.str "pair"))) (stsOf [
    .ret (.lst (esOf [(.ix (.loc 0) (.cst (.int 1))), (.ix (.loc 0) (.cst (.int 2)))]))]) (stsOf []),
  .ret (.bi .list (esOf [(.ix (.loc 0) (.cst (.int 2)))]))])
def df_worths_in : Df := ⟨⟨("worths_in", none), "worths_in", "worths_in", defArgs (top 11), defBody (top 11), defScope (top 11), [], []⟩, ["worth"], ["worth"], [], [], ir_worths_in⟩
def ir_has_form : Sms := (stsOf [
  .ife (.isi (.loc 0) .int) (stsOf [
    .ret (.call "is_whole" (esOf [(.loc 0), (.glob "GREAT")]))]) (stsOf []),
  .ife (.or (.not (.isi (.loc 0) .tuple)) (.or (.cmp .ne (.bi .len (esOf [(.loc 0)])) (.cst (.int 3))) (.not (.isi (.ix (.loc 0) (.cst (.int 0))) .str)))) (stsOf [
    .ret (.cst (.bl false))]) (stsOf []),
  .ife (.cmp .eq (.ix (.loc 0) (.cst (.int 0))) (.cst (.str "fn"))) (stsOf [
    .ret (.and (.call "is_name" (esOf [(.ix (.loc 0) (.cst (.int 1)))])) (.isi (.ix (.loc 0) (.cst (.int 2))) .tuple))]) (stsOf []),
  .ret (.cmp .eq (.ix (.loc 0) (.cst (.int 0))) (.cst (.str "pair")))])
def df_has_form : Df := ⟨⟨("has_form", none), "has_form", "has_form", defArgs (top 12), defBody (top 12), defScope (top 12), [], []⟩, ["thing"], ["thing"], [], [], ir_has_form⟩
def ir_is_worth : Sms := (stsOf [
  .own 1 (.lst (esOf [(.loc 0)])),
  .set (.one 2) (.cst (.int 0)),
  .whl (.cmp .ne (.rd 1) (.lst (esOf []))) (stsOf [
    .pop 3 1,
    .set (.one 2) (.bin .add (.loc 2) (.cst (.int 1))),
    .ife (.or (.cmp .gt (.loc 2) (.glob "PARTS")) (.not (.call "has_form" (esOf [(.loc 3)])))) (stsOf [
      .ret (.cst (.bl false))]) (stsOf []),
    .ext 1 (.call "worths_in" (esOf [(.loc 3)]))]),
  .ret (.cst (.bl true))])
def df_is_worth : Df := ⟨⟨("is_worth", none), "is_worth", "is_worth", defArgs (top 13), defBody (top 13), defScope (top 13), [], []⟩, ["thing"], ["thing", "left", "many", "one"], [1], [], ir_is_worth⟩
def ir_show_worth : Sms := (stsOf [
  .ife (.isi (.loc 0) .int) (stsOf [
    .ret (.bi .str (esOf [(.loc 0)]))]) (stsOf []),
  .ife (.cmp .eq (.ix (.loc 0) (.cst (.int 0))) (.cst (.str "pair"))) (stsOf [
    .ret (.bin .add (.bin .add (.bin .add (.bin .add (.cst (.str "[")) (.call "show_worth" (esOf [(.ix (.loc 0) (.cst (.int 1)))]))) (.cst (.str ","))) (.call "show_worth" (esOf [(.ix (.loc 0) (.cst (.int 2)))]))) (.cst (.str "]")))]) (stsOf []),
  .ret (.bin .add (.bin .add (.bin .add (.ix (.loc 0) (.cst (.int 1))) (.cst (.str "("))) (.vm .join (.cst (.str ",")) (esOf [(.comp (.call "show_worth" (esOf [(.loc 1)])) [1] (.one 1) (.seq (.ix (.loc 0) (.cst (.int 2)))) .none)]))) (.cst (.str ")")))])
def df_show_worth : Df := ⟨⟨("show_worth", none), "show_worth", "show_worth", defArgs (top 16), defBody (top 16), defScope (top 16), [], []⟩, ["worth"], ["worth", "one"], [], [], ir_show_worth⟩
def ir_read_worth : Sms := (stsOf [
  .set (.one 1) (.mk "Signs" (esOf [(.loc 0)])),
  .set (.one 2) (.meth "worth" (.loc 1) (esOf [])),
  .ife (.or (.cmp .lt (.fld (.loc 1) "at") (.bi .len (esOf [(.loc 0)]))) (.not (.call "is_worth" (esOf [(.loc 2)])))) (stsOf [
    .rais "NoText" (some "line") (.cons (.cst (.int 0)) .nil)]) (stsOf []),
  .retO 2])
def df_read_worth : Df := ⟨⟨("read_worth", none), "read_worth", "read_worth", defArgs (top 18), defBody (top 18), defScope (top 18), [], []⟩, ["text"], ["text", "signs", "worth"], [], [], ir_read_worth⟩
def ir_law_tape : Sms := (stsOf [
  .ret (.newD [(.inr "cells"), (.inr "spot"), (.inr "left")] (esOf [(.slc (.loc 0) .none (.some (.cst (.int 63)))), (.cst (.int 0)), (.cst (.int 0))]))])
def df_law_tape : Df := ⟨⟨("_law_tape", none), "_law_tape", "_law_tape", defArgs (top 20), defBody (top 20), defScope (top 20), [], []⟩, ["_law_script"], ["_law_script"], [], [(117, 11)], ir_law_tape⟩
def ir_law_draw : Sms := (stsOf [
  .ife (.cmp .gt (.ix (.loc 0) (.cst (.str "left"))) (.cst (.int 0))) (stsOf [
    .set (.one 2) (.bin .mod (.ix (.loc 0) (.cst (.str "left"))) (.loc 1)),
    .setIx (.loc 0) (.cst (.str "left")) (.bin .fdiv (.ix (.loc 0) (.cst (.str "left"))) (.loc 1)),
    .retO 2]) (stsOf []),
  .set (.one 3) (.ix (.loc 0) (.cst (.str "spot"))),
  .setIx (.loc 0) (.cst (.str "spot")) (.bin .add (.loc 3) (.cst (.int 1))),
  .set (.one 4) (.or (.ix (.loc 0) (.cst (.str "cells"))) (.lst (esOf [(.cst (.int 0))]))),
  .set (.one 5) (.ix (.loc 4) (.bin .mod (.loc 3) (.bi .len (esOf [(.loc 4)])))),
  .ife (.and (.cmp .ge (.loc 5) (.bin .pow (.cst (.int 10)) (.cst (.int 18)))) (.cmp .lt (.loc 3) (.bi .len (esOf [(.loc 4)])))) (stsOf [
    .setIx (.loc 0) (.cst (.str "left")) (.bin .fdiv (.bin .sub (.loc 5) (.bin .pow (.cst (.int 10)) (.cst (.int 18)))) (.loc 1)),
    .ret (.bin .mod (.bin .sub (.loc 5) (.bin .pow (.cst (.int 10)) (.cst (.int 18)))) (.loc 1))]) (stsOf []),
  .set (.one 6) (.lst (esOf [(.cst (.int 2147483647)), (.cst (.int 2147483629)), (.cst (.int 2147483587)), (.cst (.int 2147483579)), (.cst (.int 2147483563)), (.cst (.int 2147483549)), (.cst (.int 2147483543))])),
  .set (.one 7) (.ix (.loc 6) (.bin .mod (.loc 3) (.cst (.int 7)))),
  .set (.one 8) (.bin .mod (.bin .add (.bin .add (.bin .add (.bin .mul (.bin .mod (.loc 5) (.loc 7)) (.cst (.int 48271))) (.bin .mul (.bin .mul (.cst (.int 7919)) (.loc 3)) (.loc 3))) (.bin .mul (.cst (.int 69621)) (.loc 3))) (.cst (.int 1))) (.loc 7)),
  .set (.one 8) (.bin .mod (.bin .mul (.loc 8) (.bin .add (.loc 8) (.cst (.int 16807)))) (.ix (.loc 6) (.bin .mod (.bin .add (.loc 3) (.cst (.int 3))) (.cst (.int 7))))),
  .set (.one 2) (.bin .fdiv (.bin .mod (.bin .mul (.loc 8) (.loc 8)) (.loc 7)) (.cst (.int 64))),
  .ife (.cmp .gt (.loc 1) (.bin .pow (.cst (.int 10)) (.cst (.int 6)))) (stsOf [
    .set (.one 2) (.bin .add (.bin .mod (.loc 2) (.bin .pow (.cst (.int 10)) (.cst (.int 6)))) (.bin .mul (.bin .pow (.cst (.int 10)) (.cst (.int 6))) (.call "_law_draw" (esOf [(.loc 0), (.bin .add (.bin .fdiv (.loc 1) (.bin .pow (.cst (.int 10)) (.cst (.int 6)))) (.cst (.int 1)))]))))]) (stsOf []),
  .ret (.bin .mod (.loc 2) (.loc 1))])
def df_law_draw : Df := ⟨⟨("_law_draw", none), "_law_draw", "_law_draw", defArgs (top 21), defBody (top 21), defScope (top 21), [], []⟩, ["_law_tape_here", "_law_many"], ["_law_tape_here", "_law_many", "_law_found", "_law_spot", "_law_cells", "_law_cell", "_law_primes", "_law_prime", "_law_seed"], [], [], ir_law_draw⟩
def ir_law_pool : Sms := (stsOf [
  .set (.one 2) (.cst (.str "row main else in made give number if go fn call tell pair first second plus f0 f1 f10 f2 v0 v1 v10 v2")),
  .set (.one 2) (.vm .split (.loc 2) (esOf [(.cst (.str " "))])),
  .set (.one 3) (.cst (.str "abcdefghijklmnopqrstuvwxyz")),
  .set (.one 4) (.bin .add (.cst (.int 1)) (.call "_law_draw" (esOf [(.loc 0), (.cst (.int 8))]))),
  .set (.one 5) (.call "_law_draw" (esOf [(.loc 0), (.loc 4)])),
  .set (.one 6) (.ix (.loc 3) (.call "_law_draw" (esOf [(.loc 0), (.cst (.int 26))]))),
  .set (.one 6) (.bin .add (.loc 6) (.vm .join (.cst (.str "")) (esOf [(.comp (.ix (.bin .add (.loc 3) (.cst (.str "0123456789"))) (.call "_law_draw" (esOf [(.loc 0), (.cst (.int 36))]))) [11] (.one 11) (.rng (.bin .sub (.loc 4) (.cst (.int 1)))) .none)]))),
  .set (.one 7) (.call "_law_draw" (esOf [(.loc 0), (.cst (.int 24))])),
  .set (.one 8) (.ix (.lst (esOf [(.cst (.int 1)), (.cst (.int 3)), (.cst (.int 5)), (.cst (.int 7)), (.cst (.int 9)), (.cst (.int 11)), (.cst (.int 15)), (.cst (.int 25))])) (.call "_law_draw" (esOf [(.loc 0), (.cst (.int 8))]))),
  .set (.one 9) (.call "_law_draw" (esOf [(.loc 0), (.cst (.int 4))])),
  .ife (.cmp .eq (.loc 9) (.cst (.int 3))) (stsOf [
    .ret (.slc (.bin .add (.slc (.loc 2) (.some (.loc 7)) .none) (.slc (.loc 2) .none (.some (.loc 7)))) .none (.some (.loc 1)))]) (stsOf []),
  .own 10 (.lst (esOf [])),
  .fo (.one 11) (.rng (.loc 1)) (stsOf [
    .set (.one 12) (.ix (.loc 3) (.bin .mod (.bin .add (.loc 7) (.bin .mul (.loc 8) (.loc 11))) (.cst (.int 26)))),
    .set (.one 13) (.ife (.cmp .eq (.loc 9) (.cst (.int 1))) (.slc (.loc 6) (.some (.bin .add (.loc 5) (.cst (.int 1)))) (.some (.bin .add (.bin .add (.loc 5) (.cst (.int 1))) (.loc 11)))) (.slc (.loc 6) (.some (.bin .add (.loc 5) (.cst (.int 1)))) .none)),
    .app 10 (.ife (.and (.cmp .eq (.loc 9) (.cst (.int 2))) (.cmp .eq (.bin .mod (.loc 11) (.cst (.int 2))) (.cst (.int 1)))) (.loc 12) (.bin .add (.bin .add (.slc (.loc 6) .none (.some (.loc 5))) (.loc 12)) (.loc 13)))]),
  .retO 10])
def df_law_pool : Df := ⟨⟨("_law_pool", none), "_law_pool", "_law_pool", defArgs (top 22), defBody (top 22), defScope (top 22), [], []⟩, ["_law_tape_here", "_law_many"], ["_law_tape_here", "_law_many", "_law_words", "_law_letters", "_law_size", "_law_at", "_law_base", "_law_first", "_law_step", "_law_longer", "_law_found", "_law_k", "_law_sign", "_law_tail"], [10], [], ir_law_pool⟩
def ir_law_same : Sms := (stsOf [
  .ife (.or (.isi (.loc 1) .tuple) (.isi (.loc 1) .list)) (stsOf [
    .ife (.or (.cmp .ne (.isi (.loc 0) .tuple) (.isi (.loc 1) .tuple)) (.cmp .ne (.isi (.loc 0) .list) (.isi (.loc 1) .list))) (stsOf [
      .ret (.cst (.bl false))]) (stsOf []),
    .ret (.and (.cmp .eq (.bi .len (esOf [(.loc 0)])) (.bi .len (esOf [(.loc 1)]))) (.bi .all (esOf [(.compZ (.call "_law_same" (esOf [(.loc 2), (.loc 3)])) [2, 3] (.tup [2, 3]) (.loc 0) (.loc 1) .none)])))]) (stsOf []),
  .ife (.or (.isi (.loc 1) .bool) (.isi (.loc 1) .int)) (stsOf [
    .ret (.and (.isi (.loc 0) .int) (.and (.cmp .eq (.isi (.loc 0) .bool) (.isi (.loc 1) .bool)) (.cmp .eq (.loc 0) (.loc 1))))]) (stsOf []),
  .ret (.and (.isi (.loc 0) .str) (.and (.isi (.loc 1) .str) (.cmp .eq (.loc 0) (.loc 1))))])
def df_law_same : Df := ⟨⟨("_law_same", none), "_law_same", "_law_same", defArgs (top 23), defBody (top 23), defScope (top 23), [], []⟩, ["_law_found", "_law_due"], ["_law_found", "_law_due", "_law_one", "_law_other"], [], [(161, 117)], ir_law_same⟩
def ir_law_far : Sms := (stsOf [
  .ret (.ix (.lst (esOf [(.bin .sub (.call "_law_draw" (esOf [(.loc 0), (.cst (.int 7))])) (.cst (.int 3))), (.bin .sub (.call "_law_draw" (esOf [(.loc 0), (.bin .add (.bin .mul (.cst (.int 2)) (.loc 1)) (.cst (.int 1)))])) (.loc 1))])) (.bin .fdiv (.call "_law_draw" (esOf [(.loc 0), (.cst (.int 8))])) (.cst (.int 7))))])
def df_law_far : Df := ⟨⟨("_law_far", none), "_law_far", "_law_far", defArgs (top 24), defBody (top 24), defScope (top 24), [], []⟩, ["_law_tape_here", "_law_most"], ["_law_tape_here", "_law_most"], [], [], ir_law_far⟩
def ir_law_worth : Sms := (stsOf [
  .set (.one 3) (.call "_law_draw" (esOf [(.loc 0), (.cst (.int 6))])),
  .ife (.and (.cmp .gt (.loc 3) (.cst (.int 3))) (.and (.cmp .gt (.ix (.loc 2) (.cst (.int 0))) (.cst (.int 1))) (.or (.cmp .eq (.loc 3) (.cst (.int 4))) (.cmp .eq (.loc 1) (.dic [] (esOf [])))))) (stsOf [
    .setIx (.loc 2) (.cst (.int 0)) (.bin .sub (.ix (.loc 2) (.cst (.int 0))) (.cst (.int 2))),
    .set (.one 4) (.call "_law_worth" (esOf [(.loc 0), (.loc 1), (.loc 2)])),
    .ret (.tup (esOf [(.cst (.str "pair")), (.loc 4), (.call "_law_worth" (esOf [(.loc 0), (.loc 1), (.loc 2)]))]))]) (stsOf []),
  .set (.one 5) (.ix (.bin .add (.bi .list (esOf [(.loc 1)])) (.lst (esOf [(.cst (.str ""))]))) (.call "_law_draw" (esOf [(.loc 0), (.bi .max (esOf [(.cst (.int 1)), (.bi .len (esOf [(.loc 1)]))]))]))),
  .ife (.and (.cmp .eq (.loc 3) (.cst (.int 5))) (.and (.cmp .isin (.loc 5) (.loc 1)) (.cmp .le (.ix (.loc 1) (.loc 5)) (.ix (.loc 2) (.cst (.int 0)))))) (stsOf [
    .setIx (.loc 2) (.cst (.int 0)) (.bin .sub (.ix (.loc 2) (.cst (.int 0))) (.ix (.loc 1) (.loc 5))),
    .ret (.tup (esOf [(.cst (.str "fn")), (.loc 5), (.bi .tuple (esOf [(.comp (.call "_law_worth" (esOf [(.loc 0), (.loc 1), (.loc 2)])) [6] (.one 6) (.rng (.ix (.loc 1) (.loc 5))) .none)]))]))]) (stsOf []),
  .ret (.call "_law_far" (esOf [(.loc 0), (.bin .pow (.cst (.int 10)) (.cst (.int 30)))]))])
def df_law_worth : Df := ⟨⟨("_law_worth", none), "_law_worth", "_law_worth", defArgs (top 25), defBody (top 25), defScope (top 25), [], []⟩, ["_law_tape_here", "_law_many", "_law_left"], ["_law_tape_here", "_law_many", "_law_left", "_law_way", "_law_one", "_law_label", "_law_k"], [], [], ir_law_worth⟩
def ir_law_long : Sms := (stsOf [
  .set (.one 2) (.ix (.lst (esOf [(.cst (.int 0)), (.bin .pow (.cst (.int 10)) (.cst (.int 30))), (.bin .sub (.cst (.int 0)) (.bin .pow (.cst (.int 10)) (.cst (.int 30)))), (.call "_law_draw" (esOf [(.loc 0), (.cst (.int 99))]))])) (.call "_law_draw" (esOf [(.loc 0), (.cst (.int 4))]))),
  .fo (.one 3) (.rng (.bin .fdiv (.bin .sub (.loc 1) (.cst (.int 1))) (.cst (.int 2)))) (stsOf [
    .set (.one 2) (.ix (.lst (esOf [(.tup (esOf [(.cst (.str "pair")), (.loc 2), (.loc 3)])), (.tup (esOf [(.cst (.str "pair")), (.loc 3), (.loc 2)]))])) (.call "_law_draw" (esOf [(.loc 0), (.cst (.int 2))])))]),
  .retO 2])
def df_law_long : Df := ⟨⟨("_law_long", none), "_law_long", "_law_long", defArgs (top 26), defBody (top 26), defScope (top 26), [], []⟩, ["_law_tape_here", "_law_parts"], ["_law_tape_here", "_law_parts", "_law_found", "_law_k"], [], [], ir_law_long⟩
def ir_law_text_of : Sms := (stsOf [
  .ife (.isi (.loc 0) .int) (stsOf [
    .ret (.bi .str (esOf [(.loc 0)]))]) (stsOf []),
  .ife (.cmp .eq (.ix (.loc 0) (.cst (.int 0))) (.cst (.str "pair"))) (stsOf [
    .ret (.bin .add (.bin .add (.bin .add (.bin .add (.cst (.str "[")) (.call "_law_text_of" (esOf [(.ix (.loc 0) (.cst (.int 1)))]))) (.cst (.str ","))) (.call "_law_text_of" (esOf [(.ix (.loc 0) (.cst (.int 2)))]))) (.cst (.str "]")))]) (stsOf []),
  .ret (.bin .add (.bin .add (.bin .add (.ix (.loc 0) (.cst (.int 1))) (.cst (.str "("))) (.vm .join (.cst (.str ",")) (esOf [(.comp (.call "_law_text_of" (esOf [(.loc 1)])) [1] (.one 1) (.seq (.ix (.loc 0) (.cst (.int 2)))) .none)]))) (.cst (.str ")")))])
def df_law_text_of : Df := ⟨⟨("_law_text_of", none), "_law_text_of", "_law_text_of", defArgs (top 27), defBody (top 27), defScope (top 27), [], []⟩, ["_law_worth_here"], ["_law_worth_here", "_law_one"], [], [], ir_law_text_of⟩
def ir_law : Sms := (stsOf [
  .set (.one 1) (.call "_law_tape" (esOf [(.loc 0)])),
  .fo (.one 2) (.rng (.cst (.int 5))) (stsOf [
    .own 3 (.dic [] (esOf [])),
    .fo (.one 4) (.seq (.call "_law_pool" (esOf [(.loc 1), (.bin .add (.cst (.int 1)) (.call "_law_draw" (esOf [(.loc 1), (.cst (.int 9))])))]))) (stsOf [
      .ownIx 3 (.loc 4) (.ix (.lst (esOf [(.cst (.int 0)), (.cst (.int 1)), (.cst (.int 2)), (.cst (.int 3)), (.cst (.int 5)), (.cst (.int 7)), (.cst (.int 12)), (.cst (.int 50))])) (.call "_law_draw" (esOf [(.loc 1), (.cst (.int 8))])))]),
    .fz [3] (.set (.one 5) (.call "_law_worth" (esOf [(.loc 1), (.loc 3), (.newL (esOf [(.call "_law_draw" (esOf [(.loc 1), (.cst (.int 60))]))]))]))),
    .ife (.cmp .eq (.call "_law_draw" (esOf [(.loc 1), (.cst (.int 5))])) (.cst (.int 4))) (stsOf [
      .set (.one 5) (.call "_law_long" (esOf [(.loc 1), (.bin .add (.cst (.int 1)) (.call "_law_draw" (esOf [(.loc 1), (.cst (.int 60))])))]))]) (stsOf []),
    .set (.one 6) (.call "_law_text_of" (esOf [(.loc 5)])),
    .fo (.one 7) (.rng (.cst (.int 2))) (stsOf [
      .set (.one 8) (.call "show_worth" (esOf [(.loc 5)])),
      .ife (.or (.not (.isi (.loc 8) .str)) (.or (.cmp .ne (.loc 8) (.loc 6)) (.not (.call "_law_same" (esOf [(.call "read_worth" (esOf [(.loc 6)])), (.loc 5)]))))) (stsOf [
        .ret (.cst (.bl false))]) (stsOf [])])]),
  .ret (.cst (.bl true))])
def df_law : Df := ⟨⟨("law", none), "law", "law", defArgs (top 28), defBody (top 28), defScope (top 28), [], []⟩, ["_law_script"], ["_law_script", "_law_tape_here", "_law_turn", "_law_many", "_law_label", "_law_worth_here", "_law_due", "_law_again", "_law_found"], [3], [(195, 64)], ir_law⟩
def ir_Signs___init__ : Sms := (stsOf [
  .setF (.loc 0) "signs" (.loc 1),
  .setF (.loc 0) "at" (.cst (.int 0))])
def df_Signs___init__ : Df := ⟨⟨("Signs", some "__init__"), "__init__", "Signs.__init__", defArgs (inClass (top 17) 0), defBody (inClass (top 17) 0), defScope (inClass (top 17) 0), [], []⟩, ["self", "text"], ["self", "text"], [], [], ir_Signs___init__⟩
def ir_Signs_sign : Sms := (stsOf [
  .ret (.slc (.fld (.loc 0) "signs") (.some (.fld (.loc 0) "at")) (.some (.bin .add (.fld (.loc 0) "at") (.cst (.int 1)))))])
def df_Signs_sign : Df := ⟨⟨("Signs", some "sign"), "sign", "Signs.sign", defArgs (inClass (top 17) 1), defBody (inClass (top 17) 1), defScope (inClass (top 17) 1), [], []⟩, ["self"], ["self"], [], [], ir_Signs_sign⟩
def ir_Signs_need : Sms := (stsOf [
  .ife (.cmp .ne (.meth "sign" (.loc 0) (esOf [])) (.loc 1)) (stsOf [
    .rais "NoText" (some "line") (.cons (.cst (.int 0)) .nil)]) (stsOf []),
  .setF (.loc 0) "at" (.bin .add (.fld (.loc 0) "at") (.cst (.int 1)))])
def df_Signs_need : Df := ⟨⟨("Signs", some "need"), "need", "Signs.need", defArgs (inClass (top 17) 2), defBody (inClass (top 17) 2), defScope (inClass (top 17) 2), [], []⟩, ["self", "sign"], ["self", "sign"], [], [], ir_Signs_need⟩
def ir_Signs_run_of : Sms := (stsOf [
  .set (.one 2) (.fld (.loc 0) "at"),
  .whl (.and (.cmp .ne (.meth "sign" (.loc 0) (esOf [])) (.cst (.str ""))) (.cmp .isin (.meth "sign" (.loc 0) (esOf [])) (.loc 1))) (stsOf [
    .setF (.loc 0) "at" (.bin .add (.fld (.loc 0) "at") (.cst (.int 1)))]),
  .ret (.slc (.fld (.loc 0) "signs") (.some (.loc 2)) (.some (.fld (.loc 0) "at")))])
def df_Signs_run_of : Df := ⟨⟨("Signs", some "run_of"), "run_of", "Signs.run_of", defArgs (inClass (top 17) 3), defBody (inClass (top 17) 3), defScope (inClass (top 17) 3), [], []⟩, ["self", "some"], ["self", "some", "begin"], [], [], ir_Signs_run_of⟩
def ir_Signs_number : Sms := (stsOf [
  .set (.one 1) (.cmp .eq (.meth "sign" (.loc 0) (esOf [])) (.cst (.str "-"))),
  .ife (.loc 1) (stsOf [
    .expr (.meth "need" (.loc 0) (esOf [(.cst (.str "-"))]))]) (stsOf []),
  .set (.one 2) (.meth "run_of" (.loc 0) (esOf [(.glob "FIGURES")])),
  .ife (.or (.cmp .eq (.loc 2) (.cst (.str ""))) (.or (.cmp .gt (.bi .len (esOf [(.loc 2)])) (.glob "FIGURES_MOST")) (.and (.cmp .eq (.ix (.loc 2) (.cst (.int 0))) (.cst (.str "0"))) (.or (.loc 1) (.cmp .ne (.loc 2) (.cst (.str "0"))))))) (stsOf [
    .rais "NoText" (some "line") (.cons (.cst (.int 0)) .nil)]) (stsOf []),
  .set (.one 3) (.bi .int (esOf [(.loc 2)])),
  .ret (.ife (.loc 1) (.bin .sub (.cst (.int 0)) (.loc 3)) (.loc 3))])
def df_Signs_number : Df := ⟨⟨("Signs", some "number"), "number", "Signs.number", defArgs (inClass (top 17) 4), defBody (inClass (top 17) 4), defScope (inClass (top 17) 4), [], []⟩, ["self"], ["self", "low", "figures", "number"], [], [], ir_Signs_number⟩
def ir_Signs_pair : Sms := (stsOf [
  .expr (.meth "need" (.loc 0) (esOf [(.cst (.str "["))])),
  .set (.one 1) (.meth "worth" (.loc 0) (esOf [])),
  .expr (.meth "need" (.loc 0) (esOf [(.cst (.str ","))])),
  .set (.one 2) (.meth "worth" (.loc 0) (esOf [])),
  .expr (.meth "need" (.loc 0) (esOf [(.cst (.str "]"))])),
  .ret (.tup (esOf [(.cst (.str "pair")), (.loc 1), (.loc 2)]))])
def df_Signs_pair : Df := ⟨⟨("Signs", some "pair"), "pair", "Signs.pair", defArgs (inClass (top 17) 5), defBody (inClass (top 17) 5), defScope (inClass (top 17) 5), [], []⟩, ["self"], ["self", "one", "other"], [], [], ir_Signs_pair⟩
def ir_Signs_function : Sms := (stsOf [
  .set (.one 1) (.meth "run_of" (.loc 0) (esOf [(.bin .add (.glob "LETTERS") (.glob "FIGURES"))])),
  .expr (.meth "need" (.loc 0) (esOf [(.cst (.str "("))])),
  .own 2 (.lst (esOf [])),
  .ife (.cmp .ne (.meth "sign" (.loc 0) (esOf [])) (.cst (.str ")"))) (stsOf [
    .app 2 (.meth "worth" (.loc 0) (esOf [])),
    .whl (.cmp .eq (.meth "sign" (.loc 0) (esOf [])) (.cst (.str ","))) (stsOf [
      .expr (.meth "need" (.loc 0) (esOf [(.cst (.str ","))])),
      .app 2 (.meth "worth" (.loc 0) (esOf []))])]) (stsOf []),
  .expr (.meth "need" (.loc 0) (esOf [(.cst (.str ")"))])),
  .ret (.tup (esOf [(.cst (.str "fn")), (.loc 1), (.bi .tuple (esOf [(.rd 2)]))]))])
def df_Signs_function : Df := ⟨⟨("Signs", some "function"), "function", "Signs.function", defArgs (inClass (top 17) 6), defBody (inClass (top 17) 6), defScope (inClass (top 17) 6), [], []⟩, ["self"], ["self", "label", "worths"], [2], [], ir_Signs_function⟩
def ir_Signs_worth : Sms := (stsOf [
  .set (.one 1) (.meth "sign" (.loc 0) (esOf [])),
  .ife (.cmp .eq (.loc 1) (.cst (.str "["))) (stsOf [
    .ret (.meth "pair" (.loc 0) (esOf []))]) (stsOf []),
  .ife (.and (.cmp .ne (.loc 1) (.cst (.str ""))) (.cmp .isin (.loc 1) (.glob "LETTERS"))) (stsOf [
    .ret (.meth "function" (.loc 0) (esOf []))]) (stsOf []),
  .ret (.meth "number" (.loc 0) (esOf []))])
def df_Signs_worth : Df := ⟨⟨("Signs", some "worth"), "worth", "Signs.worth", defArgs (inClass (top 17) 7), defBody (inClass (top 17) 7), defScope (inClass (top 17) 7), [], []⟩, ["self"], ["self", "sign"], [], [], ir_Signs_worth⟩
def exd_NoText : ExD := ⟨"NoText", "line", ⟨("NoText", some "__init__"), "__init__", "NoText.__init__", defArgs (inClass (top 2) 0), defBody (inClass (top 2) 0), defScope (inClass (top 2) 0), [], []⟩⟩
def T : Tab := { defs := [df_is_name, df_is_whole, df_worths_in, df_has_form, df_is_worth, df_show_worth, df_read_worth, df_law_tape, df_law_draw, df_law_pool, df_law_same, df_law_far, df_law_worth, df_law_long, df_law_text_of, df_law, df_Signs___init__, df_Signs_sign, df_Signs_need, df_Signs_run_of, df_Signs_number, df_Signs_pair, df_Signs_function, df_Signs_worth], clss := ["Signs"], flds := [("Signs", "at"), ("Signs", "signs")], mths := [("Signs", "sign"), ("Signs", "need"), ("Signs", "run_of"), ("Signs", "number"), ("Signs", "pair"), ("Signs", "function"), ("Signs", "worth")], exc := [exd_NoText], kis := [("GREAT", 1000000000000000000000000000000), ("PARTS", 60), ("FIGURES_MOST", 31)], kss := [("LETTERS", "abcdefghijklmnopqrstuvwxyz"), ("FIGURES", "0123456789")], tbs := [] }
theorem sc_is_name : FnScope df_is_name.N df_is_name.ps df_is_name.d.scope := ⟨rfl, rfl, rfl, by decide +kernel, rfl, by decide +kernel, by decide +kernel⟩
theorem ok_is_name : compSs 200 (T.cc df_is_name) df_is_name.d.body = some df_is_name.ir := by kernel_rfl
theorem bd_is_name (kV doc pm : Value) (an : Option Addr) (cdv ct : Value) (us : List Value) (hl : us.length = df_is_name.ps.length) : bindArgs (PySem.W.fnOf df_is_name.d.name df_is_name.d.qual df_is_name.d.params df_is_name.d.body df_is_name.d.scope .none kV doc pm an cdv ct) ⟨us, []⟩ = pure (df_is_name.ps.zip us) :=
  match us, hl with | [_], _ => rfl
theorem sc_is_whole : FnScope df_is_whole.N df_is_whole.ps df_is_whole.d.scope := ⟨rfl, rfl, rfl, by decide +kernel, rfl, by decide +kernel, by decide +kernel⟩
theorem ok_is_whole : compSs 200 (T.cc df_is_whole) df_is_whole.d.body = some df_is_whole.ir := by kernel_rfl
theorem bd_is_whole (kV doc pm : Value) (an : Option Addr) (cdv ct : Value) (us : List Value) (hl : us.length = df_is_whole.ps.length) : bindArgs (PySem.W.fnOf df_is_whole.d.name df_is_whole.d.qual df_is_whole.d.params df_is_whole.d.body df_is_whole.d.scope .none kV doc pm an cdv ct) ⟨us, []⟩ = pure (df_is_whole.ps.zip us) :=
  match us, hl with | [_, _], _ => rfl
theorem sc_worths_in : FnScope df_worths_in.N df_worths_in.ps df_worths_in.d.scope := ⟨rfl, rfl, rfl, by decide +kernel, rfl, by decide +kernel, by decide +kernel⟩
theorem ok_worths_in : compSs 200 (T.cc df_worths_in) df_worths_in.d.body = some df_worths_in.ir := by kernel_rfl
theorem bd_worths_in (kV doc pm : Value) (an : Option Addr) (cdv ct : Value) (us : List Value) (hl : us.length = df_worths_in.ps.length) : bindArgs (PySem.W.fnOf df_worths_in.d.name df_worths_in.d.qual df_worths_in.d.params df_worths_in.d.body df_worths_in.d.scope .none kV doc pm an cdv ct) ⟨us, []⟩ = pure (df_worths_in.ps.zip us) :=
  match us, hl with | [_], _ => rfl
theorem sc_has_form : FnScope df_has_form.N df_has_form.ps df_has_form.d.scope := ⟨rfl, rfl, rfl, by decide +kernel, rfl, by decide +kernel, by decide +kernel⟩
theorem ok_has_form : compSs 200 (T.cc df_has_form) df_has_form.d.body = some df_has_form.ir := by kernel_rfl
theorem bd_has_form (kV doc pm : Value) (an : Option Addr) (cdv ct : Value) (us : List Value) (hl : us.length = df_has_form.ps.length) : bindArgs (PySem.W.fnOf df_has_form.d.name df_has_form.d.qual df_has_form.d.params df_has_form.d.body df_has_form.d.scope .none kV doc pm an cdv ct) ⟨us, []⟩ = pure (df_has_form.ps.zip us) :=
  match us, hl with | [_], _ => rfl
theorem sc_is_worth : FnScope df_is_worth.N df_is_worth.ps df_is_worth.d.scope := ⟨rfl, rfl, rfl, by decide +kernel, rfl, by decide +kernel, by decide +kernel⟩
theorem ok_is_worth : compSs 200 (T.cc df_is_worth) df_is_worth.d.body = some df_is_worth.ir := by kernel_rfl
theorem bd_is_worth (kV doc pm : Value) (an : Option Addr) (cdv ct : Value) (us : List Value) (hl : us.length = df_is_worth.ps.length) : bindArgs (PySem.W.fnOf df_is_worth.d.name df_is_worth.d.qual df_is_worth.d.params df_is_worth.d.body df_is_worth.d.scope .none kV doc pm an cdv ct) ⟨us, []⟩ = pure (df_is_worth.ps.zip us) :=
  match us, hl with | [_], _ => rfl
theorem sc_show_worth : FnScope df_show_worth.N df_show_worth.ps df_show_worth.d.scope := ⟨rfl, rfl, rfl, by decide +kernel, rfl, by decide +kernel, by decide +kernel⟩
theorem ok_show_worth : compSs 200 (T.cc df_show_worth) df_show_worth.d.body = some df_show_worth.ir := by kernel_rfl
theorem bd_show_worth (kV doc pm : Value) (an : Option Addr) (cdv ct : Value) (us : List Value) (hl : us.length = df_show_worth.ps.length) : bindArgs (PySem.W.fnOf df_show_worth.d.name df_show_worth.d.qual df_show_worth.d.params df_show_worth.d.body df_show_worth.d.scope .none kV doc pm an cdv ct) ⟨us, []⟩ = pure (df_show_worth.ps.zip us) :=
  match us, hl with | [_], _ => rfl
theorem sc_read_worth : FnScope df_read_worth.N df_read_worth.ps df_read_worth.d.scope := ⟨rfl, rfl, rfl, by decide +kernel, rfl, by decide +kernel, by decide +kernel⟩
theorem ok_read_worth : compSs 200 (T.cc df_read_worth) df_read_worth.d.body = some df_read_worth.ir := by kernel_rfl
theorem bd_read_worth (kV doc pm : Value) (an : Option Addr) (cdv ct : Value) (us : List Value) (hl : us.length = df_read_worth.ps.length) : bindArgs (PySem.W.fnOf df_read_worth.d.name df_read_worth.d.qual df_read_worth.d.params df_read_worth.d.body df_read_worth.d.scope .none kV doc pm an cdv ct) ⟨us, []⟩ = pure (df_read_worth.ps.zip us) :=
  match us, hl with | [_], _ => rfl
theorem sc_law_tape : FnScope df_law_tape.N df_law_tape.ps df_law_tape.d.scope := ⟨rfl, rfl, rfl, by decide +kernel, rfl, by decide +kernel, by decide +kernel⟩
theorem ok_law_tape : compSs 200 (T.cc df_law_tape) df_law_tape.d.body = some df_law_tape.ir := by kernel_rfl
theorem bd_law_tape (kV doc pm : Value) (an : Option Addr) (cdv ct : Value) (us : List Value) (hl : us.length = df_law_tape.ps.length) : bindArgs (PySem.W.fnOf df_law_tape.d.name df_law_tape.d.qual df_law_tape.d.params df_law_tape.d.body df_law_tape.d.scope .none kV doc pm an cdv ct) ⟨us, []⟩ = pure (df_law_tape.ps.zip us) :=
  match us, hl with | [_], _ => rfl
theorem sc_law_draw : FnScope df_law_draw.N df_law_draw.ps df_law_draw.d.scope := ⟨rfl, rfl, rfl, by decide +kernel, rfl, by decide +kernel, by decide +kernel⟩
theorem ok_law_draw : compSs 200 (T.cc df_law_draw) df_law_draw.d.body = some df_law_draw.ir := by kernel_rfl
theorem bd_law_draw (kV doc pm : Value) (an : Option Addr) (cdv ct : Value) (us : List Value) (hl : us.length = df_law_draw.ps.length) : bindArgs (PySem.W.fnOf df_law_draw.d.name df_law_draw.d.qual df_law_draw.d.params df_law_draw.d.body df_law_draw.d.scope .none kV doc pm an cdv ct) ⟨us, []⟩ = pure (df_law_draw.ps.zip us) :=
  match us, hl with | [_, _], _ => rfl
theorem sc_law_pool : FnScope df_law_pool.N df_law_pool.ps df_law_pool.d.scope := ⟨rfl, rfl, rfl, by decide +kernel, rfl, by decide +kernel, by decide +kernel⟩
theorem ok_law_pool : compSs 200 (T.cc df_law_pool) df_law_pool.d.body = some df_law_pool.ir := by kernel_rfl
theorem bd_law_pool (kV doc pm : Value) (an : Option Addr) (cdv ct : Value) (us : List Value) (hl : us.length = df_law_pool.ps.length) : bindArgs (PySem.W.fnOf df_law_pool.d.name df_law_pool.d.qual df_law_pool.d.params df_law_pool.d.body df_law_pool.d.scope .none kV doc pm an cdv ct) ⟨us, []⟩ = pure (df_law_pool.ps.zip us) :=
  match us, hl with | [_, _], _ => rfl
theorem sc_law_same : FnScope df_law_same.N df_law_same.ps df_law_same.d.scope := ⟨rfl, rfl, rfl, by decide +kernel, rfl, by decide +kernel, by decide +kernel⟩
theorem ok_law_same : compSs 200 (T.cc df_law_same) df_law_same.d.body = some df_law_same.ir := by kernel_rfl
theorem bd_law_same (kV doc pm : Value) (an : Option Addr) (cdv ct : Value) (us : List Value) (hl : us.length = df_law_same.ps.length) : bindArgs (PySem.W.fnOf df_law_same.d.name df_law_same.d.qual df_law_same.d.params df_law_same.d.body df_law_same.d.scope .none kV doc pm an cdv ct) ⟨us, []⟩ = pure (df_law_same.ps.zip us) :=
  match us, hl with | [_, _], _ => rfl
theorem sc_law_far : FnScope df_law_far.N df_law_far.ps df_law_far.d.scope := ⟨rfl, rfl, rfl, by decide +kernel, rfl, by decide +kernel, by decide +kernel⟩
theorem ok_law_far : compSs 200 (T.cc df_law_far) df_law_far.d.body = some df_law_far.ir := by kernel_rfl
theorem bd_law_far (kV doc pm : Value) (an : Option Addr) (cdv ct : Value) (us : List Value) (hl : us.length = df_law_far.ps.length) : bindArgs (PySem.W.fnOf df_law_far.d.name df_law_far.d.qual df_law_far.d.params df_law_far.d.body df_law_far.d.scope .none kV doc pm an cdv ct) ⟨us, []⟩ = pure (df_law_far.ps.zip us) :=
  match us, hl with | [_, _], _ => rfl
theorem sc_law_worth : FnScope df_law_worth.N df_law_worth.ps df_law_worth.d.scope := ⟨rfl, rfl, rfl, by decide +kernel, rfl, by decide +kernel, by decide +kernel⟩
theorem ok_law_worth : compSs 200 (T.cc df_law_worth) df_law_worth.d.body = some df_law_worth.ir := by kernel_rfl
theorem bd_law_worth (kV doc pm : Value) (an : Option Addr) (cdv ct : Value) (us : List Value) (hl : us.length = df_law_worth.ps.length) : bindArgs (PySem.W.fnOf df_law_worth.d.name df_law_worth.d.qual df_law_worth.d.params df_law_worth.d.body df_law_worth.d.scope .none kV doc pm an cdv ct) ⟨us, []⟩ = pure (df_law_worth.ps.zip us) :=
  match us, hl with | [_, _, _], _ => rfl
theorem sc_law_long : FnScope df_law_long.N df_law_long.ps df_law_long.d.scope := ⟨rfl, rfl, rfl, by decide +kernel, rfl, by decide +kernel, by decide +kernel⟩
theorem ok_law_long : compSs 200 (T.cc df_law_long) df_law_long.d.body = some df_law_long.ir := by kernel_rfl
theorem bd_law_long (kV doc pm : Value) (an : Option Addr) (cdv ct : Value) (us : List Value) (hl : us.length = df_law_long.ps.length) : bindArgs (PySem.W.fnOf df_law_long.d.name df_law_long.d.qual df_law_long.d.params df_law_long.d.body df_law_long.d.scope .none kV doc pm an cdv ct) ⟨us, []⟩ = pure (df_law_long.ps.zip us) :=
  match us, hl with | [_, _], _ => rfl
theorem sc_law_text_of : FnScope df_law_text_of.N df_law_text_of.ps df_law_text_of.d.scope := ⟨rfl, rfl, rfl, by decide +kernel, rfl, by decide +kernel, by decide +kernel⟩
theorem ok_law_text_of : compSs 200 (T.cc df_law_text_of) df_law_text_of.d.body = some df_law_text_of.ir := by kernel_rfl
theorem bd_law_text_of (kV doc pm : Value) (an : Option Addr) (cdv ct : Value) (us : List Value) (hl : us.length = df_law_text_of.ps.length) : bindArgs (PySem.W.fnOf df_law_text_of.d.name df_law_text_of.d.qual df_law_text_of.d.params df_law_text_of.d.body df_law_text_of.d.scope .none kV doc pm an cdv ct) ⟨us, []⟩ = pure (df_law_text_of.ps.zip us) :=
  match us, hl with | [_], _ => rfl
theorem sc_law : FnScope df_law.N df_law.ps df_law.d.scope := ⟨rfl, rfl, rfl, by decide +kernel, rfl, by decide +kernel, by decide +kernel⟩
theorem ok_law : compSs 200 (T.cc df_law) df_law.d.body = some df_law.ir := by kernel_rfl
theorem bd_law (kV doc pm : Value) (an : Option Addr) (cdv ct : Value) (us : List Value) (hl : us.length = df_law.ps.length) : bindArgs (PySem.W.fnOf df_law.d.name df_law.d.qual df_law.d.params df_law.d.body df_law.d.scope .none kV doc pm an cdv ct) ⟨us, []⟩ = pure (df_law.ps.zip us) :=
  match us, hl with | [_], _ => rfl
theorem sc_Signs___init__ : FnScope df_Signs___init__.N df_Signs___init__.ps df_Signs___init__.d.scope := ⟨rfl, rfl, rfl, by decide +kernel, rfl, by decide +kernel, by decide +kernel⟩
theorem ok_Signs___init__ : compSs 200 (T.cc df_Signs___init__) df_Signs___init__.d.body = some df_Signs___init__.ir := by kernel_rfl
theorem bd_Signs___init__ (kV doc pm : Value) (an : Option Addr) (cdv ct : Value) (us : List Value) (hl : us.length = df_Signs___init__.ps.length) : bindArgs (PySem.W.fnOf df_Signs___init__.d.name df_Signs___init__.d.qual df_Signs___init__.d.params df_Signs___init__.d.body df_Signs___init__.d.scope .none kV doc pm an cdv ct) ⟨us, []⟩ = pure (df_Signs___init__.ps.zip us) :=
  match us, hl with | [_, _], _ => rfl
theorem sc_Signs_sign : FnScope df_Signs_sign.N df_Signs_sign.ps df_Signs_sign.d.scope := ⟨rfl, rfl, rfl, by decide +kernel, rfl, by decide +kernel, by decide +kernel⟩
theorem ok_Signs_sign : compSs 200 (T.cc df_Signs_sign) df_Signs_sign.d.body = some df_Signs_sign.ir := by kernel_rfl
theorem bd_Signs_sign (kV doc pm : Value) (an : Option Addr) (cdv ct : Value) (us : List Value) (hl : us.length = df_Signs_sign.ps.length) : bindArgs (PySem.W.fnOf df_Signs_sign.d.name df_Signs_sign.d.qual df_Signs_sign.d.params df_Signs_sign.d.body df_Signs_sign.d.scope .none kV doc pm an cdv ct) ⟨us, []⟩ = pure (df_Signs_sign.ps.zip us) :=
  match us, hl with | [_], _ => rfl
theorem sc_Signs_need : FnScope df_Signs_need.N df_Signs_need.ps df_Signs_need.d.scope := ⟨rfl, rfl, rfl, by decide +kernel, rfl, by decide +kernel, by decide +kernel⟩
theorem ok_Signs_need : compSs 200 (T.cc df_Signs_need) df_Signs_need.d.body = some df_Signs_need.ir := by kernel_rfl
theorem bd_Signs_need (kV doc pm : Value) (an : Option Addr) (cdv ct : Value) (us : List Value) (hl : us.length = df_Signs_need.ps.length) : bindArgs (PySem.W.fnOf df_Signs_need.d.name df_Signs_need.d.qual df_Signs_need.d.params df_Signs_need.d.body df_Signs_need.d.scope .none kV doc pm an cdv ct) ⟨us, []⟩ = pure (df_Signs_need.ps.zip us) :=
  match us, hl with | [_, _], _ => rfl
theorem sc_Signs_run_of : FnScope df_Signs_run_of.N df_Signs_run_of.ps df_Signs_run_of.d.scope := ⟨rfl, rfl, rfl, by decide +kernel, rfl, by decide +kernel, by decide +kernel⟩
theorem ok_Signs_run_of : compSs 200 (T.cc df_Signs_run_of) df_Signs_run_of.d.body = some df_Signs_run_of.ir := by kernel_rfl
theorem bd_Signs_run_of (kV doc pm : Value) (an : Option Addr) (cdv ct : Value) (us : List Value) (hl : us.length = df_Signs_run_of.ps.length) : bindArgs (PySem.W.fnOf df_Signs_run_of.d.name df_Signs_run_of.d.qual df_Signs_run_of.d.params df_Signs_run_of.d.body df_Signs_run_of.d.scope .none kV doc pm an cdv ct) ⟨us, []⟩ = pure (df_Signs_run_of.ps.zip us) :=
  match us, hl with | [_, _], _ => rfl
theorem sc_Signs_number : FnScope df_Signs_number.N df_Signs_number.ps df_Signs_number.d.scope := ⟨rfl, rfl, rfl, by decide +kernel, rfl, by decide +kernel, by decide +kernel⟩
theorem ok_Signs_number : compSs 200 (T.cc df_Signs_number) df_Signs_number.d.body = some df_Signs_number.ir := by kernel_rfl
theorem bd_Signs_number (kV doc pm : Value) (an : Option Addr) (cdv ct : Value) (us : List Value) (hl : us.length = df_Signs_number.ps.length) : bindArgs (PySem.W.fnOf df_Signs_number.d.name df_Signs_number.d.qual df_Signs_number.d.params df_Signs_number.d.body df_Signs_number.d.scope .none kV doc pm an cdv ct) ⟨us, []⟩ = pure (df_Signs_number.ps.zip us) :=
  match us, hl with | [_], _ => rfl
theorem sc_Signs_pair : FnScope df_Signs_pair.N df_Signs_pair.ps df_Signs_pair.d.scope := ⟨rfl, rfl, rfl, by decide +kernel, rfl, by decide +kernel, by decide +kernel⟩
theorem ok_Signs_pair : compSs 200 (T.cc df_Signs_pair) df_Signs_pair.d.body = some df_Signs_pair.ir := by kernel_rfl
theorem bd_Signs_pair (kV doc pm : Value) (an : Option Addr) (cdv ct : Value) (us : List Value) (hl : us.length = df_Signs_pair.ps.length) : bindArgs (PySem.W.fnOf df_Signs_pair.d.name df_Signs_pair.d.qual df_Signs_pair.d.params df_Signs_pair.d.body df_Signs_pair.d.scope .none kV doc pm an cdv ct) ⟨us, []⟩ = pure (df_Signs_pair.ps.zip us) :=
  match us, hl with | [_], _ => rfl
theorem sc_Signs_function : FnScope df_Signs_function.N df_Signs_function.ps df_Signs_function.d.scope := ⟨rfl, rfl, rfl, by decide +kernel, rfl, by decide +kernel, by decide +kernel⟩
theorem ok_Signs_function : compSs 200 (T.cc df_Signs_function) df_Signs_function.d.body = some df_Signs_function.ir := by kernel_rfl
theorem bd_Signs_function (kV doc pm : Value) (an : Option Addr) (cdv ct : Value) (us : List Value) (hl : us.length = df_Signs_function.ps.length) : bindArgs (PySem.W.fnOf df_Signs_function.d.name df_Signs_function.d.qual df_Signs_function.d.params df_Signs_function.d.body df_Signs_function.d.scope .none kV doc pm an cdv ct) ⟨us, []⟩ = pure (df_Signs_function.ps.zip us) :=
  match us, hl with | [_], _ => rfl
theorem sc_Signs_worth : FnScope df_Signs_worth.N df_Signs_worth.ps df_Signs_worth.d.scope := ⟨rfl, rfl, rfl, by decide +kernel, rfl, by decide +kernel, by decide +kernel⟩
theorem ok_Signs_worth : compSs 200 (T.cc df_Signs_worth) df_Signs_worth.d.body = some df_Signs_worth.ir := by kernel_rfl
theorem bd_Signs_worth (kV doc pm : Value) (an : Option Addr) (cdv ct : Value) (us : List Value) (hl : us.length = df_Signs_worth.ps.length) : bindArgs (PySem.W.fnOf df_Signs_worth.d.name df_Signs_worth.d.qual df_Signs_worth.d.params df_Signs_worth.d.body df_Signs_worth.d.scope .none kV doc pm an cdv ct) ⟨us, []⟩ = pure (df_Signs_worth.ps.zip us) :=
  match us, hl with | [_], _ => rfl
theorem exo_NoText : ExOk exd_NoText where
  at_ := rfl
  dfl := ⟨rfl, rfl⟩
  body := ⟨_, _, _, _, rfl⟩
  sc := ⟨rfl, rfl, rfl, by decide +kernel, rfl, by decide +kernel, by decide +kernel⟩
  bind := fun kV doc pm an cdv ct us hl => match us, hl with | [_, _], _ => rfl
  vis := ⟨.inl rfl, .inl rfl⟩
  dbg := ⟨by decide +kernel, by decide +kernel⟩
theorem ok : T.Ok where
  sc := (List.forall_mem_cons.mpr ⟨sc_is_name, (List.forall_mem_cons.mpr ⟨sc_is_whole, (List.forall_mem_cons.mpr ⟨sc_worths_in, (List.forall_mem_cons.mpr ⟨sc_has_form, (List.forall_mem_cons.mpr ⟨sc_is_worth, (List.forall_mem_cons.mpr ⟨sc_show_worth, (List.forall_mem_cons.mpr ⟨sc_read_worth, (List.forall_mem_cons.mpr ⟨sc_law_tape, (List.forall_mem_cons.mpr ⟨sc_law_draw, (List.forall_mem_cons.mpr ⟨sc_law_pool, (List.forall_mem_cons.mpr ⟨sc_law_same, (List.forall_mem_cons.mpr ⟨sc_law_far, (List.forall_mem_cons.mpr ⟨sc_law_worth, (List.forall_mem_cons.mpr ⟨sc_law_long, (List.forall_mem_cons.mpr ⟨sc_law_text_of, (List.forall_mem_cons.mpr ⟨sc_law, (List.forall_mem_cons.mpr ⟨sc_Signs___init__, (List.forall_mem_cons.mpr ⟨sc_Signs_sign, (List.forall_mem_cons.mpr ⟨sc_Signs_need, (List.forall_mem_cons.mpr ⟨sc_Signs_run_of, (List.forall_mem_cons.mpr ⟨sc_Signs_number, (List.forall_mem_cons.mpr ⟨sc_Signs_pair, (List.forall_mem_cons.mpr ⟨sc_Signs_function, (List.forall_mem_cons.mpr ⟨sc_Signs_worth, (fun _ h => nomatch h)⟩)⟩)⟩)⟩)⟩)⟩)⟩)⟩)⟩)⟩)⟩)⟩)⟩)⟩)⟩)⟩)⟩)⟩)⟩)⟩)⟩)⟩)⟩)⟩)
  dfl := (List.forall_mem_cons.mpr ⟨⟨rfl, rfl⟩, (List.forall_mem_cons.mpr ⟨⟨rfl, rfl⟩, (List.forall_mem_cons.mpr ⟨⟨rfl, rfl⟩, (List.forall_mem_cons.mpr ⟨⟨rfl, rfl⟩, (List.forall_mem_cons.mpr ⟨⟨rfl, rfl⟩, (List.forall_mem_cons.mpr ⟨⟨rfl, rfl⟩, (List.forall_mem_cons.mpr ⟨⟨rfl, rfl⟩, (List.forall_mem_cons.mpr ⟨⟨rfl, rfl⟩, (List.forall_mem_cons.mpr ⟨⟨rfl, rfl⟩, (List.forall_mem_cons.mpr ⟨⟨rfl, rfl⟩, (List.forall_mem_cons.mpr ⟨⟨rfl, rfl⟩, (List.forall_mem_cons.mpr ⟨⟨rfl, rfl⟩, (List.forall_mem_cons.mpr ⟨⟨rfl, rfl⟩, (List.forall_mem_cons.mpr ⟨⟨rfl, rfl⟩, (List.forall_mem_cons.mpr ⟨⟨rfl, rfl⟩, (List.forall_mem_cons.mpr ⟨⟨rfl, rfl⟩, (List.forall_mem_cons.mpr ⟨⟨rfl, rfl⟩, (List.forall_mem_cons.mpr ⟨⟨rfl, rfl⟩, (List.forall_mem_cons.mpr ⟨⟨rfl, rfl⟩, (List.forall_mem_cons.mpr ⟨⟨rfl, rfl⟩, (List.forall_mem_cons.mpr ⟨⟨rfl, rfl⟩, (List.forall_mem_cons.mpr ⟨⟨rfl, rfl⟩, (List.forall_mem_cons.mpr ⟨⟨rfl, rfl⟩, (List.forall_mem_cons.mpr ⟨⟨rfl, rfl⟩, (fun _ h => nomatch h)⟩)⟩)⟩)⟩)⟩)⟩)⟩)⟩)⟩)⟩)⟩)⟩)⟩)⟩)⟩)⟩)⟩)⟩)⟩)⟩)⟩)⟩)⟩)⟩)
  bind := (List.forall_mem_cons.mpr ⟨bd_is_name, (List.forall_mem_cons.mpr ⟨bd_is_whole, (List.forall_mem_cons.mpr ⟨bd_worths_in, (List.forall_mem_cons.mpr ⟨bd_has_form, (List.forall_mem_cons.mpr ⟨bd_is_worth, (List.forall_mem_cons.mpr ⟨bd_show_worth, (List.forall_mem_cons.mpr ⟨bd_read_worth, (List.forall_mem_cons.mpr ⟨bd_law_tape, (List.forall_mem_cons.mpr ⟨bd_law_draw, (List.forall_mem_cons.mpr ⟨bd_law_pool, (List.forall_mem_cons.mpr ⟨bd_law_same, (List.forall_mem_cons.mpr ⟨bd_law_far, (List.forall_mem_cons.mpr ⟨bd_law_worth, (List.forall_mem_cons.mpr ⟨bd_law_long, (List.forall_mem_cons.mpr ⟨bd_law_text_of, (List.forall_mem_cons.mpr ⟨bd_law, (List.forall_mem_cons.mpr ⟨bd_Signs___init__, (List.forall_mem_cons.mpr ⟨bd_Signs_sign, (List.forall_mem_cons.mpr ⟨bd_Signs_need, (List.forall_mem_cons.mpr ⟨bd_Signs_run_of, (List.forall_mem_cons.mpr ⟨bd_Signs_number, (List.forall_mem_cons.mpr ⟨bd_Signs_pair, (List.forall_mem_cons.mpr ⟨bd_Signs_function, (List.forall_mem_cons.mpr ⟨bd_Signs_worth, (fun _ h => nomatch h)⟩)⟩)⟩)⟩)⟩)⟩)⟩)⟩)⟩)⟩)⟩)⟩)⟩)⟩)⟩)⟩)⟩)⟩)⟩)⟩)⟩)⟩)⟩)⟩)
  ir := (List.forall_mem_cons.mpr ⟨ok_is_name, (List.forall_mem_cons.mpr ⟨ok_is_whole, (List.forall_mem_cons.mpr ⟨ok_worths_in, (List.forall_mem_cons.mpr ⟨ok_has_form, (List.forall_mem_cons.mpr ⟨ok_is_worth, (List.forall_mem_cons.mpr ⟨ok_show_worth, (List.forall_mem_cons.mpr ⟨ok_read_worth, (List.forall_mem_cons.mpr ⟨ok_law_tape, (List.forall_mem_cons.mpr ⟨ok_law_draw, (List.forall_mem_cons.mpr ⟨ok_law_pool, (List.forall_mem_cons.mpr ⟨ok_law_same, (List.forall_mem_cons.mpr ⟨ok_law_far, (List.forall_mem_cons.mpr ⟨ok_law_worth, (List.forall_mem_cons.mpr ⟨ok_law_long, (List.forall_mem_cons.mpr ⟨ok_law_text_of, (List.forall_mem_cons.mpr ⟨ok_law, (List.forall_mem_cons.mpr ⟨ok_Signs___init__, (List.forall_mem_cons.mpr ⟨ok_Signs_sign, (List.forall_mem_cons.mpr ⟨ok_Signs_need, (List.forall_mem_cons.mpr ⟨ok_Signs_run_of, (List.forall_mem_cons.mpr ⟨ok_Signs_number, (List.forall_mem_cons.mpr ⟨ok_Signs_pair, (List.forall_mem_cons.mpr ⟨ok_Signs_function, (List.forall_mem_cons.mpr ⟨ok_Signs_worth, (fun _ h => nomatch h)⟩)⟩)⟩)⟩)⟩)⟩)⟩)⟩)⟩)⟩)⟩)⟩)⟩)⟩)⟩)⟩)⟩)⟩)⟩)⟩)⟩)⟩)⟩)⟩)
  fnd := (List.forall_mem_cons.mpr ⟨(by kernel_rfl), (List.forall_mem_cons.mpr ⟨(by kernel_rfl), (List.forall_mem_cons.mpr ⟨(by kernel_rfl), (List.forall_mem_cons.mpr ⟨(by kernel_rfl), (List.forall_mem_cons.mpr ⟨(by kernel_rfl), (List.forall_mem_cons.mpr ⟨(by kernel_rfl), (List.forall_mem_cons.mpr ⟨(by kernel_rfl), (List.forall_mem_cons.mpr ⟨(by kernel_rfl), (List.forall_mem_cons.mpr ⟨(by kernel_rfl), (List.forall_mem_cons.mpr ⟨(by kernel_rfl), (List.forall_mem_cons.mpr ⟨(by kernel_rfl), (List.forall_mem_cons.mpr ⟨(by kernel_rfl), (List.forall_mem_cons.mpr ⟨(by kernel_rfl), (List.forall_mem_cons.mpr ⟨(by kernel_rfl), (List.forall_mem_cons.mpr ⟨(by kernel_rfl), (List.forall_mem_cons.mpr ⟨(by kernel_rfl), (List.forall_mem_cons.mpr ⟨(by kernel_rfl), (List.forall_mem_cons.mpr ⟨(by kernel_rfl), (List.forall_mem_cons.mpr ⟨(by kernel_rfl), (List.forall_mem_cons.mpr ⟨(by kernel_rfl), (List.forall_mem_cons.mpr ⟨(by kernel_rfl), (List.forall_mem_cons.mpr ⟨(by kernel_rfl), (List.forall_mem_cons.mpr ⟨(by kernel_rfl), (List.forall_mem_cons.mpr ⟨(by kernel_rfl), (fun _ h => nomatch h)⟩)⟩)⟩)⟩)⟩)⟩)⟩)⟩)⟩)⟩)⟩)⟩)⟩)⟩)⟩)⟩)⟩)⟩)⟩)⟩)⟩)⟩)⟩)⟩)
  init := (List.forall_mem_cons.mpr ⟨(by kernel_rfl), (fun _ h => nomatch h)⟩)
  mth := (List.forall_mem_cons.mpr ⟨(by kernel_rfl), (List.forall_mem_cons.mpr ⟨(by kernel_rfl), (List.forall_mem_cons.mpr ⟨(by kernel_rfl), (List.forall_mem_cons.mpr ⟨(by kernel_rfl), (List.forall_mem_cons.mpr ⟨(by kernel_rfl), (List.forall_mem_cons.mpr ⟨(by kernel_rfl), (List.forall_mem_cons.mpr ⟨(by kernel_rfl), (fun _ h => nomatch h)⟩)⟩)⟩)⟩)⟩)⟩)⟩)
  exc := (List.forall_mem_cons.mpr ⟨exo_NoText, (fun _ h => nomatch h)⟩)
theorem has_is_name : Has T ("is_name", none) 1 2 ir_is_name := ⟨df_is_name, by kernel_rfl, rfl, rfl, rfl⟩
theorem has_is_whole : Has T ("is_whole", none) 2 2 ir_is_whole := ⟨df_is_whole, by kernel_rfl, rfl, rfl, rfl⟩
theorem has_worths_in : Has T ("worths_in", none) 1 1 ir_worths_in := ⟨df_worths_in, by kernel_rfl, rfl, rfl, rfl⟩
theorem has_has_form : Has T ("has_form", none) 1 1 ir_has_form := ⟨df_has_form, by kernel_rfl, rfl, rfl, rfl⟩
theorem has_is_worth : Has T ("is_worth", none) 1 4 ir_is_worth := ⟨df_is_worth, by kernel_rfl, rfl, rfl, rfl⟩
theorem has_show_worth : Has T ("show_worth", none) 1 2 ir_show_worth := ⟨df_show_worth, by kernel_rfl, rfl, rfl, rfl⟩
theorem has_read_worth : Has T ("read_worth", none) 1 3 ir_read_worth := ⟨df_read_worth, by kernel_rfl, rfl, rfl, rfl⟩
theorem has_law_tape : Has T ("_law_tape", none) 1 1 ir_law_tape := ⟨df_law_tape, by kernel_rfl, rfl, rfl, rfl⟩
theorem has_law_draw : Has T ("_law_draw", none) 2 9 ir_law_draw := ⟨df_law_draw, by kernel_rfl, rfl, rfl, rfl⟩
theorem has_law_pool : Has T ("_law_pool", none) 2 14 ir_law_pool := ⟨df_law_pool, by kernel_rfl, rfl, rfl, rfl⟩
theorem has_law_same : Has T ("_law_same", none) 2 4 ir_law_same := ⟨df_law_same, by kernel_rfl, rfl, rfl, rfl⟩
theorem has_law_far : Has T ("_law_far", none) 2 2 ir_law_far := ⟨df_law_far, by kernel_rfl, rfl, rfl, rfl⟩
theorem has_law_worth : Has T ("_law_worth", none) 3 7 ir_law_worth := ⟨df_law_worth, by kernel_rfl, rfl, rfl, rfl⟩
theorem has_law_long : Has T ("_law_long", none) 2 4 ir_law_long := ⟨df_law_long, by kernel_rfl, rfl, rfl, rfl⟩
theorem has_law_text_of : Has T ("_law_text_of", none) 1 2 ir_law_text_of := ⟨df_law_text_of, by kernel_rfl, rfl, rfl, rfl⟩
theorem has_law : Has T ("law", none) 1 9 ir_law := ⟨df_law, by kernel_rfl, rfl, rfl, rfl⟩
theorem has_Signs___init__ : Has T ("Signs", some "__init__") 2 2 ir_Signs___init__ := ⟨df_Signs___init__, by kernel_rfl, rfl, rfl, rfl⟩
theorem has_Signs_sign : Has T ("Signs", some "sign") 1 1 ir_Signs_sign := ⟨df_Signs_sign, by kernel_rfl, rfl, rfl, rfl⟩
theorem has_Signs_need : Has T ("Signs", some "need") 2 2 ir_Signs_need := ⟨df_Signs_need, by kernel_rfl, rfl, rfl, rfl⟩
theorem has_Signs_run_of : Has T ("Signs", some "run_of") 2 3 ir_Signs_run_of := ⟨df_Signs_run_of, by kernel_rfl, rfl, rfl, rfl⟩
theorem has_Signs_number : Has T ("Signs", some "number") 1 4 ir_Signs_number := ⟨df_Signs_number, by kernel_rfl, rfl, rfl, rfl⟩
theorem has_Signs_pair : Has T ("Signs", some "pair") 1 3 ir_Signs_pair := ⟨df_Signs_pair, by kernel_rfl, rfl, rfl, rfl⟩
theorem has_Signs_function : Has T ("Signs", some "function") 1 3 ir_Signs_function := ⟨df_Signs_function, by kernel_rfl, rfl, rfl, rfl⟩
theorem has_Signs_worth : Has T ("Signs", some "worth") 1 2 ir_Signs_worth := ⟨df_Signs_worth, by kernel_rfl, rfl, rfl, rfl⟩
theorem glob_GREAT : T.glob "GREAT" = some (.int 1000000000000000000000000000000) := by kernel_rfl
theorem glob_PARTS : T.glob "PARTS" = some (.int 60) := by kernel_rfl
theorem glob_FIGURES_MOST : T.glob "FIGURES_MOST" = some (.int 31) := by kernel_rfl
theorem glob_LETTERS : T.glob "LETTERS" = some (.str "abcdefghijklmnopqrstuvwxyz") := by kernel_rfl
theorem glob_FIGURES : T.glob "FIGURES" = some (.str "0123456789") := by kernel_rfl
end K32
set_option Elab.async false
set_option linter.all false
set_option maxRecDepth 100000
set_option maxHeartbeats 0
namespace K32
open PySem PySem.Spec PyProof.Rows L2 Ev
abbrev R : PySem.W.OpenRow := PySem.W.OpenLaw.row PySem.Challenge.rw_onedoer_k32_worths_written
abbrev hk : PySem.W.Hook := Ev.hookY 4 T.fa T.fn T.ts T.ex
def ob (s : PySem.W.SharedT) : He.AlX := Ev.obsY 4 T.fa T.fn T.ts T.ex (HandSHeadRun.getT s)
def setFT (w : World) (b : Bool) : World := { w with params := { w.params with followText := fun s => if s = "special-get-raises" then b else w.params.followText s } }
theorem setFT_eq (w : World) : setFT w (w.params.followText "special-get-raises") = w := by
  have e : (fun s => if s = "special-get-raises" then w.params.followText "special-get-raises" else w.params.followText s) = w.params.followText := by
    funext s
    by_cases h : s = "special-get-raises"
    · rw [if_pos h, h]
    · rw [if_neg h]
  unfold setFT
  rw [e]
theorem ob_eq (s : PySem.W.SharedT) : ob s = hk.obs s.abs := Ev.obsY_eq (HandSHeadRun.getT_eq s)
def loose0 : List Str := ["__name__", "DoerError", "NoText", "LETTERS", "FIGURES", "is_name", "is_whole", "GREAT", "PARTS", "worths_in", "has_form", "is_worth", "FIGURES_MOST", "show_worth", "Signs", "read_worth", "_law_tape", "_law_draw", "_law_pool", "_law_same", "_law_far", "_law_worth", "_law_long", "_law_text_of"]
def loose : List Str := loose0
theorem runF (w : World) : HandSHeadRun.RunEq R (PySem.W.view R.prog [28]) hk ob 6000 loose (setFT w false) := by
  intro os
  kernel_rfl
theorem runT (w : World) : HandSHeadRun.RunEq R (PySem.W.view R.prog [28]) hk ob 6000 loose (setFT w true) := by
  intro os
  kernel_rfl
theorem runB (b : Bool) (w : World) : HandSHeadRun.RunEq R (PySem.W.view R.prog [28]) hk ob 6000 loose (setFT w b) := by
  cases b
  · exact runF w
  · exact runT w
theorem run (w : World) : HandSHeadRun.RunEq R (PySem.W.view R.prog [28]) hk ob 6000 loose w := by
  have h := runB (w.params.followText "special-get-raises") w
  rwa [setFT_eq] at h
end K32
set_option Elab.async false
set_option linter.all false
set_option maxRecDepth 100000
set_option maxHeartbeats 4000000
namespace Lb
open PySem L2 Ev
def ir_law_tape : Sms := (stsOf [
  .ret (.newD [(.inr "cells"), (.inr "spot"), (.inr "left")] (esOf [(.slc (.loc 0) .none (.some (.cst (.int 63)))), (.cst (.int 0)), (.cst (.int 0))]))])
def ir_law_draw : Sms := (stsOf [
  .ife (.cmp .gt (.ix (.loc 0) (.cst (.str "left"))) (.cst (.int 0))) (stsOf [
    .set (.one 2) (.bin .mod (.ix (.loc 0) (.cst (.str "left"))) (.loc 1)),
    .setIx (.loc 0) (.cst (.str "left")) (.bin .fdiv (.ix (.loc 0) (.cst (.str "left"))) (.loc 1)),
    .retO 2]) (stsOf []),
  .set (.one 3) (.ix (.loc 0) (.cst (.str "spot"))),
  .setIx (.loc 0) (.cst (.str "spot")) (.bin .add (.loc 3) (.cst (.int 1))),
  .set (.one 4) (.or (.ix (.loc 0) (.cst (.str "cells"))) (.lst (esOf [(.cst (.int 0))]))),
  .set (.one 5) (.ix (.loc 4) (.bin .mod (.loc 3) (.bi .len (esOf [(.loc 4)])))),
  .ife (.and (.cmp .ge (.loc 5) (.bin .pow (.cst (.int 10)) (.cst (.int 18)))) (.cmp .lt (.loc 3) (.bi .len (esOf [(.loc 4)])))) (stsOf [
    .setIx (.loc 0) (.cst (.str "left")) (.bin .fdiv (.bin .sub (.loc 5) (.bin .pow (.cst (.int 10)) (.cst (.int 18)))) (.loc 1)),
    .ret (.bin .mod (.bin .sub (.loc 5) (.bin .pow (.cst (.int 10)) (.cst (.int 18)))) (.loc 1))]) (stsOf []),
  .set (.one 6) (.lst (esOf [(.cst (.int 2147483647)), (.cst (.int 2147483629)), (.cst (.int 2147483587)), (.cst (.int 2147483579)), (.cst (.int 2147483563)), (.cst (.int 2147483549)), (.cst (.int 2147483543))])),
  .set (.one 7) (.ix (.loc 6) (.bin .mod (.loc 3) (.cst (.int 7)))),
  .set (.one 8) (.bin .mod (.bin .add (.bin .add (.bin .add (.bin .mul (.bin .mod (.loc 5) (.loc 7)) (.cst (.int 48271))) (.bin .mul (.bin .mul (.cst (.int 7919)) (.loc 3)) (.loc 3))) (.bin .mul (.cst (.int 69621)) (.loc 3))) (.cst (.int 1))) (.loc 7)),
  .set (.one 8) (.bin .mod (.bin .mul (.loc 8) (.bin .add (.loc 8) (.cst (.int 16807)))) (.ix (.loc 6) (.bin .mod (.bin .add (.loc 3) (.cst (.int 3))) (.cst (.int 7))))),
  .set (.one 2) (.bin .fdiv (.bin .mod (.bin .mul (.loc 8) (.loc 8)) (.loc 7)) (.cst (.int 64))),
  .ife (.cmp .gt (.loc 1) (.bin .pow (.cst (.int 10)) (.cst (.int 6)))) (stsOf [
    .set (.one 2) (.bin .add (.bin .mod (.loc 2) (.bin .pow (.cst (.int 10)) (.cst (.int 6)))) (.bin .mul (.bin .pow (.cst (.int 10)) (.cst (.int 6))) (.call "_law_draw" (esOf [(.loc 0), (.bin .add (.bin .fdiv (.loc 1) (.bin .pow (.cst (.int 10)) (.cst (.int 6)))) (.cst (.int 1)))]))))]) (stsOf []),
  .ret (.bin .mod (.loc 2) (.loc 1))])
section
variable {S : List Ob} {t : Nat} {cs : List Int} {sp lf v : Int}
theorem x_tl (h : S[t]? = some (.dct (tapeD cs sp lf))) : ixS S (.obj t) (.str "left") = some (.int lf) := by
  rw [x_obd h]; rfl
theorem x_ts (h : S[t]? = some (.dct (tapeD cs sp lf))) : ixS S (.obj t) (.str "spot") = some (.int sp) := by
  rw [x_obd h]; rfl
theorem x_tc (h : S[t]? = some (.dct (tapeD cs sp lf))) : ixS S (.obj t) (.str "cells") = some (.lst (cs.map .int)) := by
  rw [x_obd h]; rfl
theorem st_tl (h : S[t]? = some (.dct (tapeD cs sp lf))) : stO S (.obj t) (.str "left") (.int v) = some (S.set t (.dct (tapeD cs sp v))) := by
  unfold stO
  simp only [h]
  rfl
theorem st_ts (h : S[t]? = some (.dct (tapeD cs sp lf))) : stO S (.obj t) (.str "spot") (.int v) = some (S.set t (.dct (tapeD cs v lf))) := by
  unfold stO
  simp only [h]
  rfl
end
theorem log_lt {i : Int} (h0 : -1000000000000000000000000000000000000000000 < i) (h1 : i < 1000000000000000000000000000000000000000000) : i.natAbs.log2 < 9000 := by
  by_cases h : i.natAbs = 0
  · rw [h]; decide
  · rw [Nat.log2_lt h]
    have : (1000000000000000000000000000000000000000000 : Nat) < 2 ^ 9000 := by decide +kernel
    omega
theorem mul_lt {i j : Int} (h0 : -1000000000000000000000000000000000000000000 < i) (h1 : i < 1000000000000000000000000000000000000000000) (h2 : -1000000000000000000000000000000000000000000 < j) (h3 : j < 1000000000000000000000000000000000000000000) : i.natAbs.log2 + j.natAbs.log2 < 1000000 := by
  have a := log_lt h0 h1
  have b := log_lt h2 h3
  omega
theorem tape_ok {T : Tab} {k : Nat} {cs : List Int} (hT : Has T ("_law_tape", none) 1 1 ir_law_tape) : Gv (T.at_ (k + 1) ("_law_tape", none) [.frz (cs.map .int)]) [] (fun d S' => d = .obj 0 ∧ HP 0 0 [] S') := by
  refine has_runK hT rfl fun R hR => ?_; simp only [List.map_cons, List.map_nil, List.replicate, List.cons_append, List.nil_append, Nat.reduceSub]
  refine gs_stK fun N hN => ?_; simp only [↓wA, ↓wY, wB, wC, ↓reduceIte, reduceCtorEq, Nat.reduceAdd, Nat.reduceLeDiff, Nat.reduceLT, Nat.reduceSub, Int.reduceLT, Int.reduceLE, Int.reduceEq, Int.reduceNeg, Int.reduceAdd, Int.reduceSub, Int.reduceMul]
  have e : kMerge [] ([Sum.inr ("cells" : Str), .inr "spot", .inr "left"].zip [D.lst (cutD (cs.map D.int) none (some 63)), D.int 0, D.int 0]) = tapeD (cs.take 63) 0 0 := by
    show kMerge [] [(.inr "cells", D.lst (cutD (cs.map D.int) none (some 63))), (.inr "spot", .int 0), (.inr "left", .int 0)] = _
    rw [show (63 : Int) = ((63 : Nat) : Int) from rfl, cut_take, ← List.map_take]
    rfl
  rw [e]
  exact hR _ _ ⟨rfl, ⟨cs.take 63, 0, 0, rfl, by omega, by omega, by omega⟩, fun p hp => (nomatch hp), by simp, by
    show (noWk (tapeD (cs.take 63) 0 0) && true) = true
    rw [noWk_tape]; rfl⟩
theorem draw_aux {T : Tab} (hT : Has T ("_law_draw", none) 2 9 ir_law_draw) : ∀ (n k : Nat) (m : Int) {t c : Nat} {l : List (Nat × Ob)} {S : List Ob}, n < k → 1 ≤ m → m ≤ 1000000 * 100000 ^ n → m ≤ 1000000000000000000000000000000000000 → c + n ≤ 1000000000 → HP t c l S →
    Gv (T.at_ k ("_law_draw", none) [.obj t, .int m]) S (fun d S' => ∃ v, d = .int v ∧ 0 ≤ v ∧ v < m ∧ HP t (c + n + 1) l S')
  | n, 0, m, t, c, l, S, hk, h1, hm, hm2, hc, hp => by omega
  | n, k + 1, m, t, c, l, S, hk, h1, hm, hm2, hc, hp => by
    have hm0 : 0 < m := by omega
    have hlog : m.natAbs.log2 < 9000 := log_lt (by omega) (by omega)
    obtain ⟨cs, sp, lf, hS, hs0, hs1, hl0⟩ := hp.tape
    refine has_runK hT rfl fun R hR => ?_; simp only [List.map_cons, List.map_nil, List.replicate, List.cons_append, List.nil_append, Nat.reduceSub]
    refine gs_stK fun N hN => ?_; simp only [↓wA, ↓wY, wB, wC, ↓reduceIte, reduceCtorEq, Nat.reduceAdd, Nat.reduceLeDiff, Nat.reduceLT, Nat.reduceSub, Int.reduceLT, Int.reduceLE, Int.reduceEq, Int.reduceNeg, Int.reduceAdd, Int.reduceSub, Int.reduceMul, x_tl hS]
    refine ⟨fun hl => ?_, fun hl => ?_⟩
    · refine gs_stK fun N hN => ?_; simp only [↓wA, ↓wY, wB, wC, ↓reduceIte, reduceCtorEq, Nat.reduceAdd, Nat.reduceLeDiff, Nat.reduceLT, Nat.reduceSub, Int.reduceLT, Int.reduceLE, Int.reduceEq, Int.reduceNeg, Int.reduceAdd, Int.reduceSub, Int.reduceMul, x_tl hS, hm0, if_true]
      refine hN _ _ ?_; try clear hN
      refine gs_stK fun N hN => ?_; simp only [↓wA, ↓wY, wB, wC, ↓reduceIte, reduceCtorEq, Nat.reduceAdd, Nat.reduceLeDiff, Nat.reduceLT, Nat.reduceSub, Int.reduceLT, Int.reduceLE, Int.reduceEq, Int.reduceNeg, Int.reduceAdd, Int.reduceSub, Int.reduceMul, x_tl hS, hm0, if_true, hlog, and_self, st_tl hS]
      refine hN _ _ ?_; try clear hN
      refine gs_stK fun N hN => ?_; simp only [↓wA, ↓wY, wB, wC, ↓reduceIte, reduceCtorEq, Nat.reduceAdd, Nat.reduceLeDiff, Nat.reduceLT, Nat.reduceSub, Int.reduceLT, Int.reduceLE, Int.reduceEq, Int.reduceNeg, Int.reduceAdd, Int.reduceSub, Int.reduceMul]
      exact hR _ _ ⟨lf % m, rfl, Int.emod_nonneg _ (by omega), Int.emod_lt_of_pos _ hm0, (hp.tput (c' := c) hs0 hs1 (Int.ediv_nonneg hl0 (by omega))).le (by omega)⟩
    · refine gs_st0K ?_
      refine hN _ _ ?_; try clear hN
      refine gs_stK fun N hN => ?_; simp only [↓wA, ↓wY, wB, wC, ↓reduceIte, reduceCtorEq, Nat.reduceAdd, Nat.reduceLeDiff, Nat.reduceLT, Nat.reduceSub, Int.reduceLT, Int.reduceLE, Int.reduceEq, Int.reduceNeg, Int.reduceAdd, Int.reduceSub, Int.reduceMul, x_ts hS]
      refine hN _ _ ?_; try clear hN
      refine gs_stK fun N hN => ?_; simp only [↓wA, ↓wY, wB, wC, ↓reduceIte, reduceCtorEq, Nat.reduceAdd, Nat.reduceLeDiff, Nat.reduceLT, Nat.reduceSub, Int.reduceLT, Int.reduceLE, Int.reduceEq, Int.reduceNeg, Int.reduceAdd, Int.reduceSub, Int.reduceMul, x_ts hS, st_ts hS]
      refine hN _ _ ?_; try clear hN
      have hp1 := hp.tput (sp := sp + 1) (c' := c + 1) (cs := cs) (lf := lf) (by omega) (by omega) hl0
      have hS1 : (S.set t (.dct (tapeD cs (sp + 1) lf)))[t]? = some (.dct (tapeD cs (sp + 1) lf)) := List.getElem?_set_self hp.lt
      generalize S.set t (.dct (tapeD cs (sp + 1) lf)) = S1 at hp1 hS1 ⊢
      refine gs_stK fun N hN => ?_; simp only [↓wA, ↓wY, wB, wC, ↓reduceIte, reduceCtorEq, Nat.reduceAdd, Nat.reduceLeDiff, Nat.reduceLT, Nat.reduceSub, Int.reduceLT, Int.reduceLE, Int.reduceEq, Int.reduceNeg, Int.reduceAdd, Int.reduceSub, Int.reduceMul, x_tc hS1]
      have cells : ∀ ds : List Int, ds ≠ [] → N [.val (.obj t), .val (.int m), .un, .val (.int sp), .val (.lst (ds.map .int)), .un, .un, .un, .un] S1 := fun ds hds => by
        have hlen : 0 < ds.length := List.length_pos_iff.mpr hds
        have hlen' : (0 : Int) < (ds.length : Int) := by omega
        refine hN _ _ ?_; try clear hN
        refine gs_stK fun N hN => ?_; simp only [↓wA, ↓wY, wB, wC, ↓reduceIte, reduceCtorEq, Nat.reduceAdd, Nat.reduceLeDiff, Nat.reduceLT, Nat.reduceSub, Int.reduceLT, Int.reduceLE, Int.reduceEq, Int.reduceNeg, Int.reduceAdd, Int.reduceSub, Int.reduceMul, hlen', if_true]
        obtain ⟨cell, hcell, hmem⟩ := atI_pos (xs := ds.map D.int) (i := sp % (ds.length : Int)) (Int.emod_nonneg _ (by omega)) (by rw [List.length_map]; exact Int.emod_lt_of_pos _ hlen')
        obtain ⟨cl, _, rfl⟩ := List.mem_map.mp hmem
        try simp only [↓wA, ↓wY, wB, wC, ↓reduceIte, reduceCtorEq, Nat.reduceAdd, Nat.reduceLeDiff, Nat.reduceLT, Nat.reduceSub, Int.reduceLT, Int.reduceLE, Int.reduceEq, Int.reduceNeg, Int.reduceAdd, Int.reduceSub, Int.reduceMul, hcell]
        refine hN _ _ ?_; try clear hN
        have main : Gs_ (evSs (T.gs k) (stsOf [
  .set (.one 6) (.lst (esOf [(.cst (.int 2147483647)), (.cst (.int 2147483629)), (.cst (.int 2147483587)), (.cst (.int 2147483579)), (.cst (.int 2147483563)), (.cst (.int 2147483549)), (.cst (.int 2147483543))])),
  .set (.one 7) (.ix (.loc 6) (.bin .mod (.loc 3) (.cst (.int 7)))),
  .set (.one 8) (.bin .mod (.bin .add (.bin .add (.bin .add (.bin .mul (.bin .mod (.loc 5) (.loc 7)) (.cst (.int 48271))) (.bin .mul (.bin .mul (.cst (.int 7919)) (.loc 3)) (.loc 3))) (.bin .mul (.cst (.int 69621)) (.loc 3))) (.cst (.int 1))) (.loc 7)),
  .set (.one 8) (.bin .mod (.bin .mul (.loc 8) (.bin .add (.loc 8) (.cst (.int 16807)))) (.ix (.loc 6) (.bin .mod (.bin .add (.loc 3) (.cst (.int 3))) (.cst (.int 7))))),
  .set (.one 2) (.bin .fdiv (.bin .mod (.bin .mul (.loc 8) (.loc 8)) (.loc 7)) (.cst (.int 64))),
  .ife (.cmp .gt (.loc 1) (.bin .pow (.cst (.int 10)) (.cst (.int 6)))) (stsOf [
    .set (.one 2) (.bin .add (.bin .mod (.loc 2) (.bin .pow (.cst (.int 10)) (.cst (.int 6)))) (.bin .mul (.bin .pow (.cst (.int 10)) (.cst (.int 6))) (.call "_law_draw" (esOf [(.loc 0), (.bin .add (.bin .fdiv (.loc 1) (.bin .pow (.cst (.int 10)) (.cst (.int 6)))) (.cst (.int 1)))]))))]) (stsOf []),
  .ret (.bin .mod (.loc 2) (.loc 1))]) [.val (.obj t), .val (.int m), .un, .val (.int sp), .val (.lst (ds.map .int)), .val (.int cl), .un, .un, .un] S1) (fun _ S' => R .non S') R := by
          refine gs_stK fun N hN => ?_; simp only [↓wA, ↓wY, wB, wC, ↓reduceIte, reduceCtorEq, Nat.reduceAdd, Nat.reduceLeDiff, Nat.reduceLT, Nat.reduceSub, Int.reduceLT, Int.reduceLE, Int.reduceEq, Int.reduceNeg, Int.reduceAdd, Int.reduceSub, Int.reduceMul]
          refine hN _ _ ?_; try clear hN
          obtain ⟨pr, hpr, hpm⟩ := atI_pos (xs := [D.int 2147483647, .int 2147483629, .int 2147483587, .int 2147483579, .int 2147483563, .int 2147483549, .int 2147483543]) (i := sp % 7) (Int.emod_nonneg _ (by omega)) (Int.emod_lt_of_pos _ (by decide))
          have hpr1 : ∃ p : Int, pr = .int p ∧ 2147483543 ≤ p ∧ p ≤ 2147483647 := by
            simp only [List.mem_cons, List.not_mem_nil, or_false] at hpm
            rcases hpm with rfl | rfl | rfl | rfl | rfl | rfl | rfl <;> exact ⟨_, rfl, by decide, by decide⟩
          obtain ⟨p, rfl, p1, p2⟩ := hpr1
          obtain ⟨pr, hpr', hpm⟩ := atI_pos (xs := [D.int 2147483647, .int 2147483629, .int 2147483587, .int 2147483579, .int 2147483563, .int 2147483549, .int 2147483543]) (i := (sp + 3) % 7) (Int.emod_nonneg _ (by omega)) (Int.emod_lt_of_pos _ (by decide))
          have hpr2 : ∃ p : Int, pr = .int p ∧ 2147483543 ≤ p ∧ p ≤ 2147483647 := by
            simp only [List.mem_cons, List.not_mem_nil, or_false] at hpm
            rcases hpm with rfl | rfl | rfl | rfl | rfl | rfl | rfl <;> exact ⟨_, rfl, by decide, by decide⟩
          obtain ⟨q, rfl, q1, q2⟩ := hpr2
          clear hpm
          refine gs_stK fun N hN => ?_; simp only [↓wA, ↓wY, wB, wC, ↓reduceIte, reduceCtorEq, Nat.reduceAdd, Nat.reduceLeDiff, Nat.reduceLT, Nat.reduceSub, Int.reduceLT, Int.reduceLE, Int.reduceEq, Int.reduceNeg, Int.reduceAdd, Int.reduceSub, Int.reduceMul, hpr]
          refine hN _ _ ?_; try clear hN
          have hcl0 := Int.emod_nonneg cl (show p ≠ 0 by omega)
          have hcl1 := Int.emod_lt_of_pos cl (show 0 < p by omega)
          refine gs_stK fun N hN => ?_; simp only [↓wA, ↓wY, wB, wC, ↓reduceIte, reduceCtorEq, Nat.reduceAdd, Nat.reduceLeDiff, Nat.reduceLT, Nat.reduceSub, Int.reduceLT, Int.reduceLE, Int.reduceEq, Int.reduceNeg, Int.reduceAdd, Int.reduceSub, Int.reduceMul]
          repeat refine And.intro (by first | omega | exact Lb.mul_lt (by omega) (by omega) (by omega) (by omega) | decide) ?_
          refine hN _ _ ?_; try clear hN
          have hs8 := Int.emod_nonneg (cl % p * 48271 + 7919 * sp * sp + 69621 * sp + 1) (show p ≠ 0 by omega)
          have hs9 := Int.emod_lt_of_pos (cl % p * 48271 + 7919 * sp * sp + 69621 * sp + 1) (show 0 < p by omega)
          generalize (cl % p * 48271 + 7919 * sp * sp + 69621 * sp + 1) % p = sd at hs8 hs9 ⊢
          refine gs_stK fun N hN => ?_; simp only [↓wA, ↓wY, wB, wC, ↓reduceIte, reduceCtorEq, Nat.reduceAdd, Nat.reduceLeDiff, Nat.reduceLT, Nat.reduceSub, Int.reduceLT, Int.reduceLE, Int.reduceEq, Int.reduceNeg, Int.reduceAdd, Int.reduceSub, Int.reduceMul, hpr']
          repeat refine And.intro (by first | omega | exact Lb.mul_lt (by omega) (by omega) (by omega) (by omega) | decide) ?_
          refine hN _ _ ?_; try clear hN
          have ht8 := Int.emod_nonneg (sd * (sd + 16807)) (show q ≠ 0 by omega)
          have ht9 := Int.emod_lt_of_pos (sd * (sd + 16807)) (show 0 < q by omega)
          generalize sd * (sd + 16807) % q = se at ht8 ht9 ⊢
          refine gs_stK fun N hN => ?_; simp only [↓wA, ↓wY, wB, wC, ↓reduceIte, reduceCtorEq, Nat.reduceAdd, Nat.reduceLeDiff, Nat.reduceLT, Nat.reduceSub, Int.reduceLT, Int.reduceLE, Int.reduceEq, Int.reduceNeg, Int.reduceAdd, Int.reduceSub, Int.reduceMul]
          repeat refine And.intro (by first | omega | exact Lb.mul_lt (by omega) (by omega) (by omega) (by omega) | decide) ?_
          refine hN _ _ ?_; try clear hN
          have hf8 : 0 ≤ se * se % p / 64 := Int.ediv_nonneg (Int.emod_nonneg _ (by omega)) (by omega)
          have hf9 : se * se % p / 64 < 1000000000000 := by
            have := Int.emod_lt_of_pos (se * se) (show 0 < p by omega)
            omega
          generalize se * se % p / 64 = fo at hf8 hf9 ⊢
          refine gs_stK fun N hN => ?_; simp only [↓wA, ↓wY, wB, wC, ↓reduceIte, reduceCtorEq, Nat.reduceAdd, Nat.reduceLeDiff, Nat.reduceLT, Nat.reduceSub, Int.reduceLT, Int.reduceLE, Int.reduceEq, Int.reduceNeg, Int.reduceAdd, Int.reduceSub, Int.reduceMul]
          refine ⟨fun hbig => ?_, fun hsm => ?_⟩
          · refine gs_stK fun Nb hNb => ?_; simp only [↓wA, ↓wY, wB, wC, ↓reduceIte, reduceCtorEq, Nat.reduceAdd, Nat.reduceLeDiff, Nat.reduceLT, Nat.reduceSub, Int.reduceLT, Int.reduceLE, Int.reduceEq, Int.reduceNeg, Int.reduceAdd, Int.reduceSub, Int.reduceMul]
            repeat refine And.intro (by first | omega | exact Lb.mul_lt (by omega) (by omega) (by omega) (by omega) | decide) ?_
            have hm6 : 1000000 * (m / 1000000) ≤ m := by omega
            cases n with
            | zero =>
              exfalso
              simp only [Int.pow_zero] at hm
              omega
            | succ n =>
              have hpow : (1 : Int) ≤ 100000 ^ n := Int.pow_pos (by decide)
              have hm7 : m / 1000000 + 1 ≤ 1000000 * 100000 ^ n := by
                rw [Int.pow_succ] at hm
                omega
              refine Gv.imp (draw_aux hT n k (m / 1000000 + 1) (by omega) (by omega) hm7 (by omega) (by omega) hp1) ?_
              rintro _ S2 ⟨v, rfl, hv0, hv1, hp2⟩
              try simp only [↓wA, ↓wY, wB, wC, ↓reduceIte, reduceCtorEq, Nat.reduceAdd, Nat.reduceLeDiff, Nat.reduceLT, Nat.reduceSub, Int.reduceLT, Int.reduceLE, Int.reduceEq, Int.reduceNeg, Int.reduceAdd, Int.reduceSub, Int.reduceMul]
              repeat refine And.intro (by first | omega | exact Lb.mul_lt (by omega) (by omega) (by omega) (by omega) | decide) ?_
              refine hNb _ _ ?_; try clear hNb
              refine gs_st0K ?_
              refine hN _ _ ?_; try clear hN
              refine gs_stK fun N hN => ?_; simp only [↓wA, ↓wY, wB, wC, ↓reduceIte, reduceCtorEq, Nat.reduceAdd, Nat.reduceLeDiff, Nat.reduceLT, Nat.reduceSub, Int.reduceLT, Int.reduceLE, Int.reduceEq, Int.reduceNeg, Int.reduceAdd, Int.reduceSub, Int.reduceMul, hm0, if_true]
              exact hR _ _ ⟨_, rfl, Int.emod_nonneg _ (by omega), Int.emod_lt_of_pos _ hm0, hp2.le (by omega)⟩
          · refine gs_st0K ?_
            refine hN _ _ ?_; try clear hN
            refine gs_stK fun N hN => ?_; simp only [↓wA, ↓wY, wB, wC, ↓reduceIte, reduceCtorEq, Nat.reduceAdd, Nat.reduceLeDiff, Nat.reduceLT, Nat.reduceSub, Int.reduceLT, Int.reduceLE, Int.reduceEq, Int.reduceNeg, Int.reduceAdd, Int.reduceSub, Int.reduceMul, hm0, if_true]
            exact hR _ _ ⟨_, rfl, Int.emod_nonneg _ (by omega), Int.emod_lt_of_pos _ hm0, hp1.le (by omega)⟩
        refine gs_stK fun N hN => ?_
        try simp only [↓wA, ↓wY, wB, wC, ↓reduceIte, reduceCtorEq, Nat.reduceAdd, Nat.reduceLeDiff, Nat.reduceLT, Nat.reduceSub, Int.reduceLT, Int.reduceLE, Int.reduceEq, Int.reduceNeg, Int.reduceAdd, Int.reduceSub, Int.reduceMul]
        refine ⟨fun hbig => ⟨fun hlt => ?_, fun hge => ?_⟩, fun hsm => ?_⟩
        · refine gs_stK fun N hN => ?_; simp only [↓wA, ↓wY, wB, wC, ↓reduceIte, reduceCtorEq, Nat.reduceAdd, Nat.reduceLeDiff, Nat.reduceLT, Nat.reduceSub, Int.reduceLT, Int.reduceLE, Int.reduceEq, Int.reduceNeg, Int.reduceAdd, Int.reduceSub, Int.reduceMul, hm0, if_true, hlog, and_self, st_tl hS1]
          refine hN _ _ ?_; try clear hN
          refine gs_stK fun N hN => ?_; simp only [↓wA, ↓wY, wB, wC, ↓reduceIte, reduceCtorEq, Nat.reduceAdd, Nat.reduceLeDiff, Nat.reduceLT, Nat.reduceSub, Int.reduceLT, Int.reduceLE, Int.reduceEq, Int.reduceNeg, Int.reduceAdd, Int.reduceSub, Int.reduceMul, hm0, if_true]
          exact hR _ _ ⟨_, rfl, Int.emod_nonneg _ (by omega), Int.emod_lt_of_pos _ hm0, (hp1.tput (c' := c + 1) (by omega) (by omega) (Int.ediv_nonneg (by omega) (by omega))).le (by omega)⟩
        · refine gs_st0K ?_
          refine hN _ _ ?_; try clear hN
          exact main
        · refine gs_st0K ?_
          refine hN _ _ ?_; try clear hN
          exact main
      refine ⟨fun hne => cells cs (fun e => hne (by rw [e]; rfl)), fun hne => cells [0] (by simp)⟩
/-- a draw -/
theorem draw {T : Tab} (hT : Has T ("_law_draw", none) 2 9 ir_law_draw) {k : Nat} {m : Int} {t c : Nat} {l : List (Nat × Ob)} {S : List Ob} (hk : 8 ≤ k) (h1 : 1 ≤ m) (hm : m ≤ 1000000000000000000000000000000000000) (hc : c ≤ 900000000) (hp : HP t c l S) :
    Gv (T.at_ k ("_law_draw", none) [.obj t, .int m]) S (fun d S' => ∃ v, d = .int v ∧ 0 ≤ v ∧ v < m ∧ HP t (c + 8) l S') := by
  refine (draw_aux hT 6 k m (by omega) h1 (by rw [show (1000000 : Int) * 100000 ^ 6 = 1000000000000000000000000000000000000 from rfl]; exact hm) hm (by omega) hp).imp ?_
  rintro _ S' ⟨v, rfl, h0, h1, h2⟩
  exact ⟨v, rfl, h0, h1, h2.le (by omega)⟩
end Lb
set_option Elab.async false
set_option linter.all false
set_option maxRecDepth 100000
set_option maxHeartbeats 4000000
namespace Lb
open PySem L2 Ev
theorem sap {x y : Str} : (x ++ y).length = x.length + y.length := by
  show (x.cps ++ y.cps).size = _
  rw [Array.size_append]
  rfl
theorem s1 {c : Nat} : (⟨#[c]⟩ : Str).length = 1 := rfl
theorem cutL {z : Str} {a b : Option Int} {n : Nat} (h : z.length ≤ n) : (L2.cutS z a b).length ≤ n := Nat.le_trans (L2.cutS_length z a b) h
theorem ch_ok {z : Str} {i : Int} (h0 : 0 ≤ i) (h1 : i < z.length) : ∃ c, L2.atI z.cps.toList i = some c ∧ c ∈ z.cps.toList := atI_pos h0 (by rw [Array.length_toList]; exact h1)
theorem len_az : ("abcdefghijklmnopqrstuvwxyz" : Str).length = 26 := by decide +kernel
theorem len_az9 : (("abcdefghijklmnopqrstuvwxyz" : Str) ++ ("0123456789" : Str)).length = 36 := by decide +kernel
theorem vm_splitE {S : List Ob} {s t : Str} : vmS S .split (.str s) [.str t] = if (t.length == 0) = false ∧ s.length + 2 ≤ sizeLine then some (.lst ((Txt.split s t).map .str)) else none := rfl
theorem vm_splitW {S : List Ob} {zs : List Str} (h : Txt.split ("row main else in made give number if go fn call tell pair first second plus f0 f1 f10 f2 v0 v1 v10 v2" : Str) (" " : Str) = zs) : vmS S .split (.str "row main else in made give number if go fn call tell pair first second plus f0 f1 f10 f2 v0 v1 v10 v2") [.str " "] = some (.lst (zs.map .str)) := by
  rw [vm_splitE, h, if_pos (by decide +kernel)]
theorem join_cps (zs : List Str) : (Txt.join "" zs).cps.toList = (zs.map (·.cps.toList)).flatten := by
  have main : ∀ (ps : List Str) (a : Array Nat), (ps.foldl (fun acc p => acc ++ ("" : Str).cps ++ p.cps) a).toList = a.toList ++ (ps.map (·.cps.toList)).flatten := by
    intro ps
    induction ps with
    | nil => intro a; simp
    | cons p ps ih =>
      intro a
      rw [List.foldl_cons, ih, Array.toList_append, Array.toList_append, List.map_cons, List.flatten_cons, show ("" : Str).cps.toList = [] from by decide +kernel, List.append_nil, List.append_assoc]
  cases zs with
  | nil => rfl
  | cons z zs => exact main zs z.cps
theorem join_len (zs : List Str) : (Txt.join "" zs).length = lensOf zs := by
  show (Txt.join "" zs).cps.size = _
  rw [← Array.length_toList, join_cps, List.length_flatten, List.map_map]
  rfl
theorem mem_get {α : Type} {xs : List α} {P : α → Prop} (h : ∀ (i : Nat) (x : α), xs[i]? = some x → P x) : ∀ x, x ∈ xs → P x := fun x hx => by
  obtain ⟨i, hi, rfl⟩ := List.mem_iff_getElem.mp hx
  exact h i _ (List.getElem?_eq_getElem hi)
theorem cut_lenle {xs : List D} {a b : Option Int} : (cutD xs a b).length ≤ xs.length := by
  unfold cutD
  rw [List.length_take, List.length_drop]
  omega
def ir_law_pool : Sms := (stsOf [
  .set (.one 2) (.cst (.str "row main else in made give number if go fn call tell pair first second plus f0 f1 f10 f2 v0 v1 v10 v2")),
  .set (.one 2) (.vm .split (.loc 2) (esOf [(.cst (.str " "))])),
  .set (.one 3) (.cst (.str "abcdefghijklmnopqrstuvwxyz")),
  .set (.one 4) (.bin .add (.cst (.int 1)) (.call "_law_draw" (esOf [(.loc 0), (.cst (.int 8))]))),
  .set (.one 5) (.call "_law_draw" (esOf [(.loc 0), (.loc 4)])),
  .set (.one 6) (.ix (.loc 3) (.call "_law_draw" (esOf [(.loc 0), (.cst (.int 26))]))),
  .set (.one 6) (.bin .add (.loc 6) (.vm .join (.cst (.str "")) (esOf [(.comp (.ix (.bin .add (.loc 3) (.cst (.str "0123456789"))) (.call "_law_draw" (esOf [(.loc 0), (.cst (.int 36))]))) [11] (.one 11) (.rng (.bin .sub (.loc 4) (.cst (.int 1)))) .none)]))),
  .set (.one 7) (.call "_law_draw" (esOf [(.loc 0), (.cst (.int 24))])),
  .set (.one 8) (.ix (.lst (esOf [(.cst (.int 1)), (.cst (.int 3)), (.cst (.int 5)), (.cst (.int 7)), (.cst (.int 9)), (.cst (.int 11)), (.cst (.int 15)), (.cst (.int 25))])) (.call "_law_draw" (esOf [(.loc 0), (.cst (.int 8))]))),
  .set (.one 9) (.call "_law_draw" (esOf [(.loc 0), (.cst (.int 4))])),
  .ife (.cmp .eq (.loc 9) (.cst (.int 3))) (stsOf [
    .ret (.slc (.bin .add (.slc (.loc 2) (.some (.loc 7)) .none) (.slc (.loc 2) .none (.some (.loc 7)))) .none (.some (.loc 1)))]) (stsOf []),
  .own 10 (.lst (esOf [])),
  .fo (.one 11) (.rng (.loc 1)) (stsOf [
    .set (.one 12) (.ix (.loc 3) (.bin .mod (.bin .add (.loc 7) (.bin .mul (.loc 8) (.loc 11))) (.cst (.int 26)))),
    .set (.one 13) (.ife (.cmp .eq (.loc 9) (.cst (.int 1))) (.slc (.loc 6) (.some (.bin .add (.loc 5) (.cst (.int 1)))) (.some (.bin .add (.bin .add (.loc 5) (.cst (.int 1))) (.loc 11)))) (.slc (.loc 6) (.some (.bin .add (.loc 5) (.cst (.int 1)))) .none)),
    .app 10 (.ife (.and (.cmp .eq (.loc 9) (.cst (.int 2))) (.cmp .eq (.bin .mod (.loc 11) (.cst (.int 2))) (.cst (.int 1)))) (.loc 12) (.bin .add (.bin .add (.slc (.loc 6) .none (.some (.loc 5))) (.loc 12)) (.loc 13)))]),
  .retO 10])
end Lb
set_option Elab.async false
set_option linter.all false
set_option maxRecDepth 100000
set_option maxHeartbeats 4000000
namespace Lb
open PySem L2 Ev
def ir_law_far : Sms := (stsOf [
  .ret (.ix (.lst (esOf [(.bin .sub (.call "_law_draw" (esOf [(.loc 0), (.cst (.int 7))])) (.cst (.int 3))), (.bin .sub (.call "_law_draw" (esOf [(.loc 0), (.bin .add (.bin .mul (.cst (.int 2)) (.loc 1)) (.cst (.int 1)))])) (.loc 1))])) (.bin .fdiv (.call "_law_draw" (esOf [(.loc 0), (.cst (.int 8))])) (.cst (.int 7))))])
end Lb
set_option Elab.async false
set_option linter.all false
set_option maxRecDepth 100000
set_option maxHeartbeats 4000000
namespace Lb
open PySem L2 Ev
def ir_law_worth : Sms := (stsOf [
  .set (.one 3) (.call "_law_draw" (esOf [(.loc 0), (.cst (.int 6))])),
  .ife (.and (.cmp .gt (.loc 3) (.cst (.int 3))) (.and (.cmp .gt (.ix (.loc 2) (.cst (.int 0))) (.cst (.int 1))) (.or (.cmp .eq (.loc 3) (.cst (.int 4))) (.cmp .eq (.loc 1) (.dic [] (esOf [])))))) (stsOf [
    .setIx (.loc 2) (.cst (.int 0)) (.bin .sub (.ix (.loc 2) (.cst (.int 0))) (.cst (.int 2))),
    .set (.one 4) (.call "_law_worth" (esOf [(.loc 0), (.loc 1), (.loc 2)])),
    .ret (.tup (esOf [(.cst (.str "pair")), (.loc 4), (.call "_law_worth" (esOf [(.loc 0), (.loc 1), (.loc 2)]))]))]) (stsOf []),
  .set (.one 5) (.ix (.bin .add (.bi .list (esOf [(.loc 1)])) (.lst (esOf [(.cst (.str ""))]))) (.call "_law_draw" (esOf [(.loc 0), (.bi .max (esOf [(.cst (.int 1)), (.bi .len (esOf [(.loc 1)]))]))]))),
  .ife (.and (.cmp .eq (.loc 3) (.cst (.int 5))) (.and (.cmp .isin (.loc 5) (.loc 1)) (.cmp .le (.ix (.loc 1) (.loc 5)) (.ix (.loc 2) (.cst (.int 0)))))) (stsOf [
    .setIx (.loc 2) (.cst (.int 0)) (.bin .sub (.ix (.loc 2) (.cst (.int 0))) (.ix (.loc 1) (.loc 5))),
    .ret (.tup (esOf [(.cst (.str "fn")), (.loc 5), (.bi .tuple (esOf [(.comp (.call "_law_worth" (esOf [(.loc 0), (.loc 1), (.loc 2)])) [6] (.one 6) (.rng (.ix (.loc 1) (.loc 5))) .none)]))]))]) (stsOf []),
  .ret (.call "_law_far" (esOf [(.loc 0), (.bin .pow (.cst (.int 10)) (.cst (.int 30)))]))])
theorem far {T : Tab} (hD : Has T ("_law_draw", none) 2 9 ir_law_draw) (hT : Has T ("_law_far", none) 2 2 ir_law_far) {k : Nat} {m : Int} {t c : Nat} {l : List (Nat × Ob)} {S : List Ob} (hk : 9 ≤ k) (h1 : 3 ≤ m) (hm : m ≤ 1000000000000000000000000000000) (hc : c ≤ 800000000) (hp : HP t c l S) :
    Gv (T.at_ k ("_law_far", none) [.obj t, .int m]) S (fun d S' => ∃ v, d = .int v ∧ -m ≤ v ∧ v ≤ m ∧ HP t (c + 24) l S') := by
  obtain ⟨k, rfl⟩ : ∃ j, k = j + 1 := ⟨k - 1, by omega⟩
  refine has_runK hT rfl fun R hR => ?_; simp only [List.map_cons, List.map_nil, List.replicate, List.cons_append, List.nil_append, Nat.reduceSub]
  refine gs_stK fun N hN => ?_; simp only [↓wA, ↓wY, wB, wC, ↓reduceIte, reduceCtorEq, Nat.reduceAdd, Nat.reduceLeDiff, Nat.reduceLT, Nat.reduceSub, Int.reduceLT, Int.reduceLE, Int.reduceEq, Int.reduceNeg, Int.reduceAdd, Int.reduceSub, Int.reduceMul]
  refine Gv.imp (Lb.draw hD (by omega) (by omega) (by omega) (by omega) hp) ?_; rintro _ S ⟨a, rfl, a0, a1, hp⟩
  try simp only [↓wA, ↓wY, wB, wC, ↓reduceIte, reduceCtorEq, Nat.reduceAdd, Nat.reduceLeDiff, Nat.reduceLT, Nat.reduceSub, Int.reduceLT, Int.reduceLE, Int.reduceEq, Int.reduceNeg, Int.reduceAdd, Int.reduceSub, Int.reduceMul]
  repeat refine And.intro (by first | omega | exact Lb.mul_lt (by omega) (by omega) (by omega) (by omega) | decide) ?_
  refine Gv.imp (Lb.draw hD (by omega) (by omega) (by omega) (by omega) hp) ?_; rintro _ S ⟨b, rfl, b0, b1, hp⟩
  try simp only [↓wA, ↓wY, wB, wC, ↓reduceIte, reduceCtorEq, Nat.reduceAdd, Nat.reduceLeDiff, Nat.reduceLT, Nat.reduceSub, Int.reduceLT, Int.reduceLE, Int.reduceEq, Int.reduceNeg, Int.reduceAdd, Int.reduceSub, Int.reduceMul]
  refine Gv.imp (Lb.draw hD (by omega) (by omega) (by omega) (by omega) hp) ?_; rintro _ S ⟨v, rfl, v0, v1, hp⟩
  try simp only [↓wA, ↓wY, wB, wC, ↓reduceIte, reduceCtorEq, Nat.reduceAdd, Nat.reduceLeDiff, Nat.reduceLT, Nat.reduceSub, Int.reduceLT, Int.reduceLE, Int.reduceEq, Int.reduceNeg, Int.reduceAdd, Int.reduceSub, Int.reduceMul]
  repeat refine And.intro (by first | omega | exact Lb.mul_lt (by omega) (by omega) (by omega) (by omega) | decide) ?_
  obtain ⟨x, hx, hm⟩ := atI_pos (xs := [D.int (a - 3), D.int (b - m)]) (i := v / 7) (by omega) (by simp; omega)
  try simp only [↓wA, ↓wY, wB, wC, ↓reduceIte, reduceCtorEq, Nat.reduceAdd, Nat.reduceLeDiff, Nat.reduceLT, Nat.reduceSub, Int.reduceLT, Int.reduceLE, Int.reduceEq, Int.reduceNeg, Int.reduceAdd, Int.reduceSub, Int.reduceMul, hx]
  simp only [List.mem_cons, List.not_mem_nil, or_false] at hm
  rcases hm with rfl | rfl
  · exact hR _ _ ⟨_, rfl, by omega, by omega, hp.le (by omega)⟩
  · exact hR _ _ ⟨_, rfl, by omega, by omega, hp.le (by omega)⟩
theorem mem_put {kvs : List (Ev.Key × D)} {k : Ev.Key} {v : D} : ∀ p, p ∈ kPut kvs k v → p ∈ kvs ∨ p = (k, v) := fun p hp => by
  unfold kPut at hp
  split at hp
  · obtain ⟨q, hq, rfl⟩ := List.mem_map.mp hp
    by_cases e : q.1 = k
    · rw [if_pos e, e]; exact .inr rfl
    · rw [if_neg e]; exact .inl hq
  · rcases List.mem_append.mp hp with h | h
    · exact .inl h
    · exact .inr (List.mem_singleton.mp h)
theorem put_len {kvs : List (Ev.Key × D)} {k : Ev.Key} {v : D} : (kPut kvs k v).length ≤ kvs.length + 1 ∧ 1 ≤ (kPut kvs k v).length := by
  unfold kPut
  split
  · rename_i h
    obtain ⟨x, hx, _⟩ := List.any_eq_true.mp h
    have := List.length_pos_of_mem hx
    rw [List.length_map]
    omega
  · rw [List.length_append]
    simp
theorem get_mem {kvs : List (Ev.Key × D)} {k : Ev.Key} {v : D} (h : (k, v) ∈ kvs) : ∃ u, kGet kvs k = some u ∧ (k, u) ∈ kvs := by
  unfold kGet
  cases hq : kvs.find? (fun kv => decide (kv.1 = k)) with
  | none =>
    have := List.find?_eq_none.mp hq _ h
    simp at this
  | some q =>
    have h1 := List.mem_of_find?_eq_some hq
    have h2 := List.find?_some hq
    simp only [decide_eq_true_eq] at h2
    exact ⟨q.2, rfl, by rw [← h2]; exact h1⟩
def LD (kvs : List (Ev.Key × D)) : Prop := 1 ≤ kvs.length ∧ kvs.length ≤ 30 ∧ ∀ p, p ∈ kvs → ∃ (s : Str) (v : Int), p = (.inr s, .int v) ∧ s.length ≤ 40 ∧ 0 ≤ v ∧ v ≤ 50
theorem LD.put {kvs : List (Ev.Key × D)} {s : Str} {v : Int} (h : ∀ p, p ∈ kvs → ∃ (s : Str) (v : Int), p = (.inr s, .int v) ∧ s.length ≤ 40 ∧ 0 ≤ v ∧ v ≤ 50) (hs : s.length ≤ 40) (h0 : 0 ≤ v) (h1 : v ≤ 50) : ∀ p, p ∈ kPut kvs (.inr s) (.int v) → ∃ (s : Str) (v : Int), p = (.inr s, .int v) ∧ s.length ≤ 40 ∧ 0 ≤ v ∧ v ≤ 50 := fun p hp => by
  rcases mem_put p hp with h' | h'
  · exact h p h'
  · exact ⟨s, v, h', hs, h0, h1⟩
theorem ow_d {kvs : List (Ev.Key × D)} : isOw (some (.ownd kvs)) ↔ True := Iff.rfl
theorem po_d {kvs : List (Ev.Key × D)} {s : Str} {d : D} : putO (some (.ownd kvs)) (.str s) d = if kvs.length < sizeLine then some (.ownd (kPut kvs (.inr s) d)) else none := rfl
mutual
inductive Wo (kvs : List (Ev.Key × D)) : D → Nat → Prop
  | int {v : Int} : -1000000000000000000000000000000 ≤ v → v ≤ 1000000000000000000000000000000 → Wo kvs (.int v) 1
  | pair {a b : D} {p q : Nat} : Wo kvs a p → Wo kvs b q → Wo kvs (.tup [.str "pair", a, b]) (1 + p + q)
  | fn {s : Str} {m : Int} {ys : List D} {p : Nat} : kGet kvs (.inr s) = some (.int m) → (ys.length : Int) = m → WoL kvs ys p → Wo kvs (.tup [.str "fn", .str s, .tup ys]) (1 + p)
inductive WoL (kvs : List (Ev.Key × D)) : List D → Nat → Prop
  | nil : WoL kvs [] 0
  | cons {x : D} {xs : List D} {p q : Nat} : Wo kvs x p → WoL kvs xs q → WoL kvs (x :: xs) (p + q)
end
theorem WoL.snoc {kvs : List (Ev.Key × D)} {xs : List D} {p : Nat} (h : WoL kvs xs p) {y : D} {q : Nat} (g : Wo kvs y q) : WoL kvs (xs ++ [y]) (p + q) := by
  induction xs generalizing p with
  | nil => cases h; have := WoL.cons g .nil; rwa [Nat.add_zero, ← Nat.zero_add q] at this
  | cons x xs ih =>
    cases h with
    | cons h r =>
      have := WoL.cons h (ih r)
      rwa [← Nat.add_assoc] at this
theorem x_l0 {S : List Ob} {j : Nat} {d : D} {xs : List D} (h : S[j]? = some (.lst (d :: xs))) : ixS S (.obj j) (.int 0) = some d := by
  rw [x_obl h]
  exact atI_nat (k := 0)
theorem st_l0 {S : List Ob} {j : Nat} {d v : D} {xs : List D} (h : S[j]? = some (.lst (d :: xs))) : stO S (.obj j) (.int 0) v = some (S.set j (.lst (v :: xs))) := by
  unfold stO
  simp only [h]
  rw [ixN_0 (by simp)]
  rfl
/-- each round gives one thing; by an invariant of what is there by then -/
theorem gv_collectA {f : D → M (Option D)} (I : List D → List Ob → Prop) {xs : List D} {S : List Ob} {Q : List D → List Ob → Prop} {E : Exc → List Ob → Prop} (h0 : I [] S)
    (hs : ∀ (ys : List D) (x : D) (S : List Ob), xs[ys.length]? = some x → I ys S → Gv (f x) S (fun o S' => ∃ y, o = some y ∧ I (ys ++ [y]) S') E)
    (hd : ∀ ys S, ys.length = xs.length → I ys S → Q ys S) : Gv (collect f xs) S Q E := by
  have main : ∀ (n : Nat) (ys : List D) (S : List Ob) (Q : List D → List Ob → Prop), xs.length - ys.length = n → ys.length ≤ xs.length → I ys S →
      (∀ zs S, zs.length = n → I (ys ++ zs) S → Q zs S) → Gv (collect f (xs.drop ys.length)) S Q E := by
    intro n
    induction n with
    | zero =>
      intro ys S Q hn hi h hq
      have e : ys.length = xs.length := by omega
      rw [e, List.drop_length]
      exact hq [] S rfl (by rw [List.append_nil]; exact h)
    | succ n ih =>
      intro ys S Q hn hi h hq
      have hlt : ys.length < xs.length := by omega
      rw [List.drop_eq_getElem_cons hlt, collect_cons]
      refine (hs ys _ S (List.getElem?_eq_getElem hlt) h).imp ?_
      rintro o S1 ⟨y, rfl, h1⟩
      have := ih (ys ++ [y]) S1 (fun zs S2 => Q (y :: zs) S2) (by simp; omega) (by simp; omega) h1 fun zs S2 hl hI => hq (y :: zs) S2 (by simp [hl]) (by rw [List.append_assoc] at hI; exact hI)
      rwa [List.length_append] at this
  have := main xs.length [] S Q (by simp) (by simp) h0 fun zs S hl hI => hd zs S hl hI
  exact this
theorem worth {T : Tab} (hD : Has T ("_law_draw", none) 2 9 ir_law_draw) (hF : Has T ("_law_far", none) 2 2 ir_law_far) (hT : Has T ("_law_worth", none) 3 7 ir_law_worth) {kvs : List (Ev.Key × D)} (hkv : LD kvs) {t j : Nat} {l : List (Nat × Ob)} : ∀ (k : Nat) {n : Int} {c : Nat} {S : List Ob}, 0 ≤ n → n + 12 ≤ k → c + 100 * (n + 1) ≤ 700000000 → HP t c ((j, .lst [.int n]) :: l) S →
    Gv (T.at_ k ("_law_worth", none) [.obj t, .dct kvs, .obj j]) S (fun y S' => ∃ (p : Nat) (n' : Int), Wo kvs y p ∧ 1 ≤ p ∧ 0 ≤ n' ∧ p + n' = n + 1 ∧ HP t (c + 100 * p) ((j, .lst [.int n']) :: l) S')
  | 0, n, c, S, h0, hk, hc, hp => by omega
  | k + 1, n, c, S, h0, hk, hc, hp => by
    obtain ⟨hk1, hk2, hkv'⟩ := hkv
    have hne : kvs ≠ [] := fun e => by rw [e] at hk1; simp at hk1
    refine has_runK hT rfl fun R hR => ?_; simp only [List.map_cons, List.map_nil, List.replicate, List.cons_append, List.nil_append, Nat.reduceSub]
    refine gs_stK fun N hN => ?_; simp only [↓wA, ↓wY, wB, wC, ↓reduceIte, reduceCtorEq, Nat.reduceAdd, Nat.reduceLeDiff, Nat.reduceLT, Nat.reduceSub, Int.reduceLT, Int.reduceLE, Int.reduceEq, Int.reduceNeg, Int.reduceAdd, Int.reduceSub, Int.reduceMul]
    refine Gv.imp (Lb.draw hD (by omega) (by omega) (by omega) (by omega) hp) ?_; rintro _ S ⟨way, rfl, way0, way1, hp⟩
    refine hN _ _ ?_; try clear hN
    have hway := way1
    have rest : ∀ (N : Sl → List Ob → Prop), (∀ τ' S', Gs_ (evSs (T.gs k) (stsOf [
  .set (.one 5) (.ix (.bin .add (.bi .list (esOf [(.loc 1)])) (.lst (esOf [(.cst (.str ""))]))) (.call "_law_draw" (esOf [(.loc 0), (.bi .max (esOf [(.cst (.int 1)), (.bi .len (esOf [(.loc 1)]))]))]))),
  .ife (.and (.cmp .eq (.loc 3) (.cst (.int 5))) (.and (.cmp .isin (.loc 5) (.loc 1)) (.cmp .le (.ix (.loc 1) (.loc 5)) (.ix (.loc 2) (.cst (.int 0)))))) (stsOf [
    .setIx (.loc 2) (.cst (.int 0)) (.bin .sub (.ix (.loc 2) (.cst (.int 0))) (.ix (.loc 1) (.loc 5))),
    .ret (.tup (esOf [(.cst (.str "fn")), (.loc 5), (.bi .tuple (esOf [(.comp (.call "_law_worth" (esOf [(.loc 0), (.loc 1), (.loc 2)])) [6] (.one 6) (.rng (.ix (.loc 1) (.loc 5))) .none)]))]))]) (stsOf []),
  .ret (.call "_law_far" (esOf [(.loc 0), (.bin .pow (.cst (.int 10)) (.cst (.int 30)))]))]) τ' S') (fun _ S' => R .non S') R → N τ' S') → N [.val (.obj t), .val (.dct kvs), .val (.obj j), .val (.int way), .un, .un, .un] S := fun N hN => by
      refine hN _ _ ?_; try clear hN
      have hmax : (if ((kvs.length : Nat) : Int) > 1 then ((kvs.length : Nat) : Int) else 1) = kvs.length := by split <;> omega
      refine gs_stK fun N hN => ?_; simp only [↓wA, ↓wY, wB, wC, ↓reduceIte, reduceCtorEq, Nat.reduceAdd, Nat.reduceLeDiff, Nat.reduceLT, Nat.reduceSub, Int.reduceLT, Int.reduceLE, Int.reduceEq, Int.reduceNeg, Int.reduceAdd, Int.reduceSub, Int.reduceMul, hmax]
      have hkl : (keysD kvs).length = kvs.length := List.length_map _
      repeat refine And.intro (by first | omega | exact Lb.mul_lt (by omega) (by omega) (by omega) (by omega) | decide) ?_
      refine Gv.imp (Lb.draw hD (by omega) (by omega) (by omega) (by omega) hp) ?_; rintro _ S ⟨v, rfl, v0, v1, hp⟩
      obtain ⟨x, hx, hm⟩ := atI_pos (xs := keysD kvs) (i := v) v0 (by omega)
      have hx' : L2.atI (keysD kvs ++ [D.str ""]) v = some x := by
        obtain ⟨v, rfl⟩ : ∃ j : Nat, v = j := ⟨v.toNat, by omega⟩
        rw [Ev.atI_nat] at hx ⊢
        rw [List.getElem?_append_left (by omega)]
        exact hx
      obtain ⟨q, hq, rfl⟩ := List.mem_map.mp hm
      obtain ⟨s, u, rfl, _, _, _⟩ := hkv' q hq
      obtain ⟨m', hm', hmm⟩ := get_mem hq
      obtain ⟨_, m, hq', hsl, m0, m5⟩ := hkv' _ hmm
      cases hq'
      try simp only [↓wA, ↓wY, wB, wC, ↓reduceIte, reduceCtorEq, Nat.reduceAdd, Nat.reduceLeDiff, Nat.reduceLT, Nat.reduceSub, Int.reduceLT, Int.reduceLE, Int.reduceEq, Int.reduceNeg, Int.reduceAdd, Int.reduceSub, Int.reduceMul, hx', keyD]
      refine hN _ _ ?_; try clear hN
      have far' : Gs_ (evSs (T.gs k) (stsOf [.ret (.call "_law_far" (esOf [(.loc 0), (.bin .pow (.cst (.int 10)) (.cst (.int 30)))]))]) [.val (.obj t), .val (.dct kvs), .val (.obj j), .val (.int way), .un, .val (.str s), .un] S) (fun _ S' => R .non S') R := by
        refine gs_stK fun N hN => ?_; simp only [↓wA, ↓wY, wB, wC, ↓reduceIte, reduceCtorEq, Nat.reduceAdd, Nat.reduceLeDiff, Nat.reduceLT, Nat.reduceSub, Int.reduceLT, Int.reduceLE, Int.reduceEq, Int.reduceNeg, Int.reduceAdd, Int.reduceSub, Int.reduceMul]
        refine Gv.imp (far hD hF (by omega) (by omega) (by omega) (by omega) hp) ?_
        rintro _ S ⟨v, rfl, h1, h2, hp⟩
        exact hR _ _ ⟨1, n, .int h1 h2, Nat.le_refl _, h0, by omega, hp.le (by omega)⟩
      refine gs_stK fun N hN => ?_; simp only [↓wA, ↓wY, wB, wC, ↓reduceIte, reduceCtorEq, Nat.reduceAdd, Nat.reduceLeDiff, Nat.reduceLT, Nat.reduceSub, Int.reduceLT, Int.reduceLE, Int.reduceEq, Int.reduceNeg, Int.reduceAdd, Int.reduceSub, Int.reduceMul, hm', Option.isSome_some, x_l0 hp.get]
      refine ⟨fun h5 => ⟨fun hle => ?_, fun hle => ?_⟩, fun h5 => ?_⟩
      · refine gs_stK fun Nb hNb => ?_; simp only [↓wA, ↓wY, wB, wC, ↓reduceIte, reduceCtorEq, Nat.reduceAdd, Nat.reduceLeDiff, Nat.reduceLT, Nat.reduceSub, Int.reduceLT, Int.reduceLE, Int.reduceEq, Int.reduceNeg, Int.reduceAdd, Int.reduceSub, Int.reduceMul, hm', x_l0 hp.get, st_l0 hp.get]
        have hp2 := hp.upd (o' := .lst [.int (n - m)])
        refine hNb _ _ ?_; try clear hNb
        refine gs_stK fun Nb hNb => ?_; simp only [↓wA, ↓wY, wB, wC, ↓reduceIte, reduceCtorEq, Nat.reduceAdd, Nat.reduceLeDiff, Nat.reduceLT, Nat.reduceSub, Int.reduceLT, Int.reduceLE, Int.reduceEq, Int.reduceNeg, Int.reduceAdd, Int.reduceSub, Int.reduceMul, hm']
        repeat refine And.intro (by first | omega | exact Lb.mul_lt (by omega) (by omega) (by omega) (by omega) | decide) ?_
        have hml : m.toNat ≤ 16777216 := by omega
        repeat refine And.intro (by first | omega | exact Lb.mul_lt (by omega) (by omega) (by omega) (by omega) | decide) ?_
        refine gv_collectA (fun ys S => ∃ (p : Nat) (n' : Int), WoL kvs ys p ∧ ys.length ≤ p ∧ 0 ≤ n' ∧ p + n' = n - m + ys.length ∧ HP t (c + 16 + 100 * p) ((j, .lst [.int n']) :: l) S) ⟨0, n - m, .nil, Nat.le_refl _, by omega, by simp, hp2.le (by omega)⟩ ?_ ?_
        · rintro ys x S hx ⟨p, n', hw, hlp, hn0, hn, hp⟩
          obtain ⟨rfl, hi⟩ := rng_get hx
          try simp only [↓wA, ↓wY, wB, wC, ↓reduceIte, reduceCtorEq, Nat.reduceAdd, Nat.reduceLeDiff, Nat.reduceLT, Nat.reduceSub, Int.reduceLT, Int.reduceLE, Int.reduceEq, Int.reduceNeg, Int.reduceAdd, Int.reduceSub, Int.reduceMul]
          refine Gv.imp (worth hD hF hT ⟨hk1, hk2, hkv'⟩ k hn0 (by omega) (by omega) hp) ?_
          rintro y S ⟨p', n2, hy, hp1, hn2, hpn, hp⟩
          exact ⟨y, rfl, p + p', n2, hw.snoc hy, by first | omega | (simp; omega), hn2, by first | omega | (simp; omega), hp.le (by omega)⟩
        · rintro ys S hl ⟨p, n', hw, hlp, hn0, hn, hp⟩
          rw [rng_len] at hl
          try simp only [↓wA, ↓wY, wB, wC, ↓reduceIte, reduceCtorEq, Nat.reduceAdd, Nat.reduceLeDiff, Nat.reduceLT, Nat.reduceSub, Int.reduceLT, Int.reduceLE, Int.reduceEq, Int.reduceNeg, Int.reduceAdd, Int.reduceSub, Int.reduceMul]
          repeat refine And.intro (by first | omega | exact Lb.mul_lt (by omega) (by omega) (by omega) (by omega) | decide) ?_
          exact hR _ _ ⟨1 + p, n', .fn hm' (by omega) hw, by omega, hn0, by omega, hp.le (by omega)⟩
      · refine gs_st0K ?_
        refine hN _ _ ?_; try clear hN
        exact far'
      · refine gs_st0K ?_
        refine hN _ _ ?_; try clear hN
        exact far'
    refine gs_stK fun N hN => ?_; simp only [↓wA, ↓wY, wB, wC, ↓reduceIte, reduceCtorEq, Nat.reduceAdd, Nat.reduceLeDiff, Nat.reduceLT, Nat.reduceSub, Int.reduceLT, Int.reduceLE, Int.reduceEq, Int.reduceNeg, Int.reduceAdd, Int.reduceSub, Int.reduceMul, x_l0 hp.get, hne, kMerge, List.foldl_nil, List.zip_nil_left]
    refine ⟨fun h3 => ⟨fun h1 => ⟨fun h4 => ?_, fun h4 => ?_⟩, fun h1 => ?_⟩, fun h3 => ?_⟩
    · clear rest
      refine gs_stK fun Nb hNb => ?_; simp only [↓wA, ↓wY, wB, wC, ↓reduceIte, reduceCtorEq, Nat.reduceAdd, Nat.reduceLeDiff, Nat.reduceLT, Nat.reduceSub, Int.reduceLT, Int.reduceLE, Int.reduceEq, Int.reduceNeg, Int.reduceAdd, Int.reduceSub, Int.reduceMul, x_l0 hp.get, st_l0 hp.get]
      have hp2 := hp.upd (o' := .lst [.int (n - 2)])
      refine hNb _ _ ?_; try clear hNb
      refine gs_stK fun Nb hNb => ?_; simp only [↓wA, ↓wY, wB, wC, ↓reduceIte, reduceCtorEq, Nat.reduceAdd, Nat.reduceLeDiff, Nat.reduceLT, Nat.reduceSub, Int.reduceLT, Int.reduceLE, Int.reduceEq, Int.reduceNeg, Int.reduceAdd, Int.reduceSub, Int.reduceMul]
      refine Gv.imp (worth hD hF hT ⟨hk1, hk2, hkv'⟩ k (by omega) (by omega) (by omega) hp2) ?_
      rintro y S ⟨p, n2, hy, hp1, hn2, hpn, hp⟩
      refine hNb _ _ ?_; try clear hNb
      refine gs_stK fun Nb hNb => ?_; simp only [↓wA, ↓wY, wB, wC, ↓reduceIte, reduceCtorEq, Nat.reduceAdd, Nat.reduceLeDiff, Nat.reduceLT, Nat.reduceSub, Int.reduceLT, Int.reduceLE, Int.reduceEq, Int.reduceNeg, Int.reduceAdd, Int.reduceSub, Int.reduceMul]
      refine Gv.imp (worth hD hF hT ⟨hk1, hk2, hkv'⟩ k (by omega) (by omega) (by omega) hp) ?_
      rintro z S ⟨q, n3, hz, hq1, hn3, hqn, hp⟩
      try simp only [↓wA, ↓wY, wB, wC, ↓reduceIte, reduceCtorEq, Nat.reduceAdd, Nat.reduceLeDiff, Nat.reduceLT, Nat.reduceSub, Int.reduceLT, Int.reduceLE, Int.reduceEq, Int.reduceNeg, Int.reduceAdd, Int.reduceSub, Int.reduceMul]
      repeat refine And.intro (by first | omega | exact Lb.mul_lt (by omega) (by omega) (by omega) (by omega) | decide) ?_
      exact hR _ _ ⟨1 + p + q, n3, .pair hy hz, by omega, hn3, by omega, hp.le (by omega)⟩
    · refine gs_st0K ?_
      exact rest N hN
    · refine gs_st0K ?_
      exact rest N hN
    · refine gs_st0K ?_
      exact rest N hN
theorem gs_fuel {T : Tab} {k : Nat} : (T.gs k).fuel = T.fuel := by cases k <;> rfl
theorem gs_whl {G : Gs} {t : E} {b : Sms} {N : Sl → List Ob → Prop} {Rt : D → List Ob → Prop} {X : Exc → List Ob → Prop} (I : Nat → Sl → List Ob → Prop)
    (hs : ∀ (m : Nat) (τ : Sl) (S : List Ob), I m τ S → Gv (evE G τ t) S (fun x S1 => brS S1 x (Gs_ (evSs G b τ S1) (fun τ' S' => ∃ m', m' < m ∧ I m' τ' S') Rt X) (N τ S1)) X)
    {n m : Nat} {τ : Sl} {S : List Ob} (hm : m < n) (h : I m τ S) : Gs_ (whlN (fun σ => testE G σ t) (evSs G b) n τ S) N Rt X := by
  refine whl_ok I (fun m τ S h => ?_) n m τ S hm h
  have q : Gv (testE G τ t) S (fun k S1 => if k = true then Gs_ (evSs G b τ S1) (fun τ' S' => ∃ m', m' < m ∧ I m' τ' S') Rt X else N τ S1) X := by
    unfold testE
    rw [gv_bnd]
    refine (hs m τ S h).imp fun x S1 h => ?_
    unfold brS at h
    unfold Gv Ev.ask
    dsimp only
    cases hq : truth S1 x with
    | none => rw [hq] at h; exact h
    | some k => rw [hq] at h; cases k <;> exact h
  unfold Gv at q
  cases hz : testE G τ t S with
  | ok a S1 => rw [hz] at q; exact q
  | exc e S1 => rw [hz] at q; exact q
  | bad => rw [hz] at q; exact q
end Lb
set_option Elab.async false
set_option linter.all false
set_option maxRecDepth 100000
set_option maxHeartbeats 4000000
namespace Lb
open PySem L2 Ev
def ir_is_name : Sms := (stsOf [
  .ife (.or (.not (.isi (.loc 0) .str)) (.or (.cmp .lt (.bi .len (esOf [(.loc 0)])) (.cst (.int 1))) (.or (.cmp .gt (.bi .len (esOf [(.loc 0)])) (.cst (.int 8))) (.cmp .notin (.ix (.loc 0) (.cst (.int 0))) (.glob "LETTERS"))))) (stsOf [
    .ret (.cst (.bl false))]) (stsOf []),
  .ret (.bi .all (esOf [(.comp (.or (.cmp .isin (.loc 1) (.glob "LETTERS")) (.cmp .isin (.loc 1) (.glob "FIGURES"))) [1] (.one 1) (.seq (.loc 0)) .none)]))])
def ir_is_whole : Sms := (stsOf [
  .ret (.and (.isi (.loc 0) .int) (.and (.not (.isi (.loc 0) .bool)) (.cmp .le (.bi .abs (esOf [(.loc 0)])) (.loc 1))))])
def ir_worths_in : Sms := (stsOf [
  .ife (.isi (.loc 0) .int) (stsOf [
    .ret (.lst (esOf []))]) (stsOf []),
  .ife (.cmp .eq (.ix (.loc 0) (.cst (.int 0))) (.cst (.str "pair"))) (stsOf [
    .ret (.lst (esOf [(.ix (.loc 0) (.cst (.int 1))), (.ix (.loc 0) (.cst (.int 2)))]))]) (stsOf []),
  .ret (.bi .list (esOf [(.ix (.loc 0) (.cst (.int 2)))]))])
def ir_has_form : Sms := (stsOf [
  .ife (.isi (.loc 0) .int) (stsOf [
    .ret (.call "is_whole" (esOf [(.loc 0), (.glob "GREAT")]))]) (stsOf []),
  .ife (.or (.not (.isi (.loc 0) .tuple)) (.or (.cmp .ne (.bi .len (esOf [(.loc 0)])) (.cst (.int 3))) (.not (.isi (.ix (.loc 0) (.cst (.int 0))) .str)))) (stsOf [
    .ret (.cst (.bl false))]) (stsOf []),
  .ife (.cmp .eq (.ix (.loc 0) (.cst (.int 0))) (.cst (.str "fn"))) (stsOf [
    .ret (.and (.call "is_name" (esOf [(.ix (.loc 0) (.cst (.int 1)))])) (.isi (.ix (.loc 0) (.cst (.int 2))) .tuple))]) (stsOf []),
  .ret (.cmp .eq (.ix (.loc 0) (.cst (.int 0))) (.cst (.str "pair")))])
def ir_is_worth : Sms := (stsOf [
  .own 1 (.lst (esOf [(.loc 0)])),
  .set (.one 2) (.cst (.int 0)),
  .whl (.cmp .ne (.rd 1) (.lst (esOf []))) (stsOf [
    .pop 3 1,
    .set (.one 2) (.bin .add (.loc 2) (.cst (.int 1))),
    .ife (.or (.cmp .gt (.loc 2) (.glob "PARTS")) (.not (.call "has_form" (esOf [(.loc 3)])))) (stsOf [
      .ret (.cst (.bl false))]) (stsOf []),
    .ext 1 (.call "worths_in" (esOf [(.loc 3)]))]),
  .ret (.cst (.bl true))])
def az : List Nat := ("abcdefghijklmnopqrstuvwxyz" : Str).cps.toList
def d09 : List Nat := ("0123456789" : Str).cps.toList
def isNmS (s : Str) : Bool := decide (1 ≤ s.length ∧ s.length ≤ 8 ∧ s.cps.toList.headD 0 ∈ az) && (s.cps.toList.map (fun c => decide (c ∈ az ∨ c ∈ d09))).all id
def isNm : D → Bool
  | .str s => isNmS s
  | _ => false
theorem nm_f1 {s : Str} (h : s.length < 1) : false = isNm (.str s) := by
  show false = isNmS s
  unfold isNmS
  rw [decide_eq_false (by omega)]; rfl
theorem nm_f2 {s : Str} (h : 8 < s.length) : false = isNm (.str s) := by
  show false = isNmS s
  unfold isNmS
  rw [decide_eq_false (by omega)]; rfl
theorem nm_f3 {s : Str} (h : s.cps.toList.headD 0 ∉ az) : false = isNm (.str s) := by
  show false = isNmS s
  unfold isNmS
  rw [decide_eq_false (fun q => h q.2.2)]; rfl
theorem nm_t {s : Str} (h1 : 1 ≤ s.length) (h2 : s.length ≤ 8) (h : s.cps.toList.headD 0 ∈ az) : (s.cps.toList.map (fun c => decide (c ∈ az ∨ c ∈ d09))).all id = isNm (.str s) := by
  show _ = isNmS s
  unfold isNmS
  rw [decide_eq_true (show 1 ≤ s.length ∧ s.length ≤ 8 ∧ s.cps.toList.headD 0 ∈ az from ⟨h1, h2, h⟩)]; rfl
theorem at0 {s : Str} (h : 1 ≤ s.length) : L2.atI s.cps.toList 0 = some (s.cps.toList.headD 0) := by
  rw [show (0 : Int) = ((0 : Nat) : Int) from rfl, Ev.atI_nat]
  have : 0 < s.cps.toList.length := by rw [Array.length_toList]; exact h
  cases hq : s.cps.toList with
  | nil => rw [hq] at this; simp at this
  | cons c cs => rfl
theorem all_bl {α : Type} (cs : List α) (p : α → Bool) : cs.map (fun c => D.bl (p c)) = (cs.map p).map .bl := by rw [List.map_map]; rfl
theorem is_name {T : Tab} (hL : T.glob "LETTERS" = some (.str "abcdefghijklmnopqrstuvwxyz")) (hF : T.glob "FIGURES" = some (.str "0123456789")) (hT : Has T ("is_name", none) 1 2 ir_is_name) {k w d : Nat} {x : D} {S : List Ob} (hw : w ≤ 1000000) (hx : Pl w d x) : T.at_ (k + 1) ("is_name", none) [x] S = .ok (.bl (isNm x)) S := by
  rw [gv_eq]
  refine has_runK hT rfl fun R hR => ?_; simp only [List.map_cons, List.map_nil, List.replicate, List.cons_append, List.nil_append, Nat.reduceSub]
  cases d with
  | zero => exact hx.elim
  | succ d =>
    cases x with
    | frz xs => exact hx.elim
    | obj i => exact hx.elim
    | str s =>
      have hs : s.length ≤ w := hx
      have fin : ∀ b, b = isNm (.str s) → R (.bl b) S := fun b hb => hR _ _ ⟨by rw [hb], rfl⟩
      refine gs_stK fun N hN => ?_; simp only [↓wA, ↓wY, wB, wC, ↓reduceIte, reduceCtorEq, Nat.reduceAdd, Nat.reduceLeDiff, Nat.reduceLT, Nat.reduceSub, Int.reduceLT, Int.reduceLE, Int.reduceEq, Int.reduceNeg, Int.reduceAdd, Int.reduceSub, Int.reduceMul, hL]
      repeat refine And.intro (by first | omega | exact Lb.mul_lt (by omega) (by omega) (by omega) (by omega) | decide) ?_
      refine ⟨fun h1 => ?_, fun h1 => ⟨by omega, fun h8 => ?_, fun h8 => ⟨by omega, ?_⟩⟩⟩
      · refine gs_stK fun Nb hNb => ?_; simp only [↓wA, ↓wY, wB, wC, ↓reduceIte, reduceCtorEq, Nat.reduceAdd, Nat.reduceLeDiff, Nat.reduceLT, Nat.reduceSub, Int.reduceLT, Int.reduceLE, Int.reduceEq, Int.reduceNeg, Int.reduceAdd, Int.reduceSub, Int.reduceMul]
        exact fin _ (nm_f1 (by omega))
      · refine gs_stK fun Nb hNb => ?_; simp only [↓wA, ↓wY, wB, wC, ↓reduceIte, reduceCtorEq, Nat.reduceAdd, Nat.reduceLeDiff, Nat.reduceLT, Nat.reduceSub, Int.reduceLT, Int.reduceLE, Int.reduceEq, Int.reduceNeg, Int.reduceAdd, Int.reduceSub, Int.reduceMul]
        exact fin _ (nm_f2 (by omega))
      · try simp only [↓wA, ↓wY, wB, wC, ↓reduceIte, reduceCtorEq, Nat.reduceAdd, Nat.reduceLeDiff, Nat.reduceLT, Nat.reduceSub, Int.reduceLT, Int.reduceLE, Int.reduceEq, Int.reduceNeg, Int.reduceAdd, Int.reduceSub, Int.reduceMul, at0 (show 1 ≤ s.length by omega)]
        refine ⟨fun hm => ?_, fun hm => ?_⟩
        · refine gs_stK fun Nb hNb => ?_; simp only [↓wA, ↓wY, wB, wC, ↓reduceIte, reduceCtorEq, Nat.reduceAdd, Nat.reduceLeDiff, Nat.reduceLT, Nat.reduceSub, Int.reduceLT, Int.reduceLE, Int.reduceEq, Int.reduceNeg, Int.reduceAdd, Int.reduceSub, Int.reduceMul]
          exact fin _ (nm_f3 hm)
        · refine gs_st0K ?_
          refine hN _ _ ?_; try clear hN
          refine gs_stK fun N hN => ?_; simp only [↓wA, ↓wY, wB, wC, ↓reduceIte, reduceCtorEq, Nat.reduceAdd, Nat.reduceLeDiff, Nat.reduceLT, Nat.reduceSub, Int.reduceLT, Int.reduceLE, Int.reduceEq, Int.reduceNeg, Int.reduceAdd, Int.reduceSub, Int.reduceMul, hL, hF]
          unfold strChars
          rw [List.length_map, Array.length_toList]
          refine ⟨show s.length ≤ 16777216 by omega, gv_collectM s.cps.toList _ (fun c => .bl (decide (c ∈ az ∨ c ∈ d09))) (fun c _ => ?_) ?_⟩
          · try simp only [↓wA, ↓wY, wB, wC, ↓reduceIte, reduceCtorEq, Nat.reduceAdd, Nat.reduceLeDiff, Nat.reduceLT, Nat.reduceSub, Int.reduceLT, Int.reduceLE, Int.reduceEq, Int.reduceNeg, Int.reduceAdd, Int.reduceSub, Int.reduceMul, hL, hF]
            refine ⟨fun hc => ?_, fun hc => ?_⟩
            · rw [decide_eq_true (show c ∈ az ∨ c ∈ d09 from .inl hc)]
            · have : (c ∈ az ∨ c ∈ d09) ↔ c ∈ d09 := ⟨fun q => q.resolve_left hc, .inr⟩
              rw [decide_eq_decide.mpr this]
              rfl
          · rw [all_bl, f_all]
            try simp only [↓wA, ↓wY, wB, wC, ↓reduceIte, reduceCtorEq, Nat.reduceAdd, Nat.reduceLeDiff, Nat.reduceLT, Nat.reduceSub, Int.reduceLT, Int.reduceLE, Int.reduceEq, Int.reduceNeg, Int.reduceAdd, Int.reduceSub, Int.reduceMul]
            exact fin _ (nm_t (by omega) (by omega) hm)
    | _ =>
      refine gs_stK fun N hN => ?_; simp only [↓wA, ↓wY, wB, wC, ↓reduceIte, reduceCtorEq, Nat.reduceAdd, Nat.reduceLeDiff, Nat.reduceLT, Nat.reduceSub, Int.reduceLT, Int.reduceLE, Int.reduceEq, Int.reduceNeg, Int.reduceAdd, Int.reduceSub, Int.reduceMul]
      refine gs_stK fun Nb hNb => ?_; simp only [↓wA, ↓wY, wB, wC, ↓reduceIte, reduceCtorEq, Nat.reduceAdd, Nat.reduceLeDiff, Nat.reduceLT, Nat.reduceSub, Int.reduceLT, Int.reduceLE, Int.reduceEq, Int.reduceNeg, Int.reduceAdd, Int.reduceSub, Int.reduceMul]
      exact hR _ _ ⟨rfl, rfl⟩
def isW (m : Int) : D → Bool
  | .int v => decide (-m ≤ v ∧ v ≤ m)
  | _ => false
theorem is_whole {T : Tab} (hT : Has T ("is_whole", none) 2 2 ir_is_whole) {k w d : Nat} {x : D} {m : Int} {S : List Ob} (hx : Pl w d x) : T.at_ (k + 1) ("is_whole", none) [x, .int m] S = .ok (.bl (isW m x)) S := by
  rw [gv_eq]
  refine has_runK hT rfl fun R hR => ?_; simp only [List.map_cons, List.map_nil, List.replicate, List.cons_append, List.nil_append, Nat.reduceSub]
  cases d with
  | zero => exact hx.elim
  | succ d =>
    cases x with
    | frz xs => exact hx.elim
    | obj i => exact hx.elim
    | int v =>
      refine gs_stK fun N hN => ?_; simp only [↓wA, ↓wY, wB, wC, ↓reduceIte, reduceCtorEq, Nat.reduceAdd, Nat.reduceLeDiff, Nat.reduceLT, Nat.reduceSub, Int.reduceLT, Int.reduceLE, Int.reduceEq, Int.reduceNeg, Int.reduceAdd, Int.reduceSub, Int.reduceMul]
      refine hR _ _ ⟨?_, rfl⟩
      have : ((if v < 0 then -v else v) ≤ m) ↔ (-m ≤ v ∧ v ≤ m) := by split <;> omega
      rw [decide_eq_decide.mpr this]
      rfl
    | _ =>
      refine gs_stK fun N hN => ?_; simp only [↓wA, ↓wY, wB, wC, ↓reduceIte, reduceCtorEq, Nat.reduceAdd, Nat.reduceLeDiff, Nat.reduceLT, Nat.reduceSub, Int.reduceLT, Int.reduceLE, Int.reduceEq, Int.reduceNeg, Int.reduceAdd, Int.reduceSub, Int.reduceMul]
      exact hR _ _ ⟨rfl, rfl⟩
def isTup : D → Bool
  | .tup _ => true
  | _ => false
/-- a worth's form, looked at -/
def hasF : D → Bool
  | .int v => decide (-1000000000000000000000000000000 ≤ v ∧ v ≤ 1000000000000000000000000000000)
  | .tup [.str s, b, c] => if s = "fn" then isNm b && isTup c else decide (s = "pair")
  | _ => false
theorem hasF_fn {b c : D} : hasF (.tup [.str "fn", b, c]) = (isNm b && isTup c) := by
  show (if ("fn" : Str) = "fn" then isNm b && isTup c else decide (("fn" : Str) = "pair")) = _
  rw [if_pos rfl]
theorem hasF_ne {s : Str} {b c : D} (h : s ≠ "fn") : hasF (.tup [.str s, b, c]) = decide (s = "pair") := by
  show (if s = "fn" then isNm b && isTup c else decide (s = "pair")) = _
  rw [if_neg h]
theorem len3 {α : Type} {xs : List α} (h : xs.length = 3) : ∃ a b c, xs = [a, b, c] := by
  rcases xs with _ | ⟨a, _ | ⟨b, _ | ⟨c, _ | ⟨d, e⟩⟩⟩⟩ <;> simp at h
  exact ⟨a, b, c, rfl⟩
theorem at30 {α : Type} {a b c : α} : L2.atI [a, b, c] 0 = some a := rfl
theorem at31 {α : Type} {a b c : α} : L2.atI [a, b, c] 1 = some b := rfl
theorem at32 {α : Type} {a b c : α} : L2.atI [a, b, c] 2 = some c := rfl
theorem hasF_n3 {xs : List D} (h : xs.length ≠ 3) : hasF (.tup xs) = false := by
  rcases xs with _ | ⟨a, _ | ⟨b, _ | ⟨c, _ | ⟨d, e⟩⟩⟩⟩
  · rfl
  · cases a <;> rfl
  · cases a <;> rfl
  · simp at h
  · cases a <;> rfl
theorem has_form {T : Tab} (hL : T.glob "LETTERS" = some (.str "abcdefghijklmnopqrstuvwxyz")) (hF : T.glob "FIGURES" = some (.str "0123456789")) (hG : T.glob "GREAT" = some (.int 1000000000000000000000000000000)) (hN : Has T ("is_name", none) 1 2 ir_is_name) (hW : Has T ("is_whole", none) 2 2 ir_is_whole) (hT : Has T ("has_form", none) 1 1 ir_has_form) {k w d : Nat} {x : D} {S : List Ob} (hw : w ≤ 1000000) (hx : Pl w d x) : T.at_ (k + 2) ("has_form", none) [x] S = .ok (.bl (hasF x)) S := by
  have wh : ∀ (y : D) (d : Nat), Pl w d y → ∀ (m : Int) (S : List Ob) (Q : D → List Ob → Prop) (E : Exc → List Ob → Prop), Gv (T.at_ (k + 1) ("is_whole", none) [y, .int m]) S Q E ↔ Q (.bl (isW m y)) S := fun y d hy m S Q E => gv_ok (is_whole hW hy)
  have nm : ∀ (y : D) (d : Nat), Pl w d y → ∀ (S : List Ob) (Q : D → List Ob → Prop) (E : Exc → List Ob → Prop), Gv (T.at_ (k + 1) ("is_name", none) [y]) S Q E ↔ Q (.bl (isNm y)) S := fun y d hy S Q E => gv_ok (is_name hL hF hN hw hy)
  rw [gv_eq]
  have hx0 := hx
  cases d with
  | zero => exact hx.elim
  | succ d =>
    refine has_runK hT rfl fun R hR => ?_; simp only [List.map_cons, List.map_nil, List.replicate, List.cons_append, List.nil_append, Nat.reduceSub]
    cases x with
    | frz xs => exact hx.elim
    | obj i => exact hx.elim
    | int v =>
      refine gs_stK fun N hN => ?_; simp only [↓wA, ↓wY, wB, wC, ↓reduceIte, reduceCtorEq, Nat.reduceAdd, Nat.reduceLeDiff, Nat.reduceLT, Nat.reduceSub, Int.reduceLT, Int.reduceLE, Int.reduceEq, Int.reduceNeg, Int.reduceAdd, Int.reduceSub, Int.reduceMul]
      refine gs_stK fun Nb hNb => ?_; simp only [↓wA, ↓wY, wB, wC, ↓reduceIte, reduceCtorEq, Nat.reduceAdd, Nat.reduceLeDiff, Nat.reduceLT, Nat.reduceSub, Int.reduceLT, Int.reduceLE, Int.reduceEq, Int.reduceNeg, Int.reduceAdd, Int.reduceSub, Int.reduceMul, hG, wh _ _ hx0]
      exact hR _ _ ⟨rfl, rfl⟩
    | bl v =>
      refine gs_stK fun N hN => ?_; simp only [↓wA, ↓wY, wB, wC, ↓reduceIte, reduceCtorEq, Nat.reduceAdd, Nat.reduceLeDiff, Nat.reduceLT, Nat.reduceSub, Int.reduceLT, Int.reduceLE, Int.reduceEq, Int.reduceNeg, Int.reduceAdd, Int.reduceSub, Int.reduceMul]
      refine gs_stK fun Nb hNb => ?_; simp only [↓wA, ↓wY, wB, wC, ↓reduceIte, reduceCtorEq, Nat.reduceAdd, Nat.reduceLeDiff, Nat.reduceLT, Nat.reduceSub, Int.reduceLT, Int.reduceLE, Int.reduceEq, Int.reduceNeg, Int.reduceAdd, Int.reduceSub, Int.reduceMul, hG, wh _ _ hx0]
      exact hR _ _ ⟨rfl, rfl⟩
    | tup xs =>
      obtain ⟨hl, hxs⟩ := hx
      refine gs_stK fun N hN => ?_; simp only [↓wA, ↓wY, wB, wC, ↓reduceIte, reduceCtorEq, Nat.reduceAdd, Nat.reduceLeDiff, Nat.reduceLT, Nat.reduceSub, Int.reduceLT, Int.reduceLE, Int.reduceEq, Int.reduceNeg, Int.reduceAdd, Int.reduceSub, Int.reduceMul]
      refine gs_st0K ?_
      refine hN _ _ ?_; try clear hN
      refine gs_stK fun N hN => ?_; simp only [↓wA, ↓wY, wB, wC, ↓reduceIte, reduceCtorEq, Nat.reduceAdd, Nat.reduceLeDiff, Nat.reduceLT, Nat.reduceSub, Int.reduceLT, Int.reduceLE, Int.reduceEq, Int.reduceNeg, Int.reduceAdd, Int.reduceSub, Int.reduceMul]
      have fin : ∀ b, b = hasF (.tup xs) → R (.bl b) S := fun b hb => hR _ _ ⟨by rw [hb], rfl⟩
      refine ⟨fun h3 => ?_, fun h3 => ?_⟩
      · refine gs_stK fun Nb hNb => ?_; simp only [↓wA, ↓wY, wB, wC, ↓reduceIte, reduceCtorEq, Nat.reduceAdd, Nat.reduceLeDiff, Nat.reduceLT, Nat.reduceSub, Int.reduceLT, Int.reduceLE, Int.reduceEq, Int.reduceNeg, Int.reduceAdd, Int.reduceSub, Int.reduceMul]
        exact fin _ (hasF_n3 (by omega)).symm
      · obtain ⟨a, b, c, rfl⟩ := len3 (xs := xs) (by omega)
        have ha := hxs a (by simp)
        have hb := hxs b (by simp)
        have hc := hxs c (by simp)
        cases a with
        | str s =>
          try simp only [↓wA, ↓wY, wB, wC, ↓reduceIte, reduceCtorEq, Nat.reduceAdd, Nat.reduceLeDiff, Nat.reduceLT, Nat.reduceSub, Int.reduceLT, Int.reduceLE, Int.reduceEq, Int.reduceNeg, Int.reduceAdd, Int.reduceSub, Int.reduceMul, at30]
          refine gs_st0K ?_
          refine hN _ _ ?_; try clear hN
          refine gs_stK fun N hN => ?_; simp only [↓wA, ↓wY, wB, wC, ↓reduceIte, reduceCtorEq, Nat.reduceAdd, Nat.reduceLeDiff, Nat.reduceLT, Nat.reduceSub, Int.reduceLT, Int.reduceLE, Int.reduceEq, Int.reduceNeg, Int.reduceAdd, Int.reduceSub, Int.reduceMul, at30]
          refine ⟨fun hs => ?_, fun hs => ?_⟩
          · subst hs
            refine gs_stK fun Nb hNb => ?_; simp only [↓wA, ↓wY, wB, wC, ↓reduceIte, reduceCtorEq, Nat.reduceAdd, Nat.reduceLeDiff, Nat.reduceLT, Nat.reduceSub, Int.reduceLT, Int.reduceLE, Int.reduceEq, Int.reduceNeg, Int.reduceAdd, Int.reduceSub, Int.reduceMul, at31, at32, nm _ _ hb]
            cases hn : isNm b with
            | false =>
              try simp only [↓wA, ↓wY, wB, wC, ↓reduceIte, reduceCtorEq, Nat.reduceAdd, Nat.reduceLeDiff, Nat.reduceLT, Nat.reduceSub, Int.reduceLT, Int.reduceLE, Int.reduceEq, Int.reduceNeg, Int.reduceAdd, Int.reduceSub, Int.reduceMul]
              exact fin _ (by rw [hasF_fn, hn]; rfl)
            | true =>
              try simp only [↓wA, ↓wY, wB, wC, ↓reduceIte, reduceCtorEq, Nat.reduceAdd, Nat.reduceLeDiff, Nat.reduceLT, Nat.reduceSub, Int.reduceLT, Int.reduceLE, Int.reduceEq, Int.reduceNeg, Int.reduceAdd, Int.reduceSub, Int.reduceMul, at32]
              cases d with
              | zero => exact hc.elim
              | succ d =>
                cases c with
                | frz xs => exact hc.elim
                | obj i => exact hc.elim
                | _ =>
                  try simp only [↓wA, ↓wY, wB, wC, ↓reduceIte, reduceCtorEq, Nat.reduceAdd, Nat.reduceLeDiff, Nat.reduceLT, Nat.reduceSub, Int.reduceLT, Int.reduceLE, Int.reduceEq, Int.reduceNeg, Int.reduceAdd, Int.reduceSub, Int.reduceMul]
                  exact fin _ (by rw [hasF_fn, hn]; rfl)
          · refine gs_st0K ?_
            refine hN _ _ ?_; try clear hN
            refine gs_stK fun N hN => ?_; simp only [↓wA, ↓wY, wB, wC, ↓reduceIte, reduceCtorEq, Nat.reduceAdd, Nat.reduceLeDiff, Nat.reduceLT, Nat.reduceSub, Int.reduceLT, Int.reduceLE, Int.reduceEq, Int.reduceNeg, Int.reduceAdd, Int.reduceSub, Int.reduceMul, at30]
            exact fin _ (hasF_ne hs).symm
        | _ =>
          cases d with
          | zero => exact hc.elim
          | succ d =>
            try exact ha.elim
            all_goals
              try simp only [↓wA, ↓wY, wB, wC, ↓reduceIte, reduceCtorEq, Nat.reduceAdd, Nat.reduceLeDiff, Nat.reduceLT, Nat.reduceSub, Int.reduceLT, Int.reduceLE, Int.reduceEq, Int.reduceNeg, Int.reduceAdd, Int.reduceSub, Int.reduceMul, at30]
              refine gs_stK fun Nb hNb => ?_; simp only [↓wA, ↓wY, wB, wC, ↓reduceIte, reduceCtorEq, Nat.reduceAdd, Nat.reduceLeDiff, Nat.reduceLT, Nat.reduceSub, Int.reduceLT, Int.reduceLE, Int.reduceEq, Int.reduceNeg, Int.reduceAdd, Int.reduceSub, Int.reduceMul]
              exact fin _ rfl
    | _ =>
      refine gs_stK fun N hN => ?_; simp only [↓wA, ↓wY, wB, wC, ↓reduceIte, reduceCtorEq, Nat.reduceAdd, Nat.reduceLeDiff, Nat.reduceLT, Nat.reduceSub, Int.reduceLT, Int.reduceLE, Int.reduceEq, Int.reduceNeg, Int.reduceAdd, Int.reduceSub, Int.reduceMul]
      refine gs_st0K ?_
      refine hN _ _ ?_; try clear hN
      refine gs_stK fun N hN => ?_; simp only [↓wA, ↓wY, wB, wC, ↓reduceIte, reduceCtorEq, Nat.reduceAdd, Nat.reduceLeDiff, Nat.reduceLT, Nat.reduceSub, Int.reduceLT, Int.reduceLE, Int.reduceEq, Int.reduceNeg, Int.reduceAdd, Int.reduceSub, Int.reduceMul]
      refine gs_stK fun Nb hNb => ?_; simp only [↓wA, ↓wY, wB, wC, ↓reduceIte, reduceCtorEq, Nat.reduceAdd, Nat.reduceLeDiff, Nat.reduceLT, Nat.reduceSub, Int.reduceLT, Int.reduceLE, Int.reduceEq, Int.reduceNeg, Int.reduceAdd, Int.reduceSub, Int.reduceMul]
      exact hR _ _ ⟨rfl, rfl⟩
end Lb
set_option Elab.async false
set_option linter.all false
set_option maxRecDepth 100000
set_option maxHeartbeats 4000000
namespace Lb
open PySem L2 Ev
/-- the worths in a worth -/
def kids : D → List D
  | .tup [.str s, b, c] => if s = "pair" then [b, c] else match c with
    | .tup ys => ys
    | _ => []
  | _ => []
theorem kids_pair {b c : D} : kids (.tup [.str "pair", b, c]) = [b, c] := by
  show (if ("pair" : Str) = "pair" then [b, c] else match c with
    | .tup ys => ys
    | _ => []) = _
  rw [if_pos rfl]
theorem kids_fn {b : D} {ys : List D} : kids (.tup [.str "fn", b, .tup ys]) = ys := by
  show (if ("fn" : Str) = "pair" then [b, .tup ys] else ys) = _
  rw [if_neg (by decide +kernel)]
/-- a thing whose form is a worth's -/
theorem hasF_cases {x : D} (h : hasF x = true) : (∃ v, x = .int v) ∨ (∃ b c, x = .tup [.str "pair", b, c]) ∨ ∃ b ys, x = .tup [.str "fn", b, .tup ys] ∧ isNm b = true := by
  cases x with
  | int v => exact .inl ⟨v, rfl⟩
  | tup xs =>
    by_cases h3 : xs.length = 3
    · obtain ⟨a, b, c, rfl⟩ := len3 h3
      cases a with
      | str s =>
        by_cases hs : s = "fn"
        · subst hs
          rw [hasF_fn, Bool.and_eq_true] at h
          cases c with
          | tup ys => exact .inr (.inr ⟨b, ys, rfl, h.1⟩)
          | _ => cases h.2
        · rw [hasF_ne hs] at h
          have := of_decide_eq_true h
          subst this
          exact .inr (.inl ⟨b, c, rfl⟩)
      | _ => cases h
    · rw [hasF_n3 h3] at h
      cases h
  | _ => cases h
theorem worths_in {T : Tab} (hT : Has T ("worths_in", none) 1 1 ir_worths_in) {k : Nat} {x : D} {S : List Ob} (hx : hasF x = true) : T.at_ (k + 1) ("worths_in", none) [x] S = .ok (.lst (kids x)) S := by
  rw [gv_eq]
  refine has_runK hT rfl fun R hR => ?_; simp only [List.map_cons, List.map_nil, List.replicate, List.cons_append, List.nil_append, Nat.reduceSub]
  rcases hasF_cases hx with ⟨v, rfl⟩ | ⟨b, c, rfl⟩ | ⟨b, ys, rfl, _⟩
  · refine gs_stK fun N hN => ?_; simp only [↓wA, ↓wY, wB, wC, ↓reduceIte, reduceCtorEq, Nat.reduceAdd, Nat.reduceLeDiff, Nat.reduceLT, Nat.reduceSub, Int.reduceLT, Int.reduceLE, Int.reduceEq, Int.reduceNeg, Int.reduceAdd, Int.reduceSub, Int.reduceMul]
    refine gs_stK fun Nb hNb => ?_; simp only [↓wA, ↓wY, wB, wC, ↓reduceIte, reduceCtorEq, Nat.reduceAdd, Nat.reduceLeDiff, Nat.reduceLT, Nat.reduceSub, Int.reduceLT, Int.reduceLE, Int.reduceEq, Int.reduceNeg, Int.reduceAdd, Int.reduceSub, Int.reduceMul]
    exact hR _ _ ⟨rfl, rfl⟩
  · refine gs_stK fun N hN => ?_; simp only [↓wA, ↓wY, wB, wC, ↓reduceIte, reduceCtorEq, Nat.reduceAdd, Nat.reduceLeDiff, Nat.reduceLT, Nat.reduceSub, Int.reduceLT, Int.reduceLE, Int.reduceEq, Int.reduceNeg, Int.reduceAdd, Int.reduceSub, Int.reduceMul]
    refine gs_st0K ?_
    refine hN _ _ ?_; try clear hN
    refine gs_stK fun N hN => ?_; simp only [↓wA, ↓wY, wB, wC, ↓reduceIte, reduceCtorEq, Nat.reduceAdd, Nat.reduceLeDiff, Nat.reduceLT, Nat.reduceSub, Int.reduceLT, Int.reduceLE, Int.reduceEq, Int.reduceNeg, Int.reduceAdd, Int.reduceSub, Int.reduceMul, at30]
    refine gs_stK fun Nb hNb => ?_; simp only [↓wA, ↓wY, wB, wC, ↓reduceIte, reduceCtorEq, Nat.reduceAdd, Nat.reduceLeDiff, Nat.reduceLT, Nat.reduceSub, Int.reduceLT, Int.reduceLE, Int.reduceEq, Int.reduceNeg, Int.reduceAdd, Int.reduceSub, Int.reduceMul, at31, at32]
    repeat refine And.intro (by first | omega | exact Lb.mul_lt (by omega) (by omega) (by omega) (by omega) | decide) ?_
    exact hR _ _ ⟨by rw [kids_pair], rfl⟩
  · refine gs_stK fun N hN => ?_; simp only [↓wA, ↓wY, wB, wC, ↓reduceIte, reduceCtorEq, Nat.reduceAdd, Nat.reduceLeDiff, Nat.reduceLT, Nat.reduceSub, Int.reduceLT, Int.reduceLE, Int.reduceEq, Int.reduceNeg, Int.reduceAdd, Int.reduceSub, Int.reduceMul]
    refine gs_st0K ?_
    refine hN _ _ ?_; try clear hN
    refine gs_stK fun N hN => ?_; simp only [↓wA, ↓wY, wB, wC, ↓reduceIte, reduceCtorEq, Nat.reduceAdd, Nat.reduceLeDiff, Nat.reduceLT, Nat.reduceSub, Int.reduceLT, Int.reduceLE, Int.reduceEq, Int.reduceNeg, Int.reduceAdd, Int.reduceSub, Int.reduceMul, at30]
    have : ¬ ("fn" : Str) = "pair" := by decide +kernel
    try simp only [↓wA, ↓wY, wB, wC, ↓reduceIte, reduceCtorEq, Nat.reduceAdd, Nat.reduceLeDiff, Nat.reduceLT, Nat.reduceSub, Int.reduceLT, Int.reduceLE, Int.reduceEq, Int.reduceNeg, Int.reduceAdd, Int.reduceSub, Int.reduceMul, this]
    refine gs_st0K ?_
    refine hN _ _ ?_; try clear hN
    refine gs_stK fun N hN => ?_; simp only [↓wA, ↓wY, wB, wC, ↓reduceIte, reduceCtorEq, Nat.reduceAdd, Nat.reduceLeDiff, Nat.reduceLT, Nat.reduceSub, Int.reduceLT, Int.reduceLE, Int.reduceEq, Int.reduceNeg, Int.reduceAdd, Int.reduceSub, Int.reduceMul, at32]
    exact hR _ _ ⟨by rw [kids_fn], rfl⟩
/-- the parts of a thing that is a worth but for their number, else 100 -/
def cp : Nat → D → Nat
  | 0, _ => 100
  | d + 1, x => if hasF x then 1 + ((kids x).map (cp d)).sum else 100
theorem cp_pos : ∀ {d : Nat} {x : D}, 1 ≤ cp d x
  | 0, _ => by simp [cp]
  | d + 1, x => by unfold cp; split <;> omega
theorem kids_n3 {xs : List D} (h : xs.length ≠ 3) : kids (.tup xs) = [] := by
  rcases xs with _ | ⟨a, _ | ⟨b, _ | ⟨c, _ | ⟨d, e⟩⟩⟩⟩
  · rfl
  · cases a <;> rfl
  · cases a <;> rfl
  · simp at h
  · cases a <;> rfl
theorem kids_cases (x : D) : kids x = [] ∨ (∃ s b c, x = .tup [.str s, b, c] ∧ kids x = [b, c]) ∨ ∃ s b ys, x = .tup [.str s, b, .tup ys] ∧ kids x = ys := by
  cases x with
  | tup xs =>
    by_cases h3 : xs.length = 3
    · obtain ⟨a, b, c, rfl⟩ := len3 h3
      clear h3
      cases a with
      | str s =>
        by_cases hs : s = "pair"
        · subst hs
          exact .inr (.inl ⟨_, b, c, rfl, kids_pair⟩)
        · have e : kids (.tup [.str s, b, c]) = (match c with
            | .tup ys => ys
            | _ => []) := by
            show (if s = "pair" then [b, c] else match c with
              | .tup ys => ys
              | _ => []) = _
            rw [if_neg hs]
          cases c with
          | tup ys => exact .inr (.inr ⟨s, b, ys, rfl, e⟩)
          | _ => exact .inl e
      | _ => exact .inl rfl
    · exact .inl (kids_n3 h3)
  | _ => exact .inl rfl
theorem kids_pl {w d : Nat} {x : D} (hx : Pl w (d + 1) x) : ∀ y, y ∈ kids x → Pl w d y := fun y hy => by
  rcases kids_cases x with h | ⟨s, b, c, rfl, h⟩ | ⟨s, b, ys, rfl, h⟩ <;> rw [h] at hy
  · cases hy
  · exact hx.2 y (List.mem_cons_of_mem _ hy)
  · have := hx.2 (.tup ys) (by simp)
    cases d with
    | zero => exact this.elim
    | succ d => exact (this.2 y hy).mono (Nat.le_refl _) (by omega)
theorem kids_len {w d : Nat} {x : D} (hw : 2 ≤ w) (hx : Pl w (d + 1) x) : (kids x).length ≤ w := by
  rcases kids_cases x with h | ⟨s, b, c, rfl, h⟩ | ⟨s, b, ys, rfl, h⟩ <;> rw [h]
  · exact Nat.zero_le _
  · exact hw
  · have := hx.2 (.tup ys) (by simp)
    cases d with
    | zero => exact this.elim
    | succ d => exact this.1
theorem cp_ok {d : Nat} {x : D} (h : hasF x = true) : cp (d + 1) x = 1 + ((kids x).map (cp d)).sum := by unfold cp; rw [if_pos h]
theorem cp_no {d : Nat} {x : D} (h : hasF x = false) : cp d x = 100 := by
  cases d with
  | zero => rfl
  | succ d => unfold cp; rw [if_neg (by rw [h]; exact Bool.false_ne_true)]
theorem cp_mono {w : Nat} : ∀ {d d' : Nat} {x : D}, Pl w d x → d ≤ d' → cp d' x = cp d x
  | 0, _, _, h, _ => h.elim
  | d + 1, 0, _, _, h => by omega
  | d + 1, d' + 1, x, h, hd => by
    unfold cp
    split
    · congr 2
      refine List.map_congr_left fun y hy => cp_mono (kids_pl h y hy) (by omega)
    · rfl
theorem is_worth {T : Tab} (hL : T.glob "LETTERS" = some (.str "abcdefghijklmnopqrstuvwxyz")) (hF : T.glob "FIGURES" = some (.str "0123456789")) (hG : T.glob "GREAT" = some (.int 1000000000000000000000000000000)) (hP : T.glob "PARTS" = some (.int 60)) (hNm : Has T ("is_name", none) 1 2 ir_is_name) (hW : Has T ("is_whole", none) 2 2 ir_is_whole) (hH : Has T ("has_form", none) 1 1 ir_has_form) (hI : Has T ("worths_in", none) 1 1 ir_worths_in) (hT : Has T ("is_worth", none) 1 4 ir_is_worth) (hfu : 100 ≤ T.fuel) {k w d : Nat} {x : D} {S : List Ob} (hw : w ≤ 100000) (hw2 : 2 ≤ w) (hx : Pl w d x) : T.at_ (k + 3) ("is_worth", none) [x] S = .ok (.bl (decide (cp d x ≤ 60))) S := by
  rw [gv_eq]
  refine has_runK hT rfl fun R hR => ?_; simp only [List.map_cons, List.map_nil, List.replicate, List.cons_append, List.nil_append, Nat.reduceSub]
  refine gs_stK fun N hN => ?_; simp only [↓wA, ↓wY, wB, wC, ↓reduceIte, reduceCtorEq, Nat.reduceAdd, Nat.reduceLeDiff, Nat.reduceLT, Nat.reduceSub, Int.reduceLT, Int.reduceLE, Int.reduceEq, Int.reduceNeg, Int.reduceAdd, Int.reduceSub, Int.reduceMul]
  repeat refine And.intro (by first | omega | exact Lb.mul_lt (by omega) (by omega) (by omega) (by omega) | decide) ?_
  refine hN _ _ ?_; try clear hN
  refine gs_stK fun N hN => ?_; simp only [↓wA, ↓wY, wB, wC, ↓reduceIte, reduceCtorEq, Nat.reduceAdd, Nat.reduceLeDiff, Nat.reduceLT, Nat.reduceSub, Int.reduceLT, Int.reduceLE, Int.reduceEq, Int.reduceNeg, Int.reduceAdd, Int.reduceSub, Int.reduceMul]
  refine hN _ _ ?_; try clear hN
  refine gs_stK fun N hN => ?_; simp only [↓wA, ↓wY, wB, wC, ↓reduceIte, reduceCtorEq, Nat.reduceAdd, Nat.reduceLeDiff, Nat.reduceLT, Nat.reduceSub, Int.reduceLT, Int.reduceLE, Int.reduceEq, Int.reduceNeg, Int.reduceAdd, Int.reduceSub, Int.reduceMul]
  rw [gs_fuel]
  have hfm : ∀ y, Pl w d y → ∀ (S : List Ob) (Q : D → List Ob → Prop) (E : Exc → List Ob → Prop), Gv (T.at_ (k + 2) ("has_form", none) [y]) S Q E ↔ Q (.bl (hasF y)) S := fun y hy S Q E => gv_ok (has_form hL hF hG hNm hW hH (by omega) hy)
  have wi : ∀ y, hasF y = true → ∀ (S : List Ob) (Q : D → List Ob → Prop) (E : Exc → List Ob → Prop), Gv (T.at_ (k + 2) ("worths_in", none) [y]) S Q E ↔ Q (.lst (kids y)) S := fun y hy S Q E => gv_ok (worths_in hI hy)
  have fin : ∀ b, b = decide (cp d x ≤ 60) → R (.bl b) S := fun b hb => hR _ _ ⟨by rw [hb], rfl⟩
  refine gs_whl (fun mm τ S' => S' = S ∧ ∃ (left : List D) (many : Nat) (one : Slot), τ = [.val x, .own left, .val (.int many), one] ∧ mm = 61 - many ∧ many ≤ 60 ∧ (∀ y, y ∈ left → Pl w d y) ∧ left.length ≤ 1 + many * 100000 ∧ (many + (left.map (cp d)).sum ≤ 60 ↔ cp d x ≤ 60)) ?_ (m := 61) (by omega) ⟨rfl, [x], 0, _, rfl, rfl, by omega, fun y hy => by rw [List.mem_singleton.mp hy]; exact hx, by simp, by simp⟩
  rintro mm τ S' ⟨rfl, left, many, one, rfl, rfl, hm, hpl, hlen, hiff⟩
  try simp only [↓wA, ↓wY, wB, wC, ↓reduceIte, reduceCtorEq, Nat.reduceAdd, Nat.reduceLeDiff, Nat.reduceLT, Nat.reduceSub, Int.reduceLT, Int.reduceLE, Int.reduceEq, Int.reduceNeg, Int.reduceAdd, Int.reduceSub, Int.reduceMul]
  refine ⟨fun hne => ?_, fun he => ?_⟩
  · obtain ⟨ini, y, rfl⟩ : ∃ ini y, left = ini ++ [y] := by
      rcases List.eq_nil_or_concat left with h | ⟨a, b, h⟩
      · exact absurd h hne
      · exact ⟨a, b, by rw [h, List.concat_eq_append]⟩
    have hy := hpl y (by simp)
    have hpop : popO (ini ++ [y]) = some y := by unfold popO; simp
    have hsum : ((ini ++ [y]).map (cp d)).sum = (ini.map (cp d)).sum + cp d y := by simp
    rw [hsum] at hiff
    have hc1 := cp_pos (d := d) (x := y)
    rw [List.length_append] at hlen
    have hlen : ini.length + 1 ≤ 1 + many * 100000 := hlen
    have hyp : ∀ z, z ∈ ini → Pl w d z := fun z hz => hpl z (List.mem_append_left _ hz)
    refine gs_stK fun Nb hNb => ?_; simp only [↓wA, ↓wY, wB, wC, ↓reduceIte, reduceCtorEq, Nat.reduceAdd, Nat.reduceLeDiff, Nat.reduceLT, Nat.reduceSub, Int.reduceLT, Int.reduceLE, Int.reduceEq, Int.reduceNeg, Int.reduceAdd, Int.reduceSub, Int.reduceMul, hpop, List.dropLast_concat]
    repeat refine And.intro (by first | omega | exact Lb.mul_lt (by omega) (by omega) (by omega) (by omega) | decide) ?_
    refine hNb _ _ ?_; try clear hNb
    refine gs_stK fun Nb hNb => ?_; simp only [↓wA, ↓wY, wB, wC, ↓reduceIte, reduceCtorEq, Nat.reduceAdd, Nat.reduceLeDiff, Nat.reduceLT, Nat.reduceSub, Int.reduceLT, Int.reduceLE, Int.reduceEq, Int.reduceNeg, Int.reduceAdd, Int.reduceSub, Int.reduceMul]
    refine hNb _ _ ?_; try clear hNb
    refine gs_stK fun Nb hNb => ?_; simp only [↓wA, ↓wY, wB, wC, ↓reduceIte, reduceCtorEq, Nat.reduceAdd, Nat.reduceLeDiff, Nat.reduceLT, Nat.reduceSub, Int.reduceLT, Int.reduceLE, Int.reduceEq, Int.reduceNeg, Int.reduceAdd, Int.reduceSub, Int.reduceMul, hP]
    refine ⟨fun hgt => ?_, fun hgt => ?_⟩
    · refine gs_stK fun Nc hNc => ?_; simp only [↓wA, ↓wY, wB, wC, ↓reduceIte, reduceCtorEq, Nat.reduceAdd, Nat.reduceLeDiff, Nat.reduceLT, Nat.reduceSub, Int.reduceLT, Int.reduceLE, Int.reduceEq, Int.reduceNeg, Int.reduceAdd, Int.reduceSub, Int.reduceMul]
      exact fin _ (decide_eq_false (by rw [← hiff]; omega)).symm
    cases hq : hasF y with
    | false =>
      try simp only [↓wA, ↓wY, wB, wC, ↓reduceIte, reduceCtorEq, Nat.reduceAdd, Nat.reduceLeDiff, Nat.reduceLT, Nat.reduceSub, Int.reduceLT, Int.reduceLE, Int.reduceEq, Int.reduceNeg, Int.reduceAdd, Int.reduceSub, Int.reduceMul, hfm _ hy, hq]
      refine gs_stK fun Nc hNc => ?_; simp only [↓wA, ↓wY, wB, wC, ↓reduceIte, reduceCtorEq, Nat.reduceAdd, Nat.reduceLeDiff, Nat.reduceLT, Nat.reduceSub, Int.reduceLT, Int.reduceLE, Int.reduceEq, Int.reduceNeg, Int.reduceAdd, Int.reduceSub, Int.reduceMul]
      exact fin _ (decide_eq_false (by rw [← hiff, cp_no hq]; omega)).symm
    | true =>
      cases d with
      | zero => exact hy.elim
      | succ d =>
        have hkl := kids_len hw2 hy
        have hkp := kids_pl hy
        have hck := cp_ok (d := d) hq
        have hck2 : ((kids y).map (cp (d + 1))).sum = ((kids y).map (cp d)).sum := by
          congr 1
          exact List.map_congr_left fun z hz => cp_mono (hkp z hz) (Nat.le_succ _)
        try simp only [↓wA, ↓wY, wB, wC, ↓reduceIte, reduceCtorEq, Nat.reduceAdd, Nat.reduceLeDiff, Nat.reduceLT, Nat.reduceSub, Int.reduceLT, Int.reduceLE, Int.reduceEq, Int.reduceNeg, Int.reduceAdd, Int.reduceSub, Int.reduceMul, hfm _ hy, hq]
        refine gs_st0K ?_
        refine hNb _ _ ?_; try clear hNb
        have lol : ∀ (S : List Ob) (xs : List D), lstOf S (.lst xs) = some xs := fun S xs => rfl
        refine gs_stK fun Nb hNb => ?_; simp only [↓wA, ↓wY, wB, wC, ↓reduceIte, reduceCtorEq, Nat.reduceAdd, Nat.reduceLeDiff, Nat.reduceLT, Nat.reduceSub, Int.reduceLT, Int.reduceLE, Int.reduceEq, Int.reduceNeg, Int.reduceAdd, Int.reduceSub, Int.reduceMul, wi _ hq, lol]
        repeat refine And.intro (by first | omega | exact Lb.mul_lt (by omega) (by omega) (by omega) (by omega) | decide) ?_
        refine hNb _ _ ?_; try clear hNb
        refine gs_st0K ?_
        refine ⟨61 - (many + 1), by omega, rfl, ini ++ kids y, many + 1, _, rfl, rfl, by omega, fun z hz => ?_, by rw [List.length_append]; omega, ?_⟩
        · rcases List.mem_append.mp hz with h | h
          · exact hyp z h
          · exact (hkp z h).mono (Nat.le_refl _) (Nat.le_succ _)
        · rw [← hiff, List.map_append, List.sum_append, hck2]
          omega
  · subst he
    refine hN _ _ ?_; try clear hN
    refine gs_stK fun N hN => ?_; simp only [↓wA, ↓wY, wB, wC, ↓reduceIte, reduceCtorEq, Nat.reduceAdd, Nat.reduceLeDiff, Nat.reduceLT, Nat.reduceSub, Int.reduceLT, Int.reduceLE, Int.reduceEq, Int.reduceNeg, Int.reduceAdd, Int.reduceSub, Int.reduceMul]
    exact fin _ (decide_eq_true (hiff.mp (by simpa using hm))).symm
end Lb
set_option Elab.async false
set_option linter.all false
set_option maxRecDepth 100000
set_option maxHeartbeats 4000000
namespace Lb
open PySem L2 Ev
/-- alphanumeric -/
def an (c : Nat) : Prop := c ∈ az ∨ c ∈ d09
theorem nm_of {s : Str} {c : Nat} {cs : List Nat} (h : s.cps.toList = c :: cs) (hc : c ∈ az) (hcs : ∀ x, x ∈ cs → an x) (hl : cs.length ≤ 7) : isNmS s = true := by
  have hlen : s.length = cs.length + 1 := by
    show s.cps.size = _
    rw [← Array.length_toList, h]
    rfl
  unfold isNmS
  rw [decide_eq_true (show 1 ≤ s.length ∧ s.length ≤ 8 ∧ s.cps.toList.headD 0 ∈ az from ⟨by omega, by omega, by rw [h]; exact hc⟩), Bool.true_and, List.all_eq_true]
  intro b hb
  obtain ⟨x, hx, rfl⟩ := List.mem_map.mp hb
  rw [h] at hx
  refine decide_eq_true ?_
  rcases List.mem_cons.mp hx with rfl | hx
  · exact .inl hc
  · exact hcs x hx
theorem nodup_inj {α : Type} {l : List α} (h : l.Nodup) {i j : Nat} (hi : i < l.length) (hj : j < l.length) (e : l[i] = l[j]) : i = j := by
  have p := List.pairwise_iff_getElem.mp h
  rcases Nat.lt_trichotomy i j with q | q | q
  · exact absurd e (p i j hi hj q)
  · exact q
  · exact absurd e.symm (p j i hj hi q)
def sgn (fi stp : Int) (j : Nat) : Nat := az.getD ((fi + stp * j) % 26).toNat 0
theorem az_len : az.length = 26 := by decide +kernel
theorem az_nodup : az.Nodup := by decide +kernel
theorem sgn_at {fi stp : Int} {j c : Nat} (h : L2.atI az ((fi + stp * j) % 26) = some c) : c = sgn fi stp j ∧ c ∈ az := by
  have h0 := Int.emod_nonneg (fi + stp * j) (show (26 : Int) ≠ 0 by decide)
  obtain ⟨n, hn⟩ : ∃ n : Nat, (fi + stp * j) % 26 = n := ⟨((fi + stp * j) % 26).toNat, by omega⟩
  unfold sgn
  rw [hn] at h ⊢
  rw [Ev.atI_nat] at h
  refine ⟨?_, List.mem_of_getElem? h⟩
  rw [List.getD_eq_getElem?_getD, Int.toNat_natCast, h]
  rfl
theorem sgn_mem {fi stp : Int} {j : Nat} : sgn fi stp j ∈ az := by
  have h0 := Int.emod_nonneg (fi + stp * j) (show (26 : Int) ≠ 0 by decide)
  have h1 := Int.emod_lt_of_pos (fi + stp * j) (show (0 : Int) < 26 by decide)
  unfold sgn
  rw [List.getD_eq_getElem?_getD, List.getElem?_eq_getElem (by rw [az_len]; omega)]
  exact List.getElem_mem _
theorem sgn_inj {fi stp : Int} (hs : stp ∈ [(1 : Int), 3, 5, 7, 9, 11, 15, 25]) {i j : Nat} (hi : i < 26) (hj : j < 26) (h : sgn fi stp i = sgn fi stp j) : i = j := by
  have a0 := Int.emod_nonneg (fi + stp * i) (show (26 : Int) ≠ 0 by decide)
  have a1 := Int.emod_lt_of_pos (fi + stp * i) (show (0 : Int) < 26 by decide)
  have b0 := Int.emod_nonneg (fi + stp * j) (show (26 : Int) ≠ 0 by decide)
  have b1 := Int.emod_lt_of_pos (fi + stp * j) (show (0 : Int) < 26 by decide)
  unfold sgn at h
  rw [List.getD_eq_getElem?_getD, List.getD_eq_getElem?_getD, List.getElem?_eq_getElem (by rw [az_len]; omega), List.getElem?_eq_getElem (by rw [az_len]; omega)] at h
  have h : az[((fi + stp * i) % 26).toNat]'(by rw [az_len]; omega) = az[((fi + stp * j) % 26).toNat]'(by rw [az_len]; omega) := h
  have e := nodup_inj az_nodup _ _ h
  simp only [List.mem_cons, List.not_mem_nil, or_false] at hs
  rcases hs with rfl | rfl | rfl | rfl | rfl | rfl | rfl | rfl <;> omega
/-- the name with a number -/
def nmS (bs : Str) (atp fi stp lo : Int) (j : Nat) : Str :=
  if lo = 2 ∧ (j : Int) % 2 = 1 then ⟨#[sgn fi stp j]⟩ else L2.cutS bs none (some atp) ++ ⟨#[sgn fi stp j]⟩ ++ (if lo = 1 then L2.cutS bs (some (atp + 1)) (some (atp + 1 + j)) else L2.cutS bs (some (atp + 1)) none)
theorem cut_toList {z : Str} {a b : Option Int} : (L2.cutS z a b).cps.toList = (z.cps.toList.drop (HT.sIx z.length 0 a)).take (HT.sIx z.length z.length b - HT.sIx z.length 0 a) := by
  show (((z.cps.toList.drop _).take _).toArray).toList = _
  rw [List.toList_toArray]
theorem app_toList {x y : Str} : (x ++ y).cps.toList = x.cps.toList ++ y.cps.toList := by
  show (x.cps ++ y.cps).toList = _
  rw [Array.toList_append]
/-- what stands in a long name: what is ahead, the sign, what is behind -/
theorem nmS_long {bs : Str} {a : Nat} {fi stp lo : Int} {j : Nat} (ha : a < bs.length) (h : ¬(lo = 2 ∧ (j : Int) % 2 = 1)) :
    ∃ tl : List Nat, (nmS bs a fi stp lo j).cps.toList = bs.cps.toList.take a ++ sgn fi stp j :: tl ∧ (∀ x, x ∈ tl → x ∈ bs.cps.toList) ∧ tl.length ≤ bs.length - (a + 1) := by
  have e1 : (L2.cutS bs none (some (a : Int))).cps.toList = bs.cps.toList.take a := by
    rw [cut_toList, HT.sIx_none, HT.sIx_nat, List.drop_zero, Nat.sub_zero, Nat.min_eq_left (by omega)]
  unfold nmS
  rw [if_neg h, app_toList, app_toList, e1]
  refine ⟨(if lo = 1 then L2.cutS bs (some ((a : Int) + 1)) (some ((a : Int) + 1 + j)) else L2.cutS bs (some ((a : Int) + 1)) none).cps.toList, by simp, fun x hx => ?_, ?_⟩
  · split at hx <;> (rw [cut_toList] at hx; exact List.mem_of_mem_drop (List.mem_of_mem_take hx))
  · have hs : HT.sIx bs.length 0 (some ((a : Int) + 1)) = a + 1 := by
      rw [show ((a : Int) + 1) = ((a + 1 : Nat) : Int) from rfl, HT.sIx_nat, Nat.min_eq_left (by omega)]
    have hb : bs.cps.toList.length = bs.length := Array.length_toList
    split <;> (rw [cut_toList, hs, List.length_take, List.length_drop, hb]; omega)
theorem nmS_good {bs : Str} {c : Nat} {cs : List Nat} {a : Nat} {fi stp lo : Int} {j : Nat} (hb : bs.cps.toList = c :: cs) (hc : c ∈ az) (hcs : ∀ x, x ∈ cs → an x) (hl : bs.length ≤ 8) (ha : a < bs.length) : isNmS (nmS bs a fi stp lo j) = true := by
  have hbl : bs.cps.toList.length = bs.length := Array.length_toList
  have hall : ∀ x, x ∈ bs.cps.toList → an x := fun x hx => by
    rw [hb] at hx
    rcases List.mem_cons.mp hx with rfl | hx
    · exact .inl hc
    · exact hcs x hx
  by_cases h : lo = 2 ∧ (j : Int) % 2 = 1
  · unfold nmS
    rw [if_pos h]
    exact nm_of (s := ⟨#[sgn fi stp j]⟩) (cs := []) rfl sgn_mem (fun x hx => absurd hx List.not_mem_nil) (by simp)
  · obtain ⟨tl, e, h1, h2⟩ := nmS_long (fi := fi) (stp := stp) ha h
    cases a with
    | zero => exact nm_of (cs := tl) (by rw [e]; rfl) sgn_mem (fun x hx => hall x (h1 x hx)) (by omega)
    | succ a =>
      rw [hb, List.take_succ_cons] at e
      refine nm_of (cs := cs.take a ++ sgn fi stp j :: tl) (by rw [e]; rfl) hc (fun x hx => ?_) ?_
      · rcases List.mem_append.mp hx with hx | hx
        · exact hcs x (List.mem_of_mem_take hx)
        · rcases List.mem_cons.mp hx with rfl | hx
          · exact .inl sgn_mem
          · exact hall x (h1 x hx)
      · rw [List.length_append, List.length_take, List.length_cons]
        omega
theorem nmS_inj {bs : Str} {a : Nat} {fi stp lo : Int} (hs : stp ∈ [(1 : Int), 3, 5, 7, 9, 11, 15, 25]) (ha : a < bs.length) {i j : Nat} (hi : i < 26) (hj : j < 26) (h : nmS bs a fi stp lo i = nmS bs a fi stp lo j) : i = j := by
  have hbl : bs.cps.toList.length = bs.length := Array.length_toList
  have hta : (bs.cps.toList.take a).length = a := by rw [List.length_take, hbl]; omega
  have h : (nmS bs a fi stp lo i).cps.toList = (nmS bs a fi stp lo j).cps.toList := by rw [h]
  refine sgn_inj hs hi hj (fi := fi) ?_
  by_cases p : lo = 2 ∧ (i : Int) % 2 = 1
  · have e1 : (nmS bs a fi stp lo i).cps.toList = [sgn fi stp i] := by unfold nmS; rw [if_pos p]
    by_cases q : lo = 2 ∧ (j : Int) % 2 = 1
    · have e2 : (nmS bs a fi stp lo j).cps.toList = [sgn fi stp j] := by unfold nmS; rw [if_pos q]
      rw [e1, e2] at h
      exact (List.cons.inj h).1
    · obtain ⟨tl, e2, _, _⟩ := nmS_long (fi := fi) (stp := stp) ha q
      rw [e1, e2] at h
      cases a with
      | zero => exact (List.cons.inj h).1
      | succ a =>
        have := congrArg List.length h
        rw [List.length_append, hta] at this
        simp at this
        omega
  · obtain ⟨tl, e1, _, _⟩ := nmS_long (fi := fi) (stp := stp) ha p
    by_cases q : lo = 2 ∧ (j : Int) % 2 = 1
    · have e2 : (nmS bs a fi stp lo j).cps.toList = [sgn fi stp j] := by unfold nmS; rw [if_pos q]
      rw [e1, e2] at h
      cases a with
      | zero => exact (List.cons.inj h).1
      | succ a =>
        have := congrArg List.length h
        rw [List.length_append, hta] at this
        simp at this
        omega
    · obtain ⟨tl2, e2, _, _⟩ := nmS_long (fi := fi) (stp := stp) ha q
      rw [e1, e2] at h
      exact (List.cons.inj (List.append_cancel_left h)).1
end Lb
set_option Elab.async false
set_option linter.all false
set_option maxRecDepth 100000
set_option maxHeartbeats 4000000
namespace Lb
open PySem L2 Ev
theorem words_good : ∃ zs : List Str, Txt.split ("row main else in made give number if go fn call tell pair first second plus f0 f1 f10 f2 v0 v1 v10 v2" : Str) (" " : Str) = zs ∧ zs.length = 24 ∧ zs.Nodup ∧ ∀ z, z ∈ zs → isNmS z = true := ⟨_, rfl, by decide +kernel, by decide +kernel, by decide +kernel⟩
theorem chs_of : ∀ (ys : List D), (∀ y, y ∈ ys → ∃ c : Nat, y = .str ⟨#[c]⟩ ∧ an c) → ∃ cs : List Nat, ys = cs.map (fun c => D.str ⟨#[c]⟩) ∧ ∀ c, c ∈ cs → an c
  | [], _ => ⟨[], rfl, fun _ h => nomatch h⟩
  | y :: ys, h => by
    obtain ⟨cs, rfl, hz⟩ := chs_of ys fun x hx => h x (List.mem_cons_of_mem _ hx)
    obtain ⟨c, rfl, hz1⟩ := h y List.mem_cons_self
    exact ⟨c :: cs, rfl, fun x hx => by
      rcases List.mem_cons.mp hx with rfl | hx
      · exact hz1
      · exact hz x hx⟩
theorem join_ch (cs : List Nat) : (Txt.join "" (cs.map (fun c => (⟨#[c]⟩ : Str)))).cps.toList = cs := by
  rw [join_cps, List.map_map]
  induction cs with
  | nil => rfl
  | cons c cs ih =>
    rw [List.map_cons, List.flatten_cons, ih]
    rfl
theorem poolS {T : Tab} (hD : Has T ("_law_draw", none) 2 9 ir_law_draw) (hT : Has T ("_law_pool", none) 2 14 ir_law_pool) {k : Nat} {m : Int} {t c : Nat} {l : List (Nat × Ob)} {S : List Ob} (hk : 9 ≤ k) (h1 : 0 ≤ m) (hm : m ≤ 24) (hc : c ≤ 800000000) (hp : HP t c l S) :
    Gv (T.at_ k ("_law_pool", none) [.obj t, .int m]) S (fun d S' => ∃ zs : List Str, d = .lst (zs.map .str) ∧ (zs.length : Int) = m ∧ zs.Nodup ∧ (∀ z, z ∈ zs → isNmS z = true) ∧ HP t (c + 200) l S') := by
  obtain ⟨k, rfl⟩ : ∃ j, k = j + 1 := ⟨k - 1, by omega⟩
  obtain ⟨ws, hws, hwl, hwn, hwz⟩ := words_good
  refine has_runK hT rfl fun R hR => ?_; simp only [List.map_cons, List.map_nil, List.replicate, List.cons_append, List.nil_append, Nat.reduceSub]
  refine gs_stK fun N hN => ?_; simp only [↓wA, ↓wY, wB, wC, ↓reduceIte, reduceCtorEq, Nat.reduceAdd, Nat.reduceLeDiff, Nat.reduceLT, Nat.reduceSub, Int.reduceLT, Int.reduceLE, Int.reduceEq, Int.reduceNeg, Int.reduceAdd, Int.reduceSub, Int.reduceMul]
  refine hN _ _ ?_; try clear hN
  refine gs_stK fun N hN => ?_; simp only [↓wA, ↓wY, wB, wC, ↓reduceIte, reduceCtorEq, Nat.reduceAdd, Nat.reduceLeDiff, Nat.reduceLT, Nat.reduceSub, Int.reduceLT, Int.reduceLE, Int.reduceEq, Int.reduceNeg, Int.reduceAdd, Int.reduceSub, Int.reduceMul, vm_splitW hws]
  refine hN _ _ ?_; try clear hN
  refine gs_stK fun N hN => ?_; simp only [↓wA, ↓wY, wB, wC, ↓reduceIte, reduceCtorEq, Nat.reduceAdd, Nat.reduceLeDiff, Nat.reduceLT, Nat.reduceSub, Int.reduceLT, Int.reduceLE, Int.reduceEq, Int.reduceNeg, Int.reduceAdd, Int.reduceSub, Int.reduceMul]
  refine hN _ _ ?_; try clear hN
  refine gs_stK fun N hN => ?_; simp only [↓wA, ↓wY, wB, wC, ↓reduceIte, reduceCtorEq, Nat.reduceAdd, Nat.reduceLeDiff, Nat.reduceLT, Nat.reduceSub, Int.reduceLT, Int.reduceLE, Int.reduceEq, Int.reduceNeg, Int.reduceAdd, Int.reduceSub, Int.reduceMul]
  refine Gv.imp (Lb.draw hD (by omega) (by omega) (by omega) (by omega) hp) ?_; rintro _ S ⟨sz, rfl, sz0, sz1, hp⟩
  try simp only [↓wA, ↓wY, wB, wC, ↓reduceIte, reduceCtorEq, Nat.reduceAdd, Nat.reduceLeDiff, Nat.reduceLT, Nat.reduceSub, Int.reduceLT, Int.reduceLE, Int.reduceEq, Int.reduceNeg, Int.reduceAdd, Int.reduceSub, Int.reduceMul]
  refine hN _ _ ?_; try clear hN
  refine gs_stK fun N hN => ?_; simp only [↓wA, ↓wY, wB, wC, ↓reduceIte, reduceCtorEq, Nat.reduceAdd, Nat.reduceLeDiff, Nat.reduceLT, Nat.reduceSub, Int.reduceLT, Int.reduceLE, Int.reduceEq, Int.reduceNeg, Int.reduceAdd, Int.reduceSub, Int.reduceMul]
  refine Gv.imp (Lb.draw hD (by omega) (by omega) (by omega) (by omega) hp) ?_; rintro _ S ⟨atp, rfl, atp0, atp1, hp⟩
  try simp only [↓wA, ↓wY, wB, wC, ↓reduceIte, reduceCtorEq, Nat.reduceAdd, Nat.reduceLeDiff, Nat.reduceLT, Nat.reduceSub, Int.reduceLT, Int.reduceLE, Int.reduceEq, Int.reduceNeg, Int.reduceAdd, Int.reduceSub, Int.reduceMul]
  refine hN _ _ ?_; try clear hN
  refine gs_stK fun N hN => ?_; simp only [↓wA, ↓wY, wB, wC, ↓reduceIte, reduceCtorEq, Nat.reduceAdd, Nat.reduceLeDiff, Nat.reduceLT, Nat.reduceSub, Int.reduceLT, Int.reduceLE, Int.reduceEq, Int.reduceNeg, Int.reduceAdd, Int.reduceSub, Int.reduceMul]
  refine Gv.imp (Lb.draw hD (by omega) (by omega) (by omega) (by omega) hp) ?_; rintro _ S ⟨v, rfl, v0, v1, hp⟩
  obtain ⟨ch, hch, hchm⟩ := ch_ok (z := "abcdefghijklmnopqrstuvwxyz") v0 (by rw [len_az]; exact v1)
  try simp only [↓wA, ↓wY, wB, wC, ↓reduceIte, reduceCtorEq, Nat.reduceAdd, Nat.reduceLeDiff, Nat.reduceLT, Nat.reduceSub, Int.reduceLT, Int.reduceLE, Int.reduceEq, Int.reduceNeg, Int.reduceAdd, Int.reduceSub, Int.reduceMul, hch, len_az]
  refine hN _ _ ?_; try clear hN
  refine gs_stK fun N hN => ?_; simp only [↓wA, ↓wY, wB, wC, ↓reduceIte, reduceCtorEq, Nat.reduceAdd, Nat.reduceLeDiff, Nat.reduceLT, Nat.reduceSub, Int.reduceLT, Int.reduceLE, Int.reduceEq, Int.reduceNeg, Int.reduceAdd, Int.reduceSub, Int.reduceMul]
  repeat refine And.intro (by first | omega | exact Lb.mul_lt (by omega) (by omega) (by omega) (by omega) | decide) ?_
  refine gv_collect (fun i S => HP t (c + 24 + 8 * i) l S) (fun _ y => ∃ c : Nat, y = .str ⟨#[c]⟩ ∧ an c) (hp.le (by omega)) (fun i x S hx hp => ?_) (fun ys S hl hz hp => ?_)
  · obtain ⟨rfl, hi⟩ := rng_get hx
    try simp only [↓wA, ↓wY, wB, wC, ↓reduceIte, reduceCtorEq, Nat.reduceAdd, Nat.reduceLeDiff, Nat.reduceLT, Nat.reduceSub, Int.reduceLT, Int.reduceLE, Int.reduceEq, Int.reduceNeg, Int.reduceAdd, Int.reduceSub, Int.reduceMul, b_addS]
    repeat refine And.intro (by first | omega | exact Lb.mul_lt (by omega) (by omega) (by omega) (by omega) | decide) ?_
    refine Gv.imp (Lb.draw hD (by omega) (by omega) (by omega) (by omega) hp) ?_; rintro _ S ⟨v, rfl, v0, v1, hp⟩
    obtain ⟨ch, hch, hcm⟩ := ch_ok (z := "abcdefghijklmnopqrstuvwxyz" ++ "0123456789") v0 (by rw [len_az9]; exact v1)
    try simp only [↓wA, ↓wY, wB, wC, ↓reduceIte, reduceCtorEq, Nat.reduceAdd, Nat.reduceLeDiff, Nat.reduceLT, Nat.reduceSub, Int.reduceLT, Int.reduceLE, Int.reduceEq, Int.reduceNeg, Int.reduceAdd, Int.reduceSub, Int.reduceMul, hch, len_az9]
    exact ⟨_, rfl, ⟨_, rfl, by
      rw [app_toList] at hcm
      exact List.mem_append.mp hcm⟩, hp.le (by omega)⟩
  rw [rng_len] at hl hp
  obtain ⟨cs, rfl, hzz⟩ := chs_of ys (mem_get hz)
  rw [List.length_map] at hl
  have zs0 : cs.map (fun c => D.str ⟨#[c]⟩) = (cs.map (fun c => (⟨#[c]⟩ : Str))).map .str := by rw [List.map_map]; rfl
  rw [zs0]
  have hzl : (cs.map (fun c => (⟨#[c]⟩ : Str))).length = cs.length := List.length_map _
  have hjc : (Txt.join "" (cs.map (fun c => (⟨#[c]⟩ : Str)))).cps.toList = cs := join_ch cs
  have hlz : lensOf (cs.map (fun c => (⟨#[c]⟩ : Str))) = cs.length := by
    rw [← join_len]
    show (Txt.join "" _).cps.size = _
    rw [← Array.length_toList, hjc]
  generalize hzse : cs.map (fun c => (⟨#[c]⟩ : Str)) = zs at hzl hjc hlz ⊢
  have hjl := join_len zs
  simp only [vm_join]
  try simp only [↓wA, ↓wY, wB, wC, ↓reduceIte, reduceCtorEq, Nat.reduceAdd, Nat.reduceLeDiff, Nat.reduceLT, Nat.reduceSub, Int.reduceLT, Int.reduceLE, Int.reduceEq, Int.reduceNeg, Int.reduceAdd, Int.reduceSub, Int.reduceMul]
  have hs : (⟨#[ch]⟩ : Str).length = 1 := rfl
  have h0 : ("" : Str).length = 0 := by decide +kernel
  rw [h0]
  repeat refine And.intro (by first | omega | exact Lb.mul_lt (by omega) (by omega) (by omega) (by omega) | decide) ?_
  have hbe : ((⟨#[ch]⟩ : Str) ++ Txt.join "" zs).length = cs.length + 1 := by rw [sap]; omega
  have hbs : ((⟨#[ch]⟩ : Str) ++ Txt.join "" zs).length ≤ 8 := by omega
  have hbc : ((⟨#[ch]⟩ : Str) ++ Txt.join "" zs).cps.toList = ch :: cs := by rw [app_toList, hjc]; rfl
  generalize (⟨#[ch]⟩ : Str) ++ Txt.join "" zs = bs at hbs hbe hbc ⊢
  obtain ⟨atn, rfl⟩ : ∃ j : Nat, atp = j := ⟨atp.toNat, by omega⟩
  have hab : atn < bs.length := by omega
  refine hN _ _ ?_; try clear hN
  have hp := hp.le (show c + 24 + 8 * (1 + sz - 1).toNat ≤ c + 100 by omega)
  refine gs_stK fun N hN => ?_; simp only [↓wA, ↓wY, wB, wC, ↓reduceIte, reduceCtorEq, Nat.reduceAdd, Nat.reduceLeDiff, Nat.reduceLT, Nat.reduceSub, Int.reduceLT, Int.reduceLE, Int.reduceEq, Int.reduceNeg, Int.reduceAdd, Int.reduceSub, Int.reduceMul]
  refine Gv.imp (Lb.draw hD (by omega) (by omega) (by omega) (by omega) hp) ?_; rintro _ S ⟨fi, rfl, fi0, fi1, hp⟩
  refine hN _ _ ?_; try clear hN
  refine gs_stK fun N hN => ?_; simp only [↓wA, ↓wY, wB, wC, ↓reduceIte, reduceCtorEq, Nat.reduceAdd, Nat.reduceLeDiff, Nat.reduceLT, Nat.reduceSub, Int.reduceLT, Int.reduceLE, Int.reduceEq, Int.reduceNeg, Int.reduceAdd, Int.reduceSub, Int.reduceMul]
  refine Gv.imp (Lb.draw hD (by omega) (by omega) (by omega) (by omega) hp) ?_; rintro _ S ⟨v, rfl, v0, v1, hp⟩
  have hst : ∃ stp : Int, L2.atI [D.int 1, D.int 3, D.int 5, D.int 7, D.int 9, D.int 11, D.int 15, D.int 25] v = some (.int stp) ∧ (0 ≤ stp ∧ stp ≤ 25) ∧ stp ∈ [(1 : Int), 3, 5, 7, 9, 11, 15, 25] := by
    obtain ⟨x, hx, hm⟩ := atI_pos (xs := [D.int 1, .int 3, .int 5, .int 7, .int 9, .int 11, .int 15, .int 25]) v0 v1
    simp only [List.mem_cons, List.not_mem_nil, or_false] at hm
    rcases hm with rfl | rfl | rfl | rfl | rfl | rfl | rfl | rfl <;> exact ⟨_, hx, by decide, by decide⟩
  obtain ⟨stp, hst, ⟨stp0, stp1⟩, hstm⟩ := hst
  try simp only [↓wA, ↓wY, wB, wC, ↓reduceIte, reduceCtorEq, Nat.reduceAdd, Nat.reduceLeDiff, Nat.reduceLT, Nat.reduceSub, Int.reduceLT, Int.reduceLE, Int.reduceEq, Int.reduceNeg, Int.reduceAdd, Int.reduceSub, Int.reduceMul, hst]
  refine hN _ _ ?_; try clear hN
  refine gs_stK fun N hN => ?_; simp only [↓wA, ↓wY, wB, wC, ↓reduceIte, reduceCtorEq, Nat.reduceAdd, Nat.reduceLeDiff, Nat.reduceLT, Nat.reduceSub, Int.reduceLT, Int.reduceLE, Int.reduceEq, Int.reduceNeg, Int.reduceAdd, Int.reduceSub, Int.reduceMul]
  refine Gv.imp (Lb.draw hD (by omega) (by omega) (by omega) (by omega) hp) ?_; rintro _ S ⟨lo, rfl, lo0, lo1, hp⟩
  refine hN _ _ ?_; try clear hN
  refine gs_stK fun N hN => ?_; simp only [↓wA, ↓wY, wB, wC, ↓reduceIte, reduceCtorEq, Nat.reduceAdd, Nat.reduceLeDiff, Nat.reduceLT, Nat.reduceSub, Int.reduceLT, Int.reduceLE, Int.reduceEq, Int.reduceNeg, Int.reduceAdd, Int.reduceSub, Int.reduceMul]
  refine ⟨fun h3 => ?_, fun h3 => ?_⟩
  · refine gs_stK fun N hN => ?_; simp only [↓wA, ↓wY, wB, wC, ↓reduceIte, reduceCtorEq, Nat.reduceAdd, Nat.reduceLeDiff, Nat.reduceLT, Nat.reduceSub, Int.reduceLT, Int.reduceLE, Int.reduceEq, Int.reduceNeg, Int.reduceAdd, Int.reduceSub, Int.reduceMul]
    have w1 := cut_lenle (xs := ws.map D.str) (a := some fi) (b := none)
    have w2 := cut_lenle (xs := ws.map D.str) (a := none) (b := some fi)
    rw [List.length_map] at w1 w2
    repeat refine And.intro (by first | omega | exact Lb.mul_lt (by omega) (by omega) (by omega) (by omega) | decide) ?_
    obtain ⟨f, rfl⟩ : ∃ f : Nat, fi = f := ⟨fi.toNat, by omega⟩
    obtain ⟨m, rfl⟩ : ∃ f : Nat, m = f := ⟨m.toNat, by omega⟩
    rw [cut_drop, cut_take, cut_take, ← List.map_drop, ← List.map_take, ← List.map_append, ← List.map_take]
    have hl : ((ws.drop f ++ ws.take f).take m).length = min m 24 := by simp [hwl]; omega
    refine hR _ _ ⟨_, rfl, by omega, ?_, fun z hz => ?_, hp.le (by omega)⟩
    · have pm : (ws.drop f ++ ws.take f).Perm ws := by
        have := List.perm_append_comm (l₁ := ws.drop f) (l₂ := ws.take f)
        rwa [List.take_append_drop] at this
      exact (pm.nodup_iff.mpr hwn).sublist (List.take_sublist _ _)
    · rcases List.mem_append.mp (List.mem_of_mem_take hz) with h | h
      · exact hwz z (List.mem_of_mem_drop h)
      · exact hwz z (List.mem_of_mem_take h)
  refine gs_st0K ?_
  refine hN _ _ ?_; try clear hN
  refine gs_stK fun N hN => ?_; simp only [↓wA, ↓wY, wB, wC, ↓reduceIte, reduceCtorEq, Nat.reduceAdd, Nat.reduceLeDiff, Nat.reduceLT, Nat.reduceSub, Int.reduceLT, Int.reduceLE, Int.reduceEq, Int.reduceNeg, Int.reduceAdd, Int.reduceSub, Int.reduceMul]
  refine hN _ _ ?_; try clear hN
  refine gs_stK fun N hN => ?_; simp only [↓wA, ↓wY, wB, wC, ↓reduceIte, reduceCtorEq, Nat.reduceAdd, Nat.reduceLeDiff, Nat.reduceLT, Nat.reduceSub, Int.reduceLT, Int.reduceLE, Int.reduceEq, Int.reduceNeg, Int.reduceAdd, Int.reduceSub, Int.reduceMul]
  repeat refine And.intro (by first | omega | exact Lb.mul_lt (by omega) (by omega) (by omega) (by omega) | decide) ?_
  refine gs_for (fun i τ S => ∃ (zs : List Str) (a b d : Slot), τ = [.val (.obj t), .val (.int m), .val (.lst (ws.map .str)), .val (.str "abcdefghijklmnopqrstuvwxyz"), .val (.int (1 + sz)), .val (.int atn), .val (.str bs), .val (.int fi), .val (.int stp), .val (.int lo), .own (zs.map .str), a, b, d] ∧ zs = (List.range i).map (nmS bs atn fi stp lo) ∧ HP t (c + 200) l S) ⟨[], _, _, _, rfl, rfl, hp.le (by omega)⟩ ?_ ?_
  · rintro i x τ S hx ⟨zs, a, b, d, rfl, hzs, hp⟩
    obtain ⟨rfl, hi⟩ := rng_get hx
    try simp only [↓wA, ↓wY, wB, wC, ↓reduceIte, reduceCtorEq, Nat.reduceAdd, Nat.reduceLeDiff, Nat.reduceLT, Nat.reduceSub, Int.reduceLT, Int.reduceLE, Int.reduceEq, Int.reduceNeg, Int.reduceAdd, Int.reduceSub, Int.reduceMul]
    refine gs_stK fun Nb hNb => ?_; simp only [↓wA, ↓wY, wB, wC, ↓reduceIte, reduceCtorEq, Nat.reduceAdd, Nat.reduceLeDiff, Nat.reduceLT, Nat.reduceSub, Int.reduceLT, Int.reduceLE, Int.reduceEq, Int.reduceNeg, Int.reduceAdd, Int.reduceSub, Int.reduceMul]
    repeat refine And.intro (by first | omega | exact Lb.mul_lt (by omega) (by omega) (by omega) (by omega) | decide) ?_
    obtain ⟨ch, hch, _⟩ := ch_ok (z := "abcdefghijklmnopqrstuvwxyz") (Int.emod_nonneg (fi + stp * i) (show (26 : Int) ≠ 0 by decide)) (by rw [len_az]; exact Int.emod_lt_of_pos _ (by decide))
    try simp only [↓wA, ↓wY, wB, wC, ↓reduceIte, reduceCtorEq, Nat.reduceAdd, Nat.reduceLeDiff, Nat.reduceLT, Nat.reduceSub, Int.reduceLT, Int.reduceLE, Int.reduceEq, Int.reduceNeg, Int.reduceAdd, Int.reduceSub, Int.reduceMul, hch, len_az]
    refine hNb _ _ ?_; try clear hNb
    refine gs_stK fun Nb hNb => ?_; simp only [↓wA, ↓wY, wB, wC, ↓reduceIte, reduceCtorEq, Nat.reduceAdd, Nat.reduceLeDiff, Nat.reduceLT, Nat.reduceSub, Int.reduceLT, Int.reduceLE, Int.reduceEq, Int.reduceNeg, Int.reduceAdd, Int.reduceSub, Int.reduceMul]
    obtain ⟨rfl, hchz⟩ := sgn_at hch
    have fin : ∀ y : Str, y = (if lo = 1 then L2.cutS bs (some ((atn : Int) + 1)) (some ((atn : Int) + 1 + i)) else L2.cutS bs (some ((atn : Int) + 1)) none) → Nb [.val (.obj t), .val (.int m), .val (.lst (ws.map .str)), .val (.str "abcdefghijklmnopqrstuvwxyz"), .val (.int (1 + sz)), .val (.int atn), .val (.str bs), .val (.int fi), .val (.int stp), .val (.int lo), .own (zs.map .str), .val (.int i), .val (.str ⟨#[sgn fi stp i]⟩), .val (.str y)] S := fun y hy => by
      have hy8 : y.length ≤ 8 := by
        rw [hy]
        split
        · exact cutL hbs
        · exact cutL hbs
      refine hNb _ _ ?_; try clear hNb
      have c1 : (L2.cutS bs none (some (atn : Int))).length ≤ 8 := cutL hbs
      have c2 := s1 (c := sgn fi stp i)
      have c3 : (L2.cutS bs none (some (atn : Int)) ++ (⟨#[sgn fi stp i]⟩ : Str)).length ≤ 9 := by rw [sap]; omega
      have c4 : (L2.cutS bs none (some (atn : Int)) ++ (⟨#[sgn fi stp i]⟩ : Str) ++ y).length ≤ 17 := by rw [sap]; omega
      have app : ∀ z : Str, z = nmS bs atn fi stp lo i → ∃ (zs' : List Str) (a b d : Slot), [Slot.val (.obj t), .val (.int m), .val (.lst (ws.map .str)), .val (.str "abcdefghijklmnopqrstuvwxyz"), .val (.int (1 + sz)), .val (.int atn), .val (.str bs), .val (.int fi), .val (.int stp), .val (.int lo), .own (zs.map D.str ++ [.str z]), .val (.int i), .val (.str ⟨#[sgn fi stp i]⟩), .val (.str y)] = [.val (.obj t), .val (.int m), .val (.lst (ws.map .str)), .val (.str "abcdefghijklmnopqrstuvwxyz"), .val (.int (1 + sz)), .val (.int atn), .val (.str bs), .val (.int fi), .val (.int stp), .val (.int lo), .own (zs'.map .str), a, b, d] ∧ zs' = (List.range (i + 1)).map (nmS bs atn fi stp lo) ∧ HP t (c + 200) l S := fun z hz => ⟨zs ++ [z], _, _, _, by rw [List.map_append]; rfl, by rw [hzs, hz, List.range_succ, List.map_append]; rfl, hp⟩
      have hl : zs.length = i := by rw [hzs, List.length_map, List.length_range]
      refine gs_stK fun Nb hNb => ?_; simp only [↓wA, ↓wY, wB, wC, ↓reduceIte, reduceCtorEq, Nat.reduceAdd, Nat.reduceLeDiff, Nat.reduceLT, Nat.reduceSub, Int.reduceLT, Int.reduceLE, Int.reduceEq, Int.reduceNeg, Int.reduceAdd, Int.reduceSub, Int.reduceMul]
      have hls : zs.length < 16777216 := by omega
      repeat' first | refine And.intro (by first | omega | exact Lb.mul_lt (by omega) (by omega) (by omega) (by omega) | decide) ?_ | refine And.intro (fun _ => ?_) (fun _ => ?_)
      all_goals
        refine hNb _ _ ?_; try clear hNb
        refine gs_st0K ?_
        refine app _ ?_
        unfold nmS
        first
          | rw [if_pos (by omega)]
          | rw [if_neg (by omega), hy]
    refine ⟨fun h1 => ?_, fun h1 => ?_⟩
    · repeat refine And.intro (by first | omega | exact Lb.mul_lt (by omega) (by omega) (by omega) (by omega) | decide) ?_
      exact fin _ (by rw [if_pos h1])
    · repeat refine And.intro (by first | omega | exact Lb.mul_lt (by omega) (by omega) (by omega) (by omega) | decide) ?_
      exact fin _ (by rw [if_neg h1])
  · rintro τ S ⟨zs, a, b, d, rfl, hzs, hp⟩
    rw [rng_len] at hzs
    refine hN _ _ ?_; try clear hN
    refine gs_stK fun N hN => ?_; simp only [↓wA, ↓wY, wB, wC, ↓reduceIte, reduceCtorEq, Nat.reduceAdd, Nat.reduceLeDiff, Nat.reduceLT, Nat.reduceSub, Int.reduceLT, Int.reduceLE, Int.reduceEq, Int.reduceNeg, Int.reduceAdd, Int.reduceSub, Int.reduceMul]
    refine hR _ _ ⟨zs, rfl, ?_, ?_, fun z hz => ?_, hp⟩
    · rw [hzs, List.length_map, List.length_range]
      omega
    · rw [hzs]
      refine List.pairwise_map.mpr (List.Pairwise.imp_of_mem (fun {x y} hx hy h e => ?_) List.nodup_range)
      rw [List.mem_range] at hx hy
      exact h (nmS_inj hstm hab (by omega) (by omega) e)
    · rw [hzs] at hz
      obtain ⟨j, hj, rfl⟩ := List.mem_map.mp hz
      exact nmS_good hbc hchm hzz hbs hab
end Lb
set_option Elab.async false
set_option linter.all false
set_option maxRecDepth 100000
set_option maxHeartbeats 4000000
namespace Lb
open PySem L2 Ev
/-- names and their sorts -/
def KN (kvs : List (Ev.Key × D)) : Prop := ∀ p, p ∈ kvs → ∃ s z : Str, p = (.inr s, .str z) ∧ isNmS s = true
def kn (kvs : List (Ev.Key × D)) (s : Str) : Prop := ∃ v, ((.inr s : Ev.Key), v) ∈ kvs
theorem KN.put {kvs : List (Ev.Key × D)} {s z : Str} (h : KN kvs) (hs : isNmS s = true) : KN (kPut kvs (.inr s) (.str z)) := fun p hp => by
  rcases mem_put p hp with h' | h'
  · exact h p h'
  · exact ⟨s, z, h', hs⟩
end Lb
set_option Elab.async false
set_option linter.all false
set_option maxRecDepth 100000
set_option maxHeartbeats 4000000
namespace Lb
open PySem L2 Ev
def w2s : List Str := ["call", "pair", "plus", "less", "times", "same", "below"]
def w1s : List Str := ["first", "second", "tell"]
mutual
/-- a body: what is known, how many bodies may stand within one another in it, how many rows and ends it has -/
inductive Bd (F : Bool) (M : Str → Nat → Prop) : (Str → Prop) → Nat → Nat → D → Prop
  | mk {K K' : Str → Prop} {dp n m : Nat} {rs : List D} {e : D} : Rws F M K K' dp n rs → En F M K' dp m e → Bd F M K dp (n + m) (.tup [.tup rs, e])
inductive Rws (F : Bool) (M : Str → Nat → Prop) : (Str → Prop) → (Str → Prop) → Nat → Nat → List D → Prop
  | nil {K : Str → Prop} {dp : Nat} : Rws F M K K dp 0 []
  | cons {K K' : Str → Prop} {dp n m : Nat} {x : Str} {d : D} {rs : List D} : isNmS x = true → Dd F M K dp n d → Rws F M (fun z => z = x ∨ K z) K' dp m rs → Rws F M K K' dp (n + m) (.tup [.str x, d] :: rs)
inductive Dd (F : Bool) (M : Str → Nat → Prop) : (Str → Prop) → Nat → Nat → D → Prop
  | number {K : Str → Prop} {dp : Nat} {v : Int} : -1000000000 ≤ v → v ≤ 1000000000 → Dd F M K dp 1 (.tup [.str "number", .int v])
  | two {K : Str → Prop} {dp : Nat} {w a b : Str} : w ∈ w2s → K a → K b → Dd F M K dp 1 (.tup [.str w, .str a, .str b])
  | one {K : Str → Prop} {dp : Nat} {w a : Str} : w ∈ w1s → K a → Dd F M K dp 1 (.tup [.str w, .str a])
  | fn {K : Str → Prop} {dp n : Nat} {s x : Str} {b : D} : F = true → isNmS s = true → isNmS x = true → s ≠ x → Bd F M (fun z => z = x ∨ z = s ∨ K z) dp n b → Dd F M K (dp + 1) (1 + n) (.tup [.str "fn", .str s, .str x, b])
  | made {K : Str → Prop} {dp : Nat} {l : Str} {ys : List Str} : M l ys.length → (∀ y, y ∈ ys → K y) → Dd F M K dp 1 (.tup [.str "made", .str l, .tup (ys.map .str)])
inductive En (F : Bool) (M : Str → Nat → Prop) : (Str → Prop) → Nat → Nat → D → Prop
  | give {K : Str → Prop} {dp : Nat} {a : Str} : K a → En F M K dp 1 (.tup [.str "give", .str a])
  | go {K : Str → Prop} {dp : Nat} {a b : Str} : K a → K b → En F M K dp 1 (.tup [.str "go", .str a, .str b])
  | ife {K : Str → Prop} {dp n m : Nat} {a : Str} {b c : D} : K a → Bd F M K dp n b → Bd F M K dp m c → En F M K (dp + 1) (1 + n + m) (.tup [.str "if", .str a, b, c])
end
section
variable {F : Bool} {M : Str → Nat → Prop}
theorem Rws.snoc {K K' : Str → Prop} {dp n m : Nat} {rs : List D} {x : Str} {d : D} (h : Rws F M K K' dp n rs) (hx : isNmS x = true) (hd : Dd F M K' dp m d) : Rws F M K (fun z => z = x ∨ K' z) dp (n + m) (rs ++ [.tup [.str x, d]]) := by
  induction rs generalizing K n with
  | nil =>
    cases h
    rw [Nat.zero_add]
    exact .cons (m := 0) hx hd .nil
  | cons r rs ih =>
    cases h with
    | cons hx1 h1 h2 =>
      rw [Nat.add_assoc]
      exact .cons hx1 h1 (ih h2)
theorem Bd.pos {K : Str → Prop} {dp n : Nat} {d : D} (h : Bd F M K dp n d) : 1 ≤ n := by
  cases h with
  | mk h1 h2 =>
    cases h2 <;> omega
theorem Dd.pos {K : Str → Prop} {dp n : Nat} {d : D} (h : Dd F M K dp n d) : 1 ≤ n := by
  cases h <;> omega
theorem En.pos {K : Str → Prop} {dp n : Nat} {d : D} (h : En F M K dp n d) : 1 ≤ n := by
  cases h <;> omega
end
end Lb
set_option Elab.async false
set_option linter.all false
set_option maxRecDepth 100000
set_option maxHeartbeats 8000000
namespace Lb
open PySem L2 Ev
inductive Kd where
  | prog | data | cut
  deriving DecidableEq
def Kd.str : Kd → Str
  | .prog => "program"
  | .data => "data"
  | .cut => "cut"
mutual
inductive Bo where
  | mk (rs : Rs) (e : St)
inductive Rs where
  | nil
  | cons (x : Str) (d : St) (r : Rs)
inductive St where
  | num (v : Int)
  | op (w : Str) (us : List Str)
  | fn (s x : Str) (b : Bo)
  | made (l : Str) (ys : List Str)
  | ife (a : Str) (b c : Bo)
end
mutual
def Bo.D : Bo → Ev.D
  | .mk rs e => .tup [.tup rs.D, e.D]
def Rs.D : Rs → List Ev.D
  | .nil => []
  | .cons x d r => .tup [.str x, d.D] :: r.D
def St.D : St → Ev.D
  | .num v => .tup [.str "number", .int v]
  | .op w us => .tup (.str w :: us.map .str)
  | .fn s x b => .tup [.str "fn", .str s, .str x, b.D]
  | .made l ys => .tup [.str "made", .str l, .tup (ys.map .str)]
  | .ife a b c => .tup [.str "if", .str a, b.D, c.D]
end
mutual
def Bo.n : Bo → Nat
  | .mk rs e => rs.n + e.n
def Rs.n : Rs → Nat
  | .nil => 0
  | .cons _ d r => d.n + r.n
def St.n : St → Nat
  | .num _ => 1
  | .op _ _ => 1
  | .fn _ _ b => 1 + b.n
  | .made _ _ => 1
  | .ife _ b c => 1 + b.n + c.n
end
mutual
def Bo.h : Bo → Nat
  | .mk rs e => max rs.h e.h
def Rs.h : Rs → Nat
  | .nil => 0
  | .cons _ d r => max d.h r.h
def St.h : St → Nat
  | .num _ => 0
  | .op _ _ => 0
  | .fn _ _ b => b.h + 1
  | .made _ _ => 0
  | .ife _ b c => max b.h c.h + 1
end
def St.us : St → List Str
  | .num _ => []
  | .op _ us => us
  | .fn _ _ _ => []
  | .made _ ys => ys
  | .ife a _ _ => [a]
def St.inn : St → List Bo
  | .fn _ _ b => [b]
  | .ife _ b c => [b, c]
  | _ => []
def Rs.L : Rs → List (Str × St)
  | .nil => []
  | .cons x d r => (x, d) :: r.L
def rowD (r : Str × St) : Ev.D := .tup [.str r.1, r.2.D]
theorem Rs.D_L : ∀ rs : Rs, rs.D = rs.L.map rowD
  | .nil => rfl
  | .cons x d r => by rw [Rs.D, Rs.L, List.map_cons, Rs.D_L r]; rfl
mutual
def Bo.steps : Bo → List St
  | .mk rs e => rs.steps ++ (e :: e.sub)
def Rs.steps : Rs → List St
  | .nil => []
  | .cons _ d r => (d :: d.sub) ++ r.steps
def St.sub : St → List St
  | .num _ => []
  | .op _ _ => []
  | .fn _ _ b => b.steps
  | .made _ _ => []
  | .ife _ b c => b.steps ++ c.steps
end
theorem St.n_pos : ∀ d : St, 1 ≤ d.n
  | .num _ => Nat.le_refl _
  | .op _ _ => Nat.le_refl _
  | .fn _ _ b => by rw [St.n]; omega
  | .made _ _ => Nat.le_refl _
  | .ife _ b c => by rw [St.n]; omega
theorem Bo.n_pos (b : Bo) : 1 ≤ b.n := by
  cases b with
  | mk rs e => rw [Bo.n]; have := e.n_pos; omega
theorem Rs.len_n : ∀ rs : Rs, rs.L.length ≤ rs.n
  | .nil => Nat.le_refl _
  | .cons _ d r => by rw [Rs.L, Rs.n, List.length_cons]; have := d.n_pos; have := Rs.len_n r; omega
theorem Rs.mem_n : ∀ {rs : Rs} {r : Str × St}, r ∈ rs.L → r.2.n ≤ rs.n ∧ r.2.h ≤ rs.h
  | .nil, _, h => absurd h List.not_mem_nil
  | .cons x d rs, r, h => by
    rw [Rs.L] at h
    rw [Rs.n, Rs.h]
    rcases List.mem_cons.mp h with rfl | h
    · exact ⟨by show d.n ≤ _; omega, by show d.h ≤ _; omega⟩
    · have := Rs.mem_n h
      omega
mutual
def Bo.kn (zs : List Str) : Bo → Bool
  | .mk rs e => rs.kn zs && (e.us.all fun u => (rs.out zs).contains u) && e.knI (rs.out zs)
def Rs.kn (zs : List Str) : Rs → Bool
  | .nil => true
  | .cons x d r => (d.us.all fun u => zs.contains u) && d.knF zs && r.kn (zs ++ [x])
def Rs.out (zs : List Str) : Rs → List Str
  | .nil => zs
  | .cons x _ r => r.out (zs ++ [x])
/-- within a deed -/
def St.knF (zs : List Str) : St → Bool
  | .fn s x b => b.kn (zs ++ [s, x])
  | .num _ => true
  | .op _ _ => true
  | .made _ _ => true
  | .ife _ _ _ => true
/-- within an end -/
def St.knI (zs : List Str) : St → Bool
  | .ife _ b c => b.kn zs && c.kn zs
  | .fn _ _ b => b.kn zs
  | .num _ => true
  | .op _ _ => true
  | .made _ _ => true
end
def good (s : Str) : Prop := isNmS s = true
mutual
def Bo.Fm (kd : Kd) : Bo → Prop
  | .mk rs e => rs.Fm kd ∧ e.Fe kd
def Rs.Fm (kd : Kd) : Rs → Prop
  | .nil => True
  | .cons x d r => good x ∧ d.Fd kd ∧ r.Fm kd
def St.Fd (kd : Kd) : St → Prop
  | .num v => -1000000000 ≤ v ∧ v ≤ 1000000000
  | .op w us => ((w ∈ w2s ∧ us.length = 2) ∨ (w ∈ w1s ∧ us.length = 1)) ∧ (∀ u, u ∈ us → good u) ∧ (kd = .cut → w ≠ "call")
  | .fn s x b => kd = .prog ∧ good s ∧ good x ∧ s ≠ x ∧ b.Fm kd
  | .made l ys => kd ≠ .prog ∧ good l ∧ (∀ y, y ∈ ys → good y) ∧ ys.length ≤ 1000
  | .ife _ _ _ => False
def St.Fe (kd : Kd) : St → Prop
  | .op w us => ((w = "give" ∧ us.length = 1) ∨ (w = "go" ∧ us.length = 2)) ∧ (∀ u, u ∈ us → good u) ∧ (kd = .cut → w ≠ "go")
  | .ife a b c => good a ∧ b.Fm kd ∧ c.Fm kd
  | .num _ => False
  | .fn _ _ _ => False
  | .made _ _ => False
end
theorem Rs.Fm_mem {kd : Kd} : ∀ {rs : Rs}, rs.Fm kd → ∀ r, r ∈ rs.L → good r.1 ∧ r.2.Fd kd
  | .nil, _, r, h => absurd h List.not_mem_nil
  | .cons x d rs, hf, r, h => by
    rw [Rs.Fm] at hf
    rw [Rs.L] at h
    rcases List.mem_cons.mp h with rfl | h
    · exact ⟨hf.1, hf.2.1⟩
    · exact Rs.Fm_mem hf.2.2 r h
theorem St.Fm_inn {kd : Kd} {d : St} (h : d.Fd kd ∨ d.Fe kd) : ∀ b, b ∈ d.inn → b.Fm kd := by
  intro b hb
  cases d with
  | fn s x c =>
    obtain rfl := List.mem_singleton.mp hb
    rcases h with h | h
    · rw [St.Fd] at h; exact h.2.2.2.2
    · rw [St.Fe] at h; exact h.elim
  | ife a c e =>
    rcases h with h | h
    · rw [St.Fd] at h; exact h.elim
    · rw [St.Fe] at h
      rcases List.mem_cons.mp hb with rfl | hb
      · exact h.2.1
      · obtain rfl := List.mem_singleton.mp hb
        exact h.2.2
  | _ => exact absurd hb List.not_mem_nil
section
variable {F : Bool} {M : Str → Nat → Prop}
def MadeIn (M : Str → Nat → Prop) (ds : List St) : Prop := ∀ l ys, St.made l ys ∈ ds → M l ys.length
theorem MadeIn.app {xs ys : List St} (h : MadeIn M xs) (g : MadeIn M ys) : MadeIn M (xs ++ ys) := fun l zs hm => by
  rcases List.mem_append.mp hm with hm | hm
  · exact h l zs hm
  · exact g l zs hm
theorem MadeIn.one {d : St} {xs : List St} (hd : ∀ l ys, d = .made l ys → M l ys.length) (h : MadeIn M xs) : MadeIn M (d :: xs) := fun l zs hm => by
  rcases List.mem_cons.mp hm with hm | hm
  · exact hd l zs hm.symm
  · exact h l zs hm
end
end Lb
set_option Elab.async false
set_option linter.all false
set_option maxRecDepth 100000
set_option maxHeartbeats 8000000
namespace Lb
open PySem L2 Ev
end Lb
set_option Elab.async false
set_option linter.all false
set_option maxRecDepth 100000
set_option maxHeartbeats 8000000
namespace Lb
open PySem L2 Ev
end Lb
set_option Elab.async false
set_option linter.all false
set_option maxRecDepth 100000
set_option maxHeartbeats 8000000
namespace Lb
open PySem L2 Ev
end Lb
set_option Elab.async false
set_option linter.all false
set_option maxRecDepth 100000
set_option maxHeartbeats 8000000
namespace Lb
open PySem L2 Ev
def ir_uses : Sms := (stsOf [
  .ife (.cmp .eq (.ix (.loc 0) (.cst (.int 0))) (.cst (.str "made"))) (stsOf [
    .ret (.bi .list (esOf [(.ix (.loc 0) (.cst (.int 2)))]))]) (stsOf []),
  .ret (.bi .list (esOf [(.slc (.loc 0) (.some (.cst (.int 1))) (.some (.bin .add (.cst (.int 1)) (.gix "USED" (.ix (.loc 0) (.cst (.int 0)))))))]))])
def ir_bodies_in : Sms := (stsOf [
  .ife (.cmp .eq (.ix (.loc 0) (.cst (.int 0))) (.cst (.str "fn"))) (stsOf [
    .ret (.lst (esOf [(.ix (.loc 0) (.cst (.int 3)))]))]) (stsOf []),
  .ife (.cmp .eq (.ix (.loc 0) (.cst (.int 0))) (.cst (.str "if"))) (stsOf [
    .ret (.lst (esOf [(.ix (.loc 0) (.cst (.int 2))), (.ix (.loc 0) (.cst (.int 3)))]))]) (stsOf []),
  .ret (.lst (esOf []))])
def ir_all_steps : Sms := (stsOf [
  .set (.tup [1, 2]) (.loc 0),
  .own 3 (.lst (esOf [])),
  .fo (.one 4) (.seq (.bin .add (.comp (.loc 7) [6, 7] (.tup [6, 7]) (.seq (.loc 1)) .none) (.lst (esOf [(.loc 2)])))) (stsOf [
    .app 3 (.loc 4),
    .fo (.one 5) (.seq (.call "bodies_in" (esOf [(.loc 4)]))) (stsOf [
      .ext 3 (.call "all_steps" (esOf [(.loc 5)]))])]),
  .retO 3])
def ir_count_of : Sms := (stsOf [
  .ret (.bi .len (esOf [(.call "all_steps" (esOf [(.loc 0)]))]))])
def ir_knows : Sms := (stsOf [
  .set (.tup [2, 3]) (.loc 0),
  .own 4 (.listOf (.loc 1)),
  .fo (.tup [5, 6]) (.seq (.loc 2)) (stsOf [
    .ife (.not (.bi .all (esOf [(.comp (.cmp .isin (.loc 7) (.rd 4)) [7] (.one 7) (.seq (.call "uses" (esOf [(.loc 6)]))) .none)]))) (stsOf [
      .ret (.cst (.bl false))]) (stsOf []),
    .ife (.and (.cmp .eq (.ix (.loc 6) (.cst (.int 0))) (.cst (.str "fn"))) (.not (.call "knows" (esOf [(.ix (.loc 6) (.cst (.int 3))), (.bin .add (.rd 4) (.lst (esOf [(.ix (.loc 6) (.cst (.int 1))), (.ix (.loc 6) (.cst (.int 2)))])))])))) (stsOf [
      .ret (.cst (.bl false))]) (stsOf []),
    .app 4 (.loc 5)]),
  .fz [4] (.ret (.and (.bi .all (esOf [(.comp (.cmp .isin (.loc 7) (.rd 4)) [7] (.one 7) (.seq (.call "uses" (esOf [(.loc 3)]))) .none)])) (.bi .all (esOf [(.comp (.call "knows" (esOf [(.loc 8), (.loc 4)])) [8] (.one 8) (.seq (.call "bodies_in" (esOf [(.loc 3)]))) .none)]))))])
def ir_are_names : Sms := (stsOf [
  .ret (.and (.isi (.loc 0) .tuple) (.bi .all (esOf [(.comp (.call "is_name" (esOf [(.loc 1)])) [1] (.one 1) (.seq (.loc 0)) .none)])))])
def ir_are_unlike : Sms := (stsOf [
  .ret (.cmp .eq (.nset (.loc 0)) (.bi .len (esOf [(.loc 0)])))])
def ir_bears_names : Sms := (stsOf [
  .ife (.cmp .eq (.loc 1) (.cst (.str "cut"))) (stsOf [
    .ret (.and (.cmp .eq (.bi .len (esOf [(.loc 0)])) (.cst (.int 4))) (.and (.call "are_names" (esOf [(.slc (.loc 0) (.some (.cst (.int 1))) (.some (.cst (.int 3))))])) (.call "is_list_of_labels" (esOf [(.ix (.loc 0) (.cst (.int 3)))]))))]) (stsOf []),
  .ret (.and (.cmp .eq (.bi .len (esOf [(.loc 0)])) (.cst (.int 3))) (.call "are_names" (esOf [(.slc (.loc 0) (.some (.cst (.int 1))) .none)])))])
def ir_is_function : Sms := (stsOf [
  .ife (.cmp .eq (.ix (.loc 0) (.cst (.int 0))) (.cst (.str "fn"))) (stsOf [
    .ife (.or (.cmp .ne (.loc 1) (.cst (.str "program"))) (.or (.cmp .ne (.bi .len (esOf [(.loc 0)])) (.cst (.int 4))) (.or (.not (.call "are_names" (esOf [(.slc (.loc 0) (.some (.cst (.int 1))) (.some (.cst (.int 3))))]))) (.cmp .eq (.ix (.loc 0) (.cst (.int 1))) (.ix (.loc 0) (.cst (.int 2))))))) (stsOf [
      .ret (.cst (.bl false))]) (stsOf []),
    .ret (.call "is_body" (esOf [(.ix (.loc 0) (.cst (.int 3))), (.loc 1), (.bin .add (.loc 2) (.cst (.int 1)))]))]) (stsOf []),
  .ret (.and (.cmp .ne (.loc 1) (.cst (.str "program"))) (.and (.cmp .eq (.bi .len (esOf [(.loc 0)])) (.cst (.int 3))) (.and (.call "is_name" (esOf [(.ix (.loc 0) (.cst (.int 1)))])) (.call "are_names" (esOf [(.ix (.loc 0) (.cst (.int 2)))])))))])
def ir_has_word : Sms := (stsOf [
  .ret (.and (.isi (.loc 0) .tuple) (.and (.cmp .gt (.bi .len (esOf [(.loc 0)])) (.cst (.int 0))) (.isi (.ix (.loc 0) (.cst (.int 0))) .str)))])
def ir_is_deed : Sms := (stsOf [
  .ife (.or (.not (.call "has_word" (esOf [(.loc 0)]))) (.cmp .isin (.ix (.loc 0) (.cst (.int 0))) (.tup (esOf [(.cst (.str "give")), (.cst (.str "go")), (.cst (.str "if"))])))) (stsOf [
    .ret (.cst (.bl false))]) (stsOf []),
  .ife (.cmp .eq (.ix (.loc 0) (.cst (.int 0))) (.cst (.str "number"))) (stsOf [
    .ret (.and (.cmp .eq (.bi .len (esOf [(.loc 0)])) (.cst (.int 2))) (.call "is_whole" (esOf [(.ix (.loc 0) (.cst (.int 1))), (.glob "FAR")])))]) (stsOf []),
  .ife (.or (.cmp .eq (.ix (.loc 0) (.cst (.int 0))) (.cst (.str "fn"))) (.cmp .eq (.ix (.loc 0) (.cst (.int 0))) (.cst (.str "made")))) (stsOf [
    .ret (.call "is_function" (esOf [(.loc 0), (.loc 1), (.loc 2)]))]) (stsOf []),
  .ife (.cmp .eq (.ix (.loc 0) (.cst (.int 0))) (.cst (.str "call"))) (stsOf [
    .ret (.call "bears_names" (esOf [(.loc 0), (.loc 1)]))]) (stsOf []),
  .ret (.and (.gin "USED" (.ix (.loc 0) (.cst (.int 0)))) (.and (.cmp .eq (.bi .len (esOf [(.loc 0)])) (.bin .add (.gix "USED" (.ix (.loc 0) (.cst (.int 0)))) (.cst (.int 1)))) (.call "are_names" (esOf [(.slc (.loc 0) (.some (.cst (.int 1))) .none)]))))])
def ir_is_end : Sms := (stsOf [
  .ife (.not (.call "has_word" (esOf [(.loc 0)]))) (stsOf [
    .ret (.cst (.bl false))]) (stsOf []),
  .ife (.cmp .eq (.ix (.loc 0) (.cst (.int 0))) (.cst (.str "if"))) (stsOf [
    .ife (.or (.cmp .ne (.bi .len (esOf [(.loc 0)])) (.cst (.int 4))) (.not (.call "is_name" (esOf [(.ix (.loc 0) (.cst (.int 1)))])))) (stsOf [
      .ret (.cst (.bl false))]) (stsOf []),
    .ret (.and (.call "is_body" (esOf [(.ix (.loc 0) (.cst (.int 2))), (.loc 1), (.bin .add (.loc 2) (.cst (.int 1)))])) (.call "is_body" (esOf [(.ix (.loc 0) (.cst (.int 3))), (.loc 1), (.bin .add (.loc 2) (.cst (.int 1)))])))]) (stsOf []),
  .ife (.cmp .eq (.ix (.loc 0) (.cst (.int 0))) (.cst (.str "go"))) (stsOf [
    .ret (.call "bears_names" (esOf [(.loc 0), (.loc 1)]))]) (stsOf []),
  .ret (.and (.cmp .eq (.ix (.loc 0) (.cst (.int 0))) (.cst (.str "give"))) (.and (.cmp .eq (.bi .len (esOf [(.loc 0)])) (.cst (.int 2))) (.call "is_name" (esOf [(.ix (.loc 0) (.cst (.int 1)))]))))])
def ir_is_row : Sms := (stsOf [
  .ret (.and (.isi (.loc 0) .tuple) (.and (.cmp .eq (.bi .len (esOf [(.loc 0)])) (.cst (.int 2))) (.and (.call "is_name" (esOf [(.ix (.loc 0) (.cst (.int 0)))])) (.call "is_deed" (esOf [(.ix (.loc 0) (.cst (.int 1))), (.loc 1), (.loc 2)])))))])
def ir_is_body : Sms := (stsOf [
  .ife (.or (.cmp .gt (.loc 2) (.glob "DEEP")) (.or (.not (.isi (.loc 0) .tuple)) (.or (.cmp .ne (.bi .len (esOf [(.loc 0)])) (.cst (.int 2))) (.not (.isi (.ix (.loc 0) (.cst (.int 0))) .tuple))))) (stsOf [
    .ret (.cst (.bl false))]) (stsOf []),
  .ret (.and (.bi .all (esOf [(.comp (.call "is_row" (esOf [(.loc 3), (.loc 1), (.loc 2)])) [3] (.one 3) (.seq (.ix (.loc 0) (.cst (.int 0)))) .none)])) (.call "is_end" (esOf [(.ix (.loc 0) (.cst (.int 1))), (.loc 1), (.loc 2)])))])
def ir_are_inputs : Sms := (stsOf [
  .ret (.and (.call "are_names" (esOf [(.loc 0)])) (.and (.cmp .le (.bi .len (esOf [(.loc 0)])) (.glob "INPUTS")) (.call "are_unlike" (esOf [(.loc 0)]))))])
def ir_is_program : Sms := (stsOf [
  .ife (.or (.not (.isi (.loc 0) .tuple)) (.or (.cmp .ne (.bi .len (esOf [(.loc 0)])) (.cst (.int 2))) (.not (.call "are_inputs" (esOf [(.ix (.loc 0) (.cst (.int 0)))]))))) (stsOf [
    .ret (.cst (.bl false))]) (stsOf []),
  .ife (.not (.call "is_body" (esOf [(.ix (.loc 0) (.cst (.int 1))), (.cst (.str "program")), (.cst (.int 1))]))) (stsOf [
    .ret (.cst (.bl false))]) (stsOf []),
  .ret (.and (.cmp .le (.call "count_of" (esOf [(.ix (.loc 0) (.cst (.int 1)))])) (.glob "COUNT")) (.call "knows" (esOf [(.ix (.loc 0) (.cst (.int 1))), (.ix (.loc 0) (.cst (.int 0)))])))])
structure PT (T : Tab) : Prop where
  L : T.glob "LETTERS" = some (.str "abcdefghijklmnopqrstuvwxyz")
  G : T.glob "FIGURES" = some (.str "0123456789")
  far : T.glob "FAR" = some (.int 1000000000)
  deep : T.glob "DEEP" = some (.int 8)
  inp : T.glob "INPUTS" = some (.int 4)
  cnt : T.glob "COUNT" = some (.int 60)
  u0 : T.tab "USED" "number" = some 0
  uf : T.tab "USED" "fn" = some 0
  u1 : ∀ w, w ∈ w1s → T.tab "USED" w = some 1
  u2 : ∀ w, w ∈ w2s → T.tab "USED" w = some 2
  uv : T.tab "USED" "give" = some 1
  ug : T.tab "USED" "go" = some 2
  ui : T.tab "USED" "if" = some 1
  uses : Has T ("uses", none) 1 1 ir_uses
  bodies_in : Has T ("bodies_in", none) 1 1 ir_bodies_in
  all_steps : Has T ("all_steps", none) 1 8 ir_all_steps
  count_of : Has T ("count_of", none) 1 1 ir_count_of
  knows : Has T ("knows", none) 2 9 ir_knows
  is_name : Has T ("is_name", none) 1 2 ir_is_name
  is_whole : Has T ("is_whole", none) 2 2 ir_is_whole
  are_names : Has T ("are_names", none) 1 2 ir_are_names
  are_unlike : Has T ("are_unlike", none) 1 1 ir_are_unlike
  bears_names : Has T ("bears_names", none) 2 2 ir_bears_names
  is_function : Has T ("is_function", none) 3 3 ir_is_function
  has_word : Has T ("has_word", none) 1 1 ir_has_word
  is_deed : Has T ("is_deed", none) 3 3 ir_is_deed
  is_end : Has T ("is_end", none) 3 3 ir_is_end
  is_row : Has T ("is_row", none) 3 3 ir_is_row
  is_body : Has T ("is_body", none) 3 4 ir_is_body
  are_inputs : Has T ("are_inputs", none) 1 1 ir_are_inputs
  is_program : Has T ("is_program", none) 1 1 ir_is_program
theorem nmS_len {s : Str} (h : isNmS s = true) : s.length ≤ 8 := by
  unfold isNmS at h
  rw [Bool.and_eq_true] at h
  exact (of_decide_eq_true h.1).2.1
section
variable {T : Tab} {F : Bool} {M : Str → Nat → Prop}
theorem nm1 (pt : PT T) {k : Nat} {s : Str} {S : List Ob} (h : isNmS s = true) : T.at_ (k + 1) ("is_name", none) [.str s] S = .ok (.bl true) S := by
  have e := is_name pt.L pt.G pt.is_name (w := 8) (d := 1) (k := k) (S := S) (by omega) (show Pl 8 1 (.str s) from nmS_len h)
  rw [e]
  show R.ok (D.bl (isNmS s)) S = _
  rw [h]
theorem nms (pt : PT T) {k : Nat} {ss : List Str} {S : List Ob} (hs : ∀ s, s ∈ ss → isNmS s = true) (hl : ss.length ≤ 1000) : T.at_ (k + 2) ("are_names", none) [.tup (ss.map .str)] S = .ok (.bl true) S := by
  rw [gv_eq]
  have hT := pt.are_names
  refine has_runK hT rfl fun R hR => ?_; simp only [List.map_cons, List.map_nil, List.replicate, List.cons_append, List.nil_append, Nat.reduceSub]
  refine gs_stK fun N hN => ?_; simp only [↓wA, ↓wY, wB, wC, ↓reduceIte, reduceCtorEq, Nat.reduceAdd, Nat.reduceLeDiff, Nat.reduceLT, Nat.reduceSub, Int.reduceLT, Int.reduceLE, Int.reduceEq, Int.reduceNeg, Int.reduceAdd, Int.reduceSub, Int.reduceMul]
  repeat refine And.intro (by first | omega | exact Lb.mul_lt (by omega) (by omega) (by omega) (by omega) | decide) ?_
  refine gv_collectM ss _ (fun _ => .bl true) (fun s hs1 => ?_) ?_
  · have e := fun (S : List Ob) (Q : D → List Ob → Prop) (E : Exc → List Ob → Prop) => gv_ok (Q := Q) (E := E) (nm1 pt (k := k) (S := S) (hs s hs1))
    try simp only [↓wA, ↓wY, wB, wC, ↓reduceIte, reduceCtorEq, Nat.reduceAdd, Nat.reduceLeDiff, Nat.reduceLT, Nat.reduceSub, Int.reduceLT, Int.reduceLE, Int.reduceEq, Int.reduceNeg, Int.reduceAdd, Int.reduceSub, Int.reduceMul, e]
  · rw [all_bl ss (fun _ => true), f_all]
    try simp only [↓wA, ↓wY, wB, wC, ↓reduceIte, reduceCtorEq, Nat.reduceAdd, Nat.reduceLeDiff, Nat.reduceLT, Nat.reduceSub, Int.reduceLT, Int.reduceLE, Int.reduceEq, Int.reduceNeg, Int.reduceAdd, Int.reduceSub, Int.reduceMul]
    exact hR _ _ ⟨by simp, rfl⟩
theorem i1 : ((1 : Nat) : Int) = 1 := rfl
theorem i2 : ((2 : Nat) : Int) = 2 := rfl
theorem ix0 {α : Type} {x : α} {xs : List α} : L2.atI (x :: xs) 0 = some x := Ev.atI_nat (k := 0)
theorem has_word (pt : PT T) {k : Nat} {w : Str} {xs : List D} {S : List Ob} (hl : xs.length ≤ 100) : T.at_ (k + 1) ("has_word", none) [.tup (.str w :: xs)] S = .ok (.bl true) S := by
  rw [gv_eq]
  have hT := pt.has_word
  refine has_runK hT rfl fun R hR => ?_; simp only [List.map_cons, List.map_nil, List.replicate, List.cons_append, List.nil_append, Nat.reduceSub]
  refine gs_stK fun N hN => ?_; simp only [↓wA, ↓wY, wB, wC, ↓reduceIte, reduceCtorEq, Nat.reduceAdd, Nat.reduceLeDiff, Nat.reduceLT, Nat.reduceSub, Int.reduceLT, Int.reduceLE, Int.reduceEq, Int.reduceNeg, Int.reduceAdd, Int.reduceSub, Int.reduceMul, ix0]
  repeat' first | refine And.intro (by first | omega | exact Lb.mul_lt (by omega) (by omega) (by omega) (by omega) | decide) ?_ | refine And.intro (fun _ => ?_) (fun _ => ?_)
  all_goals first | exact hR _ _ ⟨rfl, rfl⟩ | omega
end
end Lb
set_option Elab.async false
set_option linter.all false
set_option maxRecDepth 100000
set_option maxHeartbeats 8000000
namespace Lb
open PySem L2 Ev
section
variable {T : Tab} {kd : Kd}
/-- an op by its word and its names -/
theorem op_cases {w : Str} {us : List Str} (h : (St.op w us).Fd kd ∨ (St.op w us).Fe kd) : (∃ a b, us = [a, b] ∧ good a ∧ good b ∧ (w ∈ w2s ∨ w = "go")) ∨ (∃ a, us = [a] ∧ good a ∧ (w ∈ w1s ∨ w = "give")) := by
  have two : ∀ us : List Str, us.length = 2 → ∃ a b, us = [a, b] := fun us h => by
    match us, h with
    | [a, b], _ => exact ⟨a, b, rfl⟩
  have one : ∀ us : List Str, us.length = 1 → ∃ a, us = [a] := fun us h => by
    match us, h with
    | [a], _ => exact ⟨a, rfl⟩
  rcases h with h | h
  · rw [St.Fd] at h
    obtain ⟨h1 | h1, h2, _⟩ := h
    · obtain ⟨a, b, rfl⟩ := two us h1.2
      exact .inl ⟨a, b, rfl, h2 a (by simp), h2 b (by simp), .inl h1.1⟩
    · obtain ⟨a, rfl⟩ := one us h1.2
      exact .inr ⟨a, rfl, h2 a (by simp), .inl h1.1⟩
  · rw [St.Fe] at h
    obtain ⟨h1 | h1, h2, _⟩ := h
    · obtain ⟨a, rfl⟩ := one us h1.2
      exact .inr ⟨a, rfl, h2 a (by simp), .inr h1.1⟩
    · obtain ⟨a, b, rfl⟩ := two us h1.2
      exact .inl ⟨a, b, rfl, h2 a (by simp), h2 b (by simp), .inr h1.1⟩
end
end Lb
set_option Elab.async false
set_option linter.all false
set_option maxRecDepth 100000
set_option maxHeartbeats 8000000
namespace Lb
open PySem L2 Ev
section
variable {T : Tab} {kd : Kd} {w d : Nat}
theorem Pl.tup {xs : List D} {x : D} (h : Pl w (d + 1) (.tup xs)) (hx : x ∈ xs) : Pl w d x := h.2 x hx
end
end Lb
set_option Elab.async false
set_option linter.all false
set_option maxRecDepth 100000
set_option maxHeartbeats 8000000
namespace Lb
open PySem L2 Ev
end Lb
set_option Elab.async false
set_option linter.all false
set_option maxRecDepth 100000
set_option maxHeartbeats 8000000
namespace Lb
open PySem L2 Ev
section
variable {T : Tab} {kd : Kd}
def isMade : St → Bool
  | .made _ _ => true
  | _ => false
def Bo.made (b : Bo) : List St := b.steps.filter isMade
end
end Lb
set_option Elab.async false
set_option linter.all false
set_option maxRecDepth 100000
set_option maxHeartbeats 8000000
namespace Lb
open PySem L2 Ev
section
variable {kd : Kd}
/-- what stands in syntax, told as data: tuples, numbers, texts -/
def TS (w : Nat) : Nat → D → Prop
  | 0, _ => False
  | k + 1, .tup xs => xs.length ≤ w ∧ ∀ x, x ∈ xs → TS w k x
  | _ + 1, .int _ => True
  | _ + 1, .str s => s.length ≤ w
  | _ + 1, _ => False
theorem TS.up {w : Nat} : ∀ {k j : Nat} {x : D}, k ≤ j → TS w k x → TS w j x
  | 0, _, _, _, h => h.elim
  | k + 1, 0, _, hj, _ => by omega
  | k + 1, j + 1, x, hj, h => by
    cases x with
    | tup xs => exact ⟨h.1, fun y hy => TS.up (by omega) (h.2 y hy)⟩
    | int _ => exact True.intro
    | str _ => exact h
    | _ => exact h.elim
theorem TS.pl {w : Nat} : ∀ {k : Nat} {x : D}, TS w k x → Pl w k x
  | 0, _, h => h.elim
  | k + 1, x, h => by
    cases x with
    | tup xs => exact ⟨h.1, fun y hy => TS.pl (h.2 y hy)⟩
    | int _ => exact True.intro
    | str _ => exact h
    | _ => exact h.elim
theorem TS.tup {w k : Nat} {xs : List D} (hl : xs.length ≤ w) (h : ∀ x, x ∈ xs → TS w k x) : TS w (k + 1) (.tup xs) := ⟨hl, h⟩
theorem TS.cons {w k : Nat} {x : D} {xs : List D} (h : ∀ y, y ∈ xs → TS w k y) (hx : TS w k x) : ∀ y, y ∈ x :: xs → TS w k y := fun y hy => by
  rcases List.mem_cons.mp hy with rfl | hy
  · exact hx
  · exact h y hy
theorem TS.nil {w k : Nat} : ∀ y, y ∈ ([] : List D) → TS w k y := fun y hy => absurd hy List.not_mem_nil
theorem good_len {s : Str} (h : good s) : s.length ≤ 8 := by
  unfold good isNmS at h
  rw [Bool.and_eq_true] at h
  exact (of_decide_eq_true h.1).2.1
theorem TS.nm {w k : Nat} {s : Str} (h : good s) (hw : 8 ≤ w) : TS w (k + 1) (.str s) := Nat.le_trans (good_len h) hw
theorem TS.nms {w k : Nat} {ss : List Str} (h : ∀ s, s ∈ ss → good s) (hw : 8 ≤ w) (hl : ss.length ≤ w) : TS w (k + 2) (.tup (ss.map .str)) := ⟨by rw [List.length_map]; exact hl, fun x hx => by
  obtain ⟨s, hs, rfl⟩ := List.mem_map.mp hx
  exact TS.nm (h s hs) hw⟩
theorem op_wlen {w : Str} {us : List Str} (h : (St.op w us).Fd kd ∨ (St.op w us).Fe kd) : w.length ≤ 8 := by
  have h2 : ∀ w, w ∈ w2s → w.length ≤ 8 := by decide +kernel
  have h1 : ∀ w, w ∈ w1s → w.length ≤ 8 := by decide +kernel
  rcases op_cases h with ⟨_, _, _, _, _, h | rfl⟩ | ⟨_, _, _, h | rfl⟩
  · exact h2 _ h
  · decide +kernel
  · exact h1 _ h
  · decide +kernel
def TsB (kd : Kd) (w N : Nat) : Prop := ∀ b : Bo, b.n < N → b.Fm kd → TS w (4 * b.h + 6) b.D
theorem TS.st {w N : Nat} (ih : TsB kd w N) (hw : 1000 ≤ w) {d : St} (h : d.Fd kd ∨ d.Fe kd) (hn : d.n ≤ N) : TS w (4 * d.h + 3) d.D := by
  have s8 : ∀ {k : Nat} (s : Str), s.length ≤ 8 → TS w (k + 1) (.str s) := fun s h => Nat.le_trans h (by omega)
  have hinn := St.Fm_inn h
  cases d with
  | num v => rw [St.D]; exact .tup (by simp; omega) (.cons (.cons .nil True.intro) (s8 _ (by decide +kernel)))
  | op v us =>
    rw [St.D]
    refine .tup ?_ (.cons (fun y hy => ?_) (s8 _ (op_wlen h)))
    · rcases op_cases h with ⟨a, b, rfl, _⟩ | ⟨a, rfl, _⟩
      · simp; omega
      · simp; omega
    · obtain ⟨s, hs, rfl⟩ := List.mem_map.mp hy
      rcases op_cases h with ⟨a, b, rfl, ha, hb, _⟩ | ⟨a, rfl, ha, _⟩
      · simp only [List.mem_cons, List.not_mem_nil, or_false] at hs
        rcases hs with rfl | rfl
        · exact TS.nm ha (by omega)
        · exact TS.nm hb (by omega)
      · rw [List.mem_singleton.mp hs]
        exact TS.nm ha (by omega)
  | fn s x b =>
    rw [St.n] at hn
    have hb := ih b (by omega) (hinn b List.mem_cons_self)
    rw [St.D, St.h]
    have g : good s ∧ good x := by
      rcases h with h | h
      · rw [St.Fd] at h; exact ⟨h.2.1, h.2.2.1⟩
      · rw [St.Fe] at h; exact h.elim
    exact .tup (by simp; omega) (.cons (.cons (.cons (.cons .nil (hb.up (by omega))) (TS.nm (k := 4 * (b.h + 1) + 1) g.2 (by omega))) (TS.nm g.1 (by omega))) (s8 _ (by decide +kernel)))
  | made l ys =>
    rw [St.D, St.h]
    have g : good l ∧ (∀ y, y ∈ ys → good y) ∧ ys.length ≤ 1000 := by
      rcases h with h | h
      · rw [St.Fd] at h; exact h.2
      · rw [St.Fe] at h; exact h.elim
    exact .tup (by simp; omega) (.cons (.cons (.cons .nil (.nms g.2.1 (by omega) (by omega))) (TS.nm g.1 (by omega))) (s8 _ (by decide +kernel)))
  | ife a b c =>
    rw [St.n] at hn
    have hb := ih b (by omega) (hinn b List.mem_cons_self)
    have hc := ih c (by omega) (hinn c (List.mem_cons_of_mem _ List.mem_cons_self))
    rw [St.D, St.h]
    have g : good a := by
      rcases h with h | h
      · rw [St.Fd] at h; exact h.elim
      · rw [St.Fe] at h; exact h.1
    exact .tup (by simp; omega) (.cons (.cons (.cons (.cons .nil (hc.up (by omega))) (hb.up (by omega))) (TS.nm (k := 4 * (max b.h c.h + 1) + 1) g (by omega))) (s8 _ (by decide +kernel)))
theorem Bo.tsI {w : Nat} (hw : 1000 ≤ w) : ∀ N, N ≤ w + 1 → TsB kd w N
  | 0, _ => fun b hb => by omega
  | N + 1, hN => by
    have ih := Bo.tsI hw N (by omega)
    intro b hb hf
    cases b with
    | mk rs e =>
      rw [Bo.Fm] at hf
      rw [Bo.n] at hb
      have hrl := rs.len_n
      rw [Bo.D, Bo.h, Rs.D_L]
      have he := TS.st ih hw (.inr hf.2) (by omega)
      refine .tup (by simp; omega) (.cons (.cons .nil (he.up (by omega))) (.tup (k := 4 * max rs.h e.h + 4) (by rw [List.length_map]; omega) fun r hr => ?_))
      obtain ⟨p, hp, rfl⟩ := List.mem_map.mp hr
      have hpn := Rs.mem_n hp
      have hpf := Rs.Fm_mem hf.1 p hp
      have hd := TS.st ih hw (.inl hpf.2) (by have := e.n_pos; omega)
      exact .tup (k := 4 * max rs.h e.h + 3) (by simp; omega) (.cons (.cons .nil (hd.up (by omega))) (TS.nm (k := 4 * max rs.h e.h + 2) hpf.1 (by omega)))
theorem Bo.ts {b : Bo} (hf : b.Fm kd) {w : Nat} (hw : 1000 ≤ w) (hn : b.n ≤ w) : TS w (4 * b.h + 6) b.D := Bo.tsI hw (b.n + 1) (by omega) b (by omega) hf
end
end Lb
set_option Elab.async false
set_option linter.all false
set_option maxRecDepth 100000
set_option maxHeartbeats 8000000
namespace Wt
open PySem L2 Ev Lb
mutual
inductive W where
  | int (v : Int)
  | pair (a b : W)
  | fn (s : Str) (ws : WL)
inductive WL where
  | nil
  | cons (w : W) (ws : WL)
end
mutual
def W.D : W → Ev.D
  | .int v => .int v
  | .pair a b => .tup [.str "pair", a.D, b.D]
  | .fn s ws => .tup [.str "fn", .str s, .tup ws.D]
def WL.D : WL → List Ev.D
  | .nil => []
  | .cons w ws => w.D :: ws.D
end
mutual
def W.p : W → Nat
  | .int _ => 1
  | .pair a b => 1 + a.p + b.p
  | .fn _ ws => 1 + ws.p
def WL.p : WL → Nat
  | .nil => 0
  | .cons w ws => w.p + ws.p
end
def WL.L : WL → List W
  | .nil => []
  | .cons w ws => w :: ws.L
theorem WL.D_L : ∀ ws : WL, ws.D = ws.L.map W.D
  | .nil => by rw [WL.D, WL.L]; rfl
  | .cons w ws => by rw [WL.D, WL.L, List.map_cons, WL.D_L ws]
mutual
/-- the text -/
def W.t : W → Str
  | .int v => toString v
  | .pair a b => "[" ++ a.t ++ "," ++ b.t ++ "]"
  | .fn s ws => s ++ "(" ++ Txt.join "," ws.t ++ ")"
def WL.t : WL → List Str
  | .nil => []
  | .cons w ws => w.t :: ws.t
end
theorem WL.t_L : ∀ ws : WL, ws.t = ws.L.map W.t
  | .nil => by rw [WL.t, WL.L]; rfl
  | .cons w ws => by rw [WL.t, WL.L, List.map_cons, WL.t_L ws]
mutual
def W.Ok : W → Prop
  | .int v => -1000000000000000000000000000000 ≤ v ∧ v ≤ 1000000000000000000000000000000
  | .pair a b => a.Ok ∧ b.Ok
  | .fn s ws => isNmS s = true ∧ ws.Ok
def WL.Ok : WL → Prop
  | .nil => True
  | .cons w ws => w.Ok ∧ ws.Ok
end
theorem W.p_pos (w : W) : 1 ≤ w.p := by cases w <;> rw [W.p] <;> omega
theorem WL.len_p : ∀ ws : WL, ws.L.length ≤ ws.p
  | .nil => by rw [WL.L]; exact Nat.zero_le _
  | .cons w ws => by rw [WL.L, WL.p, List.length_cons]; have := WL.len_p ws; have := w.p_pos; omega
theorem WL.mem_p {w : W} : ∀ {ws : WL}, w ∈ ws.L → w.p ≤ ws.p
  | .nil, h => by rw [WL.L] at h; exact absurd h List.not_mem_nil
  | .cons x xs, h => by
    rw [WL.L] at h
    rw [WL.p]
    rcases List.mem_cons.mp h with rfl | h
    · omega
    · have := WL.mem_p h; omega
theorem WL.mem_ok {w : W} : ∀ {ws : WL}, ws.Ok → w ∈ ws.L → w.Ok
  | .nil, _, h => by rw [WL.L] at h; exact absurd h List.not_mem_nil
  | .cons x xs, k, h => by
    rw [WL.L] at h
    rw [WL.Ok] at k
    rcases List.mem_cons.mp h with rfl | h
    · exact k.1
    · exact WL.mem_ok k.2 h
theorem wo_W {kvs : List (Ev.Key × D)} (hk : ∀ s m, kGet kvs (.inr s) = some (.int m) → isNmS s = true) : ∀ (n : Nat) {y : D} {p : Nat}, p ≤ n → Wo kvs y p → ∃ w : W, w.D = y ∧ w.p = p ∧ w.Ok := by
  intro n
  induction n with
  | zero => intro y p hp h; cases h <;> omega
  | succ n ih =>
    intro y p hp h
    cases h with
    | @int v h1 h2 => exact ⟨.int v, by rw [W.D], by rw [W.p], by rw [W.Ok]; exact ⟨h1, h2⟩⟩
    | @pair a b p q ha hb =>
      obtain ⟨u, hu1, hu2, hu3⟩ := ih (by omega) ha
      obtain ⟨v, hv1, hv2, hv3⟩ := ih (by omega) hb
      exact ⟨.pair u v, by rw [W.D, hu1, hv1], by rw [W.p, hu2, hv2], by rw [W.Ok]; exact ⟨hu3, hv3⟩⟩
    | @fn s m ys p hg hm h =>
      have hl : ∀ {ys : List D} {q : Nat}, q ≤ n → WoL kvs ys q → ∃ ws : WL, ws.D = ys ∧ ws.p = q ∧ ws.Ok := by
        intro ys
        induction ys with
        | nil => intro q _ h; cases h; exact ⟨.nil, by rw [WL.D], by rw [WL.p], by rw [WL.Ok]; trivial⟩
        | cons x xs ih2 =>
          intro q hq h
          cases h with
          | @cons _ _ p q hx hr =>
            obtain ⟨u, hu1, hu2, hu3⟩ := ih (by omega) hx
            obtain ⟨v, hv1, hv2, hv3⟩ := ih2 (by omega) hr
            exact ⟨.cons u v, by rw [WL.D, hu1, hv1], by rw [WL.p, hu2, hv2], by rw [WL.Ok]; exact ⟨hu3, hv3⟩⟩
      obtain ⟨ws, h1, h2, h3⟩ := hl (by omega) h
      exact ⟨.fn s ws, by rw [W.D, h1], by rw [W.p, h2], by rw [W.Ok]; exact ⟨hk s m hg, h3⟩⟩
/-- the signs of a number's text -/
def intL : Int → List Nat
  | .ofNat n => TL.numL n
  | .negSucc n => 45 :: TL.numL (n + 1)
theorem tl_int (v : Int) : TL.tl (toString v : Str) = intL v := by
  cases v with
  | ofNat n => exact TL.tl_num n
  | negSucc n =>
    have h : TL.tl (Str.ofString (toString ((n + 1 : Nat) : Int))) = TL.numL (n + 1) := TL.tl_num (n + 1)
    rw [TL.tl_ofString] at h
    show TL.tl (Str.ofString ("-" ++ toString (n + 1))) = _
    rw [TL.tl_ofString, String.toList_append, List.map_append]
    show 45 :: _ = 45 :: _
    congr 1
theorem intL_len {v : Int} (h1 : -1000000000000000000000000000000 ≤ v) (h2 : v ≤ 1000000000000000000000000000000) : (intL v).length ≤ 32 := by
  cases v with
  | ofNat n =>
    have : (TL.numL n).length ≤ 31 := TL.numL_len (by decide) (by
      have : (Int.ofNat n) = (n : Int) := rfl
      have e : (10 : Nat) ^ 31 = 10000000000000000000000000000000 := by decide
      rw [e]; omega)
    show (TL.numL n).length ≤ 32
    omega
  | negSucc n =>
    have : (TL.numL (n + 1)).length ≤ 31 := TL.numL_len (by decide) (by
      have : (Int.negSucc n) = -((n : Int) + 1) := by omega
      have e : (10 : Nat) ^ 31 = 10000000000000000000000000000000 := by decide
      rw [e]; omega)
    show (TL.numL (n + 1)).length + 1 ≤ 32
    omega
/-- the signs of a text -/
theorem pair_tl {a b : Str} : TL.tl ("[" ++ a ++ "," ++ b ++ "]" : Str) = 91 :: (TL.tl a ++ 44 :: (TL.tl b ++ [93])) := by
  rw [TL.tl_append, TL.tl_append, TL.tl_append, TL.tl_append]
  show ([91] ++ TL.tl a ++ [44] ++ TL.tl b ++ [93] : List Nat) = _
  simp
theorem fn_tl {s j : Str} : TL.tl (s ++ "(" ++ j ++ ")" : Str) = TL.tl s ++ 40 :: (TL.tl j ++ [41]) := by
  rw [TL.tl_append, TL.tl_append, TL.tl_append]
  show (TL.tl s ++ [40] ++ TL.tl j ++ [41] : List Nat) = _
  simp
theorem join_tl (zs : List Str) : TL.tl (Txt.join "," zs) = TL.joinL [44] (zs.map TL.tl) := by
  rw [TL.join_eq, TL.tl_join]
  rfl
theorem joinL_len : ∀ zs : List Str, (TL.joinL [44] (zs.map TL.tl)).length + 1 ≤ (zs.map fun z => z.length + 1).sum + 1
  | [] => Nat.le_refl _
  | [z] => by
    show (TL.tl z).length + 1 ≤ _
    rw [← TL.len_tl]
    simp
  | z :: y :: r => by
    have h := joinL_len (y :: r)
    rw [List.map_cons (l := y :: r), List.map_cons (f := fun z : Str => z.length + 1), List.sum_cons]
    rw [List.map_cons] at h
    show (TL.tl z ++ ([44] ++ TL.joinL [44] (TL.tl y :: r.map TL.tl))).length + 1 ≤ _
    rw [List.length_append, ← TL.len_tl, List.length_append, List.length_singleton]
    omega
theorem nmS_len {s : Str} (h : isNmS s = true) : 1 ≤ s.length ∧ s.length ≤ 8 := by
  unfold isNmS at h
  have h := (Bool.and_eq_true _ _ ▸ h).1
  have := of_decide_eq_true h
  exact ⟨this.1, this.2.1⟩
theorem W.t_len : ∀ (n : Nat) (w : W), w.p ≤ n → w.Ok → w.t.length + 1 ≤ 40 * w.p := by
  intro n
  induction n with
  | zero => intro w h; have := w.p_pos; omega
  | succ n ih =>
    intro w hn hok
    cases w with
    | int v =>
      rw [W.Ok] at hok
      rw [W.t, W.p, TL.len_tl, tl_int]
      have := intL_len hok.1 hok.2
      omega
    | pair a b =>
      rw [W.Ok] at hok
      rw [W.p] at hn ⊢
      rw [W.t, TL.len_tl, pair_tl]
      simp only [List.length_cons, List.length_append, ← TL.len_tl, List.length_nil]
      have := ih a (by omega) hok.1
      have := ih b (by omega) hok.2
      omega
    | fn s ws =>
      rw [W.Ok] at hok
      rw [W.p] at hn ⊢
      rw [W.t, TL.len_tl, fn_tl, join_tl]
      simp only [List.length_cons, List.length_append, ← TL.len_tl, List.length_nil]
      have h1 := joinL_len ws.t
      have h2 := (nmS_len hok.1).2
      have h3 : ∀ ws : WL, ws.p ≤ n → ws.Ok → (ws.t.map fun z => z.length + 1).sum ≤ 40 * ws.p := by
        intro ws
        induction ws using WL.rec (motive_1 := fun _ => True) with
        | nil => intro _ _; rw [WL.t]; exact Nat.zero_le _
        | cons w ws _ ih2 =>
          intro hp ho
          rw [WL.p] at hp ⊢
          rw [WL.Ok] at ho
          rw [WL.t, List.map_cons, List.sum_cons]
          have := ih w (by omega) ho.1
          have := ih2 (by omega) ho.2
          omega
        | _ => trivial
      have := h3 ws (by omega) hok.2
      omega
theorem lens_sum : ∀ zs : List Str, lensOf zs + zs.length = (zs.map fun z => z.length + 1).sum
  | [] => rfl
  | z :: zs => by
    have := lens_sum zs
    unfold lensOf at this ⊢
    rw [List.map_cons, List.map_cons, List.sum_cons, List.sum_cons, List.length_cons]
    omega
def irShow (nm : Str) : Sms := (stsOf [
  .ife (.isi (.loc 0) .int) (stsOf [
    .ret (.bi .str (esOf [(.loc 0)]))]) (stsOf []),
  .ife (.cmp .eq (.ix (.loc 0) (.cst (.int 0))) (.cst (.str "pair"))) (stsOf [
    .ret (.bin .add (.bin .add (.bin .add (.bin .add (.cst (.str "[")) (.call nm (esOf [(.ix (.loc 0) (.cst (.int 1)))]))) (.cst (.str ","))) (.call nm (esOf [(.ix (.loc 0) (.cst (.int 2)))]))) (.cst (.str "]")))]) (stsOf []),
  .ret (.bin .add (.bin .add (.bin .add (.ix (.loc 0) (.cst (.int 1))) (.cst (.str "("))) (.vm .join (.cst (.str ",")) (esOf [(.comp (.call nm (esOf [(.loc 1)])) [1] (.one 1) (.seq (.ix (.loc 0) (.cst (.int 2)))) .none)]))) (.cst (.str ")")))])
theorem str_I {v : Int} (h1 : -1000000000000000000000000000000 ≤ v) (h2 : v ≤ 1000000000000000000000000000000) {S : List Ob} : bfS S .str [.int v] = some (.str (toString v)) := by
  have hl : v.natAbs.log2 < 1920 := by
    have h : v.natAbs < 2 ^ 100 := by
      have e : (2 : Nat) ^ 100 = 1267650600228229401496703205376 := by decide
      rw [e]; omega
    have : v.natAbs.log2 ≤ 100 := by
      by_cases h0 : v.natAbs = 0
      · rw [h0]; decide
      · exact Nat.le_of_lt ((Nat.log2_lt h0).mpr h)
    omega
  have e : bfS S .str [.int v] = if v.natAbs.log2 < 1920 then some (.str (toString v)) else none := rfl
  rw [e, if_pos hl]
theorem show_ok {T : Tab} {nm : Str} (hT : Has T (nm, none) 1 2 (irShow nm)) : ∀ (n : Nat) (w : W), w.p ≤ n → w.p ≤ 1000 → w.Ok → ∀ (k : Nat) (S : List Ob), n + 1 ≤ k → T.at_ k (nm, none) [w.D] S = .ok (.str w.t) S := by
  intro n
  induction n with
  | zero => intro w h; have := w.p_pos; omega
  | succ n ih =>
    intro w hn hm hok k S hk
    obtain ⟨k, rfl⟩ : ∃ q, k = q + 1 := ⟨k - 1, by omega⟩
    rw [gv_eq]
    cases w with
    | int v =>
      rw [W.Ok] at hok
      have e := str_I hok.1 hok.2 (S := S)
      rw [W.D, W.t]
      refine has_runK hT rfl fun R hR => ?_; simp only [List.map_cons, List.map_nil, List.replicate, List.cons_append, List.nil_append, Nat.reduceSub]
      refine gs_stK fun N hN => ?_; simp only [↓wA, ↓wY, wB, wC, ↓reduceIte, reduceCtorEq, Nat.reduceAdd, Nat.reduceLeDiff, Nat.reduceLT, Nat.reduceSub, Int.reduceLT, Int.reduceLE, Int.reduceEq, Int.reduceNeg, Int.reduceAdd, Int.reduceSub, Int.reduceMul]
      refine gs_stK fun Nb hNb => ?_; simp only [↓wA, ↓wY, wB, wC, ↓reduceIte, reduceCtorEq, Nat.reduceAdd, Nat.reduceLeDiff, Nat.reduceLT, Nat.reduceSub, Int.reduceLT, Int.reduceLE, Int.reduceEq, Int.reduceNeg, Int.reduceAdd, Int.reduceSub, Int.reduceMul, e]
      exact hR _ _ ⟨rfl, rfl⟩
    | pair a b =>
      rw [W.Ok] at hok
      rw [W.p] at hn hm
      have ea := fun (S : List Ob) (Q : D → List Ob → Prop) (E : Exc → List Ob → Prop) => gv_ok (Q := Q) (E := E) (ih a (by omega) (by omega) hok.1 k S (by omega))
      have eb := fun (S : List Ob) (Q : D → List Ob → Prop) (E : Exc → List Ob → Prop) => gv_ok (Q := Q) (E := E) (ih b (by omega) (by omega) hok.2 k S (by omega))
      have la := W.t_len _ a (Nat.le_refl _) hok.1
      have lb := W.t_len _ b (Nat.le_refl _) hok.2
      rw [W.D, W.t]
      refine has_runK hT rfl fun R hR => ?_; simp only [List.map_cons, List.map_nil, List.replicate, List.cons_append, List.nil_append, Nat.reduceSub]
      refine gs_stK fun N hN => ?_; simp only [↓wA, ↓wY, wB, wC, ↓reduceIte, reduceCtorEq, Nat.reduceAdd, Nat.reduceLeDiff, Nat.reduceLT, Nat.reduceSub, Int.reduceLT, Int.reduceLE, Int.reduceEq, Int.reduceNeg, Int.reduceAdd, Int.reduceSub, Int.reduceMul]
      refine gs_st0K ?_
      refine hN _ _ ?_; try clear hN
      have l1 : ("[" : Str).length = 1 := rfl
      have l2 : ("," : Str).length = 1 := rfl
      have l3 : ("]" : Str).length = 1 := rfl
      refine gs_stK fun Nb hNb => ?_; simp only [↓wA, ↓wY, wB, wC, ↓reduceIte, reduceCtorEq, Nat.reduceAdd, Nat.reduceLeDiff, Nat.reduceLT, Nat.reduceSub, Int.reduceLT, Int.reduceLE, Int.reduceEq, Int.reduceNeg, Int.reduceAdd, Int.reduceSub, Int.reduceMul, at30]
      refine gs_stK fun Nc hNc => ?_; simp only [↓wA, ↓wY, wB, wC, ↓reduceIte, reduceCtorEq, Nat.reduceAdd, Nat.reduceLeDiff, Nat.reduceLT, Nat.reduceSub, Int.reduceLT, Int.reduceLE, Int.reduceEq, Int.reduceNeg, Int.reduceAdd, Int.reduceSub, Int.reduceMul, at31, at32, ea, eb, Lb.sap, l1, l2, l3]
      repeat refine And.intro (by first | omega | exact Lb.mul_lt (by omega) (by omega) (by omega) (by omega) | decide) ?_
      exact hR _ _ ⟨rfl, rfl⟩
    | fn s ws =>
      rw [W.Ok] at hok
      rw [W.p] at hn hm
      have e1 : (("fn" : Str) = "pair") = False := eq_false (by decide +kernel)
      have hl := ws.len_p
      have ht := W.t_len _ (.fn s ws) (Nat.le_refl _) (by rw [W.Ok]; exact hok)
      have hsl := nmS_len hok.1
      rw [W.p] at ht
      rw [W.D, WL.D_L]
      refine has_runK hT rfl fun R hR => ?_; simp only [List.map_cons, List.map_nil, List.replicate, List.cons_append, List.nil_append, Nat.reduceSub]
      refine gs_stK fun N hN => ?_; simp only [↓wA, ↓wY, wB, wC, ↓reduceIte, reduceCtorEq, Nat.reduceAdd, Nat.reduceLeDiff, Nat.reduceLT, Nat.reduceSub, Int.reduceLT, Int.reduceLE, Int.reduceEq, Int.reduceNeg, Int.reduceAdd, Int.reduceSub, Int.reduceMul]
      refine gs_st0K ?_
      refine hN _ _ ?_; try clear hN
      refine gs_stK fun Nb hNb => ?_; simp only [↓wA, ↓wY, wB, wC, ↓reduceIte, reduceCtorEq, Nat.reduceAdd, Nat.reduceLeDiff, Nat.reduceLT, Nat.reduceSub, Int.reduceLT, Int.reduceLE, Int.reduceEq, Int.reduceNeg, Int.reduceAdd, Int.reduceSub, Int.reduceMul, at30, e1]
      refine gs_st0K ?_
      refine hNb _ _ ?_; try clear hNb
      have l3 : ("(" : Str).length = 1 := rfl
      refine gs_stK fun Nc hNc => ?_; simp only [↓wA, ↓wY, wB, wC, ↓reduceIte, reduceCtorEq, Nat.reduceAdd, Nat.reduceLeDiff, Nat.reduceLT, Nat.reduceSub, Int.reduceLT, Int.reduceLE, Int.reduceEq, Int.reduceNeg, Int.reduceAdd, Int.reduceSub, Int.reduceMul, at31, at32, l3, List.length_map]
      repeat refine And.intro (by first | omega | exact Lb.mul_lt (by omega) (by omega) (by omega) (by omega) | decide) ?_
      show Gv _ _ _ _
      refine gv_collectM ws.L W.D (fun w => .str w.t) (fun w hw => ?_) ?_
      · have hp := WL.mem_p hw
        have e := fun (S : List Ob) (Q : D → List Ob → Prop) (E : Exc → List Ob → Prop) => gv_ok (Q := Q) (E := E) (ih w (by omega) (by omega) (WL.mem_ok hok.2 hw) k S (by omega))
        try simp only [↓wA, ↓wY, wB, wC, ↓reduceIte, reduceCtorEq, Nat.reduceAdd, Nat.reduceLeDiff, Nat.reduceLT, Nat.reduceSub, Int.reduceLT, Int.reduceLE, Int.reduceEq, Int.reduceNeg, Int.reduceAdd, Int.reduceSub, Int.reduceMul, e]
      · have e : ws.L.map (fun w => D.str w.t) = ws.t.map .str := by rw [WL.t_L, List.map_map]; rfl
        rw [e]
        rw [W.t] at ht
        have hj : lensOf ws.t + ws.t.length * 1 ≤ 16777216 := by
          have h3 : ∀ ws : WL, ws.Ok → (ws.t.map fun z => z.length + 1).sum ≤ 40 * ws.p := by
            intro ws
            induction ws using WL.rec (motive_1 := fun _ => True) with
            | nil => intro _; rw [WL.t]; exact Nat.zero_le _
            | cons w ws _ ih2 =>
              intro ho
              rw [WL.p]
              rw [WL.Ok] at ho
              rw [WL.t, List.map_cons, List.sum_cons]
              have := W.t_len _ w (Nat.le_refl _) ho.1
              have := ih2 ho.2
              omega
            | _ => trivial
          have := h3 ws hok.2
          have := lens_sum ws.t
          omega
        have l2 : ("," : Str).length = 1 := rfl
        have l3 : ("(" : Str).length = 1 := rfl
        have l4 : (")" : Str).length = 1 := rfl
        have hjl : (Txt.join "," ws.t).length ≤ 40 * (1 + ws.p) := by
          rw [Lb.sap, Lb.sap, Lb.sap] at ht
          omega
        try simp only [↓wA, ↓wY, wB, wC, ↓reduceIte, reduceCtorEq, Nat.reduceAdd, Nat.reduceLeDiff, Nat.reduceLT, Nat.reduceSub, Int.reduceLT, Int.reduceLE, Int.reduceEq, Int.reduceNeg, Int.reduceAdd, Int.reduceSub, Int.reduceMul, vm_join, l2, Lb.sap, l3, l4]
        repeat refine And.intro (by first | omega | exact Lb.mul_lt (by omega) (by omega) (by omega) (by omega) | decide) ?_
        exact hR _ _ ⟨by rw [W.t], rfl⟩
end Wt
set_option Elab.async false
set_option linter.all false
set_option maxRecDepth 100000
set_option maxHeartbeats 8000000
namespace Wt
open PySem L2 Ev Lb
def ir_Signs___init__ : Sms := (stsOf [
  .setF (.loc 0) "signs" (.loc 1),
  .setF (.loc 0) "at" (.cst (.int 0))])
def ir_Signs_sign : Sms := (stsOf [
  .ret (.slc (.fld (.loc 0) "signs") (.some (.fld (.loc 0) "at")) (.some (.bin .add (.fld (.loc 0) "at") (.cst (.int 1)))))])
def ir_Signs_need : Sms := (stsOf [
  .ife (.cmp .ne (.meth "sign" (.loc 0) (esOf [])) (.loc 1)) (stsOf [
    .rais "NoText" (some "line") (.cons (.cst (.int 0)) .nil)]) (stsOf []),
  .setF (.loc 0) "at" (.bin .add (.fld (.loc 0) "at") (.cst (.int 1)))])
def ir_Signs_run_of : Sms := (stsOf [
  .set (.one 2) (.fld (.loc 0) "at"),
  .whl (.and (.cmp .ne (.meth "sign" (.loc 0) (esOf [])) (.cst (.str ""))) (.cmp .isin (.meth "sign" (.loc 0) (esOf [])) (.loc 1))) (stsOf [
    .setF (.loc 0) "at" (.bin .add (.fld (.loc 0) "at") (.cst (.int 1)))]),
  .ret (.slc (.fld (.loc 0) "signs") (.some (.loc 2)) (.some (.fld (.loc 0) "at")))])
def ir_Signs_number : Sms := (stsOf [
  .set (.one 1) (.cmp .eq (.meth "sign" (.loc 0) (esOf [])) (.cst (.str "-"))),
  .ife (.loc 1) (stsOf [
    .expr (.meth "need" (.loc 0) (esOf [(.cst (.str "-"))]))]) (stsOf []),
  .set (.one 2) (.meth "run_of" (.loc 0) (esOf [(.glob "FIGURES")])),
  .ife (.or (.cmp .eq (.loc 2) (.cst (.str ""))) (.or (.cmp .gt (.bi .len (esOf [(.loc 2)])) (.glob "FIGURES_MOST")) (.and (.cmp .eq (.ix (.loc 2) (.cst (.int 0))) (.cst (.str "0"))) (.or (.loc 1) (.cmp .ne (.loc 2) (.cst (.str "0"))))))) (stsOf [
    .rais "NoText" (some "line") (.cons (.cst (.int 0)) .nil)]) (stsOf []),
  .set (.one 3) (.bi .int (esOf [(.loc 2)])),
  .ret (.ife (.loc 1) (.bin .sub (.cst (.int 0)) (.loc 3)) (.loc 3))])
def ir_Signs_pair : Sms := (stsOf [
  .expr (.meth "need" (.loc 0) (esOf [(.cst (.str "["))])),
  .set (.one 1) (.meth "worth" (.loc 0) (esOf [])),
  .expr (.meth "need" (.loc 0) (esOf [(.cst (.str ","))])),
  .set (.one 2) (.meth "worth" (.loc 0) (esOf [])),
  .expr (.meth "need" (.loc 0) (esOf [(.cst (.str "]"))])),
  .ret (.tup (esOf [(.cst (.str "pair")), (.loc 1), (.loc 2)]))])
def ir_Signs_function : Sms := (stsOf [
  .set (.one 1) (.meth "run_of" (.loc 0) (esOf [(.bin .add (.glob "LETTERS") (.glob "FIGURES"))])),
  .expr (.meth "need" (.loc 0) (esOf [(.cst (.str "("))])),
  .own 2 (.lst (esOf [])),
  .ife (.cmp .ne (.meth "sign" (.loc 0) (esOf [])) (.cst (.str ")"))) (stsOf [
    .app 2 (.meth "worth" (.loc 0) (esOf [])),
    .whl (.cmp .eq (.meth "sign" (.loc 0) (esOf [])) (.cst (.str ","))) (stsOf [
      .expr (.meth "need" (.loc 0) (esOf [(.cst (.str ","))])),
      .app 2 (.meth "worth" (.loc 0) (esOf []))])]) (stsOf []),
  .expr (.meth "need" (.loc 0) (esOf [(.cst (.str ")"))])),
  .ret (.tup (esOf [(.cst (.str "fn")), (.loc 1), (.bi .tuple (esOf [(.rd 2)]))]))])
def ir_Signs_worth : Sms := (stsOf [
  .set (.one 1) (.meth "sign" (.loc 0) (esOf [])),
  .ife (.cmp .eq (.loc 1) (.cst (.str "["))) (stsOf [
    .ret (.meth "pair" (.loc 0) (esOf []))]) (stsOf []),
  .ife (.and (.cmp .ne (.loc 1) (.cst (.str ""))) (.cmp .isin (.loc 1) (.glob "LETTERS"))) (stsOf [
    .ret (.meth "function" (.loc 0) (esOf []))]) (stsOf []),
  .ret (.meth "number" (.loc 0) (esOf []))])
def ir_read_worth : Sms := (stsOf [
  .set (.one 1) (.mk "Signs" (esOf [(.loc 0)])),
  .set (.one 2) (.meth "worth" (.loc 1) (esOf [])),
  .ife (.or (.cmp .lt (.fld (.loc 1) "at") (.bi .len (esOf [(.loc 0)]))) (.not (.call "is_worth" (esOf [(.loc 2)])))) (stsOf [
    .rais "NoText" (some "line") (.cons (.cst (.int 0)) .nil)]) (stsOf []),
  .retO 2])
structure SgT (T : Tab) : Prop where
  L : T.glob "LETTERS" = some (.str "abcdefghijklmnopqrstuvwxyz")
  F : T.glob "FIGURES" = some (.str "0123456789")
  most : T.glob "FIGURES_MOST" = some (.int 31)
  init : Has T ("Signs", some "__init__") 2 2 ir_Signs___init__
  sign : Has T ("Signs", some "sign") 1 1 ir_Signs_sign
  need : Has T ("Signs", some "need") 2 2 ir_Signs_need
  run_of : Has T ("Signs", some "run_of") 2 3 ir_Signs_run_of
  number : Has T ("Signs", some "number") 1 4 ir_Signs_number
  pair : Has T ("Signs", some "pair") 1 3 ir_Signs_pair
  function : Has T ("Signs", some "function") 1 3 ir_Signs_function
  worth : Has T ("Signs", some "worth") 1 2 ir_Signs_worth
  fS : T.flds.contains ("Signs", "signs") = true
  fA : T.flds.contains ("Signs", "at") = true
  mSi : T.mths.contains ("Signs", "sign") = true
  mNe : T.mths.contains ("Signs", "need") = true
  mRu : T.mths.contains ("Signs", "run_of") = true
  mNu : T.mths.contains ("Signs", "number") = true
  mPa : T.mths.contains ("Signs", "pair") = true
  mFu : T.mths.contains ("Signs", "function") = true
  mWo : T.mths.contains ("Signs", "worth") = true
  fuel : 1000 ≤ T.fuel
def sg (z : Str) (a : Nat) : Ob := .ins "Signs" [("signs", .str z), ("at", .int a)]
theorem get_sg {S : List Ob} {i a b : Nat} {z y : Str} (h : S[i]? = some (sg z a)) : (S.set i (sg y b))[i]? = some (sg y b) := List.getElem?_set_self (List.getElem?_eq_some_iff.mp h).1
theorem set_sg {S : List Ob} {i a : Nat} {z : Str} (h : S[i]? = some (sg z a)) : S.set i (sg z a) = S := by
  apply List.ext_getElem?
  intro j
  by_cases e : i = j
  · subst e
    rw [h, List.getElem?_set_self (List.getElem?_eq_some_iff.mp h).1]
  · rw [List.getElem?_set_ne e]
/-- the next sign -/
def nx : List Nat → Str
  | [] => ""
  | c :: _ => ⟨#[c]⟩
theorem cut_mid {z : Str} {pre mid post : List Nat} (h : TL.tl z = pre ++ (mid ++ post)) : L2.cutS z (some (pre.length : Int)) (some ((pre.length + mid.length : Nat) : Int)) = ⟨mid.toArray⟩ := by
  apply TL.ext_tl
  have hl : z.length = pre.length + (mid.length + post.length) := by rw [TL.len_tl, h, List.length_append, List.length_append]
  show (L2.cutS z _ _).cps.toList = _
  rw [cut_toList, HT.sIx_nat, HT.sIx_nat, show z.cps.toList = TL.tl z from rfl, h, hl, Nat.min_eq_left (by omega), Nat.min_eq_left (by omega), List.drop_left, show pre.length + mid.length - pre.length = mid.length by omega, List.take_left]
theorem cut_nx {z : Str} {pre post : List Nat} (h : TL.tl z = pre ++ post) : L2.cutS z (some (pre.length : Int)) (some ((pre.length : Int) + 1)) = nx post := by
  cases post with
  | nil =>
    apply TL.ext_tl
    have hl : z.length = pre.length := by rw [TL.len_tl, h, List.append_nil]
    show (L2.cutS z _ _).cps.toList = _
    rw [cut_toList, show z.cps.toList = TL.tl z from rfl, h, hl, List.append_nil, HT.sIx_nat, Nat.min_eq_left (Nat.le_refl _), List.drop_length, List.take_nil]
    rfl
  | cons c post =>
    have := cut_mid (z := z) (pre := pre) (mid := [c]) (post := post) h
    rw [show ((pre.length : Int) + 1) = ((pre.length + [c].length : Nat) : Int) by simp, this]
    rfl
theorem nx_ne (c : Nat) (r : List Nat) : nx (c :: r) ≠ "" := fun h => by
  have := congrArg Str.length h
  cases this
section
variable {T : Tab} {S : List Ob} {i a k : Nat} {z : Str}
theorem fld_s (hn : SgT T) (h : S[i]? = some (sg z a)) : fldO (T.gs k) "signs" S (.obj i) = some (.str z) := by
  unfold fldO
  dsimp only
  rw [h]
  unfold sg
  dsimp only
  rw [gs_hasF, hn.fS]
  rfl
theorem fld_a (hn : SgT T) (h : S[i]? = some (sg z a)) : fldO (T.gs k) "at" S (.obj i) = some (.int a) := by
  unfold fldO
  dsimp only
  rw [h]
  unfold sg
  dsimp only
  rw [gs_hasF, hn.fA]
  rfl
theorem meth_s (h : S[i]? = some (sg z a)) {m : Str} (hm : T.mths.contains ("Signs", m) = true) (h1 : m ≠ "signs") (h2 : m ≠ "at") : methO (T.gs k) m S (.obj i) = some ("Signs" : Str) := by
  unfold methO
  dsimp only
  rw [h]
  unfold sg
  dsimp only
  have e : (fGet [("signs", D.str z), ("at", D.int a)] m).isNone = true := by
    unfold fGet
    rw [List.lookup]
    have : (m == "signs") = false := by simpa using h1
    rw [this]
    dsimp only
    rw [List.lookup]
    have : (m == "at") = false := by simpa using h2
    rw [this]
    rfl
  rw [gs_hasM, hm, e]
  rfl
theorem set_a (hn : SgT T) (h : S[i]? = some (sg z a)) {m : Nat} {P : List Ob → Prop} (hP : P (S.set i (sg z m))) : stFQ (T.gs k) S (.obj i) "at" (.int m) P := by
  unfold stFQ
  dsimp only
  rw [h]
  unfold sg
  dsimp only
  rw [gs_hasF]
  exact ⟨⟨by simp, hn.fA⟩, hP⟩
theorem sign_ok (hn : SgT T) {pre post : List Nat} (hz : TL.tl z = pre ++ post) (hl : z.length ≤ 1000000) (h : S[i]? = some (sg z pre.length)) : T.at_ (k + 1) ("Signs", some "sign") [.obj i] S = .ok (.str (nx post)) S := by
  have hT := hn.sign
  have f1 := fld_s (k := k) hn h
  have f2 := fld_a (k := k) hn h
  have hc := cut_nx hz
  rw [gv_eq]
  refine has_runK hT rfl fun R hR => ?_; simp only [List.map_cons, List.map_nil, List.replicate, List.cons_append, List.nil_append, Nat.reduceSub]
  refine gs_stK fun N hN => ?_; simp only [↓wA, ↓wY, wB, wC, ↓reduceIte, reduceCtorEq, Nat.reduceAdd, Nat.reduceLeDiff, Nat.reduceLT, Nat.reduceSub, Int.reduceLT, Int.reduceLE, Int.reduceEq, Int.reduceNeg, Int.reduceAdd, Int.reduceSub, Int.reduceMul, f1, f2]
  repeat refine And.intro (by first | omega | exact Lb.mul_lt (by omega) (by omega) (by omega) (by omega) | decide) ?_
  try simp only [↓wA, ↓wY, wB, wC, ↓reduceIte, reduceCtorEq, Nat.reduceAdd, Nat.reduceLeDiff, Nat.reduceLT, Nat.reduceSub, Int.reduceLT, Int.reduceLE, Int.reduceEq, Int.reduceNeg, Int.reduceAdd, Int.reduceSub, Int.reduceMul, hc]
  exact hR _ _ ⟨rfl, rfl⟩
theorem need_ok (hn : SgT T) {pre post : List Nat} {c : Nat} {s : Str} (hs : s = ⟨#[c]⟩) (hz : TL.tl z = pre ++ c :: post) (hl : z.length ≤ 1000000) (h : S[i]? = some (sg z pre.length)) : Gv (T.at_ (k + 2) ("Signs", some "need") [.obj i, .str s]) S (fun d S' => d = .non ∧ S' = S.set i (sg z (pre.length + 1))) := by
  have hT := hn.need
  have hm := meth_s (k := k + 1) h hn.mSi (by decide +kernel) (by decide +kernel)
  have es := fun (Q : D → List Ob → Prop) (E : Exc → List Ob → Prop) => gv_ok (Q := Q) (E := E) (sign_ok (k := k) hn hz hl h)
  have f2 := fld_a (k := k + 1) hn h
  have e : nx (c :: post) = s := hs.symm
  refine has_runK hT rfl fun R hR => ?_; simp only [List.map_cons, List.map_nil, List.replicate, List.cons_append, List.nil_append, Nat.reduceSub]
  refine gs_stK fun N hN => ?_; simp only [↓wA, ↓wY, wB, wC, ↓reduceIte, reduceCtorEq, Nat.reduceAdd, Nat.reduceLeDiff, Nat.reduceLT, Nat.reduceSub, Int.reduceLT, Int.reduceLE, Int.reduceEq, Int.reduceNeg, Int.reduceAdd, Int.reduceSub, Int.reduceMul, hm, gs_meth, es, e]
  refine gs_st0K ?_
  refine hN _ _ ?_; try clear hN
  refine gs_stK fun N hN => ?_; simp only [↓wA, ↓wY, wB, wC, ↓reduceIte, reduceCtorEq, Nat.reduceAdd, Nat.reduceLeDiff, Nat.reduceLT, Nat.reduceSub, Int.reduceLT, Int.reduceLE, Int.reduceEq, Int.reduceNeg, Int.reduceAdd, Int.reduceSub, Int.reduceMul, ↓s_setF, f2]
  rw [show ((pre.length : Int) + 1) = ((pre.length + 1 : Nat) : Int) by omega]
  refine set_a hn h ?_
  refine hN _ _ ?_; try clear hN
  refine gs_st0K ?_
  exact hR _ _ ⟨rfl, rfl⟩
/-- behind a row of such signs -/
def stop (some_ : Str) (post : List Nat) : Prop := ∀ c r, post = c :: r → c ∉ some_.cps.toList
theorem run_ok (hn : SgT T) {pre mid post : List Nat} {so : Str} (hz : TL.tl z = pre ++ (mid ++ post)) (hl : z.length ≤ 1000000) (hm : ∀ c, c ∈ mid → c ∈ so.cps.toList) (hml : mid.length < 1000) (hp : stop so post) (h : S[i]? = some (sg z pre.length)) :
    Gv (T.at_ (k + 2) ("Signs", some "run_of") [.obj i, .str so]) S (fun d S' => d = .str ⟨mid.toArray⟩ ∧ S' = S.set i (sg z (pre.length + mid.length))) := by
  have hT := hn.run_of
  have f2 := fld_a (k := k + 1) hn h
  have hfu := hn.fuel
  refine has_runK hT rfl fun R hR => ?_; simp only [List.map_cons, List.map_nil, List.replicate, List.cons_append, List.nil_append, Nat.reduceSub]
  refine gs_stK fun N hN => ?_; simp only [↓wA, ↓wY, wB, wC, ↓reduceIte, reduceCtorEq, Nat.reduceAdd, Nat.reduceLeDiff, Nat.reduceLT, Nat.reduceSub, Int.reduceLT, Int.reduceLE, Int.reduceEq, Int.reduceNeg, Int.reduceAdd, Int.reduceSub, Int.reduceMul, f2]
  refine hN _ _ ?_; try clear hN
  refine gs_stK fun N hN => ?_; simp only [↓wA, ↓wY, wB, wC, ↓reduceIte, reduceCtorEq, Nat.reduceAdd, Nat.reduceLeDiff, Nat.reduceLT, Nat.reduceSub, Int.reduceLT, Int.reduceLE, Int.reduceEq, Int.reduceNeg, Int.reduceAdd, Int.reduceSub, Int.reduceMul]
  rw [gs_fuel]
  refine gs_whl (fun mm τ S' => ∃ m1 m2 : List Nat, mid = m1 ++ m2 ∧ mm = m2.length ∧ τ = [.val (.obj i), .val (.str so), .val (.int pre.length)] ∧ S' = S.set i (sg z (pre.length + m1.length))) ?_ (m := mid.length) (by omega) ⟨[], mid, rfl, rfl, rfl, by rw [List.length_nil, Nat.add_zero, set_sg h]⟩
  rintro mm τ S' ⟨m1, m2, rfl, rfl, rfl, rfl⟩
  have hS' : (S.set i (sg z (pre.length + m1.length)))[i]? = some (sg z (pre ++ m1).length) := by rw [List.length_append]; exact get_sg h
  have hz' : TL.tl z = (pre ++ m1) ++ (m2 ++ post) := by rw [hz]; simp
  have hmt := meth_s (k := k + 1) hS' hn.mSi (by decide +kernel) (by decide +kernel)
  have es := fun (Q : D → List Ob → Prop) (E : Exc → List Ob → Prop) => gv_ok (Q := Q) (E := E) (sign_ok (k := k) hn hz' hl hS')
  have done : m2 = [] → N [.val (.obj i), .val (.str so), .val (.int pre.length)] (S.set i (sg z (pre.length + m1.length))) := fun e => by
    subst e
    rw [List.append_nil] at hz hR
    have f1 := fld_s (k := k + 1) hn hS'
    have f2 := fld_a (k := k + 1) hn hS'
    have hc := cut_mid hz
    refine hN _ _ ?_; try clear hN
    refine gs_stK fun Nc hNc => ?_; simp only [↓wA, ↓wY, wB, wC, ↓reduceIte, reduceCtorEq, Nat.reduceAdd, Nat.reduceLeDiff, Nat.reduceLT, Nat.reduceSub, Int.reduceLT, Int.reduceLE, Int.reduceEq, Int.reduceNeg, Int.reduceAdd, Int.reduceSub, Int.reduceMul, f1, f2]
    repeat refine And.intro (by first | omega | exact Lb.mul_lt (by omega) (by omega) (by omega) (by omega) | decide) ?_
    try simp only [↓wA, ↓wY, wB, wC, ↓reduceIte, reduceCtorEq, Nat.reduceAdd, Nat.reduceLeDiff, Nat.reduceLT, Nat.reduceSub, Int.reduceLT, Int.reduceLE, Int.reduceEq, Int.reduceNeg, Int.reduceAdd, Int.reduceSub, Int.reduceMul, hc]
    exact hR _ _ ⟨rfl, rfl⟩
  cases m2 with
  | nil =>
    cases post with
    | nil =>
      try simp only [↓wA, ↓wY, wB, wC, ↓reduceIte, reduceCtorEq, Nat.reduceAdd, Nat.reduceLeDiff, Nat.reduceLT, Nat.reduceSub, Int.reduceLT, Int.reduceLE, Int.reduceEq, Int.reduceNeg, Int.reduceAdd, Int.reduceSub, Int.reduceMul, hmt, gs_meth, es, nx]
      exact done rfl
    | cons c post =>
      have hc : decide (c ∈ so.cps.toList) = false := decide_eq_false (hp c post rfl)
      have e1 : (nx (c :: post) = "") = False := eq_false (nx_ne c post)
      try simp only [↓wA, ↓wY, wB, wC, ↓reduceIte, reduceCtorEq, Nat.reduceAdd, Nat.reduceLeDiff, Nat.reduceLT, Nat.reduceSub, Int.reduceLT, Int.reduceLE, Int.reduceEq, Int.reduceNeg, Int.reduceAdd, Int.reduceSub, Int.reduceMul, hmt, gs_meth, es, e1]
      have e2 : nx (c :: post) = ⟨#[c]⟩ := rfl
      try simp only [↓wA, ↓wY, wB, wC, ↓reduceIte, reduceCtorEq, Nat.reduceAdd, Nat.reduceLeDiff, Nat.reduceLT, Nat.reduceSub, Int.reduceLT, Int.reduceLE, Int.reduceEq, Int.reduceNeg, Int.reduceAdd, Int.reduceSub, Int.reduceMul, e2, n_ch, hc]
      exact done rfl
  | cons c r =>
    have hc : decide (c ∈ so.cps.toList) = true := decide_eq_true (hm c (by simp))
    have e1 : (nx (c :: (r ++ post)) = "") = False := eq_false (nx_ne c (r ++ post))
    have e2 : nx (c :: (r ++ post)) = ⟨#[c]⟩ := rfl
    have f2 := fld_a (k := k + 1) hn hS'
    try simp only [↓wA, ↓wY, wB, wC, ↓reduceIte, reduceCtorEq, Nat.reduceAdd, Nat.reduceLeDiff, Nat.reduceLT, Nat.reduceSub, Int.reduceLT, Int.reduceLE, Int.reduceEq, Int.reduceNeg, Int.reduceAdd, Int.reduceSub, Int.reduceMul, hmt, gs_meth, es, e1]
    try simp only [↓wA, ↓wY, wB, wC, ↓reduceIte, reduceCtorEq, Nat.reduceAdd, Nat.reduceLeDiff, Nat.reduceLT, Nat.reduceSub, Int.reduceLT, Int.reduceLE, Int.reduceEq, Int.reduceNeg, Int.reduceAdd, Int.reduceSub, Int.reduceMul, e2, n_ch, hc]
    refine gs_stK fun Nc hNc => ?_; simp only [↓wA, ↓wY, wB, wC, ↓reduceIte, reduceCtorEq, Nat.reduceAdd, Nat.reduceLeDiff, Nat.reduceLT, Nat.reduceSub, Int.reduceLT, Int.reduceLE, Int.reduceEq, Int.reduceNeg, Int.reduceAdd, Int.reduceSub, Int.reduceMul, ↓s_setF, f2]
    rw [show (((pre.length + m1.length : Nat) : Int) + 1) = ((pre.length + m1.length + 1 : Nat) : Int) by omega]
    refine set_a hn hS' ?_
    refine hNc _ _ ?_; try clear hNc
    refine gs_st0K ?_
    refine ⟨r.length, by simp, m1 ++ [c], r, by simp, rfl, rfl, ?_⟩
    rw [List.set_set, List.length_append]
    rfl
end
end Wt
set_option Elab.async false
set_option linter.all false
set_option maxRecDepth 100000
set_option maxHeartbeats 8000000
namespace Wt
open PySem L2 Ev Lb
/-- signs that go on a number or a name -/
def stopA (post : List Nat) : Prop := ∀ c r, post = c :: r → c ∉ az ∧ c ∉ d09
theorem d09_mem {c : Nat} (h : 48 ≤ c ∧ c ≤ 57) : c ∈ d09 := by
  have : ∀ c, c < 58 → 48 ≤ c → c ∈ d09 := by decide +kernel
  exact this c (by omega) h.1
theorem az_le {c : Nat} (h : c ∈ az) : 97 ≤ c ∧ c ≤ 122 := by
  have : ∀ c, c ∈ az → 97 ≤ c ∧ c ≤ 122 := by decide +kernel
  exact this c h
theorem numL_cons (n : Nat) : ∃ c r, TL.numL n = c :: r ∧ 48 ≤ c ∧ c ≤ 57 := by
  cases h : TL.numL n with
  | nil => exact absurd h (TL.numL_ne n)
  | cons c r =>
    have := TL.numL_digits n c (by rw [h]; exact List.mem_cons_self)
    exact ⟨c, r, rfl, this.1, this.2⟩
theorem numL_0 : ∀ (m n : Nat), n ≤ m → ∀ r, TL.numL n = 48 :: r → n = 0 := by
  intro m
  induction m with
  | zero => intro n h _ _; omega
  | succ m ih =>
    intro n h r hr
    by_cases h10 : n < 10
    · rw [TL.numL_lt h10] at hr
      have := (List.cons.inj hr).1
      omega
    · rw [TL.numL_step (by omega)] at hr
      obtain ⟨c, r', hc, _, _⟩ := numL_cons (n / 10)
      rw [hc] at hr
      have h1 := (List.cons.inj hr).1
      rw [h1] at hc
      have := ih (n / 10) (by omega) r' hc
      omega
theorem int_S (n : Nat) (h : (TL.numL n).length ≤ 600) : PySem.intText? (⟨(TL.numL n).toArray⟩ : Str) = some (n : Int) := by
  have e : (⟨(TL.numL n).toArray⟩ : Str) = Str.ofString (toString ((n : Nat) : Int)) := TL.ext_tl (by rw [TL.tl_num])
  rw [e]
  exact TL.int_num (by omega)
section
variable {T : Tab} {S : List Ob} {i k : Nat} {z : Str}
theorem number_ok (hn : SgT T) {pre post : List Nat} {v : Int} (h1 : -1000000000000000000000000000000 ≤ v) (h2 : v ≤ 1000000000000000000000000000000) (hz : TL.tl z = pre ++ (intL v ++ post)) (hl : z.length ≤ 1000000) (hp : stopA post) (h : S[i]? = some (sg z pre.length)) :
    Gv (T.at_ (k + 3) ("Signs", some "number") [.obj i]) S (fun d S' => d = .int v ∧ S' = S.set i (sg z (pre.length + (intL v).length))) := by
  have hT := hn.number
  have hst : stop "0123456789" post := fun c r e => (hp c r e).2
  have hm1 := meth_s (k := k + 2) h hn.mSi (by decide +kernel) (by decide +kernel)
  have hmost := hn.most
  cases v with
  | ofNat n =>
    have hnl : (TL.numL n).length ≤ 31 := TL.numL_len (by decide) (by
      have : (Int.ofNat n) = (n : Int) := rfl
      have e : (10 : Nat) ^ 31 = 10000000000000000000000000000000 := by decide
      rw [e]; omega)
    rw [show intL (Int.ofNat n) = TL.numL n from rfl] at hz ⊢
    obtain ⟨c, r, hc, hc1, hc2⟩ := numL_cons n
    have hz0 := hz
    rw [hc, List.cons_append] at hz0
    have es := fun (Q : D → List Ob → Prop) (E : Exc → List Ob → Prop) => gv_ok (Q := Q) (E := E) (sign_ok (k := k + 1) hn hz0 hl h)
    have e1 : (nx (c :: (r ++ post)) = "-") = False := eq_false fun e => by
      have := congrArg TL.tl e
      have : [c] = [45] := this
      have := (List.cons.inj this).1
      omega
    have hm3 := meth_s (k := k + 2) h hn.mRu (by decide +kernel) (by decide +kernel)
    have en := int_S n (by omega)
    have hF := hn.F
    have hlen : (⟨(TL.numL n).toArray⟩ : Str).length = (TL.numL n).length := by simp [Str.length]
    have hat : L2.atI (⟨(TL.numL n).toArray⟩ : Str).cps.toList 0 = some c := by
      show L2.atI (TL.numL n) 0 = _
      rw [hc]
      exact atI_nat (k := 0)
    have n1 : ((⟨(TL.numL n).toArray⟩ : Str) = "") = False := eq_false fun e => by
      have := congrArg TL.tl e
      have : TL.numL n = [] := this
      rw [hc] at this
      cases this
    have n2 : (((TL.numL n).length : Int) > 31) = False := eq_false (by omega)
    have n2' : ((31 : Int) < ((TL.numL n).length : Int)) = False := eq_false (by omega)
    have ln : (⟨(TL.numL n).toArray⟩ : Str).length ≤ 16777216 := by omega
    refine has_runK hT rfl fun R hR => ?_; simp only [List.map_cons, List.map_nil, List.replicate, List.cons_append, List.nil_append, Nat.reduceSub]
    refine gs_stK fun N hN => ?_; simp only [↓wA, ↓wY, wB, wC, ↓reduceIte, reduceCtorEq, Nat.reduceAdd, Nat.reduceLeDiff, Nat.reduceLT, Nat.reduceSub, Int.reduceLT, Int.reduceLE, Int.reduceEq, Int.reduceNeg, Int.reduceAdd, Int.reduceSub, Int.reduceMul, hm1, gs_meth, es, e1]
    refine hN _ _ ?_; try clear hN
    refine gs_stK fun N hN => ?_; simp only [↓wA, ↓wY, wB, wC, ↓reduceIte, reduceCtorEq, Nat.reduceAdd, Nat.reduceLeDiff, Nat.reduceLT, Nat.reduceSub, Int.reduceLT, Int.reduceLE, Int.reduceEq, Int.reduceNeg, Int.reduceAdd, Int.reduceSub, Int.reduceMul]
    refine gs_st0K ?_
    refine hN _ _ ?_; try clear hN
    refine gs_stK fun N hN => ?_; simp only [↓wA, ↓wY, wB, wC, ↓reduceIte, reduceCtorEq, Nat.reduceAdd, Nat.reduceLeDiff, Nat.reduceLT, Nat.reduceSub, Int.reduceLT, Int.reduceLE, Int.reduceEq, Int.reduceNeg, Int.reduceAdd, Int.reduceSub, Int.reduceMul, hm3, gs_meth, hF]
    refine Gv.imp (run_ok (k := k) hn hz hl (fun x hx => d09_mem (TL.numL_digits n x hx)) (by omega) hst h) ?_
    rintro _ _ ⟨rfl, rfl⟩
    refine hN _ _ ?_; try clear hN
    have fin : ∀ (S : List Ob) (N : Sl → List Ob → Prop), (∀ τ' S', Gs_ (evSs (T.gs (k + 2)) (stsOf [
      .set (.one 3) (.bi .int (esOf [(.loc 2)])),
      .ret (.ife (.loc 1) (.bin .sub (.cst (.int 0)) (.loc 3)) (.loc 3))]) τ' S') (fun _ S' => R .non S') R → N τ' S') → R (.int n) S → N [.val (.obj i), .val (.bl false), .val (.str ⟨(TL.numL n).toArray⟩), .un] S := fun S N hN hr => by
      have ei := fun (S : List Ob) => f_intS (S := S) en (by omega)
      refine hN _ _ ?_; try clear hN
      refine gs_stK fun N hN => ?_; simp only [↓wA, ↓wY, wB, wC, ↓reduceIte, reduceCtorEq, Nat.reduceAdd, Nat.reduceLeDiff, Nat.reduceLT, Nat.reduceSub, Int.reduceLT, Int.reduceLE, Int.reduceEq, Int.reduceNeg, Int.reduceAdd, Int.reduceSub, Int.reduceMul, ei]
      refine hN _ _ ?_; try clear hN
      refine gs_stK fun N hN => ?_; simp only [↓wA, ↓wY, wB, wC, ↓reduceIte, reduceCtorEq, Nat.reduceAdd, Nat.reduceLeDiff, Nat.reduceLT, Nat.reduceSub, Int.reduceLT, Int.reduceLE, Int.reduceEq, Int.reduceNeg, Int.reduceAdd, Int.reduceSub, Int.reduceMul]
      exact hr
    by_cases h0 : c = 48
    · subst h0
      have n0 := numL_0 n n (Nat.le_refl _) r hc
      subst n0
      have z0 : (⟨(TL.numL 0).toArray⟩ : Str) = "0" := rfl
      have y1 : (("0" : Str) = "") = False := eq_false (by decide +kernel)
      have y2 : ("0" : Str).length = 1 := rfl
      have y3 : L2.atI ("0" : Str).cps.toList 0 = some 48 := rfl
      have y4 : (⟨#[48]⟩ : Str) = "0" := rfl
      have y5 : ((31 : Int) < ((1 : Nat) : Int)) = False := eq_false (by omega)
      have fin := fin
      rw [z0] at fin
      rw [z0]
      refine gs_stK fun N hN => ?_; simp only [↓wA, ↓wY, wB, wC, ↓reduceIte, reduceCtorEq, Nat.reduceAdd, Nat.reduceLeDiff, Nat.reduceLT, Nat.reduceSub, Int.reduceLT, Int.reduceLE, Int.reduceEq, Int.reduceNeg, Int.reduceAdd, Int.reduceSub, Int.reduceMul, y1, y2, hmost, y3, y4, y5]
      repeat refine And.intro (by first | omega | exact Lb.mul_lt (by omega) (by omega) (by omega) (by omega) | decide) ?_
      refine gs_st0K ?_
      exact fin _ N hN (hR _ _ ⟨rfl, rfl⟩)
    · have h3 : ((⟨#[c]⟩ : Str) = "0") = False := eq_false fun e => by
        have := congrArg TL.tl e
        have : [c] = [48] := this
        exact h0 (List.cons.inj this).1
      refine gs_stK fun N hN => ?_; simp only [↓wA, ↓wY, wB, wC, ↓reduceIte, reduceCtorEq, Nat.reduceAdd, Nat.reduceLeDiff, Nat.reduceLT, Nat.reduceSub, Int.reduceLT, Int.reduceLE, Int.reduceEq, Int.reduceNeg, Int.reduceAdd, Int.reduceSub, Int.reduceMul, n1, hlen, hmost, n2, n2', hat, ln, h3]
      repeat refine And.intro (by first | omega | exact Lb.mul_lt (by omega) (by omega) (by omega) (by omega) | decide) ?_
      refine gs_st0K ?_
      exact fin _ N hN (hR _ _ ⟨rfl, rfl⟩)
  | negSucc m =>
    have hnl : (TL.numL (m + 1)).length ≤ 31 := TL.numL_len (by decide) (by
      have : (Int.negSucc m) = -((m : Int) + 1) := by omega
      have e : (10 : Nat) ^ 31 = 10000000000000000000000000000000 := by decide
      rw [e]; omega)
    have hv : (Int.negSucc m) = -((m : Int) + 1) := by omega
    rw [show intL (Int.negSucc m) = 45 :: TL.numL (m + 1) from rfl] at hz ⊢
    rw [List.cons_append] at hz
    have hz1 : TL.tl z = (pre ++ [45]) ++ (TL.numL (m + 1) ++ post) := by rw [hz]; simp
    obtain ⟨c, r, hc, hc1, hc2⟩ := numL_cons (m + 1)
    have es := fun (Q : D → List Ob → Prop) (E : Exc → List Ob → Prop) => gv_ok (Q := Q) (E := E) (sign_ok (k := k + 1) hn hz hl h)
    have e1 : nx (45 :: (TL.numL (m + 1) ++ post)) = "-" := rfl
    have hm2 := meth_s (k := k + 2) h hn.mNe (by decide +kernel) (by decide +kernel)
    have hS1 : (S.set i (sg z (pre.length + 1)))[i]? = some (sg z (pre ++ [45]).length) := by rw [List.length_append]; exact get_sg h
    have hm3 := meth_s (k := k + 2) hS1 hn.mRu (by decide +kernel) (by decide +kernel)
    have en := int_S (m + 1) (by omega)
    have hF := hn.F
    have hlen : (⟨(TL.numL (m + 1)).toArray⟩ : Str).length = (TL.numL (m + 1)).length := by simp [Str.length]
    have hat : L2.atI (⟨(TL.numL (m + 1)).toArray⟩ : Str).cps.toList 0 = some c := by
      show L2.atI (TL.numL (m + 1)) 0 = _
      rw [hc]
      exact atI_nat (k := 0)
    have n1 : ((⟨(TL.numL (m + 1)).toArray⟩ : Str) = "") = False := eq_false fun e => by
      have := congrArg TL.tl e
      have : TL.numL (m + 1) = [] := this
      rw [hc] at this
      cases this
    have n2 : (((TL.numL (m + 1)).length : Int) > 31) = False := eq_false (by omega)
    have n2' : ((31 : Int) < ((TL.numL (m + 1)).length : Int)) = False := eq_false (by omega)
    have ln : (⟨(TL.numL (m + 1)).toArray⟩ : Str).length ≤ 16777216 := by omega
    have h0 : c ≠ 48 := fun e => by
      subst e
      have := numL_0 (m + 1) (m + 1) (Nat.le_refl _) r hc
      omega
    have h3 : ((⟨#[c]⟩ : Str) = "0") = False := eq_false fun e => by
      have := congrArg TL.tl e
      have : [c] = [48] := this
      exact h0 (List.cons.inj this).1
    have ei := fun (S : List Ob) => f_intS (S := S) en (by omega)
    refine has_runK hT rfl fun R hR => ?_; simp only [List.map_cons, List.map_nil, List.replicate, List.cons_append, List.nil_append, Nat.reduceSub]
    refine gs_stK fun N hN => ?_; simp only [↓wA, ↓wY, wB, wC, ↓reduceIte, reduceCtorEq, Nat.reduceAdd, Nat.reduceLeDiff, Nat.reduceLT, Nat.reduceSub, Int.reduceLT, Int.reduceLE, Int.reduceEq, Int.reduceNeg, Int.reduceAdd, Int.reduceSub, Int.reduceMul, hm1, gs_meth, es, e1]
    refine hN _ _ ?_; try clear hN
    refine gs_stK fun N hN => ?_; simp only [↓wA, ↓wY, wB, wC, ↓reduceIte, reduceCtorEq, Nat.reduceAdd, Nat.reduceLeDiff, Nat.reduceLT, Nat.reduceSub, Int.reduceLT, Int.reduceLE, Int.reduceEq, Int.reduceNeg, Int.reduceAdd, Int.reduceSub, Int.reduceMul]
    refine gs_stK fun Nb hNb => ?_; simp only [↓wA, ↓wY, wB, wC, ↓reduceIte, reduceCtorEq, Nat.reduceAdd, Nat.reduceLeDiff, Nat.reduceLT, Nat.reduceSub, Int.reduceLT, Int.reduceLE, Int.reduceEq, Int.reduceNeg, Int.reduceAdd, Int.reduceSub, Int.reduceMul, hm2, gs_meth]
    refine Gv.imp (need_ok (k := k) hn (s := "-") rfl hz hl h) ?_
    rintro _ _ ⟨rfl, rfl⟩
    refine hNb _ _ ?_; try clear hNb
    refine gs_st0K ?_
    refine hN _ _ ?_; try clear hN
    refine gs_stK fun N hN => ?_; simp only [↓wA, ↓wY, wB, wC, ↓reduceIte, reduceCtorEq, Nat.reduceAdd, Nat.reduceLeDiff, Nat.reduceLT, Nat.reduceSub, Int.reduceLT, Int.reduceLE, Int.reduceEq, Int.reduceNeg, Int.reduceAdd, Int.reduceSub, Int.reduceMul, hm3, gs_meth, hF]
    refine Gv.imp (run_ok (k := k) hn hz1 hl (fun x hx => d09_mem (TL.numL_digits (m + 1) x hx)) (by omega) hst hS1) ?_
    rintro _ _ ⟨rfl, rfl⟩
    refine hN _ _ ?_; try clear hN
    refine gs_stK fun N hN => ?_; simp only [↓wA, ↓wY, wB, wC, ↓reduceIte, reduceCtorEq, Nat.reduceAdd, Nat.reduceLeDiff, Nat.reduceLT, Nat.reduceSub, Int.reduceLT, Int.reduceLE, Int.reduceEq, Int.reduceNeg, Int.reduceAdd, Int.reduceSub, Int.reduceMul, n1, hlen, hmost, n2, n2', hat, ln, h3]
    repeat refine And.intro (by first | omega | exact Lb.mul_lt (by omega) (by omega) (by omega) (by omega) | decide) ?_
    refine gs_st0K ?_
    refine hN _ _ ?_; try clear hN
    refine gs_stK fun N hN => ?_; simp only [↓wA, ↓wY, wB, wC, ↓reduceIte, reduceCtorEq, Nat.reduceAdd, Nat.reduceLeDiff, Nat.reduceLT, Nat.reduceSub, Int.reduceLT, Int.reduceLE, Int.reduceEq, Int.reduceNeg, Int.reduceAdd, Int.reduceSub, Int.reduceMul, ei]
    refine hN _ _ ?_; try clear hN
    refine gs_stK fun N hN => ?_; simp only [↓wA, ↓wY, wB, wC, ↓reduceIte, reduceCtorEq, Nat.reduceAdd, Nat.reduceLeDiff, Nat.reduceLT, Nat.reduceSub, Int.reduceLT, Int.reduceLE, Int.reduceEq, Int.reduceNeg, Int.reduceAdd, Int.reduceSub, Int.reduceMul]
    refine hR _ _ ⟨?_, ?_⟩
    · congr 1
    · rw [List.set_set, List.length_cons, Nat.add_assoc, Nat.add_comm 1]
end
end Wt
set_option Elab.async false
set_option linter.all false
set_option maxRecDepth 100000
set_option maxHeartbeats 8000000
namespace Wt
open PySem L2 Ev Lb
def restL : WL → List Nat
  | .nil => []
  | .cons w ws => 44 :: (TL.tl w.t ++ restL ws)
theorem join_rest : ∀ (w : W) (ws : WL), TL.joinL [44] ((w.t :: ws.t).map TL.tl) = TL.tl w.t ++ restL ws
  | w, .nil => by
    rw [WL.t, restL, List.append_nil]
    rfl
  | w, .cons v vs => by
    rw [WL.t, restL, ← join_rest v vs]
    rfl
theorem stopA_c {c : Nat} {post : List Nat} (h : c ∉ az ∧ c ∉ d09) : stopA (c :: post) := fun a r e => by
  have := (List.cons.inj e).1
  rw [← this]
  exact h
theorem c44 : (44 : Nat) ∉ az ∧ (44 : Nat) ∉ d09 := by decide +kernel
theorem c41 : (41 : Nat) ∉ az ∧ (41 : Nat) ∉ d09 := by decide +kernel
theorem c93 : (93 : Nat) ∉ az ∧ (93 : Nat) ∉ d09 := by decide +kernel
theorem c40 : (40 : Nat) ∉ az ∧ (40 : Nat) ∉ d09 := by decide +kernel
theorem stop_rest (ws : WL) (post : List Nat) : stopA (restL ws ++ 41 :: post) := by
  cases ws with
  | nil => rw [restL]; exact stopA_c c41
  | cons w ws => rw [restL, List.cons_append]; exact stopA_c c44
/-- the first sign -/
inductive Hd : W → Nat → Prop
  | num {v : Int} {c : Nat} : (c = 45 ∨ (48 ≤ c ∧ c ≤ 57)) → Hd (.int v) c
  | pair {a b : W} : Hd (.pair a b) 91
  | fn {s : Str} {ws : WL} {c : Nat} : c ∈ az → Hd (.fn s ws) c
theorem nm_head {s : Str} (h : isNmS s = true) : ∃ c r, TL.tl s = c :: r ∧ c ∈ az ∧ ∀ x, x ∈ TL.tl s → x ∈ az ∨ x ∈ d09 := by
  unfold isNmS at h
  obtain ⟨h1, h2⟩ := Bool.and_eq_true _ _ ▸ h
  obtain ⟨h3, h4, h5⟩ := of_decide_eq_true h1
  have h6 : ∀ x, x ∈ TL.tl s → x ∈ az ∨ x ∈ d09 := fun x hx => by
    rw [List.all_map, List.all_eq_true] at h2
    have := h2 x hx
    exact of_decide_eq_true this
  cases e : TL.tl s with
  | nil =>
    rw [TL.len_tl, e] at h3
    exact absurd h3 (by simp)
  | cons c r =>
    have : s.cps.toList = c :: r := e
    rw [this] at h5
    rw [e] at h6
    exact ⟨c, r, rfl, h5, h6⟩
theorem hd_of {w : W} (h : w.Ok) : ∃ c r, TL.tl w.t = c :: r ∧ Hd w c := by
  cases w with
  | int v =>
    rw [W.t, tl_int]
    cases v with
    | ofNat n =>
      obtain ⟨c, r, h1, h2, h3⟩ := numL_cons n
      exact ⟨c, r, h1, .num (.inr ⟨h2, h3⟩)⟩
    | negSucc n => exact ⟨45, _, rfl, .num (.inl rfl)⟩
  | pair a b =>
    rw [W.t, pair_tl]
    exact ⟨_, _, rfl, .pair⟩
  | fn s ws =>
    rw [W.Ok] at h
    rw [W.t, fn_tl]
    obtain ⟨c, r, h1, h2, _⟩ := nm_head h.1
    rw [h1]
    exact ⟨c, _, rfl, .fn h2⟩
theorem hd_ne {w : W} {c : Nat} (h : Hd w c) : c ≠ 41 := by
  cases h with
  | num h => omega
  | pair => decide
  | fn h => have := az_le h; omega
theorem one_ne {a b : Nat} (h : a ≠ b) : ((⟨#[a]⟩ : Str) = ⟨#[b]⟩) = False := eq_false fun e => by
  have := congrArg TL.tl e
  have : [a] = [b] := this
  exact h (List.cons.inj this).1
def WoS (T : Tab) (z : Str) (n : Nat) : Prop := ∀ w : W, w.p ≤ n → w.Ok → ∀ (pre post : List Nat), TL.tl z = pre ++ (TL.tl w.t ++ post) → stopA post → ∀ (k i : Nat) (S : List Ob), S[i]? = some (sg z pre.length) → 2 * n + 5 ≤ k → Gv (T.at_ k ("Signs", some "worth") [.obj i]) S (fun y S' => y = w.D ∧ S' = S.set i (sg z (pre.length + (TL.tl w.t).length)))
section
variable {T : Tab} {z : Str}
theorem pair_ok (hn : SgT T) (hl : z.length ≤ 1000000) {n : Nat} (ih : WoS T z n) {a b : W} (ha : a.p ≤ n) (hb : b.p ≤ n) (hoa : a.Ok) (hob : b.Ok) {pre post : List Nat} (hz : TL.tl z = pre ++ (91 :: (TL.tl a.t ++ 44 :: (TL.tl b.t ++ [93])) ++ post)) {k i : Nat} {S : List Ob} (hS : S[i]? = some (sg z pre.length)) (hk : 2 * n + 5 ≤ k) :
    Gv (T.at_ (k + 1) ("Signs", some "pair") [.obj i]) S (fun y S' => y = .tup [.str "pair", a.D, b.D] ∧ S' = S.set i (sg z (pre.length + (91 :: (TL.tl a.t ++ 44 :: (TL.tl b.t ++ [93]))).length))) := by
  obtain ⟨k, rfl⟩ : ∃ q, k = q + 2 := ⟨k - 2, by omega⟩
  have hT := hn.pair
  have z1 : TL.tl z = pre ++ 91 :: (TL.tl a.t ++ 44 :: (TL.tl b.t ++ 93 :: post)) := by rw [hz]; simp
  obtain ⟨p1, hp1⟩ : ∃ p, p = pre ++ [91] := ⟨_, rfl⟩
  obtain ⟨p2, hp2⟩ : ∃ p, p = p1 ++ TL.tl a.t := ⟨_, rfl⟩
  obtain ⟨p3, hp3⟩ : ∃ p, p = p2 ++ [44] := ⟨_, rfl⟩
  obtain ⟨p4, hp4⟩ : ∃ p, p = p3 ++ TL.tl b.t := ⟨_, rfl⟩
  have l1 : pre.length + 1 = p1.length := by rw [hp1]; simp
  have l2 : p1.length + (TL.tl a.t).length = p2.length := by rw [hp2]; simp
  have l3 : p2.length + 1 = p3.length := by rw [hp3]; simp
  have l4 : p3.length + (TL.tl b.t).length = p4.length := by rw [hp4]; simp
  have z2 : TL.tl z = p1 ++ (TL.tl a.t ++ 44 :: (TL.tl b.t ++ 93 :: post)) := by rw [z1, hp1]; simp
  have z3 : TL.tl z = p2 ++ 44 :: (TL.tl b.t ++ 93 :: post) := by rw [z2, hp2]; simp
  have z4 : TL.tl z = p3 ++ (TL.tl b.t ++ 93 :: post) := by rw [z3, hp3]; simp
  have z5 : TL.tl z = p4 ++ 93 :: post := by rw [z4, hp4]; simp
  have m1 := meth_s (k := k + 2) hS hn.mNe (by decide +kernel) (by decide +kernel)
  have h1 : (S.set i (sg z p1.length))[i]? = some (sg z p1.length) := get_sg hS
  have m2 := meth_s (k := k + 2) h1 hn.mWo (by decide +kernel) (by decide +kernel)
  have h2 : (S.set i (sg z p2.length))[i]? = some (sg z p2.length) := get_sg hS
  have m3 := meth_s (k := k + 2) h2 hn.mNe (by decide +kernel) (by decide +kernel)
  have h3 : (S.set i (sg z p3.length))[i]? = some (sg z p3.length) := get_sg hS
  have m4 := meth_s (k := k + 2) h3 hn.mWo (by decide +kernel) (by decide +kernel)
  have h4 : (S.set i (sg z p4.length))[i]? = some (sg z p4.length) := get_sg hS
  have m5 := meth_s (k := k + 2) h4 hn.mNe (by decide +kernel) (by decide +kernel)
  have a1 := need_ok (k := k) hn (s := "[") rfl z1 hl hS
  have a2 := ih a ha hoa _ _ z2 (stopA_c c44) (k + 2) i _ h1 hk
  have a3 := need_ok (k := k) hn (s := ",") rfl z3 hl h2
  have a4 := ih b hb hob _ _ z4 (stopA_c c93) (k + 2) i _ h3 hk
  have a5 := need_ok (k := k) hn (s := "]") rfl z5 hl h4
  rw [l1] at a1
  rw [List.set_set, l2] at a2
  rw [List.set_set, l3] at a3
  rw [List.set_set, l4] at a4
  rw [List.set_set] at a5
  refine has_runK hT rfl fun R hR => ?_; simp only [List.map_cons, List.map_nil, List.replicate, List.cons_append, List.nil_append, Nat.reduceSub]
  refine gs_stK fun N hN => ?_; simp only [↓wA, ↓wY, wB, wC, ↓reduceIte, reduceCtorEq, Nat.reduceAdd, Nat.reduceLeDiff, Nat.reduceLT, Nat.reduceSub, Int.reduceLT, Int.reduceLE, Int.reduceEq, Int.reduceNeg, Int.reduceAdd, Int.reduceSub, Int.reduceMul, m1, gs_meth]
  refine Gv.imp a1 ?_
  rintro _ _ ⟨rfl, rfl⟩
  refine hN _ _ ?_; try clear hN
  refine gs_stK fun N hN => ?_; simp only [↓wA, ↓wY, wB, wC, ↓reduceIte, reduceCtorEq, Nat.reduceAdd, Nat.reduceLeDiff, Nat.reduceLT, Nat.reduceSub, Int.reduceLT, Int.reduceLE, Int.reduceEq, Int.reduceNeg, Int.reduceAdd, Int.reduceSub, Int.reduceMul, m2, gs_meth]
  refine Gv.imp a2 ?_
  rintro _ _ ⟨rfl, rfl⟩
  refine hN _ _ ?_; try clear hN
  refine gs_stK fun N hN => ?_; simp only [↓wA, ↓wY, wB, wC, ↓reduceIte, reduceCtorEq, Nat.reduceAdd, Nat.reduceLeDiff, Nat.reduceLT, Nat.reduceSub, Int.reduceLT, Int.reduceLE, Int.reduceEq, Int.reduceNeg, Int.reduceAdd, Int.reduceSub, Int.reduceMul, m3, gs_meth]
  refine Gv.imp a3 ?_
  rintro _ _ ⟨rfl, rfl⟩
  refine hN _ _ ?_; try clear hN
  refine gs_stK fun N hN => ?_; simp only [↓wA, ↓wY, wB, wC, ↓reduceIte, reduceCtorEq, Nat.reduceAdd, Nat.reduceLeDiff, Nat.reduceLT, Nat.reduceSub, Int.reduceLT, Int.reduceLE, Int.reduceEq, Int.reduceNeg, Int.reduceAdd, Int.reduceSub, Int.reduceMul, m4, gs_meth]
  refine Gv.imp a4 ?_
  rintro _ _ ⟨rfl, rfl⟩
  refine hN _ _ ?_; try clear hN
  refine gs_stK fun N hN => ?_; simp only [↓wA, ↓wY, wB, wC, ↓reduceIte, reduceCtorEq, Nat.reduceAdd, Nat.reduceLeDiff, Nat.reduceLT, Nat.reduceSub, Int.reduceLT, Int.reduceLE, Int.reduceEq, Int.reduceNeg, Int.reduceAdd, Int.reduceSub, Int.reduceMul, m5, gs_meth]
  refine Gv.imp a5 ?_
  rintro _ _ ⟨rfl, rfl⟩
  refine hN _ _ ?_; try clear hN
  refine gs_stK fun N hN => ?_; simp only [↓wA, ↓wY, wB, wC, ↓reduceIte, reduceCtorEq, Nat.reduceAdd, Nat.reduceLeDiff, Nat.reduceLT, Nat.reduceSub, Int.reduceLT, Int.reduceLE, Int.reduceEq, Int.reduceNeg, Int.reduceAdd, Int.reduceSub, Int.reduceMul]
  repeat refine And.intro (by first | omega | exact Lb.mul_lt (by omega) (by omega) (by omega) (by omega) | decide) ?_
  refine hR _ _ ⟨rfl, ?_⟩
  congr 2
  simp only [List.length_append, List.length_cons, List.length_nil]
  omega
theorem function_ok (hn : SgT T) (hl : z.length ≤ 1000000) {n : Nat} (ih : WoS T z n) {s : Str} {ws : WL} (hs : isNmS s = true) (hp : ws.p ≤ n) (hn100 : n ≤ 100) (ho : ws.Ok) {pre post : List Nat} (hz : TL.tl z = pre ++ (TL.tl (W.fn s ws).t ++ post)) {k i : Nat} {S : List Ob} (hS : S[i]? = some (sg z pre.length)) (hk : 2 * n + 5 ≤ k) :
    Gv (T.at_ (k + 1) ("Signs", some "function") [.obj i]) S (fun y S' => y = (W.fn s ws).D ∧ S' = S.set i (sg z (pre.length + (TL.tl (W.fn s ws).t).length))) := by
  obtain ⟨k, rfl⟩ : ∃ q, k = q + 2 := ⟨k - 2, by omega⟩
  have hT := hn.function
  have hfu := hn.fuel
  obtain ⟨_, _, _, _, hch⟩ := nm_head hs
  have hsl := (nmS_len hs).2
  rw [TL.len_tl] at hsl
  rw [W.t, fn_tl, join_tl] at hz ⊢
  generalize hJ : TL.joinL [44] (ws.t.map TL.tl) = J at hz ⊢
  have z1 : TL.tl z = pre ++ (TL.tl s ++ 40 :: (J ++ 41 :: post)) := by rw [hz]; simp
  have z2 : TL.tl z = (pre ++ TL.tl s) ++ 40 :: (J ++ 41 :: post) := by rw [z1]; simp
  have m1 := meth_s (k := k + 2) hS hn.mRu (by decide +kernel) (by decide +kernel)
  have hLF : ("abcdefghijklmnopqrstuvwxyz" ++ "0123456789" : Str).cps.toList = az ++ d09 := app_toList
  have a1 := run_ok (k := k) hn (so := "abcdefghijklmnopqrstuvwxyz" ++ "0123456789") z1 hl (fun c hc => by
    rw [hLF]
    exact List.mem_append.mpr (hch c hc)) (by omega) (fun c r e => by
    rw [hLF]
    have := (List.cons.inj e).1
    rw [← this]
    intro h
    rcases List.mem_append.mp h with h | h
    · exact c40.1 h
    · exact c40.2 h) hS
  have h1 : (S.set i (sg z (pre.length + (TL.tl s).length)))[i]? = some (sg z (pre ++ TL.tl s).length) := by rw [List.length_append]; exact get_sg hS
  have m2 := meth_s (k := k + 2) h1 hn.mNe (by decide +kernel) (by decide +kernel)
  have a2 := need_ok (k := k) hn (s := "(") rfl z2 hl h1
  rw [List.set_set] at a2
  obtain ⟨p3, hp3⟩ : ∃ p3, p3 = pre ++ TL.tl s ++ [40] := ⟨_, rfl⟩
  have hl3 : (pre ++ TL.tl s).length + 1 = p3.length := by rw [hp3]; simp only [List.length_append, List.length_cons, List.length_nil]
  rw [hl3] at a2
  have z3 : TL.tl z = p3 ++ (J ++ 41 :: post) := by rw [z1, hp3]; simp
  have h3 : (S.set i (sg z p3.length))[i]? = some (sg z p3.length) := get_sg hS
  have m3 := meth_s (k := k + 2) h3 hn.mSi (by decide +kernel) (by decide +kernel)
  have hl26 : ("abcdefghijklmnopqrstuvwxyz" : Str).length + ("0123456789" : Str).length ≤ 16777216 := by decide +kernel
  have hLg := hn.L
  have hFg := hn.F
  have mk_s : (⟨(TL.tl s).toArray⟩ : Str) = s := TL.mk_tl s
  refine has_runK hT rfl fun R hR => ?_; simp only [List.map_cons, List.map_nil, List.replicate, List.cons_append, List.nil_append, Nat.reduceSub]
  refine gs_stK fun N hN => ?_; simp only [↓wA, ↓wY, wB, wC, ↓reduceIte, reduceCtorEq, Nat.reduceAdd, Nat.reduceLeDiff, Nat.reduceLT, Nat.reduceSub, Int.reduceLT, Int.reduceLE, Int.reduceEq, Int.reduceNeg, Int.reduceAdd, Int.reduceSub, Int.reduceMul, m1, gs_meth, hLg, hFg]
  refine ⟨hl26, ?_⟩
  refine Gv.imp a1 ?_
  rintro _ _ ⟨rfl, rfl⟩
  rw [mk_s]
  refine hN _ _ ?_; try clear hN
  refine gs_stK fun N hN => ?_; simp only [↓wA, ↓wY, wB, wC, ↓reduceIte, reduceCtorEq, Nat.reduceAdd, Nat.reduceLeDiff, Nat.reduceLT, Nat.reduceSub, Int.reduceLT, Int.reduceLE, Int.reduceEq, Int.reduceNeg, Int.reduceAdd, Int.reduceSub, Int.reduceMul, m2, gs_meth]
  refine Gv.imp a2 ?_
  rintro _ _ ⟨rfl, rfl⟩
  refine hN _ _ ?_; try clear hN
  refine gs_stK fun N hN => ?_; simp only [↓wA, ↓wY, wB, wC, ↓reduceIte, reduceCtorEq, Nat.reduceAdd, Nat.reduceLeDiff, Nat.reduceLT, Nat.reduceSub, Int.reduceLT, Int.reduceLE, Int.reduceEq, Int.reduceNeg, Int.reduceAdd, Int.reduceSub, Int.reduceMul]
  repeat refine And.intro (by first | omega | exact Lb.mul_lt (by omega) (by omega) (by omega) (by omega) | decide) ?_
  refine hN _ _ ?_; try clear hN
  -- the end: all worths are read
  have fin : ∀ (N : Sl → List Ob → Prop), (∀ τ' S', Gs_ (evSs (T.gs (k + 2)) (stsOf [
      .expr (.meth "need" (.loc 0) (esOf [(.cst (.str ")"))])),
      .ret (.tup (esOf [(.cst (.str "fn")), (.loc 1), (.bi .tuple (esOf [(.rd 2)]))]))]) τ' S') (fun _ S' => R .non S') R → N τ' S') → ∀ q : Nat, q = (p3 ++ J).length → N [.val (.obj i), .val (.str s), .own ws.D] (S.set i (sg z q)) := fun N hN q hq => by
    obtain ⟨p9, hp9⟩ : ∃ p, p = p3 ++ J := ⟨_, rfl⟩
    have z9 : TL.tl z = p9 ++ 41 :: post := by rw [z3, hp9]; simp
    rw [← hp9] at hq
    subst hq
    have h9 : (S.set i (sg z p9.length))[i]? = some (sg z p9.length) := get_sg hS
    have m9 := meth_s (k := k + 2) h9 hn.mNe (by decide +kernel) (by decide +kernel)
    have a9 := need_ok (k := k) hn (s := ")") rfl z9 hl h9
    rw [List.set_set] at a9
    refine hN _ _ ?_; try clear hN
    refine gs_stK fun N hN => ?_; simp only [↓wA, ↓wY, wB, wC, ↓reduceIte, reduceCtorEq, Nat.reduceAdd, Nat.reduceLeDiff, Nat.reduceLT, Nat.reduceSub, Int.reduceLT, Int.reduceLE, Int.reduceEq, Int.reduceNeg, Int.reduceAdd, Int.reduceSub, Int.reduceMul, m9, gs_meth]
    refine Gv.imp a9 ?_
    rintro _ _ ⟨rfl, rfl⟩
    refine hN _ _ ?_; try clear hN
    refine gs_stK fun N hN => ?_; simp only [↓wA, ↓wY, wB, wC, ↓reduceIte, reduceCtorEq, Nat.reduceAdd, Nat.reduceLeDiff, Nat.reduceLT, Nat.reduceSub, Int.reduceLT, Int.reduceLE, Int.reduceEq, Int.reduceNeg, Int.reduceAdd, Int.reduceSub, Int.reduceMul]
    repeat refine And.intro (by first | omega | exact Lb.mul_lt (by omega) (by omega) (by omega) (by omega) | decide) ?_
    refine hR _ _ ⟨by rw [W.D], ?_⟩
    congr 2
    rw [hp9, hp3]
    simp only [List.length_append, List.length_cons, List.length_nil]
    omega
  cases ws with
  | nil =>
    have hJ0 : J = [] := by rw [← hJ, WL.t]; rfl
    subst hJ0
    rw [List.nil_append] at z3
    have es := fun (Q : D → List Ob → Prop) (E : Exc → List Ob → Prop) => gv_ok (Q := Q) (E := E) (sign_ok (k := k + 1) hn z3 hl h3)
    have e1 : nx (41 :: post) = ")" := rfl
    refine gs_stK fun N hN => ?_; simp only [↓wA, ↓wY, wB, wC, ↓reduceIte, reduceCtorEq, Nat.reduceAdd, Nat.reduceLeDiff, Nat.reduceLT, Nat.reduceSub, Int.reduceLT, Int.reduceLE, Int.reduceEq, Int.reduceNeg, Int.reduceAdd, Int.reduceSub, Int.reduceMul, m3, gs_meth, es, e1]
    refine gs_st0K ?_
    have := fin N hN p3.length (by simp)
    rw [WL.D] at this
    exact this
  | cons w ws =>
    rw [WL.p] at hp
    rw [WL.Ok] at ho
    have hJ1 : J = TL.tl w.t ++ restL ws := by rw [← hJ, WL.t, join_rest]
    obtain ⟨c, r, hc, hhd⟩ := hd_of ho.1
    have z3' : TL.tl z = p3 ++ (TL.tl w.t ++ (restL ws ++ 41 :: post)) := by rw [z3, hJ1]; simp
    have z3c : TL.tl z = p3 ++ c :: (r ++ (restL ws ++ 41 :: post)) := by rw [z3', hc]; simp
    have es := fun (Q : D → List Ob → Prop) (E : Exc → List Ob → Prop) => gv_ok (Q := Q) (E := E) (sign_ok (k := k + 1) hn z3c hl h3)
    have e1 : (nx (c :: (r ++ (restL ws ++ 41 :: post))) = ")") = False := one_ne (hd_ne hhd)
    have m4 := meth_s (k := k + 2) h3 hn.mWo (by decide +kernel) (by decide +kernel)
    have a4 := ih w (by omega) ho.1 p3 _ z3' (stop_rest ws post) (k + 2) i _ h3 hk
    rw [List.set_set] at a4
    refine gs_stK fun N hN => ?_; simp only [↓wA, ↓wY, wB, wC, ↓reduceIte, reduceCtorEq, Nat.reduceAdd, Nat.reduceLeDiff, Nat.reduceLT, Nat.reduceSub, Int.reduceLT, Int.reduceLE, Int.reduceEq, Int.reduceNeg, Int.reduceAdd, Int.reduceSub, Int.reduceMul, m3, gs_meth, es, e1]
    refine gs_stK fun Nb hNb => ?_; simp only [↓wA, ↓wY, wB, wC, ↓reduceIte, reduceCtorEq, Nat.reduceAdd, Nat.reduceLeDiff, Nat.reduceLT, Nat.reduceSub, Int.reduceLT, Int.reduceLE, Int.reduceEq, Int.reduceNeg, Int.reduceAdd, Int.reduceSub, Int.reduceMul, m4, gs_meth]
    refine Gv.imp a4 ?_
    rintro _ _ ⟨rfl, rfl⟩
    repeat refine And.intro (by first | omega | exact Lb.mul_lt (by omega) (by omega) (by omega) (by omega) | decide) ?_
    refine hNb _ _ ?_; try clear hNb
    refine gs_stK fun Nb hNb => ?_; simp only [↓wA, ↓wY, wB, wC, ↓reduceIte, reduceCtorEq, Nat.reduceAdd, Nat.reduceLeDiff, Nat.reduceLT, Nat.reduceSub, Int.reduceLT, Int.reduceLE, Int.reduceEq, Int.reduceNeg, Int.reduceAdd, Int.reduceSub, Int.reduceMul]
    rw [gs_fuel]
    have hwl := ws.len_p
    refine gs_whl (fun mm τ S' => ∃ (xs : List D) (vs : WL) (pp : List Nat), (WL.cons w ws).D = xs ++ vs.D ∧ xs.length + vs.L.length ≤ 200 ∧ mm = vs.L.length ∧ vs.p ≤ ws.p ∧ vs.Ok ∧ TL.tl z = pp ++ (restL vs ++ 41 :: post) ∧ pp ++ restL vs = p3 ++ J ∧ τ = [.val (.obj i), .val (.str s), .own xs] ∧ S' = S.set i (sg z pp.length)) ?_ (m := ws.L.length) (by omega) ⟨[w.D], ws, p3 ++ TL.tl w.t, by rw [WL.D]; rfl, by simp; omega, rfl, Nat.le_refl _, ho.2, by rw [z3']; simp, by rw [hJ1]; simp, rfl, by rw [List.length_append]⟩
    rintro mm τ S' ⟨xs, vs, pp, hx, hxl, rfl, hvp, hvo, hzz, hpp, rfl, rfl⟩
    have hS' : (S.set i (sg z pp.length))[i]? = some (sg z pp.length) := get_sg hS
    have mS := meth_s (k := k + 2) hS' hn.mSi (by decide +kernel) (by decide +kernel)
    cases vs with
    | nil =>
      rw [restL, List.nil_append] at hzz
      rw [restL, List.append_nil] at hpp
      have es := fun (Q : D → List Ob → Prop) (E : Exc → List Ob → Prop) => gv_ok (Q := Q) (E := E) (sign_ok (k := k + 1) hn hzz hl hS')
      have e1 : (nx (41 :: post) = ",") = False := one_ne (by decide)
      try simp only [↓wA, ↓wY, wB, wC, ↓reduceIte, reduceCtorEq, Nat.reduceAdd, Nat.reduceLeDiff, Nat.reduceLT, Nat.reduceSub, Int.reduceLT, Int.reduceLE, Int.reduceEq, Int.reduceNeg, Int.reduceAdd, Int.reduceSub, Int.reduceMul, mS, gs_meth, es, e1]
      refine hNb _ _ ?_; try clear hNb
      refine gs_st0K ?_
      have := fin N hN pp.length (by rw [hpp])
      rw [hx, WL.D, List.append_nil] at this
      exact this
    | cons v vs =>
      rw [WL.p] at hvp
      rw [WL.Ok] at hvo
      rw [WL.L, List.length_cons] at hxl
      rw [restL] at hzz hpp
      have zz1 : TL.tl z = pp ++ 44 :: (TL.tl v.t ++ (restL vs ++ 41 :: post)) := by rw [hzz]; simp
      have zz2 : TL.tl z = (pp ++ [44]) ++ (TL.tl v.t ++ (restL vs ++ 41 :: post)) := by rw [zz1]; simp
      have es := fun (Q : D → List Ob → Prop) (E : Exc → List Ob → Prop) => gv_ok (Q := Q) (E := E) (sign_ok (k := k + 1) hn zz1 hl hS')
      have e1 : nx (44 :: (TL.tl v.t ++ (restL vs ++ 41 :: post))) = "," := rfl
      have mN := meth_s (k := k + 2) hS' hn.mNe (by decide +kernel) (by decide +kernel)
      have aN := need_ok (k := k) hn (s := ",") rfl zz1 hl hS'
      rw [List.set_set] at aN
      obtain ⟨pq, hpq⟩ : ∃ p, p = pp ++ [44] := ⟨_, rfl⟩
      rw [← hpq] at zz2
      have hl1 : pp.length + 1 = pq.length := by rw [hpq]; simp
      rw [hl1] at aN
      have hS2 : (S.set i (sg z pq.length))[i]? = some (sg z pq.length) := get_sg hS
      have mW := meth_s (k := k + 2) hS2 hn.mWo (by decide +kernel) (by decide +kernel)
      have aW := ih v (by omega) hvo.1 _ _ zz2 (stop_rest vs post) (k + 2) i _ hS2 hk
      rw [List.set_set] at aW
      try simp only [↓wA, ↓wY, wB, wC, ↓reduceIte, reduceCtorEq, Nat.reduceAdd, Nat.reduceLeDiff, Nat.reduceLT, Nat.reduceSub, Int.reduceLT, Int.reduceLE, Int.reduceEq, Int.reduceNeg, Int.reduceAdd, Int.reduceSub, Int.reduceMul, mS, gs_meth, es, e1]
      refine gs_stK fun Nc hNc => ?_; simp only [↓wA, ↓wY, wB, wC, ↓reduceIte, reduceCtorEq, Nat.reduceAdd, Nat.reduceLeDiff, Nat.reduceLT, Nat.reduceSub, Int.reduceLT, Int.reduceLE, Int.reduceEq, Int.reduceNeg, Int.reduceAdd, Int.reduceSub, Int.reduceMul, mN, gs_meth]
      refine Gv.imp aN ?_
      rintro _ _ ⟨rfl, rfl⟩
      refine hNc _ _ ?_; try clear hNc
      refine gs_stK fun Nc hNc => ?_; simp only [↓wA, ↓wY, wB, wC, ↓reduceIte, reduceCtorEq, Nat.reduceAdd, Nat.reduceLeDiff, Nat.reduceLT, Nat.reduceSub, Int.reduceLT, Int.reduceLE, Int.reduceEq, Int.reduceNeg, Int.reduceAdd, Int.reduceSub, Int.reduceMul, mW, gs_meth]
      refine Gv.imp aW ?_
      rintro _ _ ⟨rfl, rfl⟩
      repeat refine And.intro (by first | omega | exact Lb.mul_lt (by omega) (by omega) (by omega) (by omega) | decide) ?_
      refine hNc _ _ ?_; try clear hNc
      refine gs_st0K ?_
      refine ⟨vs.L.length, by rw [WL.L, List.length_cons]; omega, xs ++ [v.D], vs, pq ++ TL.tl v.t, ?_, by simp; omega, rfl, by omega, hvo.2, by rw [zz2]; simp, by rw [← hpp, hpq]; simp, rfl, by rw [List.length_append]⟩
      rw [hx, WL.D]
      simp
theorem worth_ok (hn : SgT T) (hl : z.length ≤ 1000000) : ∀ n, n ≤ 100 → WoS T z n
  | 0, _ => fun w h => by have := w.p_pos; omega
  | n + 1, h100 => by
    have ih := worth_ok hn hl n (by omega)
    intro w hw ho pre post hz hst k i S hS hk
    obtain ⟨k, rfl⟩ : ∃ q, k = q + 2 := ⟨k - 2, by omega⟩
    have hT := hn.worth
    obtain ⟨c, r, hc, hhd⟩ := hd_of ho
    have zc : TL.tl z = pre ++ c :: (r ++ post) := by rw [hz, hc]; simp
    have m1 := meth_s (k := k + 1) hS hn.mSi (by decide +kernel) (by decide +kernel)
    have es := fun (Q : D → List Ob → Prop) (E : Exc → List Ob → Prop) => gv_ok (Q := Q) (E := E) (sign_ok (k := k) hn zc hl hS)
    have e0 : nx (c :: (r ++ post)) = ⟨#[c]⟩ := rfl
    have hLg := hn.L
    have n0 : ((⟨#[c]⟩ : Str) = "") = False := eq_false fun e => by
      have := congrArg TL.tl e
      cases this
    refine has_runK hT rfl fun R hR => ?_; simp only [List.map_cons, List.map_nil, List.replicate, List.cons_append, List.nil_append, Nat.reduceSub]
    refine gs_stK fun N hN => ?_; simp only [↓wA, ↓wY, wB, wC, ↓reduceIte, reduceCtorEq, Nat.reduceAdd, Nat.reduceLeDiff, Nat.reduceLT, Nat.reduceSub, Int.reduceLT, Int.reduceLE, Int.reduceEq, Int.reduceNeg, Int.reduceAdd, Int.reduceSub, Int.reduceMul, m1, gs_meth, es, e0]
    refine hN _ _ ?_; try clear hN
    cases hhd with
    | num hd =>
      rename_i v
      rw [show (W.int v).t = toString v by rw [W.t], tl_int] at hz hR
      rw [W.Ok] at ho
      rw [W.D] at hR
      have mN := meth_s (k := k + 1) hS hn.mNu (by decide +kernel) (by decide +kernel)
      have e1 : ((⟨#[c]⟩ : Str) = "[") = False := one_ne (b := 91) (by omega)
      have hnl : decide (c ∈ ("abcdefghijklmnopqrstuvwxyz" : Str).cps.toList) = false := decide_eq_false fun h => by have := az_le h; omega
      obtain ⟨k, rfl⟩ : ∃ q, k = q + 2 := ⟨k - 2, by omega⟩
      refine gs_stK fun N hN => ?_; simp only [↓wA, ↓wY, wB, wC, ↓reduceIte, reduceCtorEq, Nat.reduceAdd, Nat.reduceLeDiff, Nat.reduceLT, Nat.reduceSub, Int.reduceLT, Int.reduceLE, Int.reduceEq, Int.reduceNeg, Int.reduceAdd, Int.reduceSub, Int.reduceMul, e1]
      refine gs_st0K ?_
      refine hN _ _ ?_; try clear hN
      refine gs_stK fun N hN => ?_; simp only [↓wA, ↓wY, wB, wC, ↓reduceIte, reduceCtorEq, Nat.reduceAdd, Nat.reduceLeDiff, Nat.reduceLT, Nat.reduceSub, Int.reduceLT, Int.reduceLE, Int.reduceEq, Int.reduceNeg, Int.reduceAdd, Int.reduceSub, Int.reduceMul, n0, hLg, n_ch, hnl]
      refine gs_st0K ?_
      refine hN _ _ ?_; try clear hN
      refine gs_stK fun N hN => ?_; simp only [↓wA, ↓wY, wB, wC, ↓reduceIte, reduceCtorEq, Nat.reduceAdd, Nat.reduceLeDiff, Nat.reduceLT, Nat.reduceSub, Int.reduceLT, Int.reduceLE, Int.reduceEq, Int.reduceNeg, Int.reduceAdd, Int.reduceSub, Int.reduceMul, mN, gs_meth]
      refine Gv.imp (number_ok (k := k) hn ho.1 ho.2 hz hl hst hS) ?_
      rintro _ _ ⟨rfl, rfl⟩
      exact hR _ _ ⟨rfl, rfl⟩
    | pair =>
      rename_i a b
      rw [W.p] at hw
      rw [W.Ok] at ho
      rw [show (W.pair a b).t = "[" ++ a.t ++ "," ++ b.t ++ "]" by rw [W.t], pair_tl] at hz hR
      rw [W.D] at hR
      have mP := meth_s (k := k + 1) hS hn.mPa (by decide +kernel) (by decide +kernel)
      have e1 : (⟨#[91]⟩ : Str) = "[" := rfl
      refine gs_stK fun N hN => ?_; simp only [↓wA, ↓wY, wB, wC, ↓reduceIte, reduceCtorEq, Nat.reduceAdd, Nat.reduceLeDiff, Nat.reduceLT, Nat.reduceSub, Int.reduceLT, Int.reduceLE, Int.reduceEq, Int.reduceNeg, Int.reduceAdd, Int.reduceSub, Int.reduceMul, e1]
      refine gs_stK fun Nb hNb => ?_; simp only [↓wA, ↓wY, wB, wC, ↓reduceIte, reduceCtorEq, Nat.reduceAdd, Nat.reduceLeDiff, Nat.reduceLT, Nat.reduceSub, Int.reduceLT, Int.reduceLE, Int.reduceEq, Int.reduceNeg, Int.reduceAdd, Int.reduceSub, Int.reduceMul, mP, gs_meth]
      refine Gv.imp (pair_ok hn hl ih (by omega) (by omega) ho.1 ho.2 hz hS (k := k) (by omega)) ?_
      rintro _ _ ⟨rfl, rfl⟩
      exact hR _ _ ⟨rfl, rfl⟩
    | fn hd =>
      rename_i s ws
      rw [W.p] at hw
      rw [W.Ok] at ho
      have mF := meth_s (k := k + 1) hS hn.mFu (by decide +kernel) (by decide +kernel)
      have e1 : ((⟨#[c]⟩ : Str) = "[") = False := one_ne (b := 91) (by have := az_le hd; omega)
      have hnl : decide (c ∈ ("abcdefghijklmnopqrstuvwxyz" : Str).cps.toList) = true := decide_eq_true hd
      refine gs_stK fun N hN => ?_; simp only [↓wA, ↓wY, wB, wC, ↓reduceIte, reduceCtorEq, Nat.reduceAdd, Nat.reduceLeDiff, Nat.reduceLT, Nat.reduceSub, Int.reduceLT, Int.reduceLE, Int.reduceEq, Int.reduceNeg, Int.reduceAdd, Int.reduceSub, Int.reduceMul, e1]
      refine gs_st0K ?_
      refine hN _ _ ?_; try clear hN
      refine gs_stK fun N hN => ?_; simp only [↓wA, ↓wY, wB, wC, ↓reduceIte, reduceCtorEq, Nat.reduceAdd, Nat.reduceLeDiff, Nat.reduceLT, Nat.reduceSub, Int.reduceLT, Int.reduceLE, Int.reduceEq, Int.reduceNeg, Int.reduceAdd, Int.reduceSub, Int.reduceMul, n0, hLg, n_ch, hnl]
      refine gs_stK fun Nb hNb => ?_; simp only [↓wA, ↓wY, wB, wC, ↓reduceIte, reduceCtorEq, Nat.reduceAdd, Nat.reduceLeDiff, Nat.reduceLT, Nat.reduceSub, Int.reduceLT, Int.reduceLE, Int.reduceEq, Int.reduceNeg, Int.reduceAdd, Int.reduceSub, Int.reduceMul, mF, gs_meth]
      refine Gv.imp (function_ok hn hl ih ho.1 (by omega) (by omega) ho.2 hz hS (k := k) (by omega)) ?_
      rintro _ _ ⟨rfl, rfl⟩
      exact hR _ _ ⟨rfl, rfl⟩
end
end Wt
set_option Elab.async false
set_option linter.all false
set_option maxRecDepth 100000
set_option maxHeartbeats 8000000
namespace Sv
open PySem L2 Ev Lb
def ir_law_same : Sms := (stsOf [
  .ife (.or (.isi (.loc 1) .tuple) (.isi (.loc 1) .list)) (stsOf [
    .ife (.or (.cmp .ne (.isi (.loc 0) .tuple) (.isi (.loc 1) .tuple)) (.cmp .ne (.isi (.loc 0) .list) (.isi (.loc 1) .list))) (stsOf [
      .ret (.cst (.bl false))]) (stsOf []),
    .ret (.and (.cmp .eq (.bi .len (esOf [(.loc 0)])) (.bi .len (esOf [(.loc 1)]))) (.bi .all (esOf [(.compZ (.call "_law_same" (esOf [(.loc 2), (.loc 3)])) [2, 3] (.tup [2, 3]) (.loc 0) (.loc 1) .none)])))]) (stsOf []),
  .ife (.or (.isi (.loc 1) .bool) (.isi (.loc 1) .int)) (stsOf [
    .ret (.and (.isi (.loc 0) .int) (.and (.cmp .eq (.isi (.loc 0) .bool) (.isi (.loc 1) .bool)) (.cmp .eq (.loc 0) (.loc 1))))]) (stsOf []),
  .ret (.and (.isi (.loc 0) .str) (.and (.isi (.loc 1) .str) (.cmp .eq (.loc 0) (.loc 1))))])
theorem gv_gdF {α : Type} {l : List (Nat × List D)} {f : D → M α} {x : D} {S : List Ob} {Q : α → List Ob → Prop} {E : Exc → List Ob → Prop} (h : Gv (f x) S (fun o S' => gdS l S' = true ∧ Q o S') E) : Gv (gdF l f x) S Q E := by
  unfold Gv at h
  unfold gdF Gv
  dsimp only
  cases z : f x S with
  | ok o S' =>
    rw [z] at h
    dsimp only at h ⊢
    rw [if_pos h.1]
    exact h.2
  | exc e S' => rw [z] at h; exact h
  | bad => rw [z] at h; exact h
/-- each once, where it first stands -/
theorem all_same {α : Type} (xs : List α) : bfS S .all [.lst (xs.map fun _ => D.bl true)] = some (.bl true) := by
  have := f_all (S := S) (xs.map fun _ => true)
  rw [List.map_map] at this
  refine this.trans ?_
  congr 2
  rw [List.all_map]
  exact List.all_eq_true.mpr fun _ _ => rfl
section
variable {T : Tab} {S : List Ob} {k : Nat}
theorem same_s (hT : Has T ("_law_same", none) 2 4 ir_law_same) {a : Str} (hk : 1 ≤ k) : T.at_ k ("_law_same", none) [.str a, .str a] S = .ok (.bl true) S := by
  obtain ⟨k, rfl⟩ : ∃ q, k = q + 1 := ⟨k - 1, by omega⟩
  rw [gv_eq]
  refine has_runK hT rfl fun R hR => ?_; simp only [List.map_cons, List.map_nil, List.replicate, List.cons_append, List.nil_append, Nat.reduceSub]
  refine gs_stK fun N hN => ?_; simp only [↓wA, ↓wY, wB, wC, ↓reduceIte, reduceCtorEq, Nat.reduceAdd, Nat.reduceLeDiff, Nat.reduceLT, Nat.reduceSub, Int.reduceLT, Int.reduceLE, Int.reduceEq, Int.reduceNeg, Int.reduceAdd, Int.reduceSub, Int.reduceMul]
  refine gs_st0K ?_
  refine hN _ _ ?_; try clear hN
  refine gs_stK fun N hN => ?_; simp only [↓wA, ↓wY, wB, wC, ↓reduceIte, reduceCtorEq, Nat.reduceAdd, Nat.reduceLeDiff, Nat.reduceLT, Nat.reduceSub, Int.reduceLT, Int.reduceLE, Int.reduceEq, Int.reduceNeg, Int.reduceAdd, Int.reduceSub, Int.reduceMul]
  refine gs_st0K ?_
  refine hN _ _ ?_; try clear hN
  refine gs_stK fun N hN => ?_; simp only [↓wA, ↓wY, wB, wC, ↓reduceIte, reduceCtorEq, Nat.reduceAdd, Nat.reduceLeDiff, Nat.reduceLT, Nat.reduceSub, Int.reduceLT, Int.reduceLE, Int.reduceEq, Int.reduceNeg, Int.reduceAdd, Int.reduceSub, Int.reduceMul]
  exact hR _ _ ⟨rfl, rfl⟩
theorem zipD_self : ∀ xs : List D, zipD xs xs = xs.map fun x => .tup [x, x]
  | [] => rfl
  | x :: xs => by rw [zipD, zipD_self xs]; rfl
theorem same_all (hT : Has T ("_law_same", none) 2 4 ir_law_same) {w : Nat} (hw : w ≤ 1000000) : ∀ (h : Nat) (x : D), TS w h x → ∀ (k : Nat) (S : List Ob), h + 1 ≤ k → T.at_ k ("_law_same", none) [x, x] S = .ok (.bl true) S := by
  intro h
  induction h with
  | zero => intro x hx; exact hx.elim
  | succ h ih =>
    intro x hx k S hk
    obtain ⟨k, rfl⟩ : ∃ q, k = q + 1 := ⟨k - 1, by omega⟩
    cases x with
    | str s => exact same_s hT (by omega)
    | int v =>
      rw [gv_eq]
      refine has_runK hT rfl fun R hR => ?_; simp only [List.map_cons, List.map_nil, List.replicate, List.cons_append, List.nil_append, Nat.reduceSub]
      refine gs_stK fun N hN => ?_; simp only [↓wA, ↓wY, wB, wC, ↓reduceIte, reduceCtorEq, Nat.reduceAdd, Nat.reduceLeDiff, Nat.reduceLT, Nat.reduceSub, Int.reduceLT, Int.reduceLE, Int.reduceEq, Int.reduceNeg, Int.reduceAdd, Int.reduceSub, Int.reduceMul]
      refine gs_st0K ?_
      refine hN _ _ ?_; try clear hN
      refine gs_stK fun N hN => ?_; simp only [↓wA, ↓wY, wB, wC, ↓reduceIte, reduceCtorEq, Nat.reduceAdd, Nat.reduceLeDiff, Nat.reduceLT, Nat.reduceSub, Int.reduceLT, Int.reduceLE, Int.reduceEq, Int.reduceNeg, Int.reduceAdd, Int.reduceSub, Int.reduceMul]
      refine gs_stK fun Nb hNb => ?_; simp only [↓wA, ↓wY, wB, wC, ↓reduceIte, reduceCtorEq, Nat.reduceAdd, Nat.reduceLeDiff, Nat.reduceLT, Nat.reduceSub, Int.reduceLT, Int.reduceLE, Int.reduceEq, Int.reduceNeg, Int.reduceAdd, Int.reduceSub, Int.reduceMul]
      exact hR _ _ ⟨rfl, rfl⟩
    | tup xs =>
      obtain ⟨hl, hx⟩ := hx
      have hz : zipG S (.tup xs) (.tup xs) = some (xs.map fun x => D.tup [x, x], []) := by
        unfold zipG
        dsimp only
        rw [zipD_self]
      rw [gv_eq]
      refine has_runK hT rfl fun R hR => ?_; simp only [List.map_cons, List.map_nil, List.replicate, List.cons_append, List.nil_append, Nat.reduceSub]
      refine gs_stK fun N hN => ?_; simp only [↓wA, ↓wY, wB, wC, ↓reduceIte, reduceCtorEq, Nat.reduceAdd, Nat.reduceLeDiff, Nat.reduceLT, Nat.reduceSub, Int.reduceLT, Int.reduceLE, Int.reduceEq, Int.reduceNeg, Int.reduceAdd, Int.reduceSub, Int.reduceMul]
      refine gs_stK fun Nb hNb => ?_; simp only [↓wA, ↓wY, wB, wC, ↓reduceIte, reduceCtorEq, Nat.reduceAdd, Nat.reduceLeDiff, Nat.reduceLT, Nat.reduceSub, Int.reduceLT, Int.reduceLE, Int.reduceEq, Int.reduceNeg, Int.reduceAdd, Int.reduceSub, Int.reduceMul]
      refine gs_st0K ?_
      refine hNb _ _ ?_; try clear hNb
      refine gs_stK fun Nb hNb => ?_; simp only [↓wA, ↓wY, wB, wC, ↓reduceIte, reduceCtorEq, Nat.reduceAdd, Nat.reduceLeDiff, Nat.reduceLT, Nat.reduceSub, Int.reduceLT, Int.reduceLE, Int.reduceEq, Int.reduceNeg, Int.reduceAdd, Int.reduceSub, Int.reduceMul, hz]
      refine ⟨by show xs.length ≤ 16777216; omega, gv_collectM xs (fun x => D.tup [x, x]) (fun _ => .bl true) (fun a ha => ?_) ?_⟩
      · have es := fun (Q : D → List Ob → Prop) (E : Exc → List Ob → Prop) => gv_ok (Q := Q) (E := E) (ih a (hx a ha) k S (by omega))
        refine gv_gdF ?_
        refine (cb_tup (by rfl)).mpr ?_
        try simp only [↓wA, ↓wY, wB, wC, ↓reduceIte, reduceCtorEq, Nat.reduceAdd, Nat.reduceLeDiff, Nat.reduceLT, Nat.reduceSub, Int.reduceLT, Int.reduceLE, Int.reduceEq, Int.reduceNeg, Int.reduceAdd, Int.reduceSub, Int.reduceMul, es]
        first | exact ⟨rfl, rfl, rfl⟩ | rfl
      try simp only [↓wA, ↓wY, wB, wC, ↓reduceIte, reduceCtorEq, Nat.reduceAdd, Nat.reduceLeDiff, Nat.reduceLT, Nat.reduceSub, Int.reduceLT, Int.reduceLE, Int.reduceEq, Int.reduceNeg, Int.reduceAdd, Int.reduceSub, Int.reduceMul, all_same]
      exact hR _ _ ⟨rfl, rfl⟩
    | _ => exact hx.elim
end
end Sv
set_option Elab.async false
set_option linter.all false
set_option maxRecDepth 100000
set_option maxHeartbeats 8000000
namespace Wt
open PySem L2 Ev Lb
def ir_law_long : Sms := (stsOf [
  .set (.one 2) (.ix (.lst (esOf [(.cst (.int 0)), (.bin .pow (.cst (.int 10)) (.cst (.int 30))), (.bin .sub (.cst (.int 0)) (.bin .pow (.cst (.int 10)) (.cst (.int 30)))), (.call "_law_draw" (esOf [(.loc 0), (.cst (.int 99))]))])) (.call "_law_draw" (esOf [(.loc 0), (.cst (.int 4))]))),
  .fo (.one 3) (.rng (.bin .fdiv (.bin .sub (.loc 1) (.cst (.int 1))) (.cst (.int 2)))) (stsOf [
    .set (.one 2) (.ix (.lst (esOf [(.tup (esOf [(.cst (.str "pair")), (.loc 2), (.loc 3)])), (.tup (esOf [(.cst (.str "pair")), (.loc 3), (.loc 2)]))])) (.call "_law_draw" (esOf [(.loc 0), (.cst (.int 2))])))]),
  .retO 2])
theorem W.ts : ∀ (n : Nat) (w : W), w.p ≤ n → w.p ≤ 900 → w.Ok → TS 1000 (2 * w.p) w.D := by
  intro n
  induction n with
  | zero => intro w h; have := w.p_pos; omega
  | succ n ih =>
    intro w hn hm ho
    have s8 : ∀ {k : Nat} (s : Str), s.length ≤ 8 → TS 1000 (k + 1) (.str s) := fun s h => Nat.le_trans h (by omega)
    cases w with
    | int v => rw [W.D, W.p]; trivial
    | pair a b =>
      rw [W.p] at hn hm
      rw [W.Ok] at ho
      have h1 := ih a (by omega) (by omega) ho.1
      have h2 := ih b (by omega) (by omega) ho.2
      rw [W.D, W.p, show 2 * (1 + a.p + b.p) = (2 * a.p + 2 * b.p + 1) + 1 by omega]
      exact .tup (by simp) (.cons (.cons (.cons .nil (h2.up (by omega))) (h1.up (by omega))) (s8 _ (by decide +kernel)))
    | fn s ws =>
      rw [W.p] at hn hm
      rw [W.Ok] at ho
      rw [W.D, W.p, show 2 * (1 + ws.p) = (2 * ws.p + 1) + 1 by omega]
      have hl := ws.len_p
      refine .tup (by simp) (.cons (.cons (.cons .nil (.tup (by rw [WL.D_L, List.length_map]; omega) fun x hx => ?_)) (s8 _ (nmS_len ho.1).2)) (s8 _ (by decide +kernel)))
      rw [WL.D_L] at hx
      obtain ⟨w, hw, rfl⟩ := List.mem_map.mp hx
      have := WL.mem_p hw
      exact (ih w (by omega) (by omega) (WL.mem_ok ho.2 hw)).up (by omega)
theorem W.cp_ok : ∀ (n : Nat) (w : W), w.p ≤ n → w.Ok → ∀ d, w.p ≤ d → cp d w.D = w.p := by
  intro n
  induction n with
  | zero => intro w h; have := w.p_pos; omega
  | succ n ih =>
    intro w hn ho d hd
    obtain ⟨d, rfl⟩ : ∃ q, d = q + 1 := ⟨d - 1, by have := w.p_pos; omega⟩
    cases w with
    | int v =>
      rw [W.Ok] at ho
      have hf : hasF (.int v) = true := by
        show isW 1000000000000000000000000000000 (.int v) = true
        unfold isW
        simp only [decide_eq_true_eq]
        omega
      rw [W.D, Lb.cp_ok hf, W.p]
      rfl
    | pair a b =>
      rw [W.p] at hn hd
      rw [W.Ok] at ho
      have hf : hasF (.tup [.str "pair", a.D, b.D]) = true := by
        rw [hasF_ne (by decide +kernel)]
        rfl
      rw [W.D, Lb.cp_ok hf, kids_pair, W.p, List.map_cons, List.map_cons, List.map_nil, ih a (by omega) ho.1 d (by omega), ih b (by omega) ho.2 d (by omega), List.sum_cons, List.sum_cons, List.sum_nil]
      omega
    | fn s ws =>
      rw [W.p] at hn hd
      rw [W.Ok] at ho
      have hf : hasF (.tup [.str "fn", .str s, .tup ws.D]) = true := by
        rw [hasF_fn, show isNm (.str s) = isNmS s from rfl, ho.1]
        rfl
      rw [W.D, Lb.cp_ok hf, kids_fn, W.p]
      congr 1
      have : ∀ vs : WL, vs.p ≤ n → vs.p ≤ d → vs.Ok → (vs.D.map (cp d)).sum = vs.p := by
        intro vs
        induction vs using WL.rec (motive_1 := fun _ => True) with
        | nil => intro _ _ _; rw [WL.D, WL.p]; rfl
        | cons w ws _ ih2 =>
          intro h1 h2 h3
          rw [WL.p] at h1 h2 ⊢
          rw [WL.Ok] at h3
          rw [WL.D, List.map_cons, List.sum_cons, ih w (by omega) h3.1 d (by omega), ih2 (by omega) (by omega) h3.2]
        | _ => trivial
      exact this ws (by omega) (by omega) ho.2
structure RdT (T : Tab) : Prop extends SgT T where
  G : T.glob "GREAT" = some (.int 1000000000000000000000000000000)
  P : T.glob "PARTS" = some (.int 60)
  nm : Has T ("is_name", none) 1 2 ir_is_name
  wh : Has T ("is_whole", none) 2 2 ir_is_whole
  form : Has T ("has_form", none) 1 1 ir_has_form
  win : Has T ("worths_in", none) 1 1 ir_worths_in
  isw : Has T ("is_worth", none) 1 4 ir_is_worth
  rd : Has T ("read_worth", none) 1 3 ir_read_worth
section
variable {T : Tab}
theorem is_worth_W (hn : RdT T) {w : W} (ho : w.Ok) (hp : w.p ≤ 60) {k : Nat} {S : List Ob} : T.at_ (k + 3) ("is_worth", none) [w.D] S = .ok (.bl true) S := by
  have h := Lb.is_worth hn.L hn.F hn.G hn.P hn.nm hn.wh hn.form hn.win hn.isw (by have := hn.fuel; omega) (k := k) (S := S) (w := 1000) (by omega) (by omega) (W.ts _ w (Nat.le_refl _) (by omega) ho).pl
  rw [W.cp_ok _ w (Nat.le_refl _) ho _ (by omega), decide_eq_true hp] at h
  exact h
theorem init_ok (hn : SgT T) {i k : Nat} {z : Str} {S : List Ob} (hS : S[i]? = some (.ins "Signs" [])) (hk : 1 ≤ k) : T.at_ k ("Signs", some "__init__") [.obj i, .str z] S = .ok .non (S.set i (sg z 0)) := by
  obtain ⟨k, rfl⟩ : ∃ q, k = q + 1 := ⟨k - 1, by omega⟩
  have hT := hn.init
  have : Gv (T.at_ (k + 1) ("Signs", some "__init__") [.obj i, .str z]) S (fun d S' => d = .non ∧ S' = S.set i (sg z 0)) := by
    refine has_runK hT rfl fun R hR => ?_; simp only [List.map_cons, List.map_nil, List.replicate, List.cons_append, List.nil_append, Nat.reduceSub]
    refine gs_stK fun N hN => ?_; simp only [↓wA, ↓wY, wB, wC, ↓reduceIte, reduceCtorEq, Nat.reduceAdd, Nat.reduceLeDiff, Nat.reduceLT, Nat.reduceSub, Int.reduceLT, Int.reduceLE, Int.reduceEq, Int.reduceNeg, Int.reduceAdd, Int.reduceSub, Int.reduceMul, ↓s_setF]
    unfold stFQ
    dsimp only
    rw [hS]
    dsimp only
    rw [gs_hasF]
    refine ⟨⟨by simp, hn.fS⟩, ?_⟩
    refine hN _ _ ?_; try clear hN
    refine gs_stK fun N hN => ?_; simp only [↓wA, ↓wY, wB, wC, ↓reduceIte, reduceCtorEq, Nat.reduceAdd, Nat.reduceLeDiff, Nat.reduceLT, Nat.reduceSub, Int.reduceLT, Int.reduceLE, Int.reduceEq, Int.reduceNeg, Int.reduceAdd, Int.reduceSub, Int.reduceMul, ↓s_setF]
    have h2 : (S.set i (.ins "Signs" (fPut "signs" (.str z) [])))[i]? = some (.ins "Signs" (fPut "signs" (.str z) [])) := List.getElem?_set_self (List.getElem?_eq_some_iff.mp hS).1
    unfold stFQ
    dsimp only
    rw [h2]
    dsimp only
    rw [gs_hasF]
    refine ⟨⟨by unfold fPut; simp, hn.fA⟩, ?_⟩
    refine hN _ _ ?_; try clear hN
    refine gs_st0K ?_
    refine hR _ _ ⟨rfl, ?_⟩
    rw [List.set_set]
    rfl
  unfold Gv at this
  split at this
  · rename_i d S' z
    obtain ⟨rfl, rfl⟩ := this
    exact z
  · exact this.elim
  · exact this.elim
theorem make_ok (hn : SgT T) {k : Nat} {z : Str} {S : List Ob} (hk : 2 ≤ k) : (T.gs k).make "Signs" [.str z] S = .ok (.obj S.length) (S ++ [sg z 0]) := by
  have h := init_ok hn (z := z) (i := S.length) (S := S ++ [.ins "Signs" []]) (k := k - 1) (by rw [List.getElem?_append_right (Nat.le_refl _), Nat.sub_self]; rfl) (by omega)
  have e : (S ++ [Ob.ins "Signs" []]).set S.length (sg z 0) = S ++ [sg z 0] := by simp
  rw [e] at h
  unfold Gs.make
  rw [gs_init, h]
theorem read_ok (hn : RdT T) {w : W} (ho : w.Ok) (hp : w.p ≤ 60) {k : Nat} {S : List Ob} (hk : 130 ≤ k) : Gv (T.at_ k ("read_worth", none) [.str w.t]) S (fun y S' => y = w.D ∧ ∃ a, S' = S ++ [sg w.t a]) := by
  obtain ⟨k, rfl⟩ : ∃ q, k = q + 4 := ⟨k - 4, by omega⟩
  have hT := hn.rd
  have htl := W.t_len _ w (Nat.le_refl _) ho
  have em := fun (Q : D → List Ob → Prop) (E : Exc → List Ob → Prop) => gv_ok (Q := Q) (E := E) (make_ok hn.toSgT (k := k + 3) (z := w.t) (S := S) (by omega))
  have hS0 : (S ++ [sg w.t 0])[S.length]? = some (sg w.t ([] : List Nat).length) := by rw [List.getElem?_append_right (Nat.le_refl _), Nat.sub_self]; rfl
  have m1 := meth_s (k := k + 3) hS0 hn.mWo (by decide +kernel) (by decide +kernel)
  have a1 := worth_ok hn.toSgT (z := w.t) (by omega) 60 (by omega) w hp ho [] [] (by simp) (fun c r e => by cases e) (k + 3) S.length _ hS0 (by omega)
  rw [List.length_nil, Nat.zero_add] at a1
  have hS1 : ((S ++ [sg w.t 0]).set S.length (sg w.t (TL.tl w.t).length))[S.length]? = some (sg w.t (TL.tl w.t).length) := get_sg hS0
  have f1 := fld_a (k := k + 3) hn.toSgT hS1
  have ew := fun (S : List Ob) (Q : D → List Ob → Prop) (E : Exc → List Ob → Prop) => gv_ok (Q := Q) (E := E) (is_worth_W hn ho hp (k := k) (S := S))
  have hll : (((TL.tl w.t).length : Int) < (w.t.length : Int)) = False := eq_false (by rw [TL.len_tl]; omega)
  refine has_runK hT rfl fun R hR => ?_; simp only [List.map_cons, List.map_nil, List.replicate, List.cons_append, List.nil_append, Nat.reduceSub]
  refine gs_stK fun N hN => ?_; simp only [↓wA, ↓wY, wB, wC, ↓reduceIte, reduceCtorEq, Nat.reduceAdd, Nat.reduceLeDiff, Nat.reduceLT, Nat.reduceSub, Int.reduceLT, Int.reduceLE, Int.reduceEq, Int.reduceNeg, Int.reduceAdd, Int.reduceSub, Int.reduceMul, em]
  refine hN _ _ ?_; try clear hN
  refine gs_stK fun N hN => ?_; simp only [↓wA, ↓wY, wB, wC, ↓reduceIte, reduceCtorEq, Nat.reduceAdd, Nat.reduceLeDiff, Nat.reduceLT, Nat.reduceSub, Int.reduceLT, Int.reduceLE, Int.reduceEq, Int.reduceNeg, Int.reduceAdd, Int.reduceSub, Int.reduceMul, m1, gs_meth]
  refine Gv.imp a1 ?_
  rintro _ _ ⟨rfl, rfl⟩
  refine hN _ _ ?_; try clear hN
  have hle : w.t.length ≤ 16777216 := by omega
  refine gs_stK fun N hN => ?_; simp only [↓wA, ↓wY, wB, wC, ↓reduceIte, reduceCtorEq, Nat.reduceAdd, Nat.reduceLeDiff, Nat.reduceLT, Nat.reduceSub, Int.reduceLT, Int.reduceLE, Int.reduceEq, Int.reduceNeg, Int.reduceAdd, Int.reduceSub, Int.reduceMul, f1, hll, ew, hle]
  repeat refine And.intro (by first | omega | exact Lb.mul_lt (by omega) (by omega) (by omega) (by omega) | decide) ?_
  refine gs_st0K ?_
  refine hN _ _ ?_; try clear hN
  refine gs_stK fun N hN => ?_; simp only [↓wA, ↓wY, wB, wC, ↓reduceIte, reduceCtorEq, Nat.reduceAdd, Nat.reduceLeDiff, Nat.reduceLT, Nat.reduceSub, Int.reduceLT, Int.reduceLE, Int.reduceEq, Int.reduceNeg, Int.reduceAdd, Int.reduceSub, Int.reduceMul]
  refine hR _ _ ⟨rfl, (TL.tl w.t).length, by simp⟩
theorem ob_sg {z : Str} {a : Nat} : obW (sg z a) = true := rfl
theorem long_ok (hD : Has T ("_law_draw", none) 2 9 ir_law_draw) (hT : Has T ("_law_long", none) 2 4 ir_law_long) {k : Nat} {m : Int} {t c : Nat} {l : List (Nat × Ob)} {S : List Ob} (hk : 10 ≤ k) (h1 : 1 ≤ m) (hm : m ≤ 60) (hc : c ≤ 700000000) (hp : HP t c l S) :
    Gv (T.at_ k ("_law_long", none) [.obj t, .int m]) S (fun y S' => (∃ w : W, y = w.D ∧ w.Ok ∧ w.p ≤ 60) ∧ HP t (c + 1000) l S') := by
  obtain ⟨k, rfl⟩ : ∃ j, k = j + 1 := ⟨k - 1, by omega⟩
  refine has_runK hT rfl fun R hR => ?_; simp only [List.map_cons, List.map_nil, List.replicate, List.cons_append, List.nil_append, Nat.reduceSub]
  refine gs_stK fun N hN => ?_; simp only [↓wA, ↓wY, wB, wC, ↓reduceIte, reduceCtorEq, Nat.reduceAdd, Nat.reduceLeDiff, Nat.reduceLT, Nat.reduceSub, Int.reduceLT, Int.reduceLE, Int.reduceEq, Int.reduceNeg, Int.reduceAdd, Int.reduceSub, Int.reduceMul, pow30]
  refine Gv.imp (Lb.draw hD (by omega) (by omega) (by omega) (by omega) hp) ?_; rintro _ S ⟨a, rfl, a0, a1, hp⟩
  try simp only [↓wA, ↓wY, wB, wC, ↓reduceIte, reduceCtorEq, Nat.reduceAdd, Nat.reduceLeDiff, Nat.reduceLT, Nat.reduceSub, Int.reduceLT, Int.reduceLE, Int.reduceEq, Int.reduceNeg, Int.reduceAdd, Int.reduceSub, Int.reduceMul]
  repeat refine And.intro (by first | omega | exact Lb.mul_lt (by omega) (by omega) (by omega) (by omega) | decide) ?_
  refine Gv.imp (Lb.draw hD (by omega) (by omega) (by omega) (by omega) hp) ?_; rintro _ S ⟨b, rfl, b0, b1, hp⟩
  obtain ⟨x, hx, hxm⟩ := atI_pos (xs := [D.int 0, D.int 1000000000000000000000000000000, D.int (0 - 1000000000000000000000000000000), D.int a]) b0 b1
  have hw0 : ∃ w : W, x = w.D ∧ w.Ok ∧ w.p = 1 := by
    simp only [List.mem_cons, List.not_mem_nil, or_false] at hxm
    rcases hxm with rfl | rfl | rfl | rfl
    · exact ⟨.int 0, by rw [W.D], by rw [W.Ok]; decide, by rw [W.p]⟩
    · exact ⟨.int 1000000000000000000000000000000, by rw [W.D], by rw [W.Ok]; decide, by rw [W.p]⟩
    · exact ⟨.int (0 - 1000000000000000000000000000000), by rw [W.D], by rw [W.Ok]; decide, by rw [W.p]⟩
    · exact ⟨.int a, by rw [W.D], by rw [W.Ok]; omega, by rw [W.p]⟩
  obtain ⟨w0, rfl, ho0, hp0⟩ := hw0
  have hx' : L2.atI [D.int 0, D.int 1000000000000000000000000000000, D.int (-1000000000000000000000000000000), D.int a] b = some w0.D := hx
  try simp only [↓wA, ↓wY, wB, wC, ↓reduceIte, reduceCtorEq, Nat.reduceAdd, Nat.reduceLeDiff, Nat.reduceLT, Nat.reduceSub, Int.reduceLT, Int.reduceLE, Int.reduceEq, Int.reduceNeg, Int.reduceAdd, Int.reduceSub, Int.reduceMul, hx, hx']
  refine hN _ _ ?_; try clear hN
  refine gs_stK fun N hN => ?_; simp only [↓wA, ↓wY, wB, wC, ↓reduceIte, reduceCtorEq, Nat.reduceAdd, Nat.reduceLeDiff, Nat.reduceLT, Nat.reduceSub, Int.reduceLT, Int.reduceLE, Int.reduceEq, Int.reduceNeg, Int.reduceAdd, Int.reduceSub, Int.reduceMul]
  repeat refine And.intro (by first | omega | exact Lb.mul_lt (by omega) (by omega) (by omega) (by omega) | decide) ?_
  refine gs_for (fun i τ S => ∃ (w : W) (a3 : Slot), τ = [.val (.obj t), .val (.int m), .val w.D, a3] ∧ w.Ok ∧ w.p = 1 + 2 * i ∧ HP t (c + 16 + 8 * i) l S) ⟨w0, _, rfl, ho0, by omega, hp.le (by omega)⟩ ?_ ?_
  · rintro i x τ S hx ⟨w, a3, rfl, ho, hwp, hp⟩
    obtain ⟨rfl, hi⟩ := rng_get hx
    have hi : i < ((m - 1) / 2).toNat := hi
    try simp only [↓wA, ↓wY, wB, wC, ↓reduceIte, reduceCtorEq, Nat.reduceAdd, Nat.reduceLeDiff, Nat.reduceLT, Nat.reduceSub, Int.reduceLT, Int.reduceLE, Int.reduceEq, Int.reduceNeg, Int.reduceAdd, Int.reduceSub, Int.reduceMul]
    refine gs_stK fun Nb hNb => ?_; simp only [↓wA, ↓wY, wB, wC, ↓reduceIte, reduceCtorEq, Nat.reduceAdd, Nat.reduceLeDiff, Nat.reduceLT, Nat.reduceSub, Int.reduceLT, Int.reduceLE, Int.reduceEq, Int.reduceNeg, Int.reduceAdd, Int.reduceSub, Int.reduceMul]
    repeat refine And.intro (by first | omega | exact Lb.mul_lt (by omega) (by omega) (by omega) (by omega) | decide) ?_
    refine Gv.imp (Lb.draw hD (by omega) (by omega) (by omega) (by omega) hp) ?_; rintro _ S ⟨v, rfl, v0, v1, hp⟩
    obtain ⟨x, hx, hxm⟩ := atI_pos (xs := [D.tup [.str "pair", w.D, .int i], D.tup [.str "pair", .int i, w.D]]) v0 v1
    try simp only [↓wA, ↓wY, wB, wC, ↓reduceIte, reduceCtorEq, Nat.reduceAdd, Nat.reduceLeDiff, Nat.reduceLT, Nat.reduceSub, Int.reduceLT, Int.reduceLE, Int.reduceEq, Int.reduceNeg, Int.reduceAdd, Int.reduceSub, Int.reduceMul, hx]
    refine hNb _ _ ?_; try clear hNb
    refine gs_st0K ?_
    simp only [List.mem_cons, List.not_mem_nil, or_false] at hxm
    rcases hxm with rfl | rfl
    · exact ⟨.pair w (.int i), _, by rw [W.D, W.D], by rw [W.Ok, W.Ok]; exact ⟨ho, by omega, by omega⟩, by rw [W.p, W.p]; omega, hp.le (by omega)⟩
    · exact ⟨.pair (.int i) w, _, by rw [W.D, W.D], by rw [W.Ok, W.Ok]; exact ⟨⟨by omega, by omega⟩, ho⟩, by rw [W.p, W.p]; omega, hp.le (by omega)⟩
  · rintro τ S ⟨w, a3, rfl, ho, hwp, hp⟩
    rw [rng_len] at hwp hp
    refine hN _ _ ?_; try clear hN
    refine gs_stK fun N hN => ?_; simp only [↓wA, ↓wY, wB, wC, ↓reduceIte, reduceCtorEq, Nat.reduceAdd, Nat.reduceLeDiff, Nat.reduceLT, Nat.reduceSub, Int.reduceLT, Int.reduceLE, Int.reduceEq, Int.reduceNeg, Int.reduceAdd, Int.reduceSub, Int.reduceMul]
    exact hR _ _ ⟨⟨w, rfl, ho, by omega⟩, hp.le (by omega)⟩
end
end Wt
set_option Elab.async false
set_option linter.all false
set_option maxRecDepth 100000
set_option maxHeartbeats 8000000
namespace K32
open PySem L2 Ev Lb Wt
theorem rdT : RdT T where
  L := glob_LETTERS
  F := glob_FIGURES
  most := glob_FIGURES_MOST
  init := has_Signs___init__
  sign := has_Signs_sign
  need := has_Signs_need
  run_of := has_Signs_run_of
  number := has_Signs_number
  pair := has_Signs_pair
  function := has_Signs_function
  worth := has_Signs_worth
  fS := by decide +kernel
  fA := by decide +kernel
  mSi := by decide +kernel
  mNe := by decide +kernel
  mRu := by decide +kernel
  mNu := by decide +kernel
  mPa := by decide +kernel
  mFu := by decide +kernel
  mWo := by decide +kernel
  fuel := by decide
  G := glob_GREAT
  P := glob_PARTS
  nm := has_is_name
  wh := has_is_whole
  form := has_has_form
  win := has_worths_in
  isw := has_is_worth
  rd := has_read_worth
theorem show1 : Has T ("show_worth", none) 1 2 (irShow "show_worth") := has_show_worth
theorem show2 : Has T ("_law_text_of", none) 1 2 (irShow "_law_text_of") := has_law_text_of
theorem kget_mem {kvs : List (Ev.Key × D)} {k : Ev.Key} {v : D} (h : kGet kvs k = some v) : (k, v) ∈ kvs := by
  unfold kGet at h
  cases hq : kvs.find? (fun kv => decide (kv.1 = k)) with
  | none => rw [hq] at h; cases h
  | some q =>
    rw [hq] at h
    cases h
    have h1 := List.mem_of_find?_eq_some hq
    have h2 := List.find?_some hq
    simp only [decide_eq_true_eq] at h2
    rw [← h2]
    exact h1
def KV (kvs : List (Ev.Key × D)) : Prop := ∀ p, p ∈ kvs → ∃ (s : Str) (v : Int), p = (.inr s, .int v) ∧ isNmS s = true ∧ 0 ≤ v ∧ v ≤ 50
theorem KV.put {kvs : List (Ev.Key × D)} {s : Str} {v : Int} (h : KV kvs) (hs : isNmS s = true) (h0 : 0 ≤ v) (h1 : v ≤ 50) : KV (kPut kvs (.inr s) (.int v)) := fun p hp => by
  rcases mem_put p hp with h' | h'
  · exact h p h'
  · exact ⟨s, v, h', hs, h0, h1⟩
theorem KV.ld {kvs : List (Ev.Key × D)} (h : KV kvs) (h1 : 1 ≤ kvs.length) (h2 : kvs.length ≤ 30) : LD kvs := ⟨h1, h2, fun p hp => by
  obtain ⟨s, v, e, hs, h0, h50⟩ := h p hp
  exact ⟨s, v, e, by have := (Wt.nmS_len hs).2; omega, h0, h50⟩⟩
theorem KV.nm {kvs : List (Ev.Key × D)} (h : KV kvs) : ∀ s m, kGet kvs (.inr s) = some (.int m) → isNmS s = true := fun s m hg => by
  obtain ⟨s', v, e, hs, _⟩ := h _ (kget_mem hg)
  cases e
  exact hs
theorem law_gv (ns : List Int) : Gv (T.at_ 170 ("law", none) [.frz (ns.map .int)]) [] (fun d _ => d = .bl true) := by
  refine has_runK has_law rfl fun R hR => ?_; simp only [List.map_cons, List.map_nil, List.replicate, List.cons_append, List.nil_append, Nat.reduceSub]
  refine gs_stK fun N hN => ?_; simp only [↓wA, ↓wY, wB, wC, ↓reduceIte, reduceCtorEq, Nat.reduceAdd, Nat.reduceLeDiff, Nat.reduceLT, Nat.reduceSub, Int.reduceLT, Int.reduceLE, Int.reduceEq, Int.reduceNeg, Int.reduceAdd, Int.reduceSub, Int.reduceMul]
  refine Gv.imp (tape_ok has_law_tape) ?_
  rintro _ S ⟨rfl, hp⟩
  try simp only [↓wA, ↓wY, wB, wC, ↓reduceIte, reduceCtorEq, Nat.reduceAdd, Nat.reduceLeDiff, Nat.reduceLT, Nat.reduceSub, Int.reduceLT, Int.reduceLE, Int.reduceEq, Int.reduceNeg, Int.reduceAdd, Int.reduceSub, Int.reduceMul]
  refine hN _ _ ?_; try clear hN
  refine gs_stK fun N hN => ?_; simp only [↓wA, ↓wY, wB, wC, ↓reduceIte, reduceCtorEq, Nat.reduceAdd, Nat.reduceLeDiff, Nat.reduceLT, Nat.reduceSub, Int.reduceLT, Int.reduceLE, Int.reduceEq, Int.reduceNeg, Int.reduceAdd, Int.reduceSub, Int.reduceMul]
  repeat refine And.intro (by first | omega | exact Lb.mul_lt (by omega) (by omega) (by omega) (by omega) | decide) ?_
  have hD := has_law_draw
  refine gs_for (fun i τ S => ∃ (a1 a2 a3 a4 a5 a6 a7 : Slot), τ = [.val (.frz (ns.map .int)), .val (.obj 0), a1, a2, a3, a4, a5, a6, a7] ∧ HP 0 (20000 * i) [] S) ⟨_, _, _, _, _, _, _, rfl, hp⟩ ?_ ?_
  · rintro i x τ S hx ⟨a1, a2, a3, a4, a5, a6, a7, rfl, hp⟩
    obtain ⟨rfl, hi⟩ := rng_get hx
    have hi : i < 5 := hi
    try simp only [↓wA, ↓wY, wB, wC, ↓reduceIte, reduceCtorEq, Nat.reduceAdd, Nat.reduceLeDiff, Nat.reduceLT, Nat.reduceSub, Int.reduceLT, Int.reduceLE, Int.reduceEq, Int.reduceNeg, Int.reduceAdd, Int.reduceSub, Int.reduceMul]
    refine gs_stK fun Nb hNb => ?_; simp only [↓wA, ↓wY, wB, wC, ↓reduceIte, reduceCtorEq, Nat.reduceAdd, Nat.reduceLeDiff, Nat.reduceLT, Nat.reduceSub, Int.reduceLT, Int.reduceLE, Int.reduceEq, Int.reduceNeg, Int.reduceAdd, Int.reduceSub, Int.reduceMul, List.zip_nil_left, List.zip_nil_right, kMerge, List.foldl_nil]
    repeat refine And.intro (by first | omega | exact Lb.mul_lt (by omega) (by omega) (by omega) (by omega) | decide) ?_
    refine hNb _ _ ?_; try clear hNb
    refine gs_stK fun Nb hNb => ?_; simp only [↓wA, ↓wY, wB, wC, ↓reduceIte, reduceCtorEq, Nat.reduceAdd, Nat.reduceLeDiff, Nat.reduceLT, Nat.reduceSub, Int.reduceLT, Int.reduceLE, Int.reduceEq, Int.reduceNeg, Int.reduceAdd, Int.reduceSub, Int.reduceMul]
    refine Gv.imp (Lb.draw hD (by omega) (by omega) (by omega) (by omega) hp) ?_; rintro _ S ⟨n, rfl, n0, n1, hp⟩
    try simp only [↓wA, ↓wY, wB, wC, ↓reduceIte, reduceCtorEq, Nat.reduceAdd, Nat.reduceLeDiff, Nat.reduceLT, Nat.reduceSub, Int.reduceLT, Int.reduceLE, Int.reduceEq, Int.reduceNeg, Int.reduceAdd, Int.reduceSub, Int.reduceMul]
    refine Gv.imp (poolS hD has_law_pool (by omega) (by omega) (by omega) (by omega) hp) ?_
    rintro _ S ⟨zs, rfl, hzl, hnd, hz, hp⟩
    try simp only [↓wA, ↓wY, wB, wC, ↓reduceIte, reduceCtorEq, Nat.reduceAdd, Nat.reduceLeDiff, Nat.reduceLT, Nat.reduceSub, Int.reduceLT, Int.reduceLE, Int.reduceEq, Int.reduceNeg, Int.reduceAdd, Int.reduceSub, Int.reduceMul]
    refine gs_for (fun j τ S => ∃ (kvs : List (Ev.Key × D)) (a3 : Slot), τ = [.val (.frz (ns.map .int)), .val (.obj 0), .val (.int i), .ownd kvs, a3, a4, a5, a6, a7] ∧ kvs.length ≤ j ∧ (1 ≤ j → 1 ≤ kvs.length) ∧ KV kvs ∧ HP 0 (20000 * i + 300 + 8 * j) [] S) ⟨[], _, rfl, Nat.le_refl _, fun h => by omega, fun p hp => absurd hp List.not_mem_nil, hp.le (by omega)⟩ ?_ ?_
    · rintro j x τ S hx ⟨kvs, a3, rfl, hl, hl1, hkv, hp⟩
      have hj : j < zs.length := by
        have := (List.getElem?_eq_some_iff.mp hx).1
        rwa [List.length_map] at this
      obtain ⟨z, hz1, rfl⟩ := List.mem_map.mp (List.mem_of_getElem? hx)
      try simp only [↓wA, ↓wY, wB, wC, ↓reduceIte, reduceCtorEq, Nat.reduceAdd, Nat.reduceLeDiff, Nat.reduceLT, Nat.reduceSub, Int.reduceLT, Int.reduceLE, Int.reduceEq, Int.reduceNeg, Int.reduceAdd, Int.reduceSub, Int.reduceMul]
      refine gs_stK fun Nc hNc => ?_; simp only [↓wA, ↓wY, wB, wC, ↓reduceIte, reduceCtorEq, Nat.reduceAdd, Nat.reduceLeDiff, Nat.reduceLT, Nat.reduceSub, Int.reduceLT, Int.reduceLE, Int.reduceEq, Int.reduceNeg, Int.reduceAdd, Int.reduceSub, Int.reduceMul, ow_d]
      repeat refine And.intro (by first | omega | exact Lb.mul_lt (by omega) (by omega) (by omega) (by omega) | decide) ?_
      refine Gv.imp (Lb.draw hD (by omega) (by omega) (by omega) (by omega) hp) ?_; rintro _ S ⟨v, rfl, v0, v1, hp⟩
      have hm : ∃ u : Int, L2.atI [D.int 0, D.int 1, D.int 2, D.int 3, D.int 5, D.int 7, D.int 12, D.int 50] v = some (.int u) ∧ 0 ≤ u ∧ u ≤ 50 := by
        obtain ⟨x, hx, hm⟩ := atI_pos (xs := [D.int 0, D.int 1, D.int 2, D.int 3, D.int 5, D.int 7, D.int 12, D.int 50]) v0 v1
        simp only [List.mem_cons, List.not_mem_nil, or_false] at hm
        rcases hm with rfl | rfl | rfl | rfl | rfl | rfl | rfl | rfl <;> exact ⟨_, hx, by decide, by decide⟩
      obtain ⟨u, hu, hu0, hu1⟩ := hm
      try simp only [↓wA, ↓wY, wB, wC, ↓reduceIte, reduceCtorEq, Nat.reduceAdd, Nat.reduceLeDiff, Nat.reduceLT, Nat.reduceSub, Int.reduceLT, Int.reduceLE, Int.reduceEq, Int.reduceNeg, Int.reduceAdd, Int.reduceSub, Int.reduceMul, hu, po_d]
      repeat refine And.intro (by first | omega | exact Lb.mul_lt (by omega) (by omega) (by omega) (by omega) | decide) ?_
      refine hNc _ _ ?_; try clear hNc
      refine gs_st0K ?_
      have := put_len (kvs := kvs) (k := .inr z) (v := .int u)
      exact ⟨_, _, rfl, by omega, this.2, hkv.put (hz z hz1) hu0 hu1, hp.le (by omega)⟩
    rintro τ S ⟨kvs, a3, rfl, hl, hl1, hkv, hp⟩
    rw [List.length_map] at hl hl1 hp
    refine hNb _ _ ?_; try clear hNb
    refine gs_stK fun Nb hNb => ?_; simp only [↓wA, ↓wY, wB, wC, ↓reduceIte, reduceCtorEq, Nat.reduceAdd, Nat.reduceLeDiff, Nat.reduceLT, Nat.reduceSub, Int.reduceLT, Int.reduceLE, Int.reduceEq, Int.reduceNeg, Int.reduceAdd, Int.reduceSub, Int.reduceMul]
    refine Gv.imp (Lb.draw hD (by omega) (by omega) (by omega) (by omega) hp) ?_; rintro _ S ⟨m, rfl, m0, m1, hp⟩
    try simp only [↓wA, ↓wY, wB, wC, ↓reduceIte, reduceCtorEq, Nat.reduceAdd, Nat.reduceLeDiff, Nat.reduceLT, Nat.reduceSub, Int.reduceLT, Int.reduceLE, Int.reduceEq, Int.reduceNeg, Int.reduceAdd, Int.reduceSub, Int.reduceMul]
    refine Gv.imp (worth hD has_law_far has_law_worth (hkv.ld (hl1 (by omega)) (by omega)) 169 (n := m) (by omega) (by omega) (by omega) hp.new) ?_
    rintro y S ⟨p, n', hy, hp1, hn0, hpn, hp⟩
    have hp := hp.drop
    obtain ⟨w, rfl, hwp, hwo⟩ := wo_W hkv.nm p (Nat.le_refl _) hy
    try simp only [↓wA, ↓wY, wB, wC, ↓reduceIte, reduceCtorEq, Nat.reduceAdd, Nat.reduceLeDiff, Nat.reduceLT, Nat.reduceSub, Int.reduceLT, Int.reduceLE, Int.reduceEq, Int.reduceNeg, Int.reduceAdd, Int.reduceSub, Int.reduceMul]
    refine hNb _ _ ?_; try clear hNb
    have after : ∀ (w : W) (N : Sl → List Ob → Prop) (S : List Ob), w.Ok → w.p ≤ 60 → HP 0 (20000 * i + 12000) [] S → (∀ τ' S', Gs_ (evSs (T.gs 169) (stsOf [
    .set (.one 6) (.call "_law_text_of" (esOf [(.loc 5)])),
    .fo (.one 7) (.rng (.cst (.int 2))) (stsOf [
      .set (.one 8) (.call "show_worth" (esOf [(.loc 5)])),
      .ife (.or (.not (.isi (.loc 8) .str)) (.or (.cmp .ne (.loc 8) (.loc 6)) (.not (.call "_law_same" (esOf [(.call "read_worth" (esOf [(.loc 6)])), (.loc 5)]))))) (stsOf [
        .ret (.cst (.bl false))]) (stsOf [])])]) τ' S') (fun τ S => ∃ (a1 a2 a3 a4 a5 a6 a7 : Slot), τ = [.val (.frz (ns.map .int)), .val (.obj 0), a1, a2, a3, a4, a5, a6, a7] ∧ HP 0 (20000 * (i + 1)) [] S) R → N τ' S') → N [.val (.frz (ns.map .int)), .val (.obj 0), .val (.int i), .val (.dct kvs), a3, .val w.D, a5, a6, a7] S := fun w N S ho hwp hp hN => by
      have e1 := fun (S : List Ob) (Q : D → List Ob → Prop) (E : Exc → List Ob → Prop) => gv_ok (Q := Q) (E := E) (show_ok show2 60 w hwp (by omega) ho 169 S (by omega))
      have e2 := fun (S : List Ob) (Q : D → List Ob → Prop) (E : Exc → List Ob → Prop) => gv_ok (Q := Q) (E := E) (show_ok show1 60 w hwp (by omega) ho 169 S (by omega))
      have e3 := fun (S : List Ob) (Q : D → List Ob → Prop) (E : Exc → List Ob → Prop) => gv_ok (Q := Q) (E := E) (Sv.same_all has_law_same (by omega) _ w.D (W.ts _ w (Nat.le_refl _) (by omega) ho) 169 S (by omega))
      refine hN _ _ ?_; try clear hN
      refine gs_stK fun N hN => ?_; simp only [↓wA, ↓wY, wB, wC, ↓reduceIte, reduceCtorEq, Nat.reduceAdd, Nat.reduceLeDiff, Nat.reduceLT, Nat.reduceSub, Int.reduceLT, Int.reduceLE, Int.reduceEq, Int.reduceNeg, Int.reduceAdd, Int.reduceSub, Int.reduceMul, e1]
      refine hN _ _ ?_; try clear hN
      refine gs_stK fun N hN => ?_; simp only [↓wA, ↓wY, wB, wC, ↓reduceIte, reduceCtorEq, Nat.reduceAdd, Nat.reduceLeDiff, Nat.reduceLT, Nat.reduceSub, Int.reduceLT, Int.reduceLE, Int.reduceEq, Int.reduceNeg, Int.reduceAdd, Int.reduceSub, Int.reduceMul]
      repeat refine And.intro (by first | omega | exact Lb.mul_lt (by omega) (by omega) (by omega) (by omega) | decide) ?_
      refine gs_for (fun j τ S => ∃ (b7 b8 : Slot), τ = [.val (.frz (ns.map .int)), .val (.obj 0), .val (.int i), .val (.dct kvs), a3, .val w.D, .val (.str w.t), b7, b8] ∧ HP 0 (20000 * i + 12000) [] S) ⟨_, _, rfl, hp⟩ ?_ ?_
      · rintro j x τ S hx ⟨b7, b8, rfl, hp⟩
        obtain ⟨rfl, hj⟩ := rng_get hx
        try simp only [↓wA, ↓wY, wB, wC, ↓reduceIte, reduceCtorEq, Nat.reduceAdd, Nat.reduceLeDiff, Nat.reduceLT, Nat.reduceSub, Int.reduceLT, Int.reduceLE, Int.reduceEq, Int.reduceNeg, Int.reduceAdd, Int.reduceSub, Int.reduceMul]
        refine gs_stK fun Nd hNd => ?_; simp only [↓wA, ↓wY, wB, wC, ↓reduceIte, reduceCtorEq, Nat.reduceAdd, Nat.reduceLeDiff, Nat.reduceLT, Nat.reduceSub, Int.reduceLT, Int.reduceLE, Int.reduceEq, Int.reduceNeg, Int.reduceAdd, Int.reduceSub, Int.reduceMul, e2]
        refine hNd _ _ ?_; try clear hNd
        refine gs_stK fun Nd hNd => ?_; simp only [↓wA, ↓wY, wB, wC, ↓reduceIte, reduceCtorEq, Nat.reduceAdd, Nat.reduceLeDiff, Nat.reduceLT, Nat.reduceSub, Int.reduceLT, Int.reduceLE, Int.reduceEq, Int.reduceNeg, Int.reduceAdd, Int.reduceSub, Int.reduceMul]
        refine Gv.imp (read_ok rdT ho hwp (k := 169) (by omega)) ?_
        rintro _ _ ⟨rfl, a, rfl⟩
        try simp only [↓wA, ↓wY, wB, wC, ↓reduceIte, reduceCtorEq, Nat.reduceAdd, Nat.reduceLeDiff, Nat.reduceLT, Nat.reduceSub, Int.reduceLT, Int.reduceLE, Int.reduceEq, Int.reduceNeg, Int.reduceAdd, Int.reduceSub, Int.reduceMul, e3]
        refine gs_st0K ?_
        refine hNd _ _ ?_; try clear hNd
        refine gs_st0K ?_
        exact ⟨_, _, rfl, (hp.new ob_sg).drop⟩
      · rintro τ S ⟨b7, b8, rfl, hp⟩
        refine hN _ _ ?_; try clear hN
        refine gs_st0K ?_
        exact ⟨_, _, _, _, _, _, _, rfl, hp.le (by omega)⟩
    refine gs_stK fun Nb hNb => ?_; simp only [↓wA, ↓wY, wB, wC, ↓reduceIte, reduceCtorEq, Nat.reduceAdd, Nat.reduceLeDiff, Nat.reduceLT, Nat.reduceSub, Int.reduceLT, Int.reduceLE, Int.reduceEq, Int.reduceNeg, Int.reduceAdd, Int.reduceSub, Int.reduceMul]
    refine Gv.imp (Lb.draw hD (by omega) (by omega) (by omega) (by omega) hp) ?_; rintro _ S ⟨v, rfl, v0, v1, hp⟩
    try simp only [↓wA, ↓wY, wB, wC, ↓reduceIte, reduceCtorEq, Nat.reduceAdd, Nat.reduceLeDiff, Nat.reduceLT, Nat.reduceSub, Int.reduceLT, Int.reduceLE, Int.reduceEq, Int.reduceNeg, Int.reduceAdd, Int.reduceSub, Int.reduceMul]
    refine ⟨fun h4 => ?_, fun h4 => ?_⟩
    · refine gs_stK fun Nc hNc => ?_; simp only [↓wA, ↓wY, wB, wC, ↓reduceIte, reduceCtorEq, Nat.reduceAdd, Nat.reduceLeDiff, Nat.reduceLT, Nat.reduceSub, Int.reduceLT, Int.reduceLE, Int.reduceEq, Int.reduceNeg, Int.reduceAdd, Int.reduceSub, Int.reduceMul]
      refine Gv.imp (Lb.draw hD (by omega) (by omega) (by omega) (by omega) hp) ?_; rintro _ S ⟨q, rfl, q0, q1, hp⟩
      try simp only [↓wA, ↓wY, wB, wC, ↓reduceIte, reduceCtorEq, Nat.reduceAdd, Nat.reduceLeDiff, Nat.reduceLT, Nat.reduceSub, Int.reduceLT, Int.reduceLE, Int.reduceEq, Int.reduceNeg, Int.reduceAdd, Int.reduceSub, Int.reduceMul]
      refine Gv.imp (long_ok hD has_law_long (by omega) (by omega) (by omega) (by omega) hp) ?_
      rintro _ S ⟨⟨w, rfl, ho, hwp⟩, hp⟩
      try simp only [↓wA, ↓wY, wB, wC, ↓reduceIte, reduceCtorEq, Nat.reduceAdd, Nat.reduceLeDiff, Nat.reduceLT, Nat.reduceSub, Int.reduceLT, Int.reduceLE, Int.reduceEq, Int.reduceNeg, Int.reduceAdd, Int.reduceSub, Int.reduceMul]
      refine hNc _ _ ?_; try clear hNc
      refine gs_st0K ?_
      exact after w _ S ho hwp (hp.le (by omega)) hNb
    · refine gs_st0K ?_
      exact after w _ S hwo (by omega) (hp.le (by omega)) hNb
  · rintro τ S ⟨a1, a2, a3, a4, a5, a6, a7, rfl, hp⟩
    refine hN _ _ ?_; try clear hN
    refine gs_stK fun N hN => ?_; simp only [↓wA, ↓wY, wB, wC, ↓reduceIte, reduceCtorEq, Nat.reduceAdd, Nat.reduceLeDiff, Nat.reduceLT, Nat.reduceSub, Int.reduceLT, Int.reduceLE, Int.reduceEq, Int.reduceNeg, Int.reduceAdd, Int.reduceSub, Int.reduceMul]
    exact hR _ _ rfl
theorem law_true (ns : List Int) (h : ns.length ≤ 63) : ∃ S', T.at_ 170 ("law", none) [.frz (ns.map .int)] [] = .ok (.bl true) S' := by
  obtain ⟨d, S', e, rfl⟩ := (law_gv ns).out
  exact ⟨S', e⟩
end K32
set_option Elab.async false
set_option linter.all false
set_option maxRecDepth 100000
set_option maxHeartbeats 0
open PySem PySem.W PySem.Calls PyProof.Rows
theorem PySem.Challenge.cw_onedoer_k32_worths_written_holds : PySem.Challenge.rw_onedoer_k32_worths_written.Holds := by
  w_on; o_law
  refine HandSHeadRun.head_any (r := OpenLaw.row PySem.Challenge.rw_onedoer_k32_worths_written) (q := view (OpenLaw.row PySem.Challenge.rw_onedoer_k32_worths_written).prog [28]) (H := K32.hk) (ob := K32.ob) (M := 6000) (loose := K32.loose) (d := HandSHeadRun.topDef (OpenLaw.row PySem.Challenge.rw_onedoer_k32_worths_written).prog 28) (kwd := []) K32.ob_eq
    (by kernel_rfl) (fun s => by kernel_rfl) K32.run (by kernel_rfl) (by kernel_rfl) (by kernel_rfl) (by rfl) (by first | assumption | decide +kernel) (by decide +kernel) ⟨rfl, rfl, rfl, rfl, rfl, by decide +kernel⟩ ?hw ?hc
  case hw => w_witness2
  case hc =>
    refine L2.walk_ofE (l := PySem.Challenge.rw_onedoer_k32_worths_written) (n := 63) (k := Ev.rm K32.T 170) (x := "_law_script") (CX := L2.CX0) rfl (by decide) (by kernel_rfl) ⟨rfl, by decide +kernel, by decide +kernel⟩ ?F (fun _ _ _ _ z => z)
    intro w mg fa h Y G hmg0
    obtain ⟨K, KX, c⟩ := Y
    have hmg : mg ("law" : PySem.Str) = some (.ref fa) := by
      have e : (HandSHeadRun.topDef (OpenLaw.row PySem.Challenge.rw_onedoer_k32_worths_written).prog 28).name = ("law" : PySem.Str) := by kernel_rfl
      rw [← e]
      exact hmg0
    obtain ⟨fd, hb, hF⟩ := Ev.law_facts (x := "_law_script") (fL := K32.df_law) K32.ok (by kernel_rfl) rfl 170 (P := (PySem.Challenge.rw_onedoer_k32_worths_written).prog) (w := w) KX G hmg (Ev.head_of c)
    refine ⟨K, fd, _, KX, hb, fun H a ns hl _ hS => ?_, hF⟩
    obtain ⟨S', hm⟩ := K32.law_true ns hl
    exact Ev.sp_start hS hm
