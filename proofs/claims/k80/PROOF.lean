import PyProof.Rows.All
import Wide.All
import OpenK.AllK
import Wide.FinOn
import PySem.Challenge.RW_lendland_k80_whole_round_words
import HandS.Iter
import KE.GoesMore
import PyProof.Draws
import HandS.List
import HandS.Style
import HandS.SortInts
import HandS.ForMost
import HandS.Wide
import HandS.Deep
import HandS.Conv
import HandS.IsInst
import HandS.RaiseMore
import HandS.TupLe
import HandS.TupAny
import KE.DataCmp
import KE.SortData
import KE.DataMinMax
import HandS.RevRange
import HandS.Gcd
import KE.DataFind
import HandS.SetFor
import HandS.More
import HandS.Zip
import HandS.Rev
import HandS.SetBool
import HandS.Strs
import HandS.Dict
import HandS.Defaults
import HandS.Head0
import HandS.Head1
import HandS.Head2
import HandS.HeadEnd
import HandS.HeadHook1
import HandS.HeadHook2
import KE.KStateDown
import Lean
import HandS.Base
import HandS.Call
import HandS.Ends
set_option Elab.async false
set_option linter.all false
set_option maxRecDepth 100000
set_option maxHeartbeats 2000000
/-! EvT: enumerate over a tuple. -/
namespace PySem
open Sem (wp)
open AutoSeq1 (wpAny_loadPart')
theorem enT_new (l : Addr) (items : Array Value) (n : Nat) (dct : Option Addr) (sl : Array (Option Value)) :
    Meets (Builtin.«enumerate.__new__» ⟨[.type "enumerate", .ref l], []⟩) (fun _ R s => s.heap.get? l = some { cls := .type "tuple", dict := dct, data := .seq items n, slots := sl } ∧
      R (.ok (.ret (.ref (s.heap.push { cls := .type "tuple_iterator", data := .fields #[.ref l, .int 0 0] }).objs.size)))
        { s with heap := (s.heap.push { cls := .type "tuple_iterator", data := .fields #[.ref l, .int 0 0] }).push { cls := .type "enumerate", data := .fields #[.none, .bool false, .ref s.heap.objs.size, rawInt 0, .none, .none] } }) :=
  .of_wp fun prog w A R s h => by
    obtain ⟨hp, g, d, tk, os⟩ := s; obtain ⟨hl, h⟩ := h
    have hsub := sub_enumerate
    have hL : Heap.IsTuple (Shared.heap ⟨hp, g, d, tk, os⟩) l items := ⟨_, hl, rfl, n, rfl⟩
    wp_walk using wpAny_loadPart' hl
    refine wpAny_stack_any fun st => wpAny_pure ?_
    split
    · rename_i c _ _ _ _ _
      cases (c == Value.type "enumerate")
      · wp_walk using wpAny_loadPart' hl, wpAny_pyIter_tuple hL
        exact ⟨_, rfl, h⟩
      · wp_walk using wpAny_loadPart' hl, wpAny_pyIter_tuple hL
        exact ⟨_, rfl, h⟩
    · wp_walk using wpAny_loadPart' hl, wpAny_pyIter_tuple hL
      exact ⟨_, rfl, h⟩
section
variable {prog : Program} {w : World} {A : Around} {E : Value → Shared → Prop} {s : Shared}
theorem enT_call {l : Addr} {items : Array Value} {Q : Value → Shared → Prop} (hL : s.heap.IsTuple l items)
    (h : ∀ h', IsEnum h' (s.heap.objs.size + 1) s.heap.objs.size 0 .none → h'.IsTupleIter s.heap.objs.size l 0 → h'.objs.size = s.heap.objs.size + 2 →
      (∀ b o, s.heap.get? b = some o → h'.get? b = some o) → Q (.ref (s.heap.objs.size + 1)) { s with heap := h' }) :
    wpAny (model prog w) A (call (.type "enumerate") [.ref l]) Q E s := by
  obtain ⟨⟨c, dct, dt, sl⟩, hl, hc, n, hd⟩ := hL
  replace hc : c = .type "tuple" := hc
  replace hd : dt = .seq items n := hd
  subst hc hd
  refine callType_new F.called_enumerate (by decide) (F.typeCall_enumerate_1 _) (F.newCall_enumerate_1 _) (fun obj => F.args_object_init_2 obj _) F.entry_enumerate_new
    (enT_new l items n dct sl) ⟨hl, ?_⟩
  have hz : (s.heap.push { cls := .type "tuple_iterator", data := .fields #[.ref l, .int 0 0] }).objs.size = s.heap.objs.size + 1 := Heap.size_push ..
  show _ ∧ _
  rw [hz]
  have he : IsEnum ((s.heap.push { cls := .type "tuple_iterator", data := .fields #[.ref l, .int 0 0] }).push
      { cls := .type "enumerate", data := .fields #[.none, .bool false, .ref s.heap.objs.size, rawInt 0, .none, .none] }) (s.heap.objs.size + 1) s.heap.objs.size 0 .none := by
    have := Heap.get?_push_size (s.heap.push { cls := .type "tuple_iterator", data := .fields #[.ref l, .int 0 0] })
      (o := { cls := .type "enumerate", data := .fields #[.none, .bool false, .ref s.heap.objs.size, rawInt 0, .none, .none] }) rfl
    rw [hz] at this; exact this
  exact ⟨⟨_, he, rfl⟩, h _ he ⟨_, Heap.get?_push_of_some _ (Heap.get?_push_size _ rfl), rfl, rfl⟩ (by rw [Heap.size_push, hz]) fun b o x => Heap.get?_push_of_some _ (Heap.get?_push_of_some _ x)⟩
end
end PySem
namespace Ev
open PySem PySem.Spec PyProof.Rows L2
/-- the tuple at a as it stands at each turn, each item in a new pair -/
def IteT (K : PySem.W.Frag) (a : Addr) : It :=
  ⟨fun i H => ∃ (xs : List V) (x : V), SqT K H a xs ∧ xs[i]? = some x, fun i H v H' => ∃ T x, v = .ref T ∧ H T = none ∧ H' = upd H T (.tup [.int (i : Nat), x]) ∧ ∀ xs, SqT K H a xs → xs[i]? = some x, fun i H => ∃ xs : List V, SqT K H a xs ∧ xs.length ≤ i⟩
theorem enT_apart {h : Heap} {e it a : Addr} {c : Int} {old : Value} {i : Nat} {items : Array Value} (he : IsEnum h e it c old) (hi : h.IsTupleIter it a i) (ht : h.IsTuple a items) : e ≠ a ∧ a ≠ it := by
  obtain ⟨o, ho, hc, _⟩ := ht
  obtain ⟨o2, ho2, hc2, _⟩ := hi
  refine ⟨fun z => ?_, fun z => ?_⟩
  · subst z
    rw [he] at ho
    cases ho
    have hc : Value.type "enumerate" = Value.type "tuple" := hc
    injection hc with h1
    exact absurd h1 (by decide)
  · subst z
    rw [ho2] at ho
    cases ho
    rw [hc2] at hc
    injection hc with h1
    exact absurd h1 (by decide)
theorem turn_enumT {P : Program} {w : World} {K : PySem.W.Frag} {elts : List Expr} {kk : Nat} {tpos : Pos} (a e it : Addr) :
    Turn P w K (.Tuple elts kk tpos) (IteT K a) [e, it] e (fun i h => (∃ old, IsEnum h e it ((i : Nat) : Int) old) ∧ h.IsTupleIter it a i ∧ e ≠ it) where
  mem := by simp
  obj := fun i h st b hb => by
    obtain ⟨⟨old, he⟩, ⟨o, ho, hc, hd⟩, _⟩ := st
    have e' : b = e ∨ b = it := by simpa using hb
    rcases e' with z | z
    · rw [z]; exact ⟨_, he, fun v q => nomatch q⟩
    · rw [z]; exact ⟨o, ho, fun v q => by rw [hd] at q; cases q⟩
  keep := fun i h h' st k => let ⟨⟨old, he⟩, hi, hne⟩ := st; ⟨⟨old, k e (by simp) _ he⟩, hi.at fun o q => k it (by simp) o q, hne⟩
  item := by
    intro X hP hw hK hc i pins s σ H E I hf st hg
    subst hP hw hK
    obtain ⟨⟨old, he⟩, hit, hne⟩ := st
    obtain ⟨xs, x, hq, hx⟩ := hg
    obtain ⟨its, rv, p, hz⟩ := I.tuple hq
    obtain ⟨u, hu, ru⟩ := rv.get hx
    have hel : e < s.heap.objs.size := Heap.lt_size he
    have hil : it < s.heap.objs.size := by obtain ⟨_, q, _⟩ := hit; exact Heap.lt_size q
    have pt : s.heap.IsTuple a its.toArray := p
    obtain ⟨nea, nai⟩ := enT_apart he hit pt
    have hlt : i < its.toArray.size := by
      have := (List.getElem?_eq_some_iff.mp hu).1
      simpa using this
    have D := Draws.tuple (prog := X.prog) (w := X.w) (A := X.A.in1) (I.ok.hd hc) it a nai its.toArray
    refine wpAny_pyNext_enum_itemD D he ⟨hit, pt⟩ hlt hne (by simp [hne, nea]) fun x' h' tk hP ho st' hT hsz hk => ?_
    have ex : x' = u := by
      rw [show its.toArray[i]? = some u by simpa using hu] at hP
      cases hP; rfl
    subst ex
    refine ⟨_, rfl, wpAny_letOwnedTupleGo_enum (s := { s with heap := h', toks := tk + 1 }) ho fun h'' he' sb => ?_⟩
    have hT2 : h''.get? s.heap.objs.size = some { cls := .type "tuple", data := .seq #[.int i tk, x'] } := (sb.2 _ (Nat.ne_of_gt hel)).trans hT
    have new : ObjOk X.prog X.w (upd H s.heap.objs.size (.tup [.int (i : Nat), x])) h'' s.heap.objs.size (.tup [.int (i : Nat), x]) :=
      ⟨by show 2 ≤ sizeLine; decide, [.int i tk, x'], .cons ⟨_, rfl⟩ (.cons ru .nil), ⟨_, hT2, rfl, _, rfl⟩⟩
    have I1 : Inv X pins σ (upd H s.heap.objs.size (.tup [.int (i : Nat), x])) { s with heap := h'', toks := tk + 1 } :=
      I.turnedNew (ch := [e, it]) (fun b ob hb q => (sb.2 b (fun z => hb (by simp [z]))).trans (hk b ob (fun z => hb (by simp [z])) (fun z => hb (by simp [z])) q)) hf (Nat.le_refl _) new
    refine ⟨.ref s.heap.objs.size, _, I1, rfl, ⟨_, x, rfl, I.hok.fresh (Nat.le_refl _), rfl, fun ys hy => by rw [I.tuple_inj hy hq]; exact hx⟩, ⟨⟨x', ?_⟩, st'.1.at fun o q => (sb.2 it (Ne.symm hne)).trans q, hne⟩, fun b hb => ?_⟩
    · have e1 : ((i + 1 : Nat) : Int) = (i : Int) + 1 := by omega
      rw [e1]; exact he'
    · have hb' : b < s.heap.objs.size := by
        have e' : b = e ∨ b = it := by simpa using hb
        rcases e' with z | z
        · rw [z]; exact hel
        · rw [z]; exact hil
      rw [upd_ne (Nat.ne_of_lt hb')]
      exact (hf b hb).1
  done := by
    intro X hP hw hK hc i pins s σ H E I hf st hg
    subst hP hw hK
    obtain ⟨⟨old, he⟩, hit, hne⟩ := st
    obtain ⟨xs, hq, hx⟩ := hg
    obtain ⟨its, rv, p, hz⟩ := I.tuple hq
    have pt : s.heap.IsTuple a its.toArray := p
    obtain ⟨nea, nai⟩ := enT_apart he hit pt
    obtain ⟨f0, f1, f2, f3, f4, f5⟩ := hf it (by simp)
    have hl := rv.length
    have hT : s.TypeIs (.ref e) "enumerate" := ⟨_, he, rfl⟩
    unfold pyNext
    refine wpAny_bind (wpAny_attempt (wpAny_callSpecial?_slot (name := Str.ofString "__next__") hT F.slot_enumerate_next
      (wpAny_call_entry F.slot_enumerate_next hT F.entry_enumerate_next ?_ (F.args_enumerate_next_1 _))))
    show wpAny _ _ (field (.ref e) 2 >>= _) _ _ _
    refine wpAny_bind (wpAny_field he rfl (x := .ref it) rfl ?_)
    refine wpAny_bind (wpAny_nextOf_tuple_end (A := X.A.in1) (I.ok.hd hc) hit pt (by simp; omega) fun h' x he' hx' => ?_)
    obtain ⟨o, ho, hc'⟩ := hx'
    refine wpAny_bind (wpAny_isInstance (T := "StopIteration") (b := true) ⟨o, ho, hc'⟩ isSubtype_stop ?_)
    exact wpAny_pure ⟨rfl, I.turned (t' := s.toks) (fun b o hb q => he' b o hb q) f0 f1 f3 f4 f5⟩
  self := fun A i s Q E st h => let ⟨⟨_, he⟩, _⟩ := st; wpAny_pyIter_enum he h
/-- enumerate of a list or of a tuple -/
def iEnumA (K : PySem.W.Frag) (ta : TA) : TI := fun σ H R => ta σ H fun vs H1 => ∃ a xs, vs = [.ref a] ∧ ((SqL K H1 a xs ∧ R (Ite K a) H1) ∨ (SqT K H1 a xs ∧ R (IteT K a) H1))
theorem pi_enumA {X : Cx} {e : Expr} {ta : TA} {p pos tpos : Pos} {elts : List Expr} {kk : Nat} (hg : Gl X "enumerate") (hm : X.mg "enumerate" = none) (ha : PA X [e] ta) (hs : starEach [e] X.env = [(false, eval e X.env)]) :
    PI X (.Tuple elts kk tpos) (.Call (.Name "enumerate" p) [e] [] pos) (iEnumA X.K ta) := by
  refine ⟨fun pins s σ H R I h => ?_⟩
  refine Call_ (ld_blt I hg hm boot_enumerate (PyProof.Rows.callWith_type1 (thn (ha.run pos pins s σ H _ I h) fun us s1 ⟨vs, H1, I1, r1, q1⟩ => ?_) hs rfl))
  obtain ⟨a, xs, ex, q⟩ := q1
  subst ex
  cases r1 with
  | cons r rr =>
    cases rr
    cases r
    have fin : ∀ (h' : Heap), (∀ b ∈ [s1.heap.objs.size + 1, s1.heap.objs.size], s1.heap.objs.size ≤ b) := fun _ b hb => by
      have e' : b = s1.heap.objs.size + 1 ∨ b = s1.heap.objs.size := by simpa using hb
      rcases e' with z | z
      · rw [z]; exact Nat.le_add_right _ _
      · rw [z]; exact Nat.le_refl _
    rcases q with ⟨hq, q⟩ | ⟨hq, q⟩
    · obtain ⟨its, rv, p', hz⟩ := I1.list hq
      refine call_enumerate_list p'.isList fun h' he hit hsz hk => wpAny_pyIter_enum he ?_
      have I2 : Inv X pins σ H1 { s1 with heap := h' } := I1.kept (t' := s1.toks) hk
      exact ⟨s1.heap.objs.size + 1, [s1.heap.objs.size + 1, s1.heap.objs.size], _, _, H1, rfl, I2, turn_enum a (s1.heap.objs.size + 1) s1.heap.objs.size, ⟨⟨.none, he⟩, hit, Nat.succ_ne_self _⟩, fun b hb => I1.fpOk (fin h' b hb) (I1.hok.fresh (fin h' b hb)), q⟩
    · obtain ⟨its, rv, p', hz⟩ := I1.tuple hq
      refine enT_call (show s1.heap.IsTuple a its.toArray from p') fun h' he hit hsz hk => wpAny_pyIter_enum he ?_
      have I2 : Inv X pins σ H1 { s1 with heap := h' } := I1.kept (t' := s1.toks) hk
      exact ⟨s1.heap.objs.size + 1, [s1.heap.objs.size + 1, s1.heap.objs.size], _, _, H1, rfl, I2, turn_enumT a (s1.heap.objs.size + 1) s1.heap.objs.size, ⟨⟨.none, he⟩, hit, Nat.succ_ne_self _⟩, fun b hb => I1.fpOk (fin h' b hb) (I1.hok.fresh (fin h' b hb)), q⟩
end Ev

set_option maxRecDepth 100000
set_option maxHeartbeats 2000000
/-! EvU: sorted(a tuple of whole numbers); x[::-1] of a list or of a tuple. -/
namespace PyProof.Rows
open PySem PySem.Spec
section
variable {prog : Program} {w : World} {A : Around} {E : Value → Shared → Prop} {s : Shared}
theorem collectT {l : Addr} {vs : List Value} {Q : List Value → Shared → Prop} (hl : s.heap.IsTuple l vs.toArray)
    (h : Q vs { s with heap := (s.heap.push (seqObj "list" #[] 0)).update s.heap.objs.size (Obj.mapSeq (· ++ vs.toArray)) }) (hsz : vs.length ≤ sizeLine) :
    wpAny (model prog w) A (collect (.ref l)) Q E s := by
  obtain ⟨o, ho, hc, n, hd⟩ := id hl
  unfold collect
  refine wpAny_bind (wpAny_runValue (codeAny_builtin entry_proto_collect' ?_))
  show wpAny _ _ (do again (.builtin "list.__iadd__" ⟨[← newList [], .ref l], []⟩)) _ _ s
  refine wpAny_bind (wpAny_newList (wpAny_pure ⟨Code.quiet_builtin _ (by decide +kernel), codeAny_builtin entry_list_iadd' ?_⟩))
  show wpAny _ _ (Builtin.List.listExtendWith (.ref s.heap.objs.size) (.ref l) (.ref s.heap.objs.size)) _ _ { s with heap := s.heap.push (seqObj "list" #[] 0) }
  unfold Builtin.List.listExtendWith
  have ho' : (s.heap.push (seqObj "list" #[] 0)).get? l = some o := Heap.get?_push_of_some _ ho
  refine wpAny_bind (wpAny_typeOf (T := "tuple") ⟨o, ho', hc⟩ ?_)
  have ht : (Value.type "tuple" == Value.type "tuple") = true := by rfl
  rw [if_pos (by rw [ht]; simp)]
  refine wpAny_bind (listItems_at ho' hd ?_)
  refine wpAny_bind (listItems_at (xs := #[]) (n := 0) (Heap.get?_push_size _ rfl) rfl ?_)
  rw [if_neg (by simp)]
  refine wpAny_bind (listUpdate_at (xs := #[]) (n := 0) (Heap.get?_push_size _ rfl) rfl ?_ (Nat.zero_le _) (by show (#[] ++ vs.toArray).size ≤ sizeLine + 1; simp only [Array.size_append, List.size_toArray, List.length_nil]; omega))
  refine wpAny_pure ?_
  show wpAny (model prog w) A (do
      let o ← load s.heap.objs.size
      match o.data with
      | .seq xs _ => pure xs.toList
      | _ => unsupported "internal:collect") Q E { s with heap := (s.heap.push (seqObj "list" #[] 0)).update s.heap.objs.size (Obj.mapSeq (· ++ vs.toArray)) }
  refine wpAny_bind (wpAny_load (get?_update_seq (Heap.get?_push_size _ rfl) _) ?_)
  show wpAny _ _ (pure ((#[] : Array Value) ++ vs.toArray).toList) Q E _
  rw [show ((#[] : Array Value) ++ vs.toArray).toList = vs by simp]
  exact wpAny_pure h
end
end PyProof.Rows
namespace SrtO
open PySem PySem.Spec PyProof.Rows
section
variable {prog : Program} {w : World} {A : Around} {E : Value → Shared → Prop} {s : Shared}
theorem sortedT_ord {l : Addr} {vs : List Value} {ltv : Value → Value → Bool} {Q : Value → Shared → Prop} (O : Swo ltv) (hl : s.heap.IsTuple l vs.toArray) (hz : vs.length ≤ sizeLine)
    (hS : 2 ≤ vs.length → ∀ (h₁ : Heap) (a : Addr), h₁.get? a = some (seqObj "list" vs.toArray 0) → (∀ b o, s.heap.get? b = some o → b ≠ a ∧ h₁.get? b = some o) → SortableO prog w A.in1.in1 { s with heap := h₁ } a vs ltv)
    (h : ∀ out : List Value, Srtd ltv out → Stb ltv out vs → Q (.ref (s.heap.objs.size + 1)) { s with heap := sortedAll s.heap vs out.toArray }) :
    wpAny (model prog w) A (call (.builtin "sorted") [.ref l]) Q E s := by
  refine Calls.call_function_entry kind_sorted plain_sorted entry_sorted (args_sorted1 _) ?_
  unfold Builtin.«sorted»
  refine wpAny_bind (m := checkCount "sorted" 1 1 _) (wpAny_pure ?_)
  refine wpAny_bind (collectT hl ?_ hz)
  refine wpAny_bind (wpAny_newList ?_ hz)
  have hsz : ((s.heap.push (seqObj "list" #[] 0)).update s.heap.objs.size (Obj.mapSeq (· ++ vs.toArray))).objs.size = s.heap.objs.size + 1 := by
    rw [Heap.size_update, size_push']
  have hoL : (((s.heap.push (seqObj "list" #[] 0)).update s.heap.objs.size (Obj.mapSeq (· ++ vs.toArray))).push (seqObj "list" vs.toArray 0)).get? (s.heap.objs.size + 1) = some (seqObj "list" vs.toArray 0) := by
    rw [← hsz]; exact Heap.get?_push_size _ rfl
  have keep : ∀ b o, s.heap.get? b = some o → b ≠ s.heap.objs.size + 1 ∧ (((s.heap.push (seqObj "list" #[] 0)).update s.heap.objs.size (Obj.mapSeq (· ++ vs.toArray))).push (seqObj "list" vs.toArray 0)).get? b = some o := fun b o q => by
    have hlt : b < s.heap.objs.size := Heap.lt_size q
    refine ⟨Nat.ne_of_lt (Nat.lt_succ_of_lt hlt), Heap.get?_push_of_some _ ?_⟩
    rw [Heap.get?_update_ne _ _ _ _ (Nat.ne_of_lt hlt)]
    exact Heap.get?_push_of_some _ q
  show wpAny _ _ _ _ _ { s with heap := ((s.heap.push (seqObj "list" #[] 0)).update s.heap.objs.size (Obj.mapSeq (· ++ vs.toArray))).push (seqObj "list" vs.toArray 0) }
  rw [hsz]
  refine wpAny_bind (wpAny_holding (wpAny_call_entry slot_list_sort ⟨_, hoL, rfl⟩ entry_list_sort (list_sort_ord O hoL hz (fun h2 => hS h2 _ _ hoL keep) fun out hs hb => ⟨_, rfl, ?_⟩) (args_list_sort _)))
  exact wpAny_pure ⟨_, rfl, h out hs hb⟩
end
end SrtO
namespace HT
open PySem PySem.Spec PyProof.Rows L2
section
variable {prog : Program} {w : World} {A : Around} {E : Value → Shared → Prop} {s : Shared}
theorem revApplied {sl : Addr} {vl vu vs : Value} {n : Nat} {Q : Int × Int × Nat → Shared → Prop} (hs : s.heap.IsSliceOf sl vl vu vs) (pl : IsPart vl none) (pu : IsPart vu none) (ps : IsPart vs (some (-1)))
    (h : Q ((n : Int) - 1, -1, n) s) : wpAny (model prog w) A (Builtin.Slice.sliceApplied (.ref sl) (pure (n : Int))) Q E s := by
  obtain ⟨os, hos, hcs, hds⟩ := id hs
  unfold Builtin.Slice.sliceApplied Builtin.Slice.sliceFields
  refine wpAny_bind (wpAny_bind (wpAny_field hos hds (x := vl) rfl (wpAny_bind (wpAny_field hos hds (x := vu) rfl (wpAny_bind (wpAny_field hos hds (x := vs) rfl (wpAny_pure ?_)))))))
  refine wpAny_bind (slicePart_ ps ?_)
  show wpAny _ _ (if ((-1 : Int) == 0) = true then _ else _) _ _ s
  rw [if_neg (by decide)]
  refine wpAny_bind (slicePart_ pl (wpAny_bind (slicePart_ pu (wpAny_bind (wpAny_pure ?_)))))
  show wpAny _ _ (match Builtin.Slice.sliceAdjust none none (-1) (n : Int) with | (lo, hi) => pure (lo, (-1 : Int), Builtin.Slice.slicePlaces lo hi (-1))) _ _ s
  have e : Builtin.Slice.sliceAdjust none none (-1) (n : Int) = ((n : Int) - 1, -1) := rfl
  rw [e]
  show wpAny _ _ (pure ((n : Int) - 1, (-1 : Int), Builtin.Slice.slicePlaces ((n : Int) - 1) (-1) (-1))) _ _ s
  have e2 : Builtin.Slice.slicePlaces ((n : Int) - 1) (-1) (-1) = n := by
    unfold Builtin.Slice.slicePlaces
    have h1 : ¬ ((-1 : Int) > 0) := by omega
    simp only [h1, if_false]
    have h2 : (-(-1 : Int)) = 1 := rfl
    rw [h2, Int.ediv_one]
    split <;> omega
  rw [e2]
  exact wpAny_pure h
theorem pick_rev (xs : List Value) : (List.range xs.length).filterMap (fun (m : Nat) => xs.toArray[((xs.length : Int) - 1 + (m : Int) * (-1)).toNat]?) = xs.reverse := by
  have e : ∀ m, m ∈ List.range xs.length → xs.toArray[((xs.length : Int) - 1 + (m : Int) * (-1)).toNat]? = some (xs.reverse.getD m Value.none) := by
    intro m hm
    have hm : m < xs.length := by simpa using hm
    have h1 : ((xs.length : Int) - 1 + (m : Int) * (-1)).toNat = xs.length - 1 - m := by omega
    rw [h1]
    have h2 : xs.length - 1 - m < xs.length := by omega
    have h3 : m < xs.reverse.length := by simpa using hm
    rw [List.getD_eq_getElem?_getD, List.getElem?_eq_getElem h3, Option.getD_some, List.getElem_reverse]
    simp [h2]
  have e2 : (List.range xs.length).filterMap (fun (m : Nat) => xs.toArray[((xs.length : Int) - 1 + (m : Int) * (-1)).toNat]?) = (List.range xs.length).map fun m => xs.reverse.getD m Value.none := by
    have gen : ∀ (l : List Nat) (f : Nat → Option Value) (g : Nat → Value), (∀ m, m ∈ l → f m = some (g m)) → l.filterMap f = l.map g := by
      intro l f g
      induction l with
      | nil => intro _; rfl
      | cons a l ih => intro h; rw [List.filterMap_cons, h a (by simp), List.map_cons, ih fun m hm => h m (by simp [hm])]
    exact gen _ _ _ e
  rw [e2]
  apply List.ext_getElem
  · simp
  · intro i h1 h2
    have : i < xs.length := by simpa using h1
    simp [this]
theorem getItem_tuple_rev {t sl : Addr} {its : List Value} {vl vu vs : Value} {Q : Value → Shared → Prop} (ht : IsTup s.heap t its.toArray) (hs : s.heap.IsSliceOf sl vl vu vs) (pl : IsPart vl none) (pu : IsPart vu none) (ps : IsPart vs (some (-1)))
    (h : Q (.ref s.heap.objs.size) { s with heap := s.heap.push { cls := .type "tuple", data := .seq its.reverse.toArray } })
    (hsz : its.length ≤ sizeLine) : wpAny (model prog w) A (getItem (.ref t) (.ref sl)) Q E s := by
  have htake : sizeOk (.seq its.reverse.toArray) := by
    show its.reverse.toArray.size ≤ sizeLine
    rw [List.size_toArray, List.length_reverse]; exact hsz
  obtain ⟨os, hos, hcs, hds⟩ := id hs
  have hTs : s.TypeIs (.ref sl) "slice" := ⟨os, hos, hcs⟩
  unfold getItem
  try with_reducible refine wpAny_holding ?_
  first | refine wpAny_bind (wpAny_pure ?_) | skip
  refine wpAny_bind (wpAny_sequenceKey ht.typeIs (by decide) ?_)
  refine wpAny_bind (wpAny_callSpecial?_slot (name := Str.ofString "__getitem__") ht.typeIs PyProof.Rows.slot_tuple_getitem
    (wpAny_call_entry PyProof.Rows.slot_tuple_getitem ht.typeIs entry_tuple_getitem ?_ (args_tuple_getitem _ _)))
  show wpAny _ _ (Builtin.Tuple.tupleItemsOf (.ref t) >>= _) _ _ s
  refine wpAny_bind (tupleItemsOf_ ht ?_)
  refine wpAny_bind (wpAny_typeOf hTs ?_)
  rw [if_pos (by decide)]
  rw [show its.toArray.size = its.length by simp]
  refine wpAny_bind (revApplied (n := its.length) hs pl pu ps ?_)
  have hno : ¬ ((((its.length : Int) - 1) == 0 && (-1 : Int) == 1 && its.length == its.length) = true) := by
    intro q
    rw [Bool.and_eq_true, Bool.and_eq_true] at q
    exact absurd q.1.2 (by decide)
  show wpAny _ _ (if (((its.length : Int) - 1) == 0 && (-1 : Int) == 1 && its.length == its.length) = true then _ else _) _ _ s
  rw [if_neg hno, pick_rev]
  first
    | exact wpAny_bind (m := Builtin.Tuple.tupleExact _) (wpAny_newObj_type (wpAny_pure ⟨_, rfl, wpAny_pure h⟩) htake)
    | exact wpAny_bind (m := Builtin.Tuple.tupleExact _) (wpAny_newObj_type (wpAny_bind (wpAny_pure (wpAny_pure ⟨_, rfl, wpAny_pure h⟩))) htake)
    | exact wpAny_bind (wpAny_bind (m := Builtin.Tuple.tupleExact _) (wpAny_newObj_type (wpAny_pure (wpAny_pure ⟨_, rfl, wpAny_pure h⟩)) htake))
    | exact wpAny_bind (wpAny_bind (m := Builtin.Tuple.tupleExact _) (wpAny_newObj_type (wpAny_pure ⟨_, rfl, wpAny_pure h⟩) htake))
end
end HT
namespace Ev
open PySem PySem.Spec PyProof.Rows L2
section
variable {X : Cx}
/-- sorted(xs), a list or a tuple of ints -/
def rSortedA (K : PySem.W.Frag) : List V → Hp → VK → Prop := fun vs H Q => ∃ (a : Addr) (ns : List Int), vs = [V.ref a] ∧ (SqL K H a (ns.map V.int) ∨ SqT K H a (ns.map V.int)) ∧
  ∀ (ns' : List Int) (p : Addr), ns'.Perm ns → ns'.Pairwise (· ≤ ·) → H p = none → Q (.ref p) (upd H p (.lst (ns'.map V.int)))
theorem cr_sortedA : CallR X (.builtin "sorted") (rSortedA X.K) := by
  intro pins s σ H vs us Q I r h
  obtain ⟨a, ns, rfl, hs | hs, q⟩ := h
  · exact cr_sortedI pins s σ H _ us Q I r ⟨a, ns, rfl, hs, q⟩
  · obtain ⟨its, rv, hl, hz⟩ := I.tuple hs
    rw [Vals.ref1 r]
    have hi := rv.ints
    refine SrtO.sortedT_ord SrtO.swo_int (show s.heap.IsTuple a its.toArray from hl) (by rw [← rv.length]; exact hz) (fun h2 h₁ a' _ _ => SrtO.ints_sortable hi h2) fun out h1 h2 => ?_
    obtain ⟨k1, k2, k3⟩ := SrtO.ints_out hi h1 h2
    obtain ⟨ep, he'⟩ := PyProof.Rows.sortedAll_at s.heap its out.toArray
    have hlen : ((out.map SrtO.iv).map V.int).length ≤ sizeLine := by
      rw [List.length_map, k2.length_eq]
      rw [List.length_map] at hz
      exact hz
    exact ⟨.ref _, upd H (s.heap.objs.size + 1) (.lst ((out.map SrtO.iv).map V.int)), I.laid (t' := s.toks) (fun _ _ => PyProof.Rows.sortedAll_old) (Nat.le_succ _) ⟨hlen, out, ep, vals_of_ints k1, he'⟩, rfl, q _ _ k2 k3 (I.hok.fresh (Nat.le_succ _))⟩
/-- x[::-1] -/
def tRevA (K : PySem.W.Frag) (te : TE) : TE := fun σ H Q => te σ H fun x H1 => ∃ a xs, x = .ref a ∧ ((SqL K H1 a xs ∧ ∀ p, H1 p = none → Q (.ref p) (upd H1 p (.lst xs.reverse))) ∨ (SqT K H1 a xs ∧ ∀ p, H1 p = none → Q (.ref p) (upd H1 p (.tup xs.reverse))))
theorem pe_revA {e : Expr} {te : TE} {k : Nat} {p1 p2 p3 pos : Pos} (he : PE X e te) : PE X (.Subscript e (.Slice none none (some (.UnaryOp .USub (.Constant (.int 1) k p1) p2)) p3) pos) (tRevA X.K te) := by
  refine ⟨fun pins s σ H Q I h => ?_⟩
  refine Subscript_ (thn (he.run pins s σ H _ I h) fun v s1 ⟨x, H1, I1, r1, q1⟩ => ?_)
  obtain ⟨a, xs, ex, q⟩ := q1
  subst ex
  cases r1
  have hst : PO X (some (.UnaryOp .USub (.Constant (.int 1) k p1) p2)) (tPart (tUn (rU fun i => .int (-i)) (tC (.int 1)))) := po_some (pe_un un_neg pe_int)
  refine wpAny_Slice (thn (po_none.run pins s1 σ H1 (fun o H2 => o = none ∧ H2 = H1) I1 ⟨rfl, rfl⟩) fun vl s2 ⟨l, H2, I2, pl, el, e2⟩ => ?_)
  subst el e2
  refine thn (po_none.run pins s2 σ H2 (fun o H3 => o = none ∧ H3 = H2) I2 ⟨rfl, rfl⟩) fun vu s3 ⟨u, H3, I3, pu, eu, e3⟩ => ?_
  subst eu e3
  refine thn (hst.run pins s3 σ H3 (fun o H4 => o = some (-1) ∧ H4 = H3) I3 ⟨1, rfl, -1, rfl, rfl, rfl⟩) fun vs s4 ⟨o, H4, I4, ps, eo, e4⟩ => ?_
  subst eo e4
  have I5 : Inv X pins σ H4 { s4 with heap := s4.heap.push { cls := .type "slice", data := .fields #[vl, vu, vs] } } := I4.kept (t' := s4.toks) fun b ob q => Heap.get?_push_of_some _ q
  show wpAny (model X.prog X.w) X.A (subscriptTail e (.Slice none none (some (.UnaryOp .USub (.Constant (.int 1) k p1) p2)) p3) (.ref a) (.ref s4.heap.objs.size)) (EP X pins σ Q) X.xe { s4 with heap := s4.heap.push { cls := .type "slice", data := .fields #[vl, vu, vs] } }
  rcases q with ⟨hx, q⟩ | ⟨hx, q⟩
  · obtain ⟨its, r, ht, hz⟩ := I5.list hx
    have hlen := r.length
    refine tail_any (ops := [.ref a, .ref s4.heap.objs.size]) ht.isList.typeIs (PySem.slot_list_getitem.lookup) ?_ (by with_unfolding_all rfl)
    refine wpAny_getItem_list_slice ht.isList (Heap.IsSliceOf.new _ vl vu vs) pl pu ps (by decide) ?_ (by rw [List.size_toArray]; omega)
    rw [PySem.W.krv_pick]
    refine ⟨.ref _, _, I5.laid (t' := s4.toks) (o := .lst xs.reverse) (fun b ob q => Heap.get?_push_of_some _ q) (Nat.le_refl _) ?_, rfl, q _ (I5.hok.fresh (Nat.le_refl _))⟩
    exact ⟨by rw [List.length_reverse]; exact hz, _, 0, r.reverse, Heap.get?_push_size _ rfl⟩
  · obtain ⟨its, r, ht, hz⟩ := I5.tuple hx
    have hlen := r.length
    refine tail_any (ops := [.ref a, .ref s4.heap.objs.size]) ht.typeIs (PyProof.Rows.slot_tuple_getitem.lookup) ?_ (by with_unfolding_all rfl)
    refine HT.getItem_tuple_rev ht (Heap.IsSliceOf.new _ vl vu vs) pl pu ps ?_ (by omega)
    refine ⟨.ref _, _, I5.laid (t' := s4.toks) (o := .tup xs.reverse) (fun b ob q => Heap.get?_push_of_some _ q) (Nat.le_refl _) ?_, rfl, q _ (I5.hok.fresh (Nat.le_refl _))⟩
    exact ⟨by rw [List.length_reverse]; exact hz, _, r.reverse, IsTup.new _ _⟩
end
end Ev

set_option maxRecDepth 100000
/-! Ev1: the IR, the data, the evaluator with value semantics. -/
namespace Ev
open PySem L2
/-- the written part of the program that is walked -/
class TheK where
  K : PySem.W.Frag

abbrev D := PyData

/-- what an expression gives: frozen data, or a list that nobody else holds -/
inductive Res where
  | fr (d : D)
  | nw (ds : List D)
def Res.d : Res → D
  | .fr d => d
  | .nw ds => .list ds
/-- lists under lists that nobody else holds: all different; of unknown sharing; of unknown items -/
inductive DK where
  | tree | prv | junk
  deriving DecidableEq

/-- a local name: unset; frozen data; a list of its own; the same while a loop walks it; a borrowed list; a list parameter that may be changed -/
inductive Slot where
  | un
  | fz (d : D)
  | own (ds : List D)
  | lent (ds : List D)
  | bor (ds : List D)
  | mu (ds : List D)
  | ro (ds : List D)
  | dct (kvs : List (Int × D))
  | dp (k : DK) (d : D)
abbrev Env := List Slot
def Slot.d? : Slot → Option D
  | .un => none
  | .fz d => some d
  | .own ds => some (.list ds)
  | .lent ds => some (.list ds)
  | .bor ds => some (.list ds)
  | .mu ds => some (.list ds)
  | .ro _ => none
  | .dct _ => none
  | .dp _ _ => none
/-- .. also the script's list, which is only indexed, measured and walked -/
def Slot.dr? : Slot → Option D
  | .ro ds => some (.list ds)
  | s => s.d?

inductive Bop where
  | add | sub | mul | fdiv | mod | pow
  deriving DecidableEq
inductive Cop where
  | eq | ne | lt | le | gt | ge | inn | nin | is | isn
  deriving DecidableEq
/-- builtins that take values and change nothing -/
inductive Blt where
  | abs | int | str | repr | sum | max | min | max2 | min2 | all | any | sorted | list | tuple | gcd
  deriving DecidableEq
/-- methods that change nothing -/
inductive Mth where
  | count | index
  deriving DecidableEq
/-- methods that change a list -/
inductive Cth where
  | append | pop | popAt | insert | extend | remove | reverse
  deriving DecidableEq
inductive Ty where
  | int | bool | str | tuple | list
  deriving DecidableEq

mutual
inductive T where
  | name (i : Nat)
  | tup (ts : Ts)
inductive Ts where
  | nil
  | cons (t : T) (ts : Ts)
end

mutual
inductive E where
  | var (i : Nat) | int (n : Int) | bl (b : Bool) | non | str (s : String)
  | bin (o : Bop) (a b : E) | neg (a : E) | no (a : E)
  | cmp (o : Cop) (a b : E) | cmp2 (o p : Cop) (a b c : E)
  | and (a b : E) | or (a b : E) | ite (c a b : E)
  | idx (a i : E) | slc (a : E) (lo hi : OE) | rvs (a : E)
  | dix (i : Nat) (a b : E) | dlen (i : Nat)
  | dget (i : Nat) (k : E) | din (neg : Bool) (i : Nat) (k : E)
  | tup (es : Es) | lst (es : Es)
  | comp (elt : E) (t : T) (it : Wk) (c : OE) (vs : List Nat)
  | comp2 (elt : E) (t : T) (it : Wk) (c0 : OE) (t1 : T) (it1 : Wk) (c : OE) (vs vs1 : List Nat)
  | setc (srt : Bool) (elt : E) (t : T) (it : Wk) (c : OE) (vs : List Nat)
  | call (f : String) (es : Es)
  | pcall (f : String) (es : Es)
  | blt (b : Blt) (es : Es)
  | isi (a : E) (t : Ty)
  | len (a : E)
  | rngs (t : Bool) (it : Wk)
  | meth (m : Mth) (o a : E)
  | chg (m : Cth) (i : Nat) (es : Es)
inductive OE where
  | none
  | some (e : E)
inductive Wk where
  | seq (e : E) | rng1 (a : E) | rng2 (a b : E) | enm (a : E) | zip (a b : E) | rev (a : E) | rrng1 (a : E) | rrng2 (a b : E) | dwn (a b : E)
inductive Es where
  | nil
  | cons (e : E) (es : Es)
end

mutual
inductive S where
  | asg (t : T) (e : E)
  | par (i j : Nat) (a b : E)
  | aug (o : Bop) (i : Nat) (e : E)
  | setIx (i : Nat) (ix e : E)
  | dset (i : Nat) (a b e : E) | dswp (i : Nat) (a b : E)
  | dcomp (i : Nat) (elt : E) (t : T) (it : Wk) (c : OE) (vs : List Nat)
  | dnew (i : Nat) (k v : E) | dput (i : Nat) (k v : E) | rse
  | augIx (o : Bop) (i : Nat) (ix e : E)
  | ex (e : E)
  | ret (e : E) | retN | brk | cont | pass
  | ife (c : E) (a b : Ss)
  | whl (fuel : Nat) (c : E) (b : Ss)
  | forr (t : T) (it : Wk) (b : Ss)
inductive Ss where
  | nil
  | cons (s : S) (ss : Ss)
end

/-! ### operations on data -/
def isFlat : D → Bool
  | .none | .bool _ | .int _ | .str _ => true
  | _ => false
def intOf : D → Option Int
  | .int i => some i
  | _ => none
def boolOf : D → Option Bool
  | .bool b => some b
  | _ => none
def seqOf : D → Option (List D)
  | .list ds => some ds
  | .tuple ds => some ds
  | _ => none
def allInts : List D → Option (List Int)
  | [] => some []
  | .int i :: r => (allInts r).map (i :: ·)
  | _ :: _ => none
def allBools : List D → Option (List Bool)
  | [] => some []
  | .bool i :: r => (allBools r).map (i :: ·)
  | _ :: _ => none

instance {i j : Int} : Decidable (CMul i j) := by unfold CMul; exact inferInstance
instance {i j : Int} : Decidable (CMulW i j) := by unfold CMulW; exact inferInstance
instance {i j : Int} : Decidable (CPow i j) := by unfold CPow; exact inferInstance
def dBin : Bop → D → D → Option Res
  | .add, .int i, .int j => some (.fr (.int (i + j)))
  | .add, .str x, .str y => if x.length + y.length ≤ sizeLine then some (.fr (.str (x ++ y))) else none
  | .add, .list x, .list y => if x.length + y.length ≤ sizeLine then some (.nw (x ++ y)) else none
  | .add, .tuple x, .tuple y => if x.length + y.length ≤ sizeLine then some (.fr (.tuple (x ++ y))) else none
  | .sub, .int i, .int j => some (.fr (.int (i - j)))
  | .mul, .int i, .int j => if CMul i j ∨ CMulW i j then some (.fr (.int (i * j))) else none
  | .mul, .list x, .int j => if -(2 ^ 63) ≤ j ∧ j < 2 ^ 63 ∧ x.length * j.toNat ≤ sizeLine then some (.nw (List.replicate j.toNat x).flatten) else none
  | .fdiv, .int i, .int j => if j ≠ 0 ∧ j.natAbs.log2 < 9000 then some (.fr (.int (i.fdiv j))) else none
  | .mod, .int i, .int j => if j ≠ 0 then some (.fr (.int (i.fmod j))) else none
  | .pow, .int i, .int j => if CPow i j then some (.fr (.int (i ^ j.toNat))) else none
  | _, _, _ => none

def maxI : Int → List Int → Int
  | m, [] => m
  | m, x :: r => maxI (if x > m then x else m) r
def minI : Int → List Int → Int
  | m, [] => m
  | m, x :: r => minI (if x < m then x else m) r
def insI (x : Int) : List Int → List Int
  | [] => [x]
  | y :: r => if x ≤ y then x :: y :: r else y :: insI x r
def sortI : List Int → List Int
  | [] => []
  | x :: r => insI x (sortI r)
def lexLtI : List Int → List Int → Bool := HT.lexLt
/-! the order of data that are alike -/
def ordOk (d e : D) : Bool := PySem.W.alike d e && decide (min d.depth e.depth ≤ 60) && (match d with | .none => false | _ => true)
def ordC (d e : D) (b : Bool) : Option Bool := if ordOk d e = true then some b else none
def insD (x : D) : List D → List D
  | [] => [x]
  | y :: r => if PySem.W.dataLt y x = true then y :: insD x r else x :: y :: r
def sortD : List D → List D
  | [] => []
  | x :: r => insD x (sortD r)
def notTupD : D → Bool
  | .tuple _ => false
  | .none => false
  | _ => true
def tupD1 : D → Bool
  | .tuple (_ :: _) => true
  | _ => false
def alikeB (xs : List D) : Bool := xs.all fun d => xs.all fun e => PySem.W.alike d e
def sortOk (xs : List D) : Bool := alikeB xs && (xs.all fun d => decide (d.depth ≤ 60)) && (xs.all tupD1 || xs.all notTupD)
def sortG (xs : List D) : Option Res := if sortOk xs = true then some (.nw (sortD xs)) else none
def mmOk (xs : List D) : Bool := alikeB xs && decide (PyData.depthAll xs ≤ 60) && (xs.all fun d => match d with | .none => false | _ => true)
def srtR : Option (List Int) → List D → Option Res
  | some ns, _ => some (.nw ((sortI ns).map .int))
  | none, xs => sortG xs
def mxR : Option (List Int) → List D → Option Res
  | some [], _ => none
  | some (x :: r), _ => some (.fr (.int (maxI x r)))
  | none, [] => none
  | none, x :: r => if mmOk (x :: r) = true then some (.fr (PySem.W.maxD x r)) else none
def mnR : Option (List Int) → List D → Option Res
  | some [], _ => none
  | some (x :: r), _ => some (.fr (.int (minI x r)))
  | none, [] => none
  | none, x :: r => if mmOk (x :: r) = true then some (.fr (PySem.W.minD x r)) else none
def dCmp : Cop → D → D → Option Bool
  | .lt, .int i, .int j => some (decide (i < j))
  | .le, .int i, .int j => some (decide (i ≤ j))
  | .gt, .int i, .int j => some (decide (j < i))
  | .ge, .int i, .int j => some (decide (j ≤ i))
  | .lt, d, e => ordC d e (PySem.W.dataLt d e)
  | .gt, d, e => ordC d e (PySem.W.dataLt e d)
  | .le, d, e => ordC d e (!PySem.W.dataLt e d)
  | .ge, d, e => ordC d e (!PySem.W.dataLt d e)
  | .eq, d, e => if SeqAt.shaped d && SeqAt.shaped e then some (PyData.eqv d e) else none
  | .ne, d, e => if SeqAt.shaped d && SeqAt.shaped e then some (!PyData.eqv d e) else none
  | .inn, d, .list ds => if SeqAt.shaped d && SeqAt.shaped (.list ds) then some (ds.any fun z => PyData.eqv z d) else none
  | .nin, d, .list ds => if SeqAt.shaped d && SeqAt.shaped (.list ds) then some (!ds.any fun z => PyData.eqv z d) else none
  | .inn, d, .tuple ds => if isFlat d && ds.all isFlat then some (ds.any fun z => PyData.eqv z d) else none
  | .nin, d, .tuple ds => if isFlat d && ds.all isFlat then some (!ds.any fun z => PyData.eqv z d) else none
  | .is, d, .none => some (match d with | .none => true | _ => false)
  | .isn, d, .none => some (match d with | .none => false | _ => true)
  | .is, d, .bool b => some (match d with | .bool c => b == c | _ => false)
  | .isn, d, .bool b => some (match d with | .bool c => b != c | _ => true)
  | _, _, _ => none

def dIdx : D → D → Option D
  | .list xs, .int i => atI xs i
  | .tuple xs, .int i => atI xs i
  | .str z, .int i => if z.length ≤ sizeLine then (atI z.cps.toList i).map fun c => .str ⟨#[c]⟩ else none
  | _, _ => none
def cutD (xs : List D) (lo hi : Option Int) : List D := (xs.drop (HT.sIx xs.length 0 lo)).take (HT.sIx xs.length xs.length hi - HT.sIx xs.length 0 lo)
def dSlc : D → Option Int → Option Int → Option Res
  | .list xs, lo, hi => some (.nw (cutD xs lo hi))
  | .tuple xs, lo, hi => some (.fr (.tuple (cutD xs lo hi)))
  | .str z, lo, hi => if z.length ≤ sizeLine then some (.fr (.str (cutS z lo hi))) else none
  | _, _, _ => none

def dRev : D → Option Res
  | .list xs => some (.nw xs.reverse)
  | .tuple xs => some (.fr (.tuple xs.reverse))
  | _ => none
def dLen : D → Option D
  | .list xs => some (.int xs.length)
  | .tuple xs => some (.int xs.length)
  | .str z => if z.length ≤ sizeLine then some (.int z.length) else none
  | _ => none
def dBlt : Blt → List D → Option Res
  | .abs, [.int i] => some (.fr (.int i.natAbs))
  | .int, [.int i] => some (.fr (.int i))
  | .int, [.bool b] => some (.fr (.int (if b then 1 else 0)))
  | .str, [.int i] => if i.natAbs.log2 < 1920 then some (.fr (.str (toString i))) else none
  | .repr, [.int i] => if i.natAbs.log2 < 1920 then some (.fr (.str (toString i))) else none
  | .sum, [.list xs] => (allInts xs).map fun ns => .fr (.int ns.sum)
  | .max, [.list xs] => mxR (allInts xs) xs
  | .min, [.list xs] => mnR (allInts xs) xs
  | .max, [.tuple xs] => mxR (allInts xs) xs
  | .min, [.tuple xs] => mnR (allInts xs) xs
  | .max2, [.int i, .int j] => some (.fr (.int (if j > i then j else i)))
  | .min2, [.int i, .int j] => some (.fr (.int (if j < i then j else i)))
  | .all, [.list xs] => (allBools xs).map fun bs => .fr (.bool (bs.all id))
  | .any, [.list xs] => (allBools xs).map fun bs => .fr (.bool (bs.any id))
  | .sorted, [.list xs] => srtR (allInts xs) xs
  | .sorted, [.tuple xs] => (allInts xs).map fun ns => .nw ((sortI ns).map .int)
  | .list, [.list xs] => some (.nw xs)
  | .list, [.tuple xs] => some (.nw xs)
  | .tuple, [.list xs] => some (.fr (.tuple xs))
  | .tuple, [.tuple xs] => some (.fr (.tuple xs))
  | .gcd, [.int a, .int b] => some (.fr (.int (Nat.gcd a.natAbs b.natAbs : Nat)))
  | _, _ => none

def pairD (xs ys : List D) : List D := (xs.zip ys).map fun p => .tuple [p.1, p.2]
def enumD (xs : List D) : List D := xs.zipIdx.map fun p => .tuple [.int (p.2 : Nat), p.1]
def rngD (a b : Int) : List D := (List.range (b - a).toNat).map fun (i : Nat) => .int (a + i)
def dwnD (a b : Int) : List D := (List.range (a - b).toNat).map fun (i : Nat) => .int (a - i)
def tyIs : Ty → D → Bool
  | .int, .int _ => true
  | .int, .bool _ => true
  | .bool, .bool _ => true
  | .str, .str _ => true
  | .tuple, .tuple _ => true
  | .list, .list _ => true
  | _, _ => false

def countD (d : D) (xs : List D) : Nat := (xs.filter fun z => PyData.eqv z d).length
def indexD (d : D) : List D → Option Nat
  | [] => none
  | x :: r => if PyData.eqv x d then some 0 else (indexD d r).map (· + 1)
def dMth : Mth → D → D → Option D
  | .count, .list xs, .int i => (allInts xs).map fun ns => .int (ns.count i)
  | .index, .list xs, d => if SeqAt.shaped d && SeqAt.shaped (.list xs) then (indexD d xs).map fun n => .int n else none
  | _, _, _ => none
/-- the list behind a change, and the answer -/
def dChg : Cth → List D → List D → Option (List D × D)
  | .append, xs, [d] => if xs.length < sizeLine then some (xs ++ [d], .none) else none
  | .pop, xs, [] => match xs.getLast? with | none => none | some z => some (xs.dropLast, z)
  | .popAt, xs, [.int i] => (ixN xs.length i).bind fun j => (xs[j]?).map fun z => (xs.eraseIdx j, z)
  | .insert, xs, [.int i, d] => if 0 ≤ i ∧ i < 2 ^ 63 ∧ xs.length < sizeLine then some (xs.take i.toNat ++ [d] ++ xs.drop i.toNat, .none) else none
  | .extend, xs, [.list ys] => if xs.length + ys.length ≤ sizeLine then some (xs ++ ys, .none) else none
  | .remove, xs, [d] => if SeqAt.shaped d && SeqAt.shaped (.list xs) then (indexD d xs).map fun j => (xs.eraseIdx j, .none) else none
  | .reverse, xs, [] => some (xs.reverse, .none)
  | _, _, _ => none

/-- the different ones -/
def dd : List Int → List Int
  | [] => []
  | x :: r => if x ∈ r then dd r else x :: dd r
/-- a set of whole numbers, sorted or measured -/
def setR (srt : Bool) (r : List D) : Option Res := match allInts r with
  | none => none
  | some ns => if ns.length < 4095 then (match srt with
    | true => if (dd ns).length < 64 then some (.nw ((sortI (dd ns)).map .int)) else none
    | false => some (.fr (.int ((dd ns).length : Nat)))) else none

/-! ### the evaluator -/
inductive PK where
  | B | I | M
  deriving DecidableEq
abbrev Fn := List Slot → Option (Res × List (List D))
abbrev FT := String → Option (List PK × Fn)

inductive Opd where
  | v (d : D)
  | sl (i : Nat)
def rd (ρ : Env) (i : Nat) : Option D := match ρ[i]? with
  | some s => s.d?
  | none => none
def rdr (ρ : Env) (i : Nat) : Option D := match ρ[i]? with
  | some s => s.dr?
  | none => none
def Opd.getR (ρ : Env) : Opd → Option D
  | .v d => some d
  | .sl i => rdr ρ i
def Opd.get (ρ : Env) : Opd → Option D
  | .v d => some d
  | .sl i => rd ρ i
def opd (a : E) (eva : Env → Option (Res × Env)) (ρ : Env) : Option (Opd × Env) := match a with
  | .var i => match ρ[i]? with
    | some (.fz d) => some (.v d, ρ)
    | some .un => none
    | some (.dp .tree d) => some (.v d, ρ.set i (.fz d))
    | some (.dp .prv d) => some (.v d, ρ.set i (.fz d))
    | some _ => some (.sl i, ρ)
    | none => none
  | _ => match eva ρ with
    | some (r, ρ') => some (.v r.d, ρ')
    | none => none
def freeze (i : Nat) (ρ : Env) : Option (Res × Env) := match ρ[i]? with
  | some (.fz d) => some (.fr d, ρ)
  | some (.own ds) => some (.fr (.list ds), ρ.set i (.fz (.list ds)))
  | some (.lent ds) => some (.fr (.list ds), ρ.set i (.fz (.list ds)))
  | some (.dp .tree d) => some (.fr d, ρ.set i (.fz d))
  | some (.dp .prv d) => some (.fr d, ρ.set i (.fz d))
  | _ => none
def slotOf : Res → Slot
  | .fr d => .fz d
  | .nw ds => .own ds
def put (i : Nat) (s : Slot) (ρ : Env) : Option Env := match ρ[i]? with
  | some (.mu _) => none
  | some _ => some (ρ.set i s)
  | none => none
mutual
def asgT : T → D → Env → Option Env
  | .name i, d, ρ => put i (.fz d) ρ
  | .tup ts, .tuple ds, ρ => asgTs ts ds ρ
  | .tup _, _, _ => none
def asgTs : Ts → List D → Env → Option Env
  | .nil, [], ρ => some ρ
  | .cons t ts, d :: ds, ρ => match asgT t d ρ with
    | some ρ1 => asgTs ts ds ρ1
    | none => none
  | _, _, _ => none
end
def asgR : T → Res → Env → Option Env
  | .name i, r, ρ => put i (slotOf r) ρ
  | t, r, ρ => asgT t r.d ρ

/-- while a loop walks a list of one's own it may not be changed -/
def lendL : List Nat → Env → Env
  | [], ρ => ρ
  | i :: r, ρ => match ρ[i]? with
    | some (.own ds) => lendL r (ρ.set i (.lent ds))
    | _ => lendL r ρ
/-- a parameter that may be changed is not walked -/
def noMu (o : Opd) (ρ : Env) : Bool := match o with
  | .v _ => true
  | .sl i => match ρ[i]? with
    | some (.mu _) => false
    | _ => true
def lends (o : Opd) (ρ : Env) : List Nat := match o with
  | .v _ => []
  | .sl i => match ρ[i]? with
    | some (.own ds) => [i]
    | _ => []
def unlend : List Nat → Env → Env
  | [], ρ => ρ
  | i :: r, ρ => match ρ[i]? with
    | some (.lent ds) => unlend r (ρ.set i (.own ds))
    | _ => unlend r ρ
def wipeE (vs : List Nat) (ρ : Env) : Env := match vs with
  | [] => ρ
  | v :: r => (wipeE r ρ).set v .un
def quietS : Slot → Bool
  | .un => true
  | .fz _ => true
  | _ => false
def backE (vs : List Nat) (ρ0 ρ : Env) : Env := match vs with
  | [] => ρ
  | v :: r => match ρ0[v]? with
    | some s => (backE r ρ0 ρ).set v s
    | none => backE r ρ0 ρ
def compL (step : D → Env → Option (Option D × Env)) : List D → Env → Option (List D × Env)
  | [], ρ => some ([], ρ)
  | d :: ds, ρ => match step d ρ with
    | none => none
    | some (o, ρ1) => match compL step ds ρ1 with
      | none => none
      | some (r, ρ2) => some ((match o with | some y => y :: r | none => r), ρ2)
def compL2 (step : D → Env → Option (List D × Env)) : List D → Env → Option (List D × Env)
  | [], ρ => some ([], ρ)
  | d :: ds, ρ => match step d ρ with
    | none => none
    | some (o, ρ1) => match compL2 step ds ρ1 with
      | none => none
      | some (r, ρ2) => some (o ++ r, ρ2)
/-- an argument as the callee sees it -/
def argOf (ρ : Env) : PK → Opd → Option Slot
  | .B, .v d => some (.fz d)
  | .B, .sl i => match ρ[i]? with
    | some (.fz d) => some (.fz d)
    | some (.own ds) => some (.bor ds)
    | some (.lent ds) => some (.bor ds)
    | some (.bor ds) => some (.bor ds)
    | some (.mu ds) => some (.bor ds)
    | some (.ro ds) => some (.ro ds)
    | _ => none
  | .I, .v d => some (.fz d)
  | .I, .sl _ => none
  | .M, .v _ => none
  | .M, .sl i => match ρ[i]? with
    | some (.own ds) => some (.mu ds)
    | some (.mu ds) => some (.mu ds)
    | _ => none
def argsOf (ρ : Env) : List PK → List Opd → Option (List Slot)
  | [], [] => some []
  | k :: ks, o :: os => match argOf ρ k o with
    | none => none
    | some s => match argsOf ρ ks os with
      | none => none
      | some ss => some (s :: ss)
  | _, _ => none
/-- the slots that are handed over to be changed -/
def muts : List PK → List Opd → List Nat
  | .M :: ks, .sl i :: os => i :: muts ks os
  | _ :: ks, _ :: os => muts ks os
  | _, _ => []
/-- what is handed over to be changed is handed over once -/
def okPair (p p' : PK × Opd) : Bool := match p.2, p'.2 with
  | .sl i, .sl j => if p.1 = .M ∨ p'.1 = .M then i != j else true
  | _, _ => true
def apartB (ks : List PK) (os : List Opd) : Bool := decide ((ks.zip os).Pairwise fun p p' => okPair p p' = true)
def outsIn : List Nat → List (List D) → Env → Option Env
  | [], [], ρ => some ρ
  | i :: is, ds :: r, ρ => match ρ[i]? with
    | some (.own _) => outsIn is r (ρ.set i (.own ds))
    | some (.mu _) => outsIn is r (ρ.set i (.mu ds))
    | _ => none
  | _, _, _ => none

def isLB : Option D → Bool
  | some (.list _) => true
  | _ => false
/-! ### a dict of one's own, by ints -/
def kvGet (kvs : List (Int × D)) (k : Int) : Option D := (kvs.find? fun p => decide (p.1 = k)).map (·.2)
def kvPut (kvs : List (Int × D)) (k : Int) (d : D) : List (Int × D) :=
  if (kvs.any fun p => decide (p.1 = k)) = true then kvs.map (fun p => if p.1 = k then (p.1, d) else p) else kvs ++ [(k, d)]
def dctB (ρ : Env) (i : Nat) : Bool := match ρ[i]? with
  | some (.dct _) => true
  | _ => false
def dGetS (ρ : Env) (i : Nat) (k : Int) : Option D := match ρ[i]? with
  | some (.dct kvs) => kvGet kvs k
  | _ => none
def dInS (ρ : Env) (i : Nat) (k : Int) : Option Bool := match ρ[i]? with
  | some (.dct kvs) => some (kvGet kvs k).isSome
  | _ => none
def dPutS (ρ : Env) (i : Nat) (k : Int) (d : D) : Option Env := match ρ[i]? with
  | some (.dct kvs) => if kvs.length < sizeLine then some (ρ.set i (.dct (kvPut kvs k d))) else none
  | _ => none
/-! what may be looked at without being frozen -/
mutual
def pk (ρ : Env) : E → Option D
  | .var i => rd ρ i
  | .int n => some (.int n)
  | .tup es => match pks ρ es with
    | some ds => if ds.length ≤ sizeLine then some (.tuple ds) else none
    | none => none
  | _ => none
def pks (ρ : Env) : Es → Option (List D)
  | .nil => some []
  | .cons e es => match pk ρ e with
    | some d => match pks ρ es with
      | some ds => some (d :: ds)
      | none => none
    | none => none
end
def notM : PK → Bool
  | .M => false
  | _ => true
/-- what such a call gives: flat data -/
def flatO (ρ : Env) : Option (Res × List (List D)) → Option (Res × Env)
  | some (.fr d, []) => if isFlat d = true then some (.fr d, ρ) else none
  | _ => none
/-! ### lists under lists -/
mutual
def noL : D → Bool
  | .none => true
  | .bool _ => true
  | .int _ => true
  | .str _ => true
  | .list _ => false
  | .tuple ds => noLs ds
  | .dict _ => false
def noLs : List D → Bool
  | [] => true
  | d :: ds => noL d && noLs ds
end
def rowB : D → Bool
  | .list es => noLs es
  | _ => false
/-- an index that is only looked at -/
def pixV (ρ : Env) (j : Nat) : Option Int := match ρ[j]? with
  | some (.fz (.int k)) => some k
  | _ => none
def pix (ρ : Env) : E → Option Int
  | .int n => some n
  | .var j => pixV ρ j
  | .idx (.var j) (.int n) => match rd ρ j with
    | some (.list ds) => match atI ds n with
      | some (.int k) => some k
      | _ => none
    | _ => none
  | .bin .add (.var j) (.int n) => match pixV ρ j with
    | some k => some (k + n)
    | none => none
  | .bin .sub (.var j) (.int n) => match pixV ρ j with
    | some k => some (k - n)
    | none => none
  | _ => none
def pxB : E → Bool
  | .int _ => true
  | .var _ => true
  | .idx (.var _) (.int _) => true
  | .bin .add (.var _) (.int _) => true
  | .bin .sub (.var _) (.int _) => true
  | _ => false
def treeAt (ρ : Env) (i : Nat) : Option (List D) := match ρ[i]? with
  | some (.dp .tree (.list ds)) => some ds
  | _ => none
def rowAt (ds : List D) : Option Int → Option (Nat × List D)
  | none => none
  | some k => match ixN ds.length k with
    | none => none
    | some n => match ds[n]? with
      | some (.list es) => some (n, es)
      | _ => none
def cellAt (es : List D) : Option Int → Option (Nat × D)
  | none => none
  | some k => match ixN es.length k with
    | none => none
    | some n => match es[n]? with
      | some d => some (n, d)
      | none => none
def dixG (ρ : Env) (i : Nat) (a b : E) : Option D := match treeAt ρ i with
  | none => none
  | some ds => match rowAt ds (pix ρ a) with
    | none => none
    | some (_, es) => match cellAt es (pix ρ b) with
      | none => none
      | some (_, d) => some d
def dlenG (ρ : Env) (i : Nat) : Option D := match treeAt ρ i with
  | none => none
  | some ds => some (.int ds.length)
def dsetG (ρ : Env) (i : Nat) (a b : E) (d : D) : Option Env := match treeAt ρ i with
  | none => none
  | some ds => match rowAt ds (pix ρ a) with
    | none => none
    | some (n, es) => match cellAt es (pix ρ b) with
      | none => none
      | some (j, _) => if noL d = true then some (ρ.set i (.dp .tree (.list (ds.set n (.list (es.set j d)))))) else none
def dswpG (ρ : Env) (i : Nat) (a b : E) : Option Env := match treeAt ρ i with
  | none => none
  | some ds => match cellAt ds (pix (ρ.set i .un) a) with
    | none => none
    | some (n, d) => match cellAt ds (pix (ρ.set i .un) b) with
      | none => none
      | some (m, e) => some (ρ.set i (.dp .tree (.list ((ds.set n e).set m d))))
inductive Out where
  | next | brk | cont | ret (r : Res)

mutual
def ev (F : FT) : E → Env → Option (Res × Env)
  | .var i, ρ => freeze i ρ
  | .int n, ρ => some (.fr (.int n), ρ)
  | .bl b, ρ => some (.fr (.bool b), ρ)
  | .non, ρ => some (.fr .none, ρ)
  | .str s, ρ => some (.fr (.str (Str.ofString s)), ρ)
  | .bin o a b, ρ => match opd a (ev F a) ρ with
    | none => none
    | some (oa, ρ1) => match opd b (ev F b) ρ1 with
      | none => none
      | some (ob, ρ2) => match oa.get ρ2, ob.get ρ2 with
        | some da, some db => (dBin o da db).map fun r => (r, ρ2)
        | _, _ => none
  | .neg a, ρ => match ev F a ρ with
    | some (.fr (.int i), ρ1) => some (.fr (.int (-i)), ρ1)
    | _ => none
  | .no a, ρ => match ev F a ρ with
    | some (.fr (.bool i), ρ1) => some (.fr (.bool (!i)), ρ1)
    | _ => none
  | .cmp o a b, ρ => match opd a (ev F a) ρ with
    | none => none
    | some (oa, ρ1) => match opd b (ev F b) ρ1 with
      | none => none
      | some (ob, ρ2) => match oa.get ρ2, ob.get ρ2 with
        | some da, some db => (dCmp o da db).map fun r => (.fr (.bool r), ρ2)
        | _, _ => none
  | .cmp2 o p a b c, ρ => match ev F a ρ with
    | none => none
    | some (ra, ρ1) => match ev F b ρ1 with
      | none => none
      | some (rb, ρ2) => match dCmp o ra.d rb.d with
        | none => none
        | some false => some (.fr (.bool false), ρ2)
        | some true => match ev F c ρ2 with
          | none => none
          | some (rc, ρ3) => (dCmp p rb.d rc.d).map fun r => (.fr (.bool r), ρ3)
  | .and a b, ρ => match ev F a ρ with
    | some (.fr (.bool false), ρ1) => some (.fr (.bool false), ρ1)
    | some (.fr (.bool true), ρ1) => ev F b ρ1
    | _ => none
  | .or a b, ρ => match ev F a ρ with
    | some (.fr (.bool true), ρ1) => some (.fr (.bool true), ρ1)
    | some (.fr (.bool false), ρ1) => ev F b ρ1
    | _ => none
  | .ite c a b, ρ => match ev F c ρ with
    | some (.fr (.bool true), ρ1) => ev F a ρ1
    | some (.fr (.bool false), ρ1) => ev F b ρ1
    | _ => none
  | .idx a i, ρ => match opd a (ev F a) ρ with
    | none => none
    | some (oa, ρ1) => match ev F i ρ1 with
      | none => none
      | some (ri, ρ2) => match oa.getR ρ2 with
        | some da => (dIdx da ri.d).map fun d => (.fr d, ρ2)
        | none => none
  | .slc a lo hi, ρ => match opd a (ev F a) ρ with
    | none => none
    | some (oa, ρ1) => match evO F lo ρ1 with
      | none => none
      | some (l, ρ2) => match evO F hi ρ2 with
        | none => none
        | some (h, ρ3) => match oa.get ρ3 with
          | some da => (dSlc da l h).map fun r => (r, ρ3)
          | none => none
  | .dix i a b, ρ => match dixG ρ i a b with
    | some d => some (.fr d, ρ)
    | none => none
  | .dlen i, ρ => match dlenG ρ i with
    | some d => some (.fr d, ρ)
    | none => none
  | .dget i k, ρ => match dctB ρ i with
    | false => none
    | true => match ev F k ρ with
      | some (.fr (.int j), ρ1) => (dGetS ρ1 i j).map fun d => (.fr d, ρ1)
      | _ => none
  | .din neg i k, ρ => match ev F k ρ with
    | some (.fr (.int j), ρ1) => (dInS ρ1 i j).map fun b => (.fr (.bool (neg != b)), ρ1)
    | _ => none
  | .rvs a, ρ => match opd a (ev F a) ρ with
    | none => none
    | some (oa, ρ1) => match oa.get ρ1 with
      | some d => (dRev d).map fun r => (r, ρ1)
      | none => none
  | .tup es, ρ => match evs F es ρ with
    | none => none
    | some (ds, ρ1) => if ds.length ≤ sizeLine then some (.fr (.tuple ds), ρ1) else none
  | .lst es, ρ => match evs F es ρ with
    | none => none
    | some (ds, ρ1) => if ds.length ≤ sizeLine then some (.nw ds, ρ1) else none
  | .comp elt t it c vs, ρ => match evI F it ρ with
    | none => none
    | some (ds, ρ0, ls) => if (vs.all fun v => match (lendL ls ρ0)[v]? with | some s => quietS s | none => false) = false then none else
      match compL (fun d ρ => match asgT t d ρ with
        | none => none
        | some ρa => match evC F c ρa with
          | none => none
          | some (false, ρb) => some (none, wipeE vs ρb)
          | some (true, ρb) => match ev F elt ρb with
            | none => none
            | some (r, ρc) => some (some r.d, wipeE vs ρc)) ds (wipeE vs (lendL ls ρ0)) with
      | none => none
      | some (r, ρ2) => some (.nw r, unlend ls (backE vs (lendL ls ρ0) ρ2))
  | .comp2 elt t it c0 t1 it1 c vs vs1, ρ => match evI F it ρ with
    | none => none
    | some (ds, ρ0, ls) => if (vs.all fun v => match (lendL ls ρ0)[v]? with | some s => quietS s | none => false) = false then none else
      match compL2 (fun d ρ => match asgT t d ρ with
        | none => none
        | some ρa => match evC F c0 ρa with
          | none => none
          | some (false, ρb) => some ([], wipeE vs ρb)
          | some (true, ρb) => match evI F it1 ρb with
            | some (ds1, ρ1, []) => if (vs1.all fun v => match ρ1[v]? with | some s => quietS s | none => false) = false then none else
              match compL (fun d ρ => match asgT t1 d ρ with
                | none => none
                | some ρa => match evC F c ρa with
                  | none => none
                  | some (false, ρb) => some (none, wipeE vs1 ρb)
                  | some (true, ρb) => match ev F elt ρb with
                    | none => none
                    | some (r, ρc) => some (some r.d, wipeE vs1 ρc)) ds1 (wipeE vs1 ρ1) with
              | none => none
              | some (r, ρ2) => some (r, wipeE vs ρ2)
            | _ => none) ds (wipeE vs (lendL ls ρ0)) with
      | none => none
      | some (r, ρ2) => if r.length ≤ sizeLine then some (.nw r, unlend ls (backE vs (lendL ls ρ0) ρ2)) else none
  | .setc srt elt t it c vs, ρ => match evI F it ρ with
    | none => none
    | some (ds, ρ0, ls) => if (vs.all fun v => match (lendL ls ρ0)[v]? with | some s => quietS s | none => false) = false then none else
      match compL (fun d ρ => match asgT t d ρ with
        | none => none
        | some ρa => match evC F c ρa with
          | none => none
          | some (false, ρb) => some (none, wipeE vs ρb)
          | some (true, ρb) => match ev F elt ρb with
            | none => none
            | some (r, ρc) => some (some r.d, wipeE vs ρc)) ds (wipeE vs (lendL ls ρ0)) with
      | none => none
      | some (r, ρ2) => (setR srt r).map fun x => (x, unlend ls (backE vs (lendL ls ρ0) ρ2))
  | .call f es, ρ => match F f with
    | none => none
    | some (ks, fn) => match evA F ks es ρ with
      | none => none
      | some (os, ρ1) => if apartB ks os = false then none else
        match argsOf ρ1 ks os with
        | none => none
        | some ss => match fn ss with
          | none => none
          | some (r, outs) => match outsIn (muts ks os) outs ρ1 with
            | none => none
            | some ρ2 => some (r, ρ2)
  | .pcall f es, ρ => match F f with
    | none => none
    | some (ks, fn) => match pks ρ es with
      | none => none
      | some ds => if (ks.all notM && decide (ds.length = ks.length)) = true then flatO ρ (fn (ds.map .fz)) else none
  | .blt b es, ρ => match evP F es ρ with
    | none => none
    | some (os, ρ1) => match os.mapM (Opd.get ρ1) with
      | none => none
      | some ds => (dBlt b ds).map fun r => (r, ρ1)
  | .isi a t, ρ => match opd a (ev F a) ρ with
    | none => none
    | some (oa, ρ1) => (oa.get ρ1).map fun d => (.fr (.bool (tyIs t d)), ρ1)
  | .len a, ρ => match opd a (ev F a) ρ with
    | none => none
    | some (oa, ρ1) => match oa.getR ρ1 with
      | some d => (dLen d).map fun r => (.fr r, ρ1)
      | none => none
  | .rngs t it, ρ => match evI F it ρ with
    | some (ds, ρ1, _) => some (if t then .fr (.tuple ds) else .nw ds, ρ1)
    | none => none
  | .meth m o a, ρ => match opd o (ev F o) ρ with
    | none => none
    | some (oo, ρ1) => match isLB (oo.get ρ1) with
      | false => none
      | true => match ev F a ρ1 with
        | none => none
        | some (ra, ρ2) => match oo.get ρ2 with
          | none => none
          | some d => (dMth m d ra.d).map fun r => (.fr r, ρ2)
  | .chg m i es, ρ => match rd ρ i with
    | some (.list _) => match evs F es ρ with
      | none => none
      | some (ds, ρ1) => match ρ1[i]? with
        | some (.own xs) => (dChg m xs ds).map fun p => (.fr p.2, ρ1.set i (.own p.1))
        | some (.mu xs) => (dChg m xs ds).map fun p => (.fr p.2, ρ1.set i (.mu p.1))
        | _ => none
    | _ => none
def evO (F : FT) : OE → Env → Option (Option Int × Env)
  | .none, ρ => some (none, ρ)
  | .some e, ρ => match ev F e ρ with
    | some (.fr (.int i), ρ1) => some (some i, ρ1)
    | _ => none
def evC (F : FT) : OE → Env → Option (Bool × Env)
  | .none, ρ => some (true, ρ)
  | .some e, ρ => match ev F e ρ with
    | some (.fr (.bool i), ρ1) => some (i, ρ1)
    | _ => none
/-- what is walked: the items, the slots behind, those to be lent -/
def evI (F : FT) : Wk → Env → Option (List D × Env × List Nat)
  | .seq a, ρ => match opd a (ev F a) ρ with
    | none => none
    | some (oa, ρ1) => if noMu oa ρ1 = false then none else match (oa.get ρ1).bind seqOf with
      | none => none
      | some ds => some (ds, ρ1, lends oa ρ1)
  | .rng1 a, ρ => match ev F a ρ with
    | some (.fr (.int i), ρ1) => if -(2 ^ 62) ≤ i ∧ i ≤ (sizeLine : Int) then some (rngD 0 i, ρ1, []) else none
    | _ => none
  | .rng2 a b, ρ => match ev F a ρ with
    | some (.fr (.int i), ρ1) => match ev F b ρ1 with
      | some (.fr (.int j), ρ2) => if -(2 ^ 62) ≤ i ∧ i < 2 ^ 62 ∧ j < 2 ^ 62 ∧ -(2 ^ 62) ≤ j ∧ j - i ≤ (sizeLine : Int) then some (rngD i j, ρ2, []) else none
      | _ => none
    | _ => none
  | .enm a, ρ => match opd a (ev F a) ρ with
    | none => none
    | some (oa, ρ1) => if noMu oa ρ1 = false then none else match (oa.get ρ1).bind seqOf with
      | some ds => some (enumD ds, ρ1, lends oa ρ1)
      | none => none
  | .zip a b, ρ => match opd a (ev F a) ρ with
    | none => none
    | some (oa, ρ1) => match opd b (ev F b) ρ1 with
      | none => none
      | some (ob, ρ2) => if noMu oa ρ2 = false then none else if noMu ob ρ2 = false then none else match oa.get ρ2 with
        | some (.list xs) => (match ob.get ρ2 with
          | some (.list ys) => some (pairD xs ys, ρ2, lends oa ρ2 ++ lends ob ρ2)
          | _ => none)
        | some (.tuple xs) => (match ob.get ρ2 with
          | some (.tuple ys) => some (pairD xs ys, ρ2, lends oa ρ2 ++ lends ob ρ2)
          | _ => none)
        | _ => none
  | .rev a, ρ => match opd a (ev F a) ρ with
    | none => none
    | some (oa, ρ1) => if noMu oa ρ1 = false then none else match (oa.get ρ1).bind seqOf with
      | none => none
      | some ds => some (ds.reverse, ρ1, lends oa ρ1)
  | .rrng1 a, ρ => match ev F a ρ with
    | some (.fr (.int i), ρ1) => if -(2 ^ 62) ≤ i ∧ i ≤ (sizeLine : Int) then some ((rngD 0 i).reverse, ρ1, []) else none
    | _ => none
  | .rrng2 a b, ρ => match ev F a ρ with
    | some (.fr (.int i), ρ1) => match ev F b ρ1 with
      | some (.fr (.int j), ρ2) => if -(2 ^ 62) ≤ i ∧ i < 2 ^ 62 ∧ j < 2 ^ 62 ∧ -(2 ^ 62) ≤ j ∧ j - i ≤ (sizeLine : Int) then some ((rngD i j).reverse, ρ2, []) else none
      | _ => none
    | _ => none
  | .dwn a b, ρ => match ev F a ρ with
    | some (.fr (.int i), ρ1) => match ev F b ρ1 with
      | some (.fr (.int j), ρ2) => if -(2 ^ 62) ≤ i ∧ i < 2 ^ 62 ∧ j < 2 ^ 62 ∧ -(2 ^ 62) ≤ j ∧ i - j ≤ (sizeLine : Int) then some (dwnD i j, ρ2, []) else none
      | _ => none
    | _ => none
def evs (F : FT) : Es → Env → Option (List D × Env)
  | .nil, ρ => some ([], ρ)
  | .cons e es, ρ => match ev F e ρ with
    | none => none
    | some (r, ρ1) => match evs F es ρ1 with
      | none => none
      | some (ds, ρ2) => some (r.d :: ds, ρ2)
def evP (F : FT) : Es → Env → Option (List Opd × Env)
  | .nil, ρ => some ([], ρ)
  | .cons e es, ρ => match opd e (ev F e) ρ with
    | none => none
    | some (o, ρ1) => match evP F es ρ1 with
      | none => none
      | some (os, ρ2) => some (o :: os, ρ2)
def evA (F : FT) : List PK → Es → Env → Option (List Opd × Env)
  | [], .nil, ρ => some ([], ρ)
  | .I :: ks, .cons e es, ρ => match ev F e ρ with
    | none => none
    | some (r, ρ1) => match evA F ks es ρ1 with
      | none => none
      | some (os, ρ2) => some (.v r.d :: os, ρ2)
  | _ :: ks, .cons e es, ρ => match opd e (ev F e) ρ with
    | none => none
    | some (o, ρ1) => match evA F ks es ρ1 with
      | none => none
      | some (os, ρ2) => some (o :: os, ρ2)
  | _, _, _ => none
end

def whileL (c : Env → Option (Res × Env)) (b : Env → Option (Out × Env)) : Nat → Env → Option (Out × Env)
  | 0, _ => none
  | n + 1, ρ => match c ρ with
    | some (.fr (.bool false), ρ1) => some (.next, ρ1)
    | some (.fr (.bool true), ρ1) => match b ρ1 with
      | none => none
      | some (.next, ρ2) => whileL c b n ρ2
      | some (.cont, ρ2) => whileL c b n ρ2
      | some (.brk, ρ2) => some (.next, ρ2)
      | some (.ret r, ρ2) => some (.ret r, ρ2)
    | _ => none
def forL (b : D → Env → Option (Out × Env)) : List D → Env → Option (Out × Env)
  | [], ρ => some (.next, ρ)
  | d :: ds, ρ => match b d ρ with
    | none => none
    | some (.next, ρ2) => forL b ds ρ2
    | some (.cont, ρ2) => forL b ds ρ2
    | some (.brk, ρ2) => some (.next, ρ2)
    | some (.ret r, ρ2) => some (.ret r, ρ2)
mutual
def ex (F : FT) : S → Env → Option (Out × Env)
  | .asg t e, ρ => match ev F e ρ with
    | none => none
    | some (r, ρ1) => (asgR t r ρ1).map fun ρ2 => (.next, ρ2)
  | .par i j a b, ρ => match ev F a ρ with
    | none => none
    | some (ra, ρ1) => match ev F b ρ1 with
      | none => none
      | some (rb, ρ2) => match put i (.fz ra.d) ρ2 with
        | none => none
        | some ρ3 => (put j (.fz rb.d) ρ3).map fun ρ4 => (.next, ρ4)
  | .aug o i e, ρ => match ρ[i]? with
    | some (.fz (.int x)) => match ev F e ρ with
      | some (.fr (.int y), ρ1) => match dBin o (.int x) (.int y) with
        | some (.fr (.int z)) => (put i (.fz (.int z)) ρ1).map fun ρ2 => (.next, ρ2)
        | _ => none
      | _ => none
    | _ => none
  | .dset i a b e, ρ => match ev F e ρ with
    | none => none
    | some (r, ρ1) => match dsetG ρ1 i a b r.d with
      | some ρ2 => some (.next, ρ2)
      | none => none
  | .dswp i a b, ρ => match dswpG ρ i a b with
    | some ρ1 => some (.next, ρ1)
    | none => none
  | .dcomp i elt t it c vs, ρ => match evI F it ρ with
    | none => none
    | some (ds, ρ0, ls) => if (vs.all fun v => match (lendL ls ρ0)[v]? with | some s => quietS s | none => false) = false then none else
      match compL (fun d ρ => match asgT t d ρ with
        | none => none
        | some ρa => match evC F c ρa with
          | none => none
          | some (false, ρb) => some (none, wipeE vs ρb)
          | some (true, ρb) => match ev F elt ρb with
            | some (.nw es, ρc) => if noLs es = true then some (some (.list es), wipeE vs ρc) else none
            | _ => none) ds (wipeE vs (lendL ls ρ0)) with
      | none => none
      | some (r, ρ2) => (put i (.dp .tree (.list r)) (unlend ls (backE vs (lendL ls ρ0) ρ2))).map fun ρ3 => (.next, ρ3)
  | .dnew i k v, ρ => match ev F k ρ with
    | some (.fr (.int j), ρ1) => match ev F v ρ1 with
      | some (r, ρ2) => (put i (.dct [(j, r.d)]) ρ2).map fun ρ3 => (.next, ρ3)
      | none => none
    | _ => none
  | .dput i k v, ρ => match ev F v ρ with
    | some (r, ρ1) => match dctB ρ1 i with
      | false => none
      | true => match ev F k ρ1 with
        | some (.fr (.int j), ρ2) => (dPutS ρ2 i j r.d).map fun ρ3 => (.next, ρ3)
        | _ => none
    | none => none
  | .rse, _ => none
  | .setIx i ix e, ρ => match ev F e ρ with
    | none => none
    | some (r, ρ1) => match rd ρ1 i with
      | some (.list _) => match ev F ix ρ1 with
        | some (.fr (.int k), ρ2) => match ρ2[i]? with
          | some (.own xs) => (ixN xs.length k).map fun j => (.next, ρ2.set i (.own (xs.set j r.d)))
          | some (.mu xs) => (ixN xs.length k).map fun j => (.next, ρ2.set i (.mu (xs.set j r.d)))
          | _ => none
        | _ => none
      | _ => none
  | .augIx o i ix e, ρ => match rd ρ i with
    | some (.list _) => match ev F ix ρ with
      | some (.fr (.int k), ρ1) => match (match rd ρ1 i with | some (.list us) => atI us k | _ => none) with
        | some (.int x) => match ev F e ρ1 with
          | some (.fr (.int y), ρ2) => match dBin o (.int x) (.int y) with
            | some (.fr (.int z)) => match ρ2[i]? with
              | some (.own xs) => (ixN xs.length k).map fun j => (.next, ρ2.set i (.own (xs.set j (.int z))))
              | some (.mu xs) => (ixN xs.length k).map fun j => (.next, ρ2.set i (.mu (xs.set j (.int z))))
              | _ => none
            | _ => none
          | _ => none
        | _ => none
      | _ => none
    | _ => none
  | .ex e, ρ => (ev F e ρ).map fun p => (.next, p.2)
  | .ret (.var i), ρ => match ρ[i]? with
    | some (.fz d) => some (.ret (.fr d), ρ)
    | some (.own ds) => some (.ret (.nw ds), ρ)
    | some (.dp .tree d) => some (.ret (.fr d), ρ.set i (.fz d))
    | some (.dp .prv d) => some (.ret (.fr d), ρ.set i (.fz d))
    | _ => none
  | .ret e, ρ => (ev F e ρ).map fun p => (.ret p.1, p.2)
  | .retN, ρ => some (.ret (.fr .none), ρ)
  | .brk, ρ => some (.brk, ρ)
  | .cont, ρ => some (.cont, ρ)
  | .pass, ρ => some (.next, ρ)
  | .ife c a b, ρ => match ev F c ρ with
    | some (.fr (.bool true), ρ1) => exs F a ρ1
    | some (.fr (.bool false), ρ1) => exs F b ρ1
    | _ => none
  | .whl n c b, ρ => whileL (ev F c) (exs F b) n ρ
  | .forr t it b, ρ => match evI F it ρ with
    | none => none
    | some (ds, ρ1, ls) => match forL (fun d ρ => match asgT t d ρ with
        | none => none
        | some ρa => exs F b ρa) ds (lendL ls ρ1) with
      | none => none
      | some (o, ρ2) => some (o, unlend ls ρ2)
def exs (F : FT) : Ss → Env → Option (Out × Env)
  | .nil, ρ => some (.next, ρ)
  | .cons s ss, ρ => match ex F s ρ with
    | some (.next, ρ1) => exs F ss ρ1
    | x => x
end

/-! ### defs -/
structure Def where
  name : String
  at_ : Nat
  ks : List PK
  N : List String
  body : Ss
abbrev Tab := List Def
def find (T : Tab) (f : String) : Option Def := List.find? (fun d => d.name == f) T
def outsOf : List PK → Env → Option (List (List D))
  | [], _ => some []
  | .M :: ks, .mu ds :: ρ => (outsOf ks ρ).map (ds :: ·)
  | .M :: _, _ => none
  | _ :: ks, _ :: ρ => outsOf ks ρ
  | _ :: _, [] => none
/-- the arguments are of the kinds that the def says -/
def kindsB : List PK → List Slot → Bool
  | [], [] => true
  | .M :: ks, .mu _ :: r => kindsB ks r
  | .B :: ks, .fz _ :: r => kindsB ks r
  | .B :: ks, .bor _ :: r => kindsB ks r
  | .B :: ks, .ro _ :: r => kindsB ks r
  | .I :: ks, .fz _ :: r => kindsB ks r
  | _, _ => false
def runD (F : FT) (d : Def) (args : List Slot) : Option (Res × List (List D)) :=
  if kindsB d.ks args = false then none else
  match exs F d.body (args ++ List.replicate (d.N.length - args.length) .un) with
  | some (.ret r, ρ) => (outsOf d.ks ρ).map fun o => (r, o)
  | some (.next, ρ) => (outsOf d.ks ρ).map fun o => (.fr .none, o)
  | _ => none
def callF (T : Tab) : Nat → FT
  | 0, _ => none
  | k + 1, f => match find T f with
    | none => none
    | some d => some (d.ks, runD (callF T k) d)
end Ev


set_option maxRecDepth 100000
/-! Ev2: how data lie in the heap; the state; steps. -/
namespace Ev
open PySem L2
variable [TheK]

/-- a list that is known to the heap, or the text's own -/
def Ro (H : Hp) (a : Addr) (vs : List V) : Prop := (∃ o, H a = some (.frz o (.lst vs))) ∨
    ∃ (o : Obj) (its : Array Value) (n : Nat), TheK.K.lookup a = some o ∧ o.cls = .type "list" ∧ o.dict = none ∧ o.data = .seq its n ∧ its.size ≤ sizeLine ∧ Vals vs its.toList
theorem Ro.sq {H a vs} (h : Ro H a vs) : SqL TheK.K H a vs := by
  rcases h with ⟨o, h⟩ | h
  · exact .inl (.inr ⟨o, h⟩)
  · exact .inr h
theorem Ro.keep {H H' : Hp} {a vs} (h : Ro H a vs) (k : ∀ o u, H a = some (.frz o u) → H' a = some (.frz o u)) : Ro H' a vs := by
  rcases h with ⟨o, h⟩ | h
  · exact .inl ⟨o, k _ _ h⟩
  · exact .inr h
mutual
/-- the value v is the data d, all of whose objects are frozen (in A) -/
inductive Rep (A : Addr → Prop) (H : Hp) : V → D → Prop
  | none : Rep A H V.non PyData.none
  | bool {b} : Rep A H (V.bl b) (PyData.bool b)
  | int {i} : Rep A H (V.int i) (PyData.int i)
  | str {x} : Rep A H (V.str x) (PyData.str x)
  | lst {a vs ds} : A a → H a = some (HO.lst vs) → vs.length ≤ sizeLine → RepAll A H vs ds → Rep A H (V.ref a) (PyData.list ds)
  | tup {a vs ds} : A a → H a = some (HO.tup vs) → vs.length ≤ sizeLine → RepAll A H vs ds → Rep A H (V.ref a) (PyData.tuple ds)
inductive RepAll (A : Addr → Prop) (H : Hp) : List V → List D → Prop
  | nil : RepAll A H [] []
  | cons {v d vs ds} : Rep A H v d → RepAll A H vs ds → RepAll A H (v :: vs) (d :: ds)
end

/-- frozen things stay -/
def Keep (A : Addr → Prop) (H H' : Hp) : Prop := ∀ a o, A a → H a = some o → H' a = some o
theorem _root_.L2.Rd.keep {H H' : Hp} {a : Addr} {u : HO} (h : Rd H a u) (k : ∀ o, H a = some o → H' a = some o) : Rd H' a u := by
  rcases h with h | ⟨o, h⟩
  · exact .inl (k _ h)
  · exact .inr ⟨o, k _ h⟩
mutual
theorem Rep.mono {A A' : Addr → Prop} {H H' : Hp} (e : ∀ a, A a → A' a) (k : Keep A H H') : ∀ {v d}, Rep A H v d → Rep A' H' v d
  | _, _, .none => .none
  | _, _, .bool => .bool
  | _, _, .int => .int
  | _, _, .str => .str
  | _, _, .lst h1 h2 h3 h4 => .lst (e _ h1) (k _ _ h1 h2) h3 (RepAll.mono e k h4)
  | _, _, .tup h1 h2 h3 h4 => .tup (e _ h1) (k _ _ h1 h2) h3 (RepAll.mono e k h4)
theorem RepAll.mono {A A' : Addr → Prop} {H H' : Hp} (e : ∀ a, A a → A' a) (k : Keep A H H') : ∀ {vs ds}, RepAll A H vs ds → RepAll A' H' vs ds
  | _, _, .nil => .nil
  | _, _, .cons h1 h2 => .cons (Rep.mono e k h1) (RepAll.mono e k h2)
end
section
variable {A : Addr → Prop} {H : Hp} {vs ws : List V} {ds es : List D} {v : V} {d : D}
theorem RepAll.length : ∀ {vs ds}, RepAll A H vs ds → vs.length = ds.length
  | _, _, .nil => rfl
  | _, _, .cons _ h => by simp [RepAll.length h]
theorem RepAll.get : ∀ {vs ds} (i : Nat) {d}, RepAll A H vs ds → ds[i]? = some d → ∃ v, vs[i]? = some v ∧ Rep A H v d
  | _, _, i, d, .nil, e => by simp at e
  | _, _, 0, d, .cons h1 h2, e => by simp at e; subst e; exact ⟨_, rfl, h1⟩
  | _, _, i + 1, d, .cons h1 h2, e => by simpa using RepAll.get i h2 (by simpa using e)
theorem RepAll.getV : ∀ {vs ds} (i : Nat) {v}, RepAll A H vs ds → vs[i]? = some v → ∃ d, ds[i]? = some d ∧ Rep A H v d
  | _, _, i, d, .nil, e => by simp at e
  | _, _, 0, d, .cons h1 h2, e => by simp at e; subst e; exact ⟨_, rfl, h1⟩
  | _, _, i + 1, d, .cons h1 h2, e => by simpa using RepAll.getV i h2 (by simpa using e)
theorem RepAll.append : ∀ {vs ds ws es}, RepAll A H vs ds → RepAll A H ws es → RepAll A H (vs ++ ws) (ds ++ es)
  | _, _, _, _, .nil, h => h
  | _, _, _, _, .cons h1 h2, h => .cons h1 (RepAll.append h2 h)
theorem RepAll.one (h : Rep A H v d) : RepAll A H [v] [d] := .cons h .nil
theorem RepAll.take : ∀ {vs ds} (n : Nat), RepAll A H vs ds → RepAll A H (vs.take n) (ds.take n)
  | _, _, 0, _ => .nil
  | _, _, _ + 1, .nil => .nil
  | _, _, n + 1, .cons h1 h2 => .cons h1 (RepAll.take n h2)
theorem RepAll.drop : ∀ {vs ds} (n : Nat), RepAll A H vs ds → RepAll A H (vs.drop n) (ds.drop n)
  | _, _, 0, h => h
  | _, _, _ + 1, .nil => .nil
  | _, _, n + 1, .cons h1 h2 => RepAll.drop n h2
theorem RepAll.set (h : Rep A H v d) : ∀ {vs ds} (n : Nat), RepAll A H vs ds → RepAll A H (vs.set n v) (ds.set n d)
  | _, _, _, .nil => .nil
  | _, _, 0, .cons _ h2 => .cons h h2
  | _, _, n + 1, .cons h1 h2 => .cons h1 (RepAll.set h n h2)
theorem RepAll.erase : ∀ {vs ds} (n : Nat), RepAll A H vs ds → RepAll A H (vs.eraseIdx n) (ds.eraseIdx n)
  | _, _, _, .nil => .nil
  | _, _, 0, .cons _ h2 => h2
  | _, _, n + 1, .cons h1 h2 => .cons h1 (RepAll.erase n h2)
theorem RepAll.reverse (h : RepAll A H vs ds) : RepAll A H vs.reverse ds.reverse := by
  induction vs generalizing ds with
  | nil => cases h; exact .nil
  | cons x r ih => cases h with | cons h1 h2 => simpa using (ih h2).append (.one h1)
theorem RepAll.dropLast (h : RepAll A H vs ds) : RepAll A H vs.dropLast ds.dropLast := by
  rw [List.dropLast_eq_take, List.dropLast_eq_take, h.length]
  exact h.take _
theorem RepAll.rep (n : Nat) (h : RepAll A H vs ds) : RepAll A H (List.replicate n vs).flatten (List.replicate n ds).flatten := by
  induction n with
  | zero => exact .nil
  | succ n ih => simpa [List.replicate_succ] using h.append ih
theorem rep_ints : ∀ (ns : List Int), RepAll A H (ns.map V.int) (ns.map .int)
  | [] => .nil
  | _ :: r => .cons .int (rep_ints r)
theorem rep_of_ints : ∀ {vs ds ns}, RepAll A H vs ds → allInts ds = some ns → vs = ns.map V.int ∧ ds = ns.map .int
  | _, _, _, .nil, e => by simp [allInts] at e; subst e; exact ⟨rfl, rfl⟩
  | _, _, _, .cons h1 h2, e => by
    cases h1 <;> simp [allInts] at e
    obtain ⟨ms, e1, e2⟩ := e
    subst e2
    obtain ⟨e3, e4⟩ := rep_of_ints h2 e1
    subst e3 e4
    exact ⟨rfl, rfl⟩
theorem rep_of_bools : ∀ {vs ds bs}, RepAll A H vs ds → allBools ds = some bs → vs = bs.map V.bl ∧ ds = bs.map .bool
  | _, _, _, .nil, e => by simp [allBools] at e; subst e; exact ⟨rfl, rfl⟩
  | _, _, _, .cons h1 h2, e => by
    cases h1 <;> simp [allBools] at e
    obtain ⟨ms, e1, e2⟩ := e
    subst e2
    obtain ⟨e3, e4⟩ := rep_of_bools h2 e1
    subst e3 e4
    exact ⟨rfl, rfl⟩
end

/-! ### lists under lists -/
/-- the lists under a value -/
inductive LR (H : Hp) : V → Addr → Prop
  | here {a vs} : H a = some (HO.lst vs) → LR H (V.ref a) a
  | lst {a vs v b} : H a = some (HO.lst vs) → v ∈ vs → LR H v b → LR H (V.ref a) b
  | tup {a vs v b} : H a = some (HO.tup vs) → v ∈ vs → LR H v b → LR H (V.ref a) b
mutual
/-- v is the data d, whose lists are not frozen -/
inductive DpR (A : Addr → Prop) (H : Hp) : V → D → Prop
  | leaf {v d} : Rep A H v d → noL d = true → DpR A H v d
  | lst {a vs ds} : H a = some (HO.lst vs) → vs.length ≤ sizeLine → ¬ A a → DpRs A H vs ds → DpR A H (V.ref a) (PyData.list ds)
  | tup {a vs ds} : A a → H a = some (HO.tup vs) → vs.length ≤ sizeLine → DpRs A H vs ds → DpR A H (V.ref a) (PyData.tuple ds)
inductive DpRs (A : Addr → Prop) (H : Hp) : List V → List D → Prop
  | nil : DpRs A H [] []
  | cons {v vs d ds} : DpR A H v d → DpRs A H vs ds → DpRs A H (v :: vs) (d :: ds)
end
def isLD : D → Bool
  | .list _ => true
  | _ => false
/-- a list of different flat lists -/
def TreeOk (H : Hp) (v : V) (d : D) : Prop := ∃ (a : Addr) (bs : List Addr) (ds : List D), v = .ref a ∧ H a = some (.lst (bs.map V.ref)) ∧ (a :: bs).Nodup ∧ d = .list ds ∧ ds.all rowB = true
mutual
theorem Rep.noLR {A H} : ∀ {v d}, Rep A H v d → noL d = true → ∀ a, ¬ LR H v a
  | _, _, .none, _, a, h => by cases h
  | _, _, .bool, _, a, h => by cases h
  | _, _, .int, _, a, h => by cases h
  | _, _, .str, _, a, h => by cases h
  | _, _, .lst _ _ _ _, n, _, _ => by cases n
  | _, _, .tup h1 h2 h3 h4, n, b, h => by
    rename_i ds
    have n' : noLs ds = true := by simpa [noL] using n
    cases h with
    | here e => rw [h2] at e; cases e
    | lst e _ _ => rw [h2] at e; cases e
    | tup e hm hr => rw [h2] at e; cases e; exact RepAll.noLR h4 n' _ hm b hr
theorem RepAll.noLR {A H} : ∀ {vs ds}, RepAll A H vs ds → noLs ds = true → ∀ v ∈ vs, ∀ a, ¬ LR H v a
  | _, _, .nil, _, v, hv, _, _ => by cases hv
  | _, _, .cons h1 h2, n, v, hv, a, h => by
    rw [noLs, Bool.and_eq_true] at n
    have n' := n
    rcases List.mem_cons.mp hv with e | hv
    · rw [e] at h; exact Rep.noLR h1 n'.1 a h
    · exact RepAll.noLR h2 n'.2 v hv a h
end
mutual
theorem DpR.lr {A H} : ∀ {v d}, DpR A H v d → ∀ a, LR H v a → ¬ A a ∧ ∃ vs, H a = some (.lst vs)
  | _, _, .leaf h n, a, l => absurd l (Rep.noLR h n a)
  | _, _, .lst h1 h2 h3 h4, b, l => by
    cases l with
    | here e => exact ⟨h3, _, e⟩
    | lst e hm hr => rw [h1] at e; cases e; exact DpRs.lr h4 _ hm b hr
    | tup e _ _ => rw [h1] at e; cases e
  | _, _, .tup h1 h2 h3 h4, b, l => by
    cases l with
    | here e => rw [h2] at e; cases e
    | lst e _ _ => rw [h2] at e; cases e
    | tup e hm hr => rw [h2] at e; cases e; exact DpRs.lr h4 _ hm b hr
theorem DpRs.lr {A H} : ∀ {vs ds}, DpRs A H vs ds → ∀ v ∈ vs, ∀ a, LR H v a → ¬ A a ∧ ∃ vs, H a = some (.lst vs)
  | _, _, .nil, v, hv, _, _ => by cases hv
  | _, _, .cons h1 h2, v, hv, a, l => by
    rcases List.mem_cons.mp hv with e | hv
    · rw [e] at l; exact DpR.lr h1 a l
    · exact DpRs.lr h2 v hv a l
end
mutual
theorem DpR.keep {A A' : Addr → Prop} {H H' : Hp} (e : ∀ a, A a → A' a) (k : Keep A H H') : ∀ {v d}, DpR A H v d → (∀ a o, LR H v a → H a = some o → H' a = some o) → (∀ a, LR H v a → ¬ A' a) → DpR A' H' v d
  | _, _, .leaf h n, _, _ => .leaf (Rep.mono e k h) n
  | _, _, .lst h1 h2 h3 h4, kl, na => .lst (kl _ _ (.here h1) h1) h2 (na _ (.here h1)) (DpRs.keep e k h4 (fun v hv a o l => kl a o (.lst h1 hv l)) (fun v hv a l => na a (.lst h1 hv l)))
  | _, _, .tup h1 h2 h3 h4, kl, na => .tup (e _ h1) (k _ _ h1 h2) h3 (DpRs.keep e k h4 (fun v hv a o l => kl a o (.tup h2 hv l)) (fun v hv a l => na a (.tup h2 hv l)))
theorem DpRs.keep {A A' : Addr → Prop} {H H' : Hp} (e : ∀ a, A a → A' a) (k : Keep A H H') : ∀ {vs ds}, DpRs A H vs ds → (∀ v ∈ vs, ∀ a o, LR H v a → H a = some o → H' a = some o) → (∀ v ∈ vs, ∀ a, LR H v a → ¬ A' a) → DpRs A' H' vs ds
  | _, _, .nil, _, _ => .nil
  | _, _, .cons h1 h2, kl, na => .cons (DpR.keep e k h1 (kl _ List.mem_cons_self) (na _ List.mem_cons_self)) (DpRs.keep e k h2 (fun v hv => kl v (List.mem_cons_of_mem _ hv)) (fun v hv => na v (List.mem_cons_of_mem _ hv)))
end
mutual
theorem DpR.back {A : Addr → Prop} {H H' : Hp} (k : Keep A H H') : ∀ {v d}, DpR A H v d → (∀ a o, LR H v a → H a = some o → H' a = some o) → ∀ a, LR H' v a → LR H v a
  | _, _, .leaf h n, _, a, l => absurd l (Rep.noLR (Rep.mono (fun _ z => z) k h) n a)
  | _, _, .lst h1 h2 h3 h4, kl, b, l => by
    have h1' := kl _ _ (.here h1) h1
    cases l with
    | here e => exact .here h1
    | lst e hm hr => rw [h1'] at e; cases e; exact .lst h1 hm (DpRs.back k h4 (fun v hv a o l => kl a o (.lst h1 hv l)) _ hm b hr)
    | tup e _ _ => rw [h1'] at e; cases e
  | _, _, .tup h1 h2 h3 h4, kl, b, l => by
    have h2' := k _ _ h1 h2
    cases l with
    | here e => rw [h2'] at e; cases e
    | lst e _ _ => rw [h2'] at e; cases e
    | tup e hm hr => rw [h2'] at e; cases e; exact .tup h2 hm (DpRs.back k h4 (fun v hv a o l => kl a o (.tup h2 hv l)) _ hm b hr)
theorem DpRs.back {A : Addr → Prop} {H H' : Hp} (k : Keep A H H') : ∀ {vs ds}, DpRs A H vs ds → (∀ v ∈ vs, ∀ a o, LR H v a → H a = some o → H' a = some o) → ∀ v ∈ vs, ∀ a, LR H' v a → LR H v a
  | _, _, .nil, _, v, hv, _, _ => by cases hv
  | _, _, .cons h1 h2, kl, v, hv, a, l => by
    rcases List.mem_cons.mp hv with e | hv
    · rw [e] at l ⊢; exact DpR.back k h1 (kl _ List.mem_cons_self) a l
    · exact DpRs.back k h2 (fun v hv => kl v (List.mem_cons_of_mem _ hv)) v hv a l
end
/-- a slot of lists under lists -/
def DpOk (A : Addr → Prop) (H : Hp) (ov : Option V) (k : DK) (d : D) : Prop := ∃ v d', ov = some v ∧ DpR A H v d' ∧ (k ≠ .junk → d' = d) ∧ (k = .tree → TreeOk H v d') ∧ isLD d' = isLD d
theorem DpOk.keep {A A' : Addr → Prop} {H H' : Hp} {ov k d} (e : ∀ a, A a → A' a) (kp : Keep A H H') (h : DpOk A H ov k d) (kl : ∀ v a o, ov = some v → LR H v a → H a = some o → H' a = some o) (na : ∀ v a, ov = some v → LR H v a → ¬ A' a) : DpOk A' H' ov k d := by
  obtain ⟨v, d', rfl, h1, h2, h3, h4⟩ := h
  refine ⟨v, d', rfl, h1.keep e kp (fun a o => kl v a o rfl) (fun a => na v a rfl), h2, fun hk => ?_, h4⟩
  obtain ⟨a, bs, ds, rfl, e1, e2⟩ := h3 hk
  exact ⟨a, bs, ds, rfl, kl _ a _ rfl (.here e1) e1, e2⟩

/-! ### the slots -/
/-- a dict's pairs -/
def KvRep (A : Addr → Prop) (H : Hp) (ws : List (Key × V)) (kvs : List (Int × D)) : Prop := ws.map (·.1) = kvs.map (fun p => (Sum.inl p.1 : Key)) ∧ RepAll A H (ws.map (·.2)) (kvs.map (·.2))
theorem KvRep.mono {A A' : Addr → Prop} {H H' : Hp} {ws kvs} (e : ∀ a, A a → A' a) (k : Keep A H H') (h : KvRep A H ws kvs) : KvRep A' H' ws kvs := ⟨h.1, RepAll.mono e k h.2⟩
def SlotOk (A : Addr → Prop) (H : Hp) (ov : Option V) : Slot → Prop
  | .un => True
  | .fz d => ∃ v, ov = some v ∧ Rep A H v d
  | .own ds => ∃ a vs, ov = some (.ref a) ∧ H a = some (.lst vs) ∧ vs.length ≤ sizeLine ∧ RepAll A H vs ds ∧ ¬ A a
  | .lent ds => ∃ a vs, ov = some (.ref a) ∧ H a = some (.lst vs) ∧ vs.length ≤ sizeLine ∧ RepAll A H vs ds ∧ ¬ A a
  | .mu ds => ∃ a vs, ov = some (.ref a) ∧ H a = some (.lst vs) ∧ vs.length ≤ sizeLine ∧ RepAll A H vs ds ∧ ¬ A a
  | .dct kvs => ∃ a ws, ov = some (.ref a) ∧ H a = some (.dK ws) ∧ ws.length ≤ sizeLine ∧ KvRep A H ws kvs ∧ ¬ A a
  | .dp k d => DpOk A H ov k d
  | .bor ds => ∃ a vs, ov = some (.ref a) ∧ H a = some (.lst vs) ∧ vs.length ≤ sizeLine ∧ RepAll A H vs ds
  | .ro ds => ∃ a vs, ov = some (.ref a) ∧ Ro H a vs ∧ vs.length ≤ sizeLine ∧ RepAll A H vs ds
def live : Slot → Bool
  | .own _ => true
  | .lent _ => true
  | .mu _ => true
  | .dct _ => true
  | _ => false
def liveB : Slot → Bool
  | .bor _ => true
  | s => live s
def mutS : Slot → Bool
  | .own _ => true
  | .mu _ => true
  | .dct _ => true
  | _ => false
/-- a list that may be changed -/
def mutL : Slot → Bool
  | .own _ => true
  | .mu _ => true
  | _ => false
theorem mutL_S {s} (h : mutL s = true) : mutS s = true := by cases s <;> first | rfl | cases h
def oldS : Slot → Bool
  | .lent _ => true
  | .bor _ => true
  | .ro _ => true
  | _ => false
/-- the addresses that may be changed -/
def Mut (σ : St) (ρ : Env) (a : Addr) : Prop := ∃ (i : Nat) (s : Slot), ρ[i]? = some s ∧ mutS s = true ∧ σ[i]? = some (some (.ref a))
/-- .. the lists of the slots of lists under lists -/
def Prv (H : Hp) (σ : St) (ρ : Env) (a : Addr) : Prop := ∃ (i : Nat) (k : DK) (d : D) (v : V), ρ[i]? = some (.dp k d) ∧ σ[i]? = some (some v) ∧ LR H v a
/-- they are held by their slot alone -/
def PrvOk (H : Hp) (σ : St) (ρ : Env) : Prop := ∀ (i : Nat) (k : DK) (d : D) (v : V) (a : Addr), ρ[i]? = some (.dp k d) → σ[i]? = some (some v) → LR H v a →
  (∀ (j : Nat) (s : Slot), ρ[j]? = some s → liveB s = true → σ[j]? ≠ some (some (.ref a))) ∧ ∀ (j : Nat) (k' : DK) (d' : D) (v' : V), j ≠ i → ρ[j]? = some (.dp k' d') → σ[j]? = some (some v') → ¬ LR H v' a

structure Fit (A : Addr → Prop) (H : Hp) (σ : St) (ρ : Env) : Prop where
  len : σ.length = ρ.length
  slot : ∀ (i : Nat) (s : Slot) (ov : Option V), ρ[i]? = some s → σ[i]? = some ov → SlotOk A H ov s
  apart : ∀ (i j : Nat) (s t : Slot) (a : Addr), i ≠ j → ρ[i]? = some s → ρ[j]? = some t → live s = true → liveB t = true → σ[i]? = some (some (.ref a)) → σ[j]? = some (some (.ref a)) → False
  trk : ∀ a, A a → ∃ o, H a = some o
  prv : PrvOk H σ ρ

theorem Fit.at {A H σ} {ρ : Env} (f : Fit A H σ ρ) {i : Nat} {s : Slot} (h : ρ[i]? = some s) : ∃ ov, σ[i]? = some ov ∧ SlotOk A H ov s := by
  have h1 : i < ρ.length := (List.getElem?_eq_some_iff.mp h).1
  have h2 : i < σ.length := by rw [f.len]; exact h1
  exact ⟨σ[i], List.getElem?_eq_getElem h2, f.slot i s _ h (List.getElem?_eq_getElem h2)⟩
theorem Fit.dpr {A H σ} {ρ : Env} (f : Fit A H σ ρ) {i : Nat} {k d v} (h : ρ[i]? = some (.dp k d)) (hv : σ[i]? = some (some v)) : ∃ d', DpR A H v d' := by
  obtain ⟨v', d', e, h1, _⟩ := f.slot i _ _ h hv
  cases e
  exact ⟨d', h1⟩
theorem Fit.lr {A H σ} {ρ : Env} (f : Fit A H σ ρ) {i : Nat} {k d v a} (h : ρ[i]? = some (.dp k d)) (hv : σ[i]? = some (some v)) (l : LR H v a) : ¬ A a ∧ ∃ vs, H a = some (.lst vs) := by
  obtain ⟨d', h1⟩ := f.dpr h hv
  exact h1.lr a l
/-- such slots' lists, when one goes on and they stay -/
theorem Fit.prv_go {A H σ ρ} (f : Fit A H σ ρ) {H' : Hp} {σ' : St} {ρ' : Env} (hd : ∀ (i : Nat) k d, ρ'[i]? = some (Slot.dp k d) → ρ[i]? = some (.dp k d) ∧ σ'[i]? = σ[i]?) (kp : Keep A H H')
    (kl : ∀ a o, Prv H σ ρ a → H a = some o → H' a = some o)
    (rt : ∀ (j : Nat) s a, ρ'[j]? = some s → liveB s = true → σ'[j]? = some (some (.ref a)) → (∃ (j' : Nat) (s' : Slot), ρ[j']? = some s' ∧ liveB s' = true ∧ σ[j']? = some (some (.ref a))) ∨ H a = none) : PrvOk H' σ' ρ' := by
  intro i k d v a h1 h2 l
  obtain ⟨g1, g2⟩ := hd i k d h1
  rw [g2] at h2
  have back : ∀ (i : Nat) k d v, ρ[i]? = some (Slot.dp k d) → σ[i]? = some (some v) → ∀ a, LR H' v a → LR H v a := fun i k d v e1 e2 => by
    obtain ⟨d', r⟩ := f.dpr e1 e2
    exact r.back kp fun a o l e => kl a o ⟨i, k, d, v, e1, e2, l⟩ e
  have l0 := back i k d v g1 h2 a l
  obtain ⟨p1, p2⟩ := f.prv i k d v a g1 h2 l0
  refine ⟨fun j s e1 e2 e3 => ?_, fun j k' d' v' hj e1 e2 l2 => ?_⟩
  · rcases rt j s a e1 e2 e3 with ⟨j', s', z1, z2, z3⟩ | z
    · exact p1 j' s' z1 z2 z3
    · obtain ⟨_, vs, e⟩ := f.lr g1 h2 l0
      rw [z] at e; cases e
  · obtain ⟨q1, q2⟩ := hd j k' d' e1
    rw [q2] at e2
    exact p2 j k' d' v' hj q1 e2 (back j k' d' v' q1 e2 a l2)
theorem Fit.prv_back {A H σ ρ} (f : Fit A H σ ρ) {H' : Hp} {σ' : St} {ρ' : Env} (hd : ∀ (i : Nat) k d, ρ'[i]? = some (Slot.dp k d) → ρ[i]? = some (.dp k d) ∧ σ'[i]? = σ[i]?) (kp : Keep A H H')
    (kl : ∀ a o, Prv H σ ρ a → H a = some o → H' a = some o) : ∀ a, Prv H' σ' ρ' a → Prv H σ ρ a := by
  rintro a ⟨i, k, d, v, h1, h2, l⟩
  obtain ⟨g1, g2⟩ := hd i k d h1
  rw [g2] at h2
  obtain ⟨d', r⟩ := f.dpr g1 h2
  exact ⟨i, k, d, v, g1, h2, r.back kp (fun a o l e => kl a o ⟨i, k, d, v, g1, h2, l⟩ e) a l⟩

/-- one goes on from (A, H, σ, ρ) to (A', H', σ', ρ') -/
structure Stp (A : Addr → Prop) (H : Hp) (σ : St) (ρ : Env) (A' : Addr → Prop) (H' : Hp) (σ' : St) (ρ' : Env) : Prop where
  ext : ∀ a, A a → A' a
  frame : ∀ a o, H a = some o → ¬ Mut σ ρ a → ¬ Prv H σ ρ a → H' a = some o
  dom : ∀ a, H' a = none → H a = none
  sub : ∀ a, Mut σ' ρ' a → Mut σ ρ a ∨ Prv H σ ρ a ∨ H a = none
  mus : ∀ (i : Nat) (ds : List D), ρ[i]? = some (Slot.mu ds) → σ'[i]? = σ[i]? ∧ ∃ ds', ρ'[i]? = some (Slot.mu ds')
  news : ∀ a, A' a → A a ∨ H a = none ∨ Mut σ ρ a ∨ Prv H σ ρ a ∨ ∃ (i : Nat) (ds : List D), ρ[i]? = some (Slot.lent ds) ∧ σ[i]? = some (some (V.ref a))
  lents : ∀ (i : Nat) (s : Slot), ρ'[i]? = some s → oldS s = true → ρ[i]? = some s ∧ σ'[i]? = σ[i]?
  prv : ∀ a, Prv H' σ' ρ' a → Mut σ ρ a ∨ Prv H σ ρ a ∨ H a = none
  fit : Fit A' H' σ' ρ'

theorem Fit.nomut {A H σ ρ} (f : Fit A H σ ρ) {a} (h : A a) : ¬ Mut σ ρ a := by
  rintro ⟨i, s, e1, e2, e3⟩
  have q := f.slot i s _ e1 e3
  cases s <;> simp [mutS] at e2 <;> obtain ⟨b, vs, e, _, _, _, n⟩ := q <;> cases e <;> exact n h
theorem Fit.noprv {A H σ ρ} (f : Fit A H σ ρ) {a} (h : A a) : ¬ Prv H σ ρ a := by
  rintro ⟨i, k, d, v, e1, e2, l⟩
  exact (f.lr e1 e2 l).1 h
theorem Stp.keep {A H σ ρ A' H' σ' ρ'} (f : Fit A H σ ρ) (s : Stp A H σ ρ A' H' σ' ρ') : Keep A H H' := fun a o ha e => s.frame a o e (f.nomut ha) (f.noprv ha)
theorem Fit.mut_at {A H σ ρ} (f : Fit A H σ ρ) {a} (h : Mut σ ρ a) : ∃ o, H a = some o := by
  obtain ⟨i, s, e1, e2, e3⟩ := h
  have q := f.slot i s _ e1 e3
  cases s <;> simp [mutS] at e2 <;> obtain ⟨b, vs, e, h, _⟩ := q <;> cases e <;> exact ⟨_, h⟩
theorem Fit.mut_prv {A H σ ρ} (f : Fit A H σ ρ) {a} (h : Mut σ ρ a) : ¬ Prv H σ ρ a := by
  rintro ⟨i, k, d, v, e1, e2, l⟩
  obtain ⟨j, s, e3, e4, e5⟩ := h
  exact (f.prv i k d v a e1 e2 l).1 j s e3 (by cases s <;> first | rfl | (cases e4; done)) e5

/-- what an expression's value is: frozen data, or a new list -/
def ResOk (A : Addr → Prop) (Hs H : Hp) (σ : St) (ρ : Env) (v : V) : Res → Prop
  | .fr d => Rep A H v d
  | .nw ds => ∃ a vs, v = .ref a ∧ H a = some (.lst vs) ∧ vs.length ≤ sizeLine ∧ RepAll A H vs ds ∧ ¬ A a ∧ Hs a = none ∧ (∀ (i : Nat) s, ρ[i]? = some s → liveB s = true → σ[i]? ≠ some (some (.ref a))) ∧ ¬ Prv H σ ρ a
/-- .. of an operand: data, or the slot's list -/
def OpdOk (A : Addr → Prop) (H : Hp) (σ : St) (v : V) : Opd → Prop
  | .v d => Rep A H v d
  | .sl i => σ[i]? = some (some v)
/-- what can be read of a value: its own list need not be frozen -/
def RepW (A : Addr → Prop) (H : Hp) (v : V) (d : D) : Prop :=
  Rep A H v d ∨ ∃ a vs ds, v = .ref a ∧ d = .list ds ∧ H a = some (.lst vs) ∧ vs.length ≤ sizeLine ∧ RepAll A H vs ds
/-- .. also the script's -/
def RepR (A : Addr → Prop) (H : Hp) (v : V) (d : D) : Prop :=
  Rep A H v d ∨ ∃ a vs ds, v = .ref a ∧ d = .list ds ∧ SqL TheK.K H a vs ∧ vs.length ≤ sizeLine ∧ RepAll A H vs ds
theorem RepW.r {A H v d} (h : RepW A H v d) : RepR A H v d := by
  rcases h with h | ⟨a, vs, ds, h1, h2, h3, h4, h5⟩
  · exact .inl h
  · exact .inr ⟨a, vs, ds, h1, h2, SqL.of h3, h4, h5⟩
theorem rd_ok {A H σ v d} {ρ : Env} {i : Nat} (f : Fit A H σ ρ) (h : σ[i]? = some (some v)) (e : rd ρ i = some d) : RepW A H v d := by
  simp only [rd] at e
  split at e
  · rename_i s hs
    have q := f.slot i s _ hs h
    cases s <;> simp only [Slot.d?, reduceCtorEq, Option.some.injEq] at e <;> subst e
    · obtain ⟨w, e, q⟩ := q; cases e; exact .inl q
    all_goals (obtain ⟨a, vs, e, q1, q2, q3⟩ := q; cases e; first | exact .inr ⟨_, _, _, rfl, rfl, q1, q2, q3⟩ | exact .inr ⟨_, _, _, rfl, rfl, q1, q2, q3.1⟩)
  · cases e
theorem Opd.ok {A H σ ρ v o d} (f : Fit A H σ ρ) (h : OpdOk A H σ v o) (e : o.get ρ = some d) : RepW A H v d := by
  cases o with
  | v d' => simp [Opd.get] at e; subst e; exact .inl h
  | sl i => exact rd_ok f h e
theorem Opd.okR {A H σ ρ v o d} (f : Fit A H σ ρ) (h : OpdOk A H σ v o) (e : o.getR ρ = some d) : RepR A H v d := by
  cases o with
  | v d' => simp [Opd.getR] at e; subst e; exact .inl h
  | sl i =>
    simp only [Opd.getR, rdr] at e
    split at e
    · rename_i s hs
      by_cases hr : ∃ ds, s = .ro ds
      · obtain ⟨ds, rfl⟩ := hr
        obtain ⟨a, vs, e1, q1, q2, q3⟩ := f.slot i _ _ hs h
        cases e1
        simp only [Slot.dr?, Option.some.injEq] at e
        subst e
        exact .inr ⟨_, _, _, rfl, rfl, q1.sq, q2, q3⟩
      · have e' : rd ρ i = some d := by
          simp only [rd, hs]
          cases s <;> first | exact e | exact absurd ⟨_, rfl⟩ hr
        exact (rd_ok f h e').r
    · cases e
theorem OpdOk.mono {A A' H H' σ v o} (e : ∀ a, A a → A' a) (k : Keep A H H') (h : OpdOk A H σ v o) : OpdOk A' H' σ v o := by
  cases o with
  | v d => exact Rep.mono e k h
  | sl i => exact h

/-! ### steps put together -/
theorem Stp.refl {A H σ ρ} (f : Fit A H σ ρ) : Stp A H σ ρ A H σ ρ :=
  ⟨fun _ h => h, fun _ _ h _ _ => h, fun _ h => h, fun _ h => .inl h, fun _ ds h => ⟨rfl, ds, h⟩, fun _ h => .inl h, fun _ _ h _ => ⟨h, rfl⟩, fun _ h => .inr (.inl h), f⟩
theorem Stp.trans {A H σ ρ A1 H1 σ1 ρ1 A2 H2 σ2 ρ2} (a : Stp A H σ ρ A1 H1 σ1 ρ1) (b : Stp A1 H1 σ1 ρ1 A2 H2 σ2 ρ2) : Stp A H σ ρ A2 H2 σ2 ρ2 where
  ext := fun x h => b.ext x (a.ext x h)
  frame := fun x o h n n2 => b.frame x o (a.frame x o h n n2) (fun m => by
    rcases a.sub x m with q | q | q
    · exact n q
    · exact n2 q
    · rw [h] at q; cases q) (fun m => by
    rcases a.prv x m with q | q | q
    · exact n q
    · exact n2 q
    · rw [h] at q; cases q)
  dom := fun x h => a.dom x (b.dom x h)
  sub := fun x m => by
    rcases b.sub x m with q | q | q
    · exact a.sub x q
    · rcases a.prv x q with z | z | z
      · exact .inl z
      · exact .inr (.inl z)
      · exact .inr (.inr z)
    · exact .inr (.inr (a.dom x q))
  mus := fun i ds h => by
    obtain ⟨e1, ds1, q1⟩ := a.mus i ds h
    obtain ⟨e2, ds2, q2⟩ := b.mus i ds1 q1
    exact ⟨e2.trans e1, ds2, q2⟩
  news := fun x h => by
    rcases b.news x h with q | q | q | q | ⟨i, ds, q1, q2⟩
    · exact a.news x q
    · exact .inr (.inl (a.dom x q))
    · rcases a.sub x q with z | z | z
      · exact .inr (.inr (.inl z))
      · exact .inr (.inr (.inr (.inl z)))
      · exact .inr (.inl z)
    · rcases a.prv x q with z | z | z
      · exact .inr (.inr (.inl z))
      · exact .inr (.inr (.inr (.inl z)))
      · exact .inr (.inl z)
    · obtain ⟨e1, e2⟩ := a.lents i _ q1 rfl
      exact .inr (.inr (.inr (.inr ⟨i, ds, e1, by rw [← e2]; exact q2⟩)))
  lents := fun i s h o => by
    obtain ⟨e1, e2⟩ := b.lents i s h o
    obtain ⟨e3, e4⟩ := a.lents i s e1 o
    exact ⟨e3, e2.trans e4⟩
  prv := fun x h => by
    rcases b.prv x h with q | q | q
    · exact a.sub x q
    · exact a.prv x q
    · exact .inr (.inr (a.dom x q))
  fit := b.fit
theorem ResOk.start {A Hs Hs' H σ ρ v r} (h : ResOk A Hs H σ ρ v r) (d : ∀ a, Hs a = none → Hs' a = none) : ResOk A Hs' H σ ρ v r := by
  cases r with
  | fr _ => exact h
  | nw _ => obtain ⟨a, vs, h1, h2, h3, h4, h5, h6, h7, h8⟩ := h; exact ⟨a, vs, h1, h2, h3, h4, h5, d _ h6, h7, h8⟩
/-- a new list is frozen -/
theorem ResOk.fz {A Hs H σ ρ A0 ρ0 v r} (s : Stp A0 Hs σ ρ0 A H σ ρ) (h : ResOk A Hs H σ ρ v r) : ∃ A', Stp A0 Hs σ ρ0 A' H σ ρ ∧ Rep A' H v r.d := by
  cases r with
  | fr _ => exact ⟨A, s, h⟩
  | nw ds =>
    obtain ⟨a, vs, rfl, h2, h3, h4, h5, h6, h7, h8⟩ := h
    have e : ∀ b, A b → A b ∨ b = a := fun _ h => .inl h
    have k : Keep A H H := fun _ _ _ h => h
    refine ⟨fun b => A b ∨ b = a, ⟨fun b hb => .inl (s.ext b hb), s.frame, s.dom, s.sub, s.mus, fun b hb => ?_, s.lents, s.prv, ⟨s.fit.len, fun i sl ov e1 e2 => ?_, s.fit.apart, fun b hb => ?_, s.fit.prv⟩⟩, .lst (.inr rfl) h2 h3 (RepAll.mono e k h4)⟩
    · rcases hb with hb | rfl
      · exact s.news b hb
      · exact .inr (.inl h6)
    · have q := s.fit.slot i sl ov e1 e2
      cases sl with
      | un => trivial
      | fz d => obtain ⟨w, q1, q2⟩ := q; exact ⟨w, q1, Rep.mono e k q2⟩
      | own es => obtain ⟨b, ws, q1, q2, q3, q4, q5⟩ := q; subst q1; exact ⟨b, ws, rfl, q2, q3, RepAll.mono e k q4, fun z => z.elim q5 fun z => h7 i _ e1 rfl (by rw [e2, z])⟩
      | lent es => obtain ⟨b, ws, q1, q2, q3, q4, q5⟩ := q; subst q1; exact ⟨b, ws, rfl, q2, q3, RepAll.mono e k q4, fun z => z.elim q5 fun z => h7 i _ e1 rfl (by rw [e2, z])⟩
      | mu es => obtain ⟨b, ws, q1, q2, q3, q4, q5⟩ := q; subst q1; exact ⟨b, ws, rfl, q2, q3, RepAll.mono e k q4, fun z => z.elim q5 fun z => h7 i _ e1 rfl (by rw [e2, z])⟩
      | dct es => obtain ⟨b, ws, q1, q2, q3, q4, q5⟩ := q; subst q1; exact ⟨b, ws, rfl, q2, q3, KvRep.mono e k q4, fun z => z.elim q5 fun z => h7 i _ e1 rfl (by rw [e2, z])⟩
      | dp kk dd => exact q.keep e k (fun _ _ _ _ _ z => z) (fun w b ew l z => by
          subst ew
          rcases z with z | z
          · exact (s.fit.lr e1 e2 l).1 z
          · subst z; exact h8 ⟨i, kk, dd, w, e1, e2, l⟩)
      | bor es => obtain ⟨b, ws, q1, q2, q3, q4⟩ := q; exact ⟨b, ws, q1, q2, q3, RepAll.mono e k q4⟩
      | ro es => obtain ⟨b, ws, q1, q2, q3, q4⟩ := q; exact ⟨b, ws, q1, q2, q3, RepAll.mono e k q4⟩
    · rcases hb with hb | rfl
      · exact s.fit.trk b hb
      · exact ⟨_, h2⟩

/-! ### what a piece of syntax does -/
def SndE (X : Cx) (e : Expr) (f : Env → Option (Res × Env)) : Prop := ∃ t : TE, PE X e t ∧
  ∀ A H σ ρ r ρ', Fit A H σ ρ → f ρ = some (r, ρ') → ∀ Q : VK, (∀ A' H' v, Stp A H σ ρ A' H' σ ρ' → ResOk A' H H' σ ρ' v r → Q v H') → t σ H Q
def SndD (X : Cx) (e : Expr) (f : Env → Option (Res × Env)) : Prop := ∃ t : TE, PE X e t ∧
  ∀ A H σ ρ r ρ', Fit A H σ ρ → f ρ = some (r, ρ') → ∀ Q : VK, (∀ A' H' v, Stp A H σ ρ A' H' σ ρ' → Rep A' H' v r.d → Q v H') → t σ H Q
theorem SndE.d {X e f} (h : SndE X e f) : SndD X e f := by
  obtain ⟨t, p, q⟩ := h
  refine ⟨t, p, fun A H σ ρ r ρ' ft e Q k => q A H σ ρ r ρ' ft e Q fun A' H' v s ok => ?_⟩
  obtain ⟨A2, s2, ok2⟩ := ok.fz s
  exact k A2 H' v s2 ok2
def SndO (X : Cx) (e : Expr) (f : Env → Option (Opd × Env)) : Prop := ∃ t : TE, PE X e t ∧
  ∀ A H σ ρ o ρ', Fit A H σ ρ → f ρ = some (o, ρ') → ∀ Q : VK, (∀ A' H' v, Stp A H σ ρ A' H' σ ρ' → OpdOk A' H' σ v o → Q v H') → t σ H Q
def SndT (X : Cx) (e : Expr) (f : Env → Option (Res × Env)) : Prop := ∃ t : TT, PT X e t ∧
  ∀ A H σ ρ b ρ', Fit A H σ ρ → f ρ = some (.fr (.bool b), ρ') → ∀ Q : Bool → Hp → Prop, (∀ A' H', Stp A H σ ρ A' H' σ ρ' → Q b H') → t σ H Q
/-- frozen arguments, operands -/
def SndA (X : Cx) (es : List Expr) (f : Env → Option (List D × Env)) : Prop := ∃ t : TA, PA X es t ∧
  ∀ A H σ ρ r ρ', Fit A H σ ρ → f ρ = some (r, ρ') → ∀ Q : List V → Hp → Prop, (∀ A' H' vs, Stp A H σ ρ A' H' σ ρ' → RepAll A' H' vs r → Q vs H') → t σ H Q
def OpdsOk (A : Addr → Prop) (H : Hp) (σ : St) : List V → List Opd → Prop
  | [], [] => True
  | v :: vs, o :: os => OpdOk A H σ v o ∧ OpdsOk A H σ vs os
  | _, _ => False
theorem OpdsOk.mono {A A' H H' σ} (e : ∀ a, A a → A' a) (k : Keep A H H') : ∀ {vs os}, OpdsOk A H σ vs os → OpdsOk A' H' σ vs os
  | [], [], _ => trivial
  | _ :: _, _ :: _, ⟨h1, h2⟩ => ⟨h1.mono e k, OpdsOk.mono e k h2⟩
def SndP (X : Cx) (es : List Expr) (f : Env → Option (List Opd × Env)) : Prop := ∃ t : TA, PA X es t ∧
  ∀ A H σ ρ r ρ', Fit A H σ ρ → f ρ = some (r, ρ') → ∀ Q : List V → Hp → Prop, (∀ A' H' vs, Stp A H σ ρ A' H' σ ρ' → OpdsOk A' H' σ vs r → Q vs H') → t σ H Q
end Ev

set_option maxRecDepth 100000
set_option maxHeartbeats 1000000
/-! EvO: the order of data that are alike: <, sorted, min, max. -/
namespace Ev
open PySem PySem.Spec PySem.W PyProof.Rows
mutual
theorem eqv_eq : ∀ (x y : PyData), alike x y = true → PyData.eqv x y = true → x = y
  | .none, y, h, e => by cases y <;> first | rfl | exact absurd h (by simp [alike])
  | .bool a, y, h, e => by
    cases y with
    | bool b =>
      have e' : a = b := by simpa [PyData.eqv] using e
      rw [e']
    | _ => exact absurd h (by simp [alike])
  | .int a, y, h, e => by
    cases y with
    | int b =>
      have e' : a = b := by simpa [PyData.eqv] using e
      rw [e']
    | _ => exact absurd h (by simp [alike])
  | .str a, y, h, e => by
    cases y with
    | str b =>
      have e' : a = b := by simpa [PyData.eqv] using e
      rw [e']
    | _ => exact absurd h (by simp [alike])
  | .list xs, y, h, e => by
    cases y with
    | list ys => rw [eqvAll_eq xs ys (by simpa [alike] using h) (by simpa [PyData.eqv] using e)]
    | _ => exact absurd h (by simp [alike])
  | .tuple xs, y, h, e => by
    cases y with
    | tuple ys => rw [eqvAll_eq xs ys (by simpa [alike] using h) (by simpa [PyData.eqv] using e)]
    | _ => exact absurd h (by simp [alike])
  | .dict _, y, h, e => absurd h (by cases y <;> simp [alike])
theorem eqvAll_eq : ∀ (xs ys : List PyData), alikeAll xs ys = true → PyData.eqvAll xs ys = true → xs = ys
  | [], [], _, _ => rfl
  | [], y :: ys, _, e => absurd e (by simp [PyData.eqvAll])
  | x :: xs, [], _, e => absurd e (by simp [PyData.eqvAll])
  | x :: xs, y :: ys, h, e => by
    rw [eqv_all_cons, Bool.and_eq_true] at e
    rw [eqv_eq x y (alike_all_cons h).1 e.1, eqvAll_eq xs ys (alike_all_cons h).2 e.2]
end
theorem lt_refl (x : PyData) : dataLt x x = false := lex_irrefl _
theorem lt_anti {x y : PyData} (h : alike x y = true) (h1 : dataLt x y = false) (h2 : dataLt y x = false) : x = y := by
  have e : keyToks x = keyToks y := lex_total (O := itemOrd) _ _ h1 h2
  cases hx : PyData.eqv x y with
  | true => exact eqv_eq x y h hx
  | false =>
    exfalso
    have z := (toks_eqv x y h).2 hx [] [.inl 0]
    rw [e] at z
    have a1 : PyProof.Rows.lexLt itemOrd (keyToks y ++ []) (keyToks y ++ [.inl 0]) = true := (lex_pre _ _ _).trans rfl
    rw [a1, lex_irrefl] at z
    cases z
theorem lt_trans' {x y z : PyData} (h1 : dataLt x y = true) (h2 : dataLt y z = true) : dataLt x z = true := lex_trans (O := itemOrd) _ _ _ h1 h2
theorem lt_neg {x y z : PyData} (h : dataLt x z = true) : dataLt x y = true ∨ dataLt y z = true := lex_negTrans (O := itemOrd) _ _ _ h
theorem lt_asymm {x y : PyData} (h1 : dataLt x y = true) : dataLt y x = false := by
  cases h : dataLt y x with
  | false => rfl
  | true => have := lt_trans' h1 h; rw [lt_refl] at this; cases this
theorem insD_perm (x : D) : ∀ r : List D, (insD x r).Perm (x :: r)
  | [] => .refl _
  | y :: r => by
    unfold insD
    split
    · exact ((insD_perm x r).cons y).trans (.swap x y r)
    · exact .refl _
theorem sortD_perm : ∀ r : List D, (sortD r).Perm r
  | [] => .refl _
  | x :: r => (insD_perm x _).trans ((sortD_perm r).cons x)
theorem insD_sorted (x : D) : ∀ r : List D, r.Pairwise (fun a b => dataLt b a = false) → (insD x r).Pairwise (fun a b => dataLt b a = false)
  | [], _ => by simp [insD]
  | y :: r, h => by
    unfold insD
    obtain ⟨h1, h2⟩ := List.pairwise_cons.mp h
    split
    · rename_i hz
      refine List.pairwise_cons.mpr ⟨fun a ha => ?_, insD_sorted x r h2⟩
      rcases List.mem_cons.mp ((insD_perm x r).mem_iff.mp ha) with rfl | ha
      · exact lt_asymm hz
      · exact h1 a ha
    · rename_i hz
      have hz : dataLt y x = false := by simpa using hz
      refine List.pairwise_cons.mpr ⟨fun a ha => ?_, h⟩
      rcases List.mem_cons.mp ha with rfl | ha
      · exact hz
      · cases e : dataLt a x with
        | false => rfl
        | true =>
          rcases lt_neg (y := y) e with z | z
          · rw [h1 a ha] at z; cases z
          · rw [hz] at z; cases z
theorem sortD_sorted : ∀ r : List D, (sortD r).Pairwise (fun a b => dataLt b a = false)
  | [] => .nil
  | x :: r => insD_sorted x _ (sortD_sorted r)
theorem sortD_uniq {l m : List D} (p : l.Perm m) (h : ∀ x ∈ l, ∀ y ∈ l, alike x y = true) (h1 : l.Pairwise (fun a b => dataLt b a = false)) (h2 : m.Pairwise (fun a b => dataLt b a = false)) : l = m :=
  p.eq_of_pairwise (fun a b ha hb h3 h4 => lt_anti (h a ha b (p.mem_iff.mpr hb)) h4 h3) h1 h2
theorem alikeB_iff {xs : List D} : alikeB xs = true ↔ ∀ x ∈ xs, ∀ y ∈ xs, alike x y = true := by
  simp only [alikeB, List.all_eq_true]
theorem mergeD (ds : List D) (h : alikeB ds = true) {α : Type} (ps : List α) (enc : α → D) (e : ps.map enc = ds) : (ps.mergeSort (dataLe false enc)).map enc = sortD ds := by
  have le : ∀ a b, dataLe false enc a b = !dataLt (enc b) (enc a) := fun a b => rfl
  have hp : ((ps.mergeSort (dataLe false enc)).map enc).Perm ds := by rw [← e]; exact (List.mergeSort_perm _ _).map _
  refine sortD_uniq (hp.trans (sortD_perm ds).symm) (fun x hx y hy => alikeB_iff.mp h x (hp.mem_iff.mp hx) y (hp.mem_iff.mp hy)) ?_ (sortD_sorted ds)
  rw [List.pairwise_map]
  refine List.Pairwise.imp (R := fun a b => dataLe false enc a b = true) (fun {a b} hab => by rw [le] at hab; simpa using hab) (List.pairwise_mergeSort (fun a b c h1 h2 => ?_) (fun a b => ?_) ps)
  · rw [le] at h1 h2 ⊢
    simp only [Bool.not_eq_true'] at h1 h2 ⊢
    cases z : dataLt (enc c) (enc a) with
    | false => rfl
    | true =>
      rcases lt_neg (y := enc b) z with q | q
      · rw [h2] at q; cases q
      · rw [h1] at q; cases q
  · rw [le, le]
    cases z : dataLt (enc b) (enc a) with
    | false => rfl
    | true => simp [lt_asymm z]
theorem minD_mem (x : D) : ∀ xs : List D, minD x xs ∈ x :: xs := by
  intro xs
  unfold minD
  induction xs generalizing x with
  | nil => simp
  | cons y ys ih =>
    rw [List.foldl_cons]
    have := ih (if dataLt y x = true then y else x)
    rcases List.mem_cons.mp this with h | h
    · rw [h]; split <;> simp
    · simp [h]
theorem maxD_mem (x : D) : ∀ xs : List D, maxD x xs ∈ x :: xs := by
  intro xs
  unfold maxD
  induction xs generalizing x with
  | nil => simp
  | cons y ys ih =>
    rw [List.foldl_cons]
    have := ih (if dataLt x y = true then y else x)
    rcases List.mem_cons.mp this with h | h
    · rw [h]; split <;> simp
    · simp [h]
end Ev
namespace Ev
open PySem PySem.Spec PyProof.Rows L2
section
variable {X : Cx}
/-- a test by the order -/
def rOrd (K : PySem.W.Frag) (g : D → D → Bool) : R2 := fun x y H Q => ∃ d e, Dp K H x d ∧ Dp K H y e ∧ ordOk d e = true ∧ Q (.bl (g d e)) H
theorem ordOk_iff {d e : D} (h : ordOk d e = true) : PySem.W.alike d e = true ∧ d ≠ .none ∧ min d.depth e.depth ≤ 60 := by
  unfold ordOk at h
  simp only [Bool.and_eq_true, decide_eq_true_eq] at h
  exact ⟨h.1.1, fun z => by (subst z; cases h.2), h.1.2⟩
theorem op_ltD (hu : X.A.units + 65 < cLine) : OpR X (compareOp .Lt) (rOrd X.K fun d e => PySem.W.dataLt d e) := by
  intro pins s σ H x y v u Q I rx ry h
  obtain ⟨d, e, hd, he, ok, q⟩ := h
  obtain ⟨as, r1⟩ := Dp.reads I d x v hd rx
  obtain ⟨bs, r2⟩ := Dp.reads I e y u he ry
  obtain ⟨h1, h2, h3⟩ := ordOk_iff ok
  exact PySem.W.lt_data r1 r2 h1 h2 (by omega) ⟨.bl _, H, I, rfl, q⟩
theorem op_gtD (hu : X.A.units + 65 < cLine) : OpR X (compareOp .Gt) (rOrd X.K fun d e => PySem.W.dataLt e d) := by
  intro pins s σ H x y v u Q I rx ry h
  obtain ⟨d, e, hd, he, ok, q⟩ := h
  obtain ⟨as, r1⟩ := Dp.reads I d x v hd rx
  obtain ⟨bs, r2⟩ := Dp.reads I e y u he ry
  obtain ⟨h1, h2, h3⟩ := ordOk_iff ok
  exact PySem.W.gt_data r1 r2 h1 h2 (by omega) ⟨.bl _, H, I, rfl, q⟩
theorem op_leD (hu : X.A.units + 65 < cLine) : OpR X (compareOp .LtE) (rOrd X.K fun d e => !PySem.W.dataLt e d) := by
  intro pins s σ H x y v u Q I rx ry h
  obtain ⟨d, e, hd, he, ok, q⟩ := h
  obtain ⟨as, r1⟩ := Dp.reads I d x v hd rx
  obtain ⟨bs, r2⟩ := Dp.reads I e y u he ry
  obtain ⟨h1, h2, h3⟩ := ordOk_iff ok
  exact PySem.W.le_data r1 r2 h1 h2 (by omega) ⟨.bl _, H, I, rfl, q⟩
theorem op_geD (hu : X.A.units + 65 < cLine) : OpR X (compareOp .GtE) (rOrd X.K fun d e => !PySem.W.dataLt d e) := by
  intro pins s σ H x y v u Q I rx ry h
  obtain ⟨d, e, hd, he, ok, q⟩ := h
  obtain ⟨as, r1⟩ := Dp.reads I d x v hd rx
  obtain ⟨bs, r2⟩ := Dp.reads I e y u he ry
  obtain ⟨h1, h2, h3⟩ := ordOk_iff ok
  exact PySem.W.ge_data r1 r2 h1 h2 (by omega) ⟨.bl _, H, I, rfl, q⟩
theorem dp_len {K H} : ∀ {vs : List V} {ds : List D}, DpAll K H vs ds → vs.length = ds.length
  | [], [], _ => rfl
  | _ :: _, _ :: _, .cons _ h => by simp [dp_len h]
theorem zip_snd {α β : Type} : ∀ (xs : List α) (ys : List β), xs.length = ys.length → (xs.zip ys).map Prod.snd = ys
  | [], [], _ => rfl
  | [], _ :: _, h => by simp at h
  | _ :: _, [], h => by simp at h
  | x :: xs, y :: ys, h => by simp [zip_snd xs ys (by simpa using h)]
theorem zip_each {K : PySem.W.Frag} {H : Hp} : ∀ {vs : List V} {us : List Value} {ds : List D}, Vals vs us → vs.length = ds.length → PySem.W.EachIs (fun (v : Value) (b : V × D) => RelV b.1 v) us (vs.zip ds)
  | [], _, [], h, _ => by cases h; exact .nil
  | [], _, _ :: _, _, h => by simp at h
  | _ :: _, _, [], _, h => by simp at h
  | v :: vs, _, d :: ds, h, hl => by
    cases h with
    | cons r rr => exact .cons r (zip_each (K := K) (H := H) rr (by simpa using hl))
theorem zip_reads {X : Cx} {pins : List (Addr × Obj)} {σ : L2.St} {H : Hp} {s : Shared} (I : Inv X pins σ H s) : ∀ {vs : List V} {us : List Value} {ds : List D}, DpAll X.K H vs ds → Vals vs us → PySem.W.EachIs (fun (v : Value) (b : V × D) => ∃ as, Reads s.heap v b.2 as) us (vs.zip ds)
  | [], _, [], _, h => by cases h; exact .nil
  | v :: vs, _, d :: ds, .cons hd hds, h => by
    cases h with
    | cons r rr => exact .cons (Dp.reads I d v _ hd r) (zip_reads I hds rr)
theorem each_vals {R : List (V × D)} {us : List Value} (h : PySem.W.EachIs (fun (v : Value) (b : V × D) => RelV b.1 v) us R) : Vals (R.map Prod.fst) us := by
  induction h with
  | nil => exact .nil
  | cons a _ ih => exact .cons a ih
def rSortD (K : PySem.W.Frag) : List V → Hp → VK → Prop := fun vs H Q => ∃ (a : Addr) (xs : List V) (ds : List D), vs = [V.ref a] ∧ SqL K H a xs ∧ DpAll K H xs ds ∧ sortOk ds = true ∧
  ∀ (ps : List (V × D)) (p : Addr), ps.Perm (xs.zip ds) → ps.map Prod.snd = sortD ds → H p = none → Q (.ref p) (upd H p (.lst (ps.map Prod.fst)))
theorem cr_sortD (hu : X.A.units + 65 < cLine) : CallR X (.builtin "sorted") (rSortD X.K) := by
  intro pins s σ H vs us Q I r h
  obtain ⟨a, xs, ds, rfl, hs, hd, ok, q⟩ := h
  obtain ⟨its, rv, hl, hz⟩ := I.list hs
  rw [Vals.ref1 r]
  unfold sortOk at ok
  simp only [Bool.and_eq_true, Bool.or_eq_true] at ok
  obtain ⟨⟨o1, o2⟩, o3⟩ := ok
  have el := dp_len hd
  have em : (xs.zip ds).map Prod.snd = ds := zip_snd _ _ el
  refine PySem.W.sorted_data (bs := xs.zip ds) (enc := Prod.snd) (show s.heap.IsList a its.toArray from hl.isList) (zip_each (K := X.K) (H := H) rv el) (zip_reads I hd rv) ?_ ?_ ?_ ?_ fun out hlen he => ?_
  · rw [em]; exact fun d h1 d' h2 => alikeB_iff.mp o1 d h1 d' h2
  · rw [em]
    rcases o3 with o3 | o3
    · refine .inl fun d h1 => ?_
      have := List.all_eq_true.mp o3 d h1
      unfold tupD1 at this
      split at this
      · exact ⟨_, _, rfl⟩
      · cases this
    · refine .inr fun d h1 => ?_
      have := List.all_eq_true.mp o3 d h1
      unfold notTupD at this
      split at this
      · cases this
      · cases this
      · rename_i z1 z2
        exact ⟨z2, fun xs e => z1 xs e⟩
  · rw [List.length_zip, ← el, Nat.min_self]; exact hz
  · intro b hb
    have hm : b.2 ∈ ds := by rw [← em]; exact List.mem_map_of_mem hb
    have := List.all_eq_true.mp o2 _ hm
    simp only [decide_eq_true_eq] at this
    omega
  · have hv := each_vals he
    obtain ⟨ep, he'⟩ := PyProof.Rows.sortedAll_at s.heap its out.toArray
    have hp := List.mergeSort_perm (xs.zip ds) (PySem.W.dataLe false Prod.snd)
    have hlen' : (((xs.zip ds).mergeSort (PySem.W.dataLe false Prod.snd)).map Prod.fst).length ≤ sizeLine := by
      rw [List.length_map, hp.length_eq, List.length_zip, ← el, Nat.min_self]; exact hz
    exact ⟨.ref _, upd H (s.heap.objs.size + 1) (.lst (((xs.zip ds).mergeSort (PySem.W.dataLe false Prod.snd)).map Prod.fst)), I.laid (t' := s.toks) (fun _ _ => PyProof.Rows.sortedAll_old) (Nat.le_succ _) ⟨hlen', out, ep, hv, he'⟩, rfl,
      q _ _ hp (mergeD ds o1 _ _ em) (I.hok.fresh (Nat.le_succ _))⟩
theorem depthAll_le {xs : List D} {d : D} (h : d ∈ xs) : d.depth ≤ PyData.depthAll xs := by
  induction xs with
  | nil => cases h
  | cons x xs ih =>
    simp only [PyData.depthAll]
    rcases List.mem_cons.mp h with rfl | h
    · omega
    · have := ih h; omega
def rMm (K : PySem.W.Frag) (g : D → List D → D) : List V → Hp → VK → Prop := fun vs H Q => ∃ (a : Addr) (xs : List V) (d : D) (ds : List D), vs = [V.ref a] ∧ (SqL K H a xs ∨ SqT K H a xs) ∧ DpAll K H xs (d :: ds) ∧ mmOk (d :: ds) = true ∧
  ∀ (i : Nat) (v : V), xs[i]? = some v → (d :: ds)[i]? = some (g d ds) → Q v H
theorem mmOk_iff {xs : List D} (h : mmOk xs = true) : PySem.W.AlikeAll xs ∧ PyData.depthAll xs ≤ 60 := by
  unfold mmOk at h
  simp only [Bool.and_eq_true, decide_eq_true_eq] at h
  refine ⟨⟨alikeB_iff.mp h.1.1, fun x hx e => ?_⟩, h.1.2⟩
  have := List.all_eq_true.mp h.2 x hx
  subst e
  cases this
theorem vals_at : ∀ {vs : List V} {us : List Value}, Vals vs us → ∀ {i : Nat} {u : Value}, us[i]? = some u → ∃ v, vs[i]? = some v ∧ RelV v u
  | _, _, .nil, i, u, h => by simp at h
  | _, _, .cons r rr, 0, u, h => by simp at h; subst h; exact ⟨_, rfl, r⟩
  | _, _, .cons r rr, i + 1, u, h => by
    obtain ⟨v, h1, h2⟩ := vals_at rr (i := i) (u := u) (by simpa using h)
    exact ⟨v, by simpa using h1, h2⟩
theorem dp_at {K H} : ∀ {vs : List V} {ds : List D}, DpAll K H vs ds → ∀ {i : Nat} {v : V}, vs[i]? = some v → ∃ d, ds[i]? = some d ∧ Dp K H v d
  | [], [], _, i, v, h => by simp at h
  | _ :: _, _ :: _, .cons r rr, 0, v, h => by simp at h; subst h; exact ⟨_, rfl, r⟩
  | _ :: _, _ :: _, .cons r rr, i + 1, v, h => by
    obtain ⟨d, h1, h2⟩ := dp_at rr (i := i) (v := v) (by simpa using h)
    exact ⟨d, by simpa using h1, h2⟩
theorem mm_fin {g : D → List D → D} {pins : List (Addr × Obj)} {σ : L2.St} {H : Hp} {s : Shared} {Q : VK} (I : Inv X pins σ H s) {xs : List V} {d : D} {ds : List D} {its : List Value} (rv : Vals xs its) (hd : DpAll X.K H xs (d :: ds)) (ok : mmOk (d :: ds) = true) (hg : g d ds ∈ d :: ds)
    (q : ∀ (i : Nat) (v : V), xs[i]? = some v → (d :: ds)[i]? = some (g d ds) → Q v H) {i : Nat} {v : Value} {h' : Heap} {tk : Nat} {bs : List Addr} (e1 : its[i]? = some v) (e2 : Reads h' v (g d ds) bs) (k : ∀ b o, s.heap.get? b = some o → h'.get? b = some o) :
    ∃ w H', Inv X pins σ H' { s with heap := h', toks := tk } ∧ RelV w v ∧ Q w H' := by
  obtain ⟨w, h1, h2⟩ := vals_at rv e1
  obtain ⟨e, h3, h4⟩ := dp_at hd h1
  obtain ⟨as, h5⟩ := Dp.reads I e w v h4 h2
  have h6 : Reads h' v e as := PyProof.Rows.Reads.keeps k h5
  have hal := (mmOk_iff ok).1.1 e (List.mem_of_getElem? h3) _ hg
  have := PySem.W.alike_unique e (g d ds) v as bs hal h6 e2
  subst this
  exact ⟨w, H, I.kept (t' := tk) k, h2, q i w h1 h3⟩
theorem cr_minD (hc : X.calm = true) (hu : X.A.units + 65 < cLine) : CallR X (.builtin "min") (rMm X.K PySem.W.minD) := by
  intro pins s σ H vs us Q I r h
  obtain ⟨a, xs, d, ds, rfl, hs, hd, ok, q⟩ := h
  rw [Vals.ref1 r]
  obtain ⟨o1, o2⟩ := mmOk_iff ok
  rcases hs with hs | hs
  · obtain ⟨its, rv, hl, hz⟩ := I.list hs
    obtain ⟨as, rr⟩ := Dp.readsAll I _ _ its hd rv
    refine PySem.W.min_list_data (I.ok.hd hc) (show s.heap.IsList a its.toArray from hl.isList) (by simpa using rr) o1 (by omega) fun i v h' tk bs e1 e2 k => ?_
    obtain ⟨w, H', z1, z2, z3⟩ := mm_fin (tk := tk) I rv hd ok (minD_mem d ds) q (by simpa using e1) e2 k
    exact ⟨w, H', z1, z2, z3⟩
  · obtain ⟨its, rv, hl, hz⟩ := I.tuple hs
    obtain ⟨as, rr⟩ := Dp.readsAll I _ _ its hd rv
    refine PySem.W.min_tuple_data (I.ok.hd hc) (show s.heap.IsTuple a its.toArray from hl) (by simpa using rr) o1 (by omega) fun i v h' tk bs e1 e2 k => ?_
    obtain ⟨w, H', z1, z2, z3⟩ := mm_fin (tk := tk) I rv hd ok (minD_mem d ds) q (by simpa using e1) e2 k
    exact ⟨w, H', z1, z2, z3⟩
theorem cr_maxD (hc : X.calm = true) (hu : X.A.units + 65 < cLine) : CallR X (.builtin "max") (rMm X.K PySem.W.maxD) := by
  intro pins s σ H vs us Q I r h
  obtain ⟨a, xs, d, ds, rfl, hs, hd, ok, q⟩ := h
  rw [Vals.ref1 r]
  obtain ⟨o1, o2⟩ := mmOk_iff ok
  rcases hs with hs | hs
  · obtain ⟨its, rv, hl, hz⟩ := I.list hs
    obtain ⟨as, rr⟩ := Dp.readsAll I _ _ its hd rv
    refine PySem.W.max_list_data (I.ok.hd hc) (show s.heap.IsList a its.toArray from hl.isList) (by simpa using rr) o1 (by omega) fun i v h' tk bs e1 e2 k => ?_
    obtain ⟨w, H', z1, z2, z3⟩ := mm_fin (tk := tk) I rv hd ok (maxD_mem d ds) q (by simpa using e1) e2 k
    exact ⟨w, H', z1, z2, z3⟩
  · obtain ⟨its, rv, hl, hz⟩ := I.tuple hs
    obtain ⟨as, rr⟩ := Dp.readsAll I _ _ its hd rv
    refine PySem.W.max_tuple_data (I.ok.hd hc) (show s.heap.IsTuple a its.toArray from hl) (by simpa using rr) o1 (by omega) fun i v h' tk bs e1 e2 k => ?_
    obtain ⟨w, H', z1, z2, z3⟩ := mm_fin (tk := tk) I rv hd ok (maxD_mem d ds) q (by simpa using e1) e2 k
    exact ⟨w, H', z1, z2, z3⟩
end
end Ev

set_option maxRecDepth 100000
/-! Ev3: operations on values. -/
namespace Ev
open PySem L2
variable [TheK]

/-! ### heaps that grow -/
theorem Fit.grow {A H H' σ ρ} (f : Fit A H σ ρ) (k : ∀ a o, H a = some o → H' a = some o) : Fit A H' σ ρ := by
  have kk : Keep A H H' := fun a o _ e => k a o e
  have e : ∀ a, A a → A a := fun _ h => h
  refine ⟨f.len, fun i s ov e1 e2 => ?_, f.apart, fun a h => let ⟨o, q⟩ := f.trk a h; ⟨o, k a o q⟩, f.prv_go (fun _ _ _ h => ⟨h, rfl⟩) kk (fun a o _ e => k a o e) fun j s a h1 h2 h3 => .inl ⟨j, s, h1, h2, h3⟩⟩
  have q := f.slot i s ov e1 e2
  cases s with
  | un => trivial
  | dp kd d => exact q.keep e kk (fun _ a o _ _ => k a o) fun w a ew l => by subst ew; exact (f.lr e1 e2 l).1
  | fz d => obtain ⟨w, q1, q2⟩ := q; exact ⟨w, q1, Rep.mono e kk q2⟩
  | own es => obtain ⟨b, ws, q1, q2, q3, q4, q5⟩ := q; exact ⟨b, ws, q1, k _ _ q2, q3, RepAll.mono e kk q4, q5⟩
  | lent es => obtain ⟨b, ws, q1, q2, q3, q4, q5⟩ := q; exact ⟨b, ws, q1, k _ _ q2, q3, RepAll.mono e kk q4, q5⟩
  | mu es => obtain ⟨b, ws, q1, q2, q3, q4, q5⟩ := q; exact ⟨b, ws, q1, k _ _ q2, q3, RepAll.mono e kk q4, q5⟩
  | dct es => obtain ⟨b, ws, q1, q2, q3, q4, q5⟩ := q; exact ⟨b, ws, q1, k _ _ q2, q3, KvRep.mono e kk q4, q5⟩
  | bor es => obtain ⟨b, ws, q1, q2, q3, q4⟩ := q; exact ⟨b, ws, q1, k _ _ q2, q3, RepAll.mono e kk q4⟩
  | ro es => obtain ⟨b, ws, q1, q2, q3, q4⟩ := q; exact ⟨b, ws, q1, q2.keep fun o u => k b _, q3, RepAll.mono e kk q4⟩
theorem Stp.grow {A H H' σ ρ} (f : Fit A H σ ρ) (k : ∀ a o, H a = some o → H' a = some o) : Stp A H σ ρ A H' σ ρ :=
  ⟨fun _ h => h, fun a o e _ _ => k a o e, fun a e =>
    (by
      cases q : H a with
      | none => rfl
      | some o => rw [k a o q] at e; cases e), fun _ h => .inl h, fun _ ds h => ⟨rfl, ds, h⟩, fun _ h => .inl h, fun _ _ h _ => ⟨h, rfl⟩, fun a h => .inr (.inl (f.prv_back (fun _ _ _ h => ⟨h, rfl⟩) (fun a o _ e => k a o e) (fun a o _ e => k a o e) a h)), f.grow k⟩
theorem upd_grow {H : Hp} {p : Addr} {o : HO} (h : H p = none) : ∀ a u, H a = some u → upd H p o a = some u := fun a u e => by
  rw [upd_ne (ne_of_none e h)]; exact e
/-- a new object that is frozen at once -/
theorem Stp.frz {A H σ ρ} (f : Fit A H σ ρ) {p : Addr} {o : HO} (h : H p = none) : Stp A H σ ρ (fun b => A b ∨ b = p) (upd H p o) σ ρ := by
  have s := Stp.grow f (upd_grow (o := o) h)
  have k : Keep A (upd H p o) (upd H p o) := fun _ _ _ h => h
  have e : ∀ b, A b → A b ∨ b = p := fun _ h => .inl h
  refine ⟨e, s.frame, s.dom, s.sub, s.mus, fun b hb => Or.elim hb .inl fun z => .inr (.inl (by rw [z]; exact h)), s.lents, s.prv, ⟨f.len, fun i sl ov e1 e2 => ?_, f.apart, fun b hb => ?_, s.fit.prv⟩⟩
  · have q := s.fit.slot i sl ov e1 e2
    have np : ∀ b ws, (upd H p o) b = some ws → (∃ us, H b = some us) → b ≠ p := fun b ws _ ⟨us, z⟩ y => by rw [y, h] at z; cases z
    have q0 := f.slot i sl ov e1 e2
    cases sl with
    | un => trivial
    | dp kd d => exact q.keep e k (fun _ _ _ _ _ z => z) (fun w b ew l z => by
        subst ew
        rcases z with z | z
        · exact (s.fit.lr e1 e2 l).1 z
        · have lo := f.prv_back (H' := upd H p o) (fun _ _ _ h => ⟨h, rfl⟩) (fun a u _ e => upd_grow h a u e) (fun a u _ e => upd_grow h a u e) b ⟨i, kd, d, w, e1, e2, l⟩
          obtain ⟨i', k', d', w', z1, z2, z3⟩ := lo
          obtain ⟨_, vs, z4⟩ := f.lr z1 z2 z3
          rw [z, h] at z4; cases z4)
    | fz d => obtain ⟨w, q1, q2⟩ := q; exact ⟨w, q1, Rep.mono e k q2⟩
    | own es => obtain ⟨b, ws, q1, q2, q3, q4, q5⟩ := q; obtain ⟨b', ws', z1, z2, _⟩ := q0; rw [q1] at z1; cases z1; exact ⟨b, ws, q1, q2, q3, RepAll.mono e k q4, fun z => z.elim q5 (np b _ q2 ⟨_, z2⟩)⟩
    | lent es => obtain ⟨b, ws, q1, q2, q3, q4, q5⟩ := q; obtain ⟨b', ws', z1, z2, _⟩ := q0; rw [q1] at z1; cases z1; exact ⟨b, ws, q1, q2, q3, RepAll.mono e k q4, fun z => z.elim q5 (np b _ q2 ⟨_, z2⟩)⟩
    | mu es => obtain ⟨b, ws, q1, q2, q3, q4, q5⟩ := q; obtain ⟨b', ws', z1, z2, _⟩ := q0; rw [q1] at z1; cases z1; exact ⟨b, ws, q1, q2, q3, RepAll.mono e k q4, fun z => z.elim q5 (np b _ q2 ⟨_, z2⟩)⟩
    | dct es => obtain ⟨b, ws, q1, q2, q3, q4, q5⟩ := q; obtain ⟨b', ws', z1, z2, _⟩ := q0; rw [q1] at z1; cases z1; exact ⟨b, ws, q1, q2, q3, KvRep.mono e k q4, fun z => z.elim q5 (np b _ q2 ⟨_, z2⟩)⟩
    | bor es => obtain ⟨b, ws, q1, q2, q3, q4⟩ := q; exact ⟨b, ws, q1, q2, q3, RepAll.mono e k q4⟩
    | ro es => obtain ⟨b, ws, q1, q2, q3, q4⟩ := q; exact ⟨b, ws, q1, q2, q3, RepAll.mono e k q4⟩
  · rcases hb with hb | rfl
    · exact s.fit.trk b hb
    · exact ⟨_, upd_same⟩
theorem Fit.noref {A H σ ρ} (f : Fit A H σ ρ) {p : Addr} (h : H p = none) (i : Nat) (s : Slot) (hs : ρ[i]? = some s) (hl : liveB s = true) : σ[i]? ≠ some (some (.ref p)) := fun e => by
  have q := f.slot i s _ hs e
  cases s with
  | un => cases hl
  | fz d => cases hl
  | own es => obtain ⟨b, ws, q1, q2, _⟩ := q; cases q1; rw [h] at q2; cases q2
  | lent es => obtain ⟨b, ws, q1, q2, _⟩ := q; cases q1; rw [h] at q2; cases q2
  | mu es => obtain ⟨b, ws, q1, q2, _⟩ := q; cases q1; rw [h] at q2; cases q2
  | dct es => obtain ⟨b, ws, q1, q2, _⟩ := q; cases q1; rw [h] at q2; cases q2
  | bor es => obtain ⟨b, ws, q1, q2, _⟩ := q; cases q1; rw [h] at q2; cases q2
  | ro es => cases hl
  | dp _ _ => cases hl
theorem Fit.noprv_none {A H σ ρ} (f : Fit A H σ ρ) {p : Addr} (h : H p = none) : ¬ Prv H σ ρ p := by
  rintro ⟨i, k, d, w, z1, z2, z3⟩
  obtain ⟨_, vs, z4⟩ := f.lr z1 z2 z3
  rw [h] at z4; cases z4
theorem Fit.noprv_upd {A H σ ρ} (f : Fit A H σ ρ) {p : Addr} {o : HO} (h : H p = none) : ¬ Prv (upd H p o) σ ρ p := fun z =>
  f.noprv_none h (f.prv_back (H' := upd H p o) (fun _ _ _ h => ⟨h, rfl⟩) (fun a u _ e => upd_grow h a u e) (fun a u _ e => upd_grow h a u e) p z)
theorem Fit.nofrz {A H σ ρ} (f : Fit A H σ ρ) {p : Addr} (h : H p = none) : ¬ A p := fun z => by
  obtain ⟨o, e⟩ := f.trk p z; rw [h] at e; cases e
/-- a new list -/
theorem res_new {A H σ ρ} (f : Fit A H σ ρ) {p : Addr} {vs : List V} {ds : List D} (h : H p = none) (hl : vs.length ≤ sizeLine) (r : RepAll A H vs ds) : ResOk A H (upd H p (.lst vs)) σ ρ (.ref p) (.nw ds) :=
  ⟨p, vs, rfl, upd_same, hl, RepAll.mono (fun _ z => z) (fun a o _ e => upd_grow h a o e) r, f.nofrz h, h, f.noref h, f.noprv_upd h⟩
theorem rep_newT {A : Addr → Prop} {H : Hp} {p : Addr} {vs : List V} {ds : List D} (h : H p = none) (hl : vs.length ≤ sizeLine) (r : RepAll A H vs ds) : Rep (fun b => A b ∨ b = p) (upd H p (.tup vs)) (.ref p) (.tuple ds) :=
  .tup (.inr rfl) upd_same hl (RepAll.mono (fun _ z => .inl z) (fun a o _ e => upd_grow h a o e) r)

/-! ### reading -/
theorem RepW.list {A H v ds} (h : RepW A H v (.list ds)) : ∃ a vs, v = .ref a ∧ H a = some (.lst vs) ∧ vs.length ≤ sizeLine ∧ RepAll A H vs ds := by
  rcases h with h | ⟨a, vs, es, h1, h2, h3, h4, h5⟩
  · cases h with | lst h1 h2 h3 h4 => exact ⟨_, _, rfl, h2, h3, h4⟩
  · cases h2; exact ⟨a, vs, h1, h3, h4, h5⟩
theorem RepW.rep {A H v d} (h : RepW A H v d) (n : ∀ ds, d ≠ .list ds) : Rep A H v d := by
  rcases h with h | ⟨a, vs, es, h1, h2, h3, h4, h5⟩
  · exact h
  · exact absurd h2 (n _)
theorem RepW.tup {A H v ds} (h : RepW A H v (.tuple ds)) : ∃ a vs, v = .ref a ∧ A a ∧ H a = some (.tup vs) ∧ vs.length ≤ sizeLine ∧ RepAll A H vs ds := by
  have h := h.rep (fun _ z => by cases z)
  cases h with | tup h1 h2 h3 h4 => exact ⟨_, _, rfl, h1, h2, h3, h4⟩
theorem RepW.int {A H v i} (h : RepW A H v (.int i)) : v = .int i := by
  have h := h.rep (fun _ z => by cases z)
  cases h; rfl
theorem RepW.bool {A H v i} (h : RepW A H v (.bool i)) : v = .bl i := by
  have h := h.rep (fun _ z => by cases z)
  cases h; rfl
theorem RepW.str {A H v i} (h : RepW A H v (.str i)) : v = .str i := by
  have h := h.rep (fun _ z => by cases z)
  cases h; rfl
theorem RepW.non {A H v} (h : RepW A H v .none) : v = .non := by
  have h := h.rep (fun _ z => by cases z)
  cases h; rfl
mutual
theorem Rep.dp {K A H} : ∀ {v d}, Rep A H v d → Dp K H v d
  | _, _, .none => .non
  | _, _, .bool => .bl _
  | _, _, .int => .int _
  | _, _, .str => .str _
  | _, _, .lst _ h2 _ h4 => .lst (SqL.of h2) (RepAll.dp h4)
  | _, _, .tup _ h2 _ h4 => .tup (SqT.of h2) (RepAll.dp h4)
theorem RepAll.dp {K A H} : ∀ {vs ds}, RepAll A H vs ds → DpAll K H vs ds
  | _, _, .nil => .nil
  | _, _, .cons h1 h2 => .cons (Rep.dp h1) (RepAll.dp h2)
end
theorem RepW.dp {K A H v d} (h : RepW A H v d) : Dp K H v d := by
  rcases h with h | ⟨a, vs, es, h1, h2, h3, h4, h5⟩
  · exact h.dp
  · subst h1 h2; exact .lst (SqL.of h3) h5.dp

/-! ### an operation on two values -/
def OpSnd (X : Cx) (f : Value → Value → Sem Value) (g : D → D → Option Res) : Prop := ∃ r : R2, OpR X f r ∧
  ∀ A H σ ρ x y d e res, Fit A H σ ρ → RepW A H x d → RepW A H y e → g d e = some res → ∀ Q : VK, (∀ A' H' v, Stp A H σ ρ A' H' σ ρ → ResOk A' H H' σ ρ v res → Q v H') → r x y H Q
/-- .. that makes nothing -/
theorem OpSnd.flat {X f g} {r : R2} (ho : OpR X f r) (h : ∀ A H x y d e res, RepW A H x d → RepW A H y e → g d e = some res → ∃ d', res = .fr d' ∧ ∀ Q : VK, (∀ v, Rep A H v d' → Q v H) → r x y H Q) : OpSnd X f g :=
  ⟨r, ho, fun A H σ ρ x y d e res ft hx hy hg Q k => by
    obtain ⟨d', rfl, q⟩ := h A H x y d e res hx hy hg
    exact q Q fun v hv => k A H v (Stp.refl ft) hv⟩

def bop : Bop → Operator
  | .add => .Add
  | .sub => .Sub
  | .mul => .Mult
  | .fdiv => .FloorDiv
  | .mod => .Mod
  | .pow => .Pow
def cop : Cop → CmpOp
  | .eq => .Eq
  | .ne => .NotEq
  | .lt => .Lt
  | .le => .LtE
  | .gt => .Gt
  | .ge => .GtE
  | .inn => .In
  | .nin => .NotIn
  | .is => .Is
  | .isn => .IsNot
section
variable {X : Cx}
theorem rep_int' {A H i} : Rep A H (.int i) (.int i) := .int
theorem op_fdivNW : OpR X (binaryOp .FloorDiv) (rI (fun _ j => j ≠ 0 ∧ j.natAbs.log2 < 9000) fun i j => .int (i.fdiv j)) := opI fun _ _ _ _ _ _ _ hc q => PyProof.Rows.floordiv_int hc.1 q (.inl (PyProof.noPylong_of_log2 hc.2))
theorem op_mulA : OpR X (binaryOp .Mult) (rI (fun i j => CMul i j ∨ CMulW i j) fun i j => .int (i * j)) := by
  intro pins s σ H x y v u Q I rx ry h
  obtain ⟨i, j, rfl, rfl, c, q⟩ := h
  rcases c with c | c
  · exact op_mul pins s σ H _ _ v u Q I rx ry ⟨i, j, rfl, rfl, c, q⟩
  · exact op_mulW pins s σ H _ _ v u Q I rx ry ⟨i, j, rfl, rfl, c, q⟩
theorem snd_bop (o : Bop) : OpSnd X (binaryOp (bop o)) (dBin o) := by
  cases o with
  | add =>
    refine ⟨_, ((op_add.or op_add_str).or (op_cat.or op_catA)), fun A H σ ρ x y d e res ft hx hy hg Q k => ?_⟩
    cases d <;> cases e <;> simp only [dBin, reduceCtorEq] at hg
    · cases hg
      cases hx.int; cases hy.int
      exact .inl (.inl ⟨_, _, rfl, rfl, k A H _ (Stp.refl ft) .int⟩)
    · split at hg
      · rename_i hz
        cases hg
        cases hx.str; cases hy.str
        exact .inl (.inr ⟨_, _, rfl, rfl, hz, k A H _ (Stp.refl ft) .str⟩)
      · cases hg
    · split at hg
      · rename_i hz
        cases hg
        obtain ⟨a, vs, rfl, h1, h2, h3⟩ := hx.list
        obtain ⟨b, ws, rfl, h4, h5, h6⟩ := hy.list
        have hz' : vs.length + ws.length ≤ sizeLine := by rw [h3.length, h6.length]; exact hz
        exact .inr (.inl ⟨a, b, vs, ws, rfl, rfl, h1, h4, hz', fun p hp => k A _ _ (Stp.grow ft (upd_grow hp)) (res_new ft hp (by rw [List.length_append]; exact hz') (h3.append h6))⟩)
      · cases hg
    · split at hg
      · rename_i hz
        cases hg
        obtain ⟨a, vs, rfl, h0, h1, h2, h3⟩ := hx.tup
        obtain ⟨b, ws, rfl, h0', h4, h5, h6⟩ := hy.tup
        have hz' : vs.length + ws.length ≤ sizeLine := by rw [h3.length, h6.length]; exact hz
        refine .inr (.inr ⟨a, b, vs, ws, rfl, rfl, SqT.of h1, SqT.of h4, hz', fun e => ?_, fun _ e => ?_, fun _ _ p hp => ?_⟩)
        · subst e
          cases h3
          exact k A H _ (Stp.refl ft) (.tup h0' h4 h5 h6)
        · subst e
          cases h6
          exact k A H _ (Stp.refl ft) (by rw [List.append_nil]; exact .tup h0 h1 h2 h3)
        · exact k _ _ _ (Stp.frz ft hp) (rep_newT hp (by rw [List.length_append]; exact hz') (h3.append h6))
      · cases hg
  | sub =>
    refine ⟨_, op_sub, fun A H σ ρ x y d e res ft hx hy hg Q k => ?_⟩
    cases d <;> cases e <;> simp only [dBin, reduceCtorEq] at hg
    cases hg
    cases hx.int; cases hy.int
    exact ⟨_, _, rfl, rfl, k A H _ (Stp.refl ft) .int⟩
  | mul =>
    refine ⟨_, op_mulA.or op_rep, fun A H σ ρ x y d e res ft hx hy hg Q k => ?_⟩
    cases d <;> cases e <;> simp only [dBin, reduceCtorEq] at hg
    · split at hg
      · rename_i hz
        cases hg
        cases hx.int; cases hy.int
        exact .inl ⟨_, _, rfl, rfl, hz, k A H _ (Stp.refl ft) .int⟩
      · cases hg
    · split at hg
      · rename_i hz
        cases hg
        obtain ⟨a, vs, rfl, h1, h2, h3⟩ := hx.list
        cases hy.int
        obtain ⟨z1, z2, z3⟩ := hz
        rw [← h3.length] at z3
        exact .inr ⟨a, _, vs, rfl, rfl, h1, z1, z2, z3, fun p hp => k A _ _ (Stp.grow ft (upd_grow hp)) (res_new ft hp (by rw [PyProof.Rows.lm_len_rep_flat, Nat.mul_comm]; exact z3) (h3.rep _))⟩
      · cases hg
  | fdiv =>
    refine ⟨_, op_fdivNW, fun A H σ ρ x y d e res ft hx hy hg Q k => ?_⟩
    cases d <;> cases e <;> simp only [dBin, reduceCtorEq] at hg
    split at hg
    · rename_i hz
      cases hg
      cases hx.int; cases hy.int
      exact ⟨_, _, rfl, rfl, hz, k A H _ (Stp.refl ft) .int⟩
    · cases hg
  | mod =>
    refine ⟨_, op_modN, fun A H σ ρ x y d e res ft hx hy hg Q k => ?_⟩
    cases d <;> cases e <;> simp only [dBin, reduceCtorEq] at hg
    split at hg
    · rename_i hz
      cases hg
      cases hx.int; cases hy.int
      exact ⟨_, _, rfl, rfl, hz, k A H _ (Stp.refl ft) .int⟩
    · cases hg
  | pow =>
    refine ⟨_, op_pow, fun A H σ ρ x y d e res ft hx hy hg Q k => ?_⟩
    cases d <;> cases e <;> simp only [dBin, reduceCtorEq] at hg
    split at hg
    · rename_i hz
      cases hg
      cases hx.int; cases hy.int
      exact ⟨_, _, rfl, rfl, hz, k A H _ (Stp.refl ft) .int⟩
    · cases hg

/-! ### comparisons -/
/-- .. a test by values -/
def CmpSnd (X : Cx) (f : Value → Value → Sem Value) (g : D → D → Option Bool) : Prop := ∃ r : R2, OpR X f r ∧
  ∀ A H x y d e b, RepW A H x d → RepW A H y e → g d e = some b → ∀ Q : VK, Q (.bl b) H → r x y H Q
theorem op_isB : OpR X (compareOp .Is) (fun x y H Q => ∃ b, y = .bl b ∧ Q (.bl (decide (x = .bl b))) H) := by
  intro pins s σ H x y v u Q I rx ry h
  obtain ⟨b, rfl, q⟩ := h
  cases (show u = Value.bool b from ry)
  by_cases e : x = .bl b
  · subst e
    cases (show v = Value.bool b from rx)
    exact wpAny_is_self rfl ⟨.bl true, H, I, rfl, by simpa using q⟩
  · refine wpAny_is_other ?_ ?_ ⟨.bl false, H, I, rfl, by simpa [e] using q⟩
    · cases x <;> first
        | (cases rx; rfl)
        | (obtain ⟨t, rfl⟩ := rx; rfl)
    · intro z
      subst z
      exact e (rx.inj rfl)
theorem op_isnB : OpR X (compareOp .IsNot) (fun x y H Q => ∃ b, y = .bl b ∧ Q (.bl (!decide (x = .bl b))) H) := by
  intro pins s σ H x y v u Q I rx ry h
  obtain ⟨b, rfl, q⟩ := h
  cases (show u = Value.bool b from ry)
  by_cases e : x = .bl b
  · subst e
    cases (show v = Value.bool b from rx)
    exact wpAny_isNot_self rfl ⟨.bl false, H, I, rfl, by simpa using q⟩
  · refine wpAny_isNot_other ?_ ?_ ⟨.bl true, H, I, rfl, by simpa [e] using q⟩
    · cases x <;> first
        | (cases rx; rfl)
        | (obtain ⟨t, rfl⟩ := rx; rfl)
    · intro z
      subst z
      exact e (rx.inj rfl)
theorem flat_rep : ∀ {A H v d}, Rep A H v d → isFlat d = flatV v
  | _, _, _, _, .none => rfl
  | _, _, _, _, .bool => rfl
  | _, _, _, _, .int => rfl
  | _, _, _, _, .str => rfl
  | _, _, _, _, .lst .. => rfl
  | _, _, _, _, .tup .. => rfl
theorem eqv_flat {A H v d w e} (h : Rep A H v d) (h' : Rep A H w e) (f : isFlat d = true) (f' : isFlat e = true) : PyData.eqv d e = eqV v w := by
  cases h <;> cases h' <;> first | (simp [isFlat] at f; done) | (simp [isFlat] at f'; done) | rfl | simp [PyData.eqv, eqV]
theorem all_flat {A H} : ∀ {vs ds}, RepAll A H vs ds → ds.all isFlat = vs.all flatV
  | _, _, .nil => rfl
  | _, _, .cons h1 h2 => by rw [List.all_cons, List.all_cons, flat_rep h1, all_flat h2]
theorem any_flat {A H v d} (h : Rep A H v d) (f : isFlat d = true) : ∀ {vs ds}, RepAll A H vs ds → ds.all isFlat = true → (ds.any fun z => PyData.eqv z d) = inV v vs
  | _, _, .nil, _ => rfl
  | _, _, .cons h1 h2, g => by
    rw [List.all_cons, Bool.and_eq_true] at g
    unfold inV
    rw [List.any_cons, List.any_cons, eqv_flat h1 h g.1 f, any_flat h f h2 g.2]
    rfl
theorem flat_w {A H v d} (h : RepW A H v d) (f : isFlat d = true) : Rep A H v d := h.rep fun ds e => by subst e; cases f
theorem snd_cop (hu : X.A.units + 65 < cLine) (o : Cop) : CmpSnd X (compareOp (cop o)) (dCmp o) := by
  cases o with
  | eq =>
    refine ⟨_, op_eqD (by omega), fun A H x y d e b hx hy hg Q k => ?_⟩
    simp only [dCmp, Bool.and_eq_true] at hg
    split at hg
    · rename_i hz
      cases hg
      exact ⟨d, e, hx.dp, hy.dp, hz.1, hz.2, k⟩
    · cases hg
  | ne =>
    refine ⟨_, op_neD (by omega), fun A H x y d e b hx hy hg Q k => ?_⟩
    simp only [dCmp, Bool.and_eq_true] at hg
    split at hg
    · rename_i hz
      cases hg
      exact ⟨d, e, hx.dp, hy.dp, hz.1, hz.2, k⟩
    · cases hg
  | lt =>
    refine ⟨_, op_lt.or (op_ltD hu), fun A H x y d e b hx hy hg Q k => ?_⟩
    by_cases hi : ∃ i j, d = .int i ∧ e = .int j
    · obtain ⟨i, j, rfl, rfl⟩ := hi
      simp only [dCmp, Option.some.injEq] at hg
      subst hg
      cases hx.int; cases hy.int
      exact .inl ⟨_, _, rfl, rfl, k⟩
    · refine .inr ⟨d, e, hx.dp, hy.dp, ?_⟩
      have hg' : ordC d e (PySem.W.dataLt d e) = some b := by
        cases d <;> first
          | exact hg
          | (cases e <;> first | exact hg | exact absurd ⟨_, _, rfl, rfl⟩ hi)
      unfold ordC at hg'
      split at hg'
      · rename_i z
        cases hg'
        exact ⟨z, k⟩
      · cases hg'
  | le =>
    refine ⟨_, op_le.or (op_leD hu), fun A H x y d e b hx hy hg Q k => ?_⟩
    by_cases hi : ∃ i j, d = .int i ∧ e = .int j
    · obtain ⟨i, j, rfl, rfl⟩ := hi
      simp only [dCmp, Option.some.injEq] at hg
      subst hg
      cases hx.int; cases hy.int
      exact .inl ⟨_, _, rfl, rfl, k⟩
    · refine .inr ⟨d, e, hx.dp, hy.dp, ?_⟩
      have hg' : ordC d e (!PySem.W.dataLt e d) = some b := by
        cases d <;> first
          | exact hg
          | (cases e <;> first | exact hg | exact absurd ⟨_, _, rfl, rfl⟩ hi)
      unfold ordC at hg'
      split at hg'
      · rename_i z
        cases hg'
        exact ⟨z, k⟩
      · cases hg'
  | gt =>
    refine ⟨_, op_gt.or (op_gtD hu), fun A H x y d e b hx hy hg Q k => ?_⟩
    by_cases hi : ∃ i j, d = .int i ∧ e = .int j
    · obtain ⟨i, j, rfl, rfl⟩ := hi
      simp only [dCmp, Option.some.injEq] at hg
      subst hg
      cases hx.int; cases hy.int
      exact .inl ⟨_, _, rfl, rfl, k⟩
    · refine .inr ⟨d, e, hx.dp, hy.dp, ?_⟩
      have hg' : ordC d e (PySem.W.dataLt e d) = some b := by
        cases d <;> first
          | exact hg
          | (cases e <;> first | exact hg | exact absurd ⟨_, _, rfl, rfl⟩ hi)
      unfold ordC at hg'
      split at hg'
      · rename_i z
        cases hg'
        exact ⟨z, k⟩
      · cases hg'
  | ge =>
    refine ⟨_, op_ge.or (op_geD hu), fun A H x y d e b hx hy hg Q k => ?_⟩
    by_cases hi : ∃ i j, d = .int i ∧ e = .int j
    · obtain ⟨i, j, rfl, rfl⟩ := hi
      simp only [dCmp, Option.some.injEq] at hg
      subst hg
      cases hx.int; cases hy.int
      exact .inl ⟨_, _, rfl, rfl, k⟩
    · refine .inr ⟨d, e, hx.dp, hy.dp, ?_⟩
      have hg' : ordC d e (!PySem.W.dataLt d e) = some b := by
        cases d <;> first
          | exact hg
          | (cases e <;> first | exact hg | exact absurd ⟨_, _, rfl, rfl⟩ hi)
      unfold ordC at hg'
      split at hg'
      · rename_i z
        cases hg'
        exact ⟨z, k⟩
      · cases hg'
  | inn =>
    refine ⟨_, (op_inD hu).or op_in_seq, fun A H x y d e b hx hy hg Q k => ?_⟩
    cases e <;> simp only [dCmp, reduceCtorEq, Bool.and_eq_true] at hg
    · split at hg
      · rename_i hz
        cases hg
        exact .inl ⟨d, _, hx.dp, hy.dp, hz.1, hz.2, k⟩
      · cases hg
    · split at hg
      · rename_i hz
        cases hg
        have hx' := flat_w hx hz.1
        obtain ⟨a, vs, rfl, _, h1, _, h2⟩ := hy.tup
        refine .inr ⟨a, vs, rfl, .inr (SqT.of h1), by rw [← flat_rep hx']; exact hz.1, by rw [← all_flat h2]; exact hz.2, ?_⟩
        rw [any_flat hx' hz.1 h2 hz.2] at k
        exact k
      · cases hg
  | nin =>
    refine ⟨_, (op_notInD hu).or op_notIn_seq, fun A H x y d e b hx hy hg Q k => ?_⟩
    cases e <;> simp only [dCmp, reduceCtorEq, Bool.and_eq_true] at hg
    · split at hg
      · rename_i hz
        cases hg
        exact .inl ⟨d, _, hx.dp, hy.dp, hz.1, hz.2, k⟩
      · cases hg
    · split at hg
      · rename_i hz
        cases hg
        have hx' := flat_w hx hz.1
        obtain ⟨a, vs, rfl, _, h1, _, h2⟩ := hy.tup
        refine .inr ⟨a, vs, rfl, .inr (SqT.of h1), by rw [← flat_rep hx']; exact hz.1, by rw [← all_flat h2]; exact hz.2, ?_⟩
        rw [any_flat hx' hz.1 h2 hz.2] at k
        exact k
      · cases hg
  | is =>
    refine ⟨_, op_isN.or op_isB, fun A H x y d e b hx hy hg Q k => ?_⟩
    cases e <;> simp only [dCmp, reduceCtorEq] at hg
    · cases hg
      cases hy.non
      refine .inl ⟨rfl, ?_⟩
      rcases hx with hx | ⟨a, vs, ds, rfl, rfl, _⟩
      · cases hx <;> exact k
      · exact k
    · cases hg
      cases hy.bool
      refine .inr ⟨_, rfl, ?_⟩
      rcases hx with hx | ⟨a, vs, ds, rfl, rfl, _⟩
      · cases hx <;> first | (simpa using k; done) | (rename_i b c; cases b <;> cases c <;> exact k)
      · simpa using k
  | isn =>
    refine ⟨_, op_notN.or op_isnB, fun A H x y d e b hx hy hg Q k => ?_⟩
    cases e <;> simp only [dCmp, reduceCtorEq] at hg
    · cases hg
      cases hy.non
      refine .inl ⟨rfl, ?_⟩
      rcases hx with hx | ⟨a, vs, ds, rfl, rfl, _⟩
      · cases hx <;> exact k
      · exact k
    · cases hg
      cases hy.bool
      refine .inr ⟨_, rfl, ?_⟩
      rcases hx with hx | ⟨a, vs, ds, rfl, rfl, _⟩
      · cases hx <;> first | (simpa using k; done) | (rename_i b c; cases b <;> cases c <;> exact k)
      · simpa using k
end
end Ev

set_option maxRecDepth 100000
/-! Ev4: the context; names, constants, operators, calls. -/
namespace Ev
open PySem L2
variable [TheK]

def bltNames : List String := ["len", "abs", "int", "str", "repr", "sum", "max", "min", "all", "any", "sorted", "list", "tuple", "range", "isinstance", "enumerate", "zip", "reversed", "bool", "dict", "set"]
/-- where one stands: the scope, the names whose cells are one's own -/
structure Sc where
  sc : Scope
  fs : Str → Bool
  gcd : Bool

/-! ### what a def promises -/
def RetOk (A : Addr → Prop) (Hs H : Hp) (v : V) : Res → Prop
  | .fr d => Rep A H v d
  | .nw ds => ∃ a vs, v = .ref a ∧ H a = some (.lst vs) ∧ vs.length ≤ sizeLine ∧ RepAll A H vs ds ∧ ¬ A a ∧ Hs a = none
def OutsOk (A : Addr → Prop) (H : Hp) : List PK → List V → List (List D) → Prop
  | [], _, [] => True
  | .M :: ks, v :: vs, ds :: outs => (∃ a ws, v = .ref a ∧ H a = some (.lst ws) ∧ ws.length ≤ sizeLine ∧ RepAll A H ws ds ∧ ¬ A a) ∧ OutsOk A H ks vs outs
  | .B :: ks, _ :: vs, outs => OutsOk A H ks vs outs
  | .I :: ks, _ :: vs, outs => OutsOk A H ks vs outs
  | _, _, _ => False
def spOf (ks : List PK) (fn : Fn) : Sp := fun vs H Q _ => vs.length = ks.length ∧ ∃ (A : Addr → Prop) (args : List Slot) (r : Res) (outs : List (List D)),
  Fit A H (vs.map some) args ∧ fn args = some (r, outs) ∧ ∀ (A' : Addr → Prop) (H' : Hp) (v : V), (∀ a, A a → A' a) → (∀ a o, H a = some o → ¬ Mut (vs.map some) args a → H' a = some o) → (∀ a, H' a = none → H a = none) →
    (∀ a, A' a → A a ∨ H a = none) → (∀ a, A' a → ∃ o, H' a = some o) → RetOk A' H H' v r → OutsOk A' H' ks vs outs → Q v H'

structure CtxOk (X : Cx) (N : List Str) (q : Sc) (F : FT) : Prop where
  N : X.N = N
  nd : X.N.Nodup
  sc : X.env.scope = q.sc
  fn : X.fn = q.fs
  calm : X.calm = true
  nox : X.xe = fun _ _ => False
  bl : ∀ x, x ∈ bltNames → X.mg (Str.ofString x) = none
  un : X.A.units + 65 < cLine
  kk : TheK.K = X.K
  kd : X.env.scope.kind = .function
  gc : q.gcd = true → X.mg (Str.ofString "gcd") = some (.builtin "math.gcd")
  fns : ∀ f ks fn, F f = some (ks, fn) → ∃ (fa : Addr) (fd : FuncData) (ps : List Str) (k : Nat), X.mg (Str.ofString f) = some (.ref fa) ∧ PySem.W.keepIn X.K (.ref fa) = true ∧ Binds X.K fd ps [] ∧ Room k X.A ∧
    FnOk X.prog X.w X.K X.mg X.base CX0 k fa fd ps (spOf ks fn)

def visB (sc : Scope) (x : Str) : Bool := match sc.names.lookup x with
  | some .local => true
  | some .cell => true
  | some .free => true
  | _ => false
def glB (sc : Scope) (x : Str) : Bool := match sc.names.lookup x with
  | some .globalImplicit => true
  | _ => false
def okName (x : Str) : Bool := !(x == ("__debug__" : Str)) && !(x == ("__classdict__" : Str))
theorem vis_of {sc x} (h : visB sc x = true) : Vis sc x := by
  unfold visB at h
  split at h
  · exact .inl (by assumption)
  · exact .inr (.inl (by assumption))
  · exact .inr (.inr (by assumption))
  · cases h
section
variable {X : Cx} {N : List Str} {q : Sc} {F : FT}
theorem gl_of (C : CtxOk X N q F) {x} (h : glB q.sc x = true) : Gl X x := by
  unfold glB at h
  split at h
  · show X.env.scope.names.lookup x = some .globalImplicit
    rw [C.sc]; assumption
  · cases h
theorem okName1 {x} (h : okName x = true) : (x == ("__debug__" : Str)) = false := by
  unfold okName at h; rw [Bool.and_eq_true] at h; simpa using h.1
theorem okName2 {x} (h : okName x = true) : (x == ("__classdict__" : Str)) = false := by
  unfold okName at h; rw [Bool.and_eq_true] at h; simpa using h.2

/-! ### names -/
def nameB (N : List Str) (q : Sc) (i : Nat) (x : Str) : Bool := decide (N[i]? = some x) && visB q.sc x && okName x
theorem pe_name (C : CtxOk X N q F) {i x pos} (h : nameB N q i x = true) : PE X (.Name x pos) (tVar i) := by
  unfold nameB at h
  simp only [Bool.and_eq_true, decide_eq_true_eq] at h
  obtain ⟨⟨h1, h2⟩, h3⟩ := h
  exact pe_var (by rw [C.N]; exact h1) (by rw [C.sc]; exact vis_of h2) (okName1 h3) (okName2 h3)

/-- a slot's word goes over to more frozen things and a later heap -/
theorem SlotOk.go {A A' : Addr → Prop} {H H' ov s} (e : ∀ a, A a → A' a) (k : Keep A H H') (h : SlotOk A H ov s)
    (kh : ∀ a o, liveB s = true → ov = some (.ref a) → H a = some o → H' a = some o) (hn : ∀ a, live s = true → ov = some (.ref a) → ¬ A' a) (kf : ∀ a o u, H a = some (.frz o u) → H' a = some (.frz o u))
    (kd : ∀ kk d v a o, s = .dp kk d → ov = some v → LR H v a → H a = some o → H' a = some o) (nd : ∀ kk d v a, s = .dp kk d → ov = some v → LR H v a → ¬ A' a) : SlotOk A' H' ov s := by
  cases s with
  | un => trivial
  | fz d => obtain ⟨w, q1, q2⟩ := h; exact ⟨w, q1, Rep.mono e k q2⟩
  | own es => obtain ⟨b, ws, q1, q2, q3, q4, q5⟩ := h; exact ⟨b, ws, q1, kh _ _ rfl q1 q2, q3, RepAll.mono e k q4, hn b rfl q1⟩
  | lent es => obtain ⟨b, ws, q1, q2, q3, q4, q5⟩ := h; exact ⟨b, ws, q1, kh _ _ rfl q1 q2, q3, RepAll.mono e k q4, hn b rfl q1⟩
  | mu es => obtain ⟨b, ws, q1, q2, q3, q4, q5⟩ := h; exact ⟨b, ws, q1, kh _ _ rfl q1 q2, q3, RepAll.mono e k q4, hn b rfl q1⟩
  | dct es => obtain ⟨b, ws, q1, q2, q3, q4, q5⟩ := h; exact ⟨b, ws, q1, kh _ _ rfl q1 q2, q3, KvRep.mono e k q4, hn b rfl q1⟩
  | dp kk d => exact h.keep e k (fun v a o ev l => kd kk d v a o rfl ev l) (fun v a ev l => nd kk d v a rfl ev l)
  | bor es => obtain ⟨b, ws, q1, q2, q3, q4⟩ := h; exact ⟨b, ws, q1, kh _ _ rfl q1 q2, q3, RepAll.mono e k q4⟩
  | ro es => obtain ⟨b, ws, q1, q2, q3, q4⟩ := h; exact ⟨b, ws, q1, q2.keep fun o u => kf _ o u, q3, RepAll.mono e k q4⟩
theorem liveB_of {s} (h : live s = true) : liveB s = true := by cases s <;> first | rfl | cases h
theorem SlotOk.nofz {A H s a} (h : SlotOk A H (some (.ref a)) s) (l : live s = true) : ¬ A a := by
  cases s <;> simp [live] at l <;> (obtain ⟨b, ws, q1, q2, q3, q4, q5⟩ := h; cases q1; exact q5)

theorem get_set {α : Type} {l : List α} {i j : Nat} {a b : α} (h : (l.set i a)[j]? = some b) : (i = j ∧ b = a) ∨ (i ≠ j ∧ l[j]? = some b) := by
  by_cases e : i = j
  · subst e
    by_cases hl : i < l.length
    · rw [List.getElem?_set_self hl] at h; exact .inl ⟨rfl, (Option.some.inj h).symm⟩
    · rw [List.getElem?_eq_none (by rw [List.length_set]; omega)] at h; cases h
  · rw [List.getElem?_set_ne e] at h; exact .inr ⟨e, h⟩
theorem set_get {α : Type} {l : List α} {i : Nat} {a b : α} (h : l[i]? = some b) : (l.set i a)[i]? = some a := List.getElem?_set_self (List.getElem?_eq_some_iff.mp h).1

/-- a list of one's own is frozen where it stands -/
theorem stp_freeze {A H σ} {ρ : Env} {i : Nat} {s : Slot} {ds : List D} (f : Fit A H σ ρ) (hs : ρ[i]? = some s) (hk : s = .own ds ∨ s = .lent ds) :
    ∃ a, σ[i]? = some (some (.ref a)) ∧ Stp A H σ ρ (fun b => A b ∨ b = a) H σ (ρ.set i (.fz (.list ds))) ∧ Rep (fun b => A b ∨ b = a) H (.ref a) (.list ds) := by
  obtain ⟨ov, e1, q⟩ := f.at hs
  have q' : ∃ a vs, ov = some (.ref a) ∧ H a = some (.lst vs) ∧ vs.length ≤ sizeLine ∧ RepAll A H vs ds ∧ ¬ A a := by rcases hk with rfl | rfl <;> exact q
  have lv : live s = true := by rcases hk with rfl | rfl <;> rfl
  obtain ⟨a, vs, rfl, q1, q2, q3, q4⟩ := q'
  have e : ∀ b, A b → A b ∨ b = a := fun _ h => .inl h
  have k : Keep A H H := fun _ _ _ h => h
  have rep : Rep (fun b => A b ∨ b = a) H (.ref a) (.list ds) := .lst (.inr rfl) q1 q2 (RepAll.mono e k q3)
  have mt : ∀ b, Mut σ (ρ.set i (.fz (.list ds))) b → Mut σ ρ b := fun b ⟨j, t, h1, h2, h3⟩ => by
    rcases get_set h1 with ⟨_, rfl⟩ | ⟨_, h1⟩
    · cases h2
    · exact ⟨j, t, h1, h2, h3⟩
  have dps : ∀ (j : Nat) kk d, (ρ.set i (Slot.fz (.list ds)))[j]? = some (Slot.dp kk d) → ρ[j]? = some (.dp kk d) ∧ σ[j]? = σ[j]? := fun j kk d h => by
    rcases get_set h with ⟨_, h⟩ | ⟨_, h⟩
    · cases h
    · exact ⟨h, rfl⟩
  refine ⟨a, e1, ⟨e, fun _ _ h _ _ => h, fun _ h => h, fun b m => .inl (mt b m), fun j es h => ⟨rfl, ?_⟩, fun b hb => ?_, fun j es h o => ?_, fun b hb => .inr (.inl (f.prv_back dps (fun _ _ _ z => z) (fun _ _ _ z => z) b hb)), ⟨by rw [List.length_set]; exact f.len, fun j t ov h1 h2 => ?_, fun j l t u b hjl h1 h2 h3 h4 h5 h6 => ?_, fun b hb => ?_, f.prv_go dps (fun _ _ _ z => z) (fun _ _ _ z => z) fun j t b h1 h2 h3 => ?_⟩⟩, rep⟩
  · by_cases hj : i = j
    · subst hj; rw [hs] at h; cases h; rcases hk with hk | hk <;> cases hk
    · exact ⟨es, by rw [List.getElem?_set_ne hj]; exact h⟩
  · rcases hb with hb | rfl
    · exact .inl hb
    · rcases hk with rfl | rfl
      · exact .inr (.inr (.inl ⟨i, _, hs, rfl, e1⟩))
      · exact .inr (.inr (.inr (.inr ⟨i, _, hs, e1⟩)))
  · rcases get_set h with ⟨_, h⟩ | ⟨_, h⟩
    · subst h; cases o
    · exact ⟨h, rfl⟩
  · rcases get_set h1 with ⟨rfl, rfl⟩ | ⟨hj, h1⟩
    · rw [e1] at h2; cases h2; exact ⟨_, rfl, rep⟩
    · have ok := f.slot j t _ h1 h2
      refine ok.go e k (fun _ _ _ _ z => z) (fun b lt z hb => ?_) (fun _ _ _ z => z) (fun _ _ _ _ _ _ _ _ z => z) (fun kk d w b z ez l hb => ?_)
      subst z
      rcases hb with hb | rfl
      · exact ok.nofz lt hb
      · exact f.apart i j s t _ hj hs h1 lv (liveB_of lt) e1 h2
      · subst ez z
        rcases hb with hb | rfl
        · exact (f.lr h1 h2 l).1 hb
        · exact (f.prv j kk d w b h1 h2 l).1 i s hs (liveB_of lv) e1
  · rcases get_set h1 with ⟨rfl, rfl⟩ | ⟨_, h1⟩
    · cases h3
    · rcases get_set h2 with ⟨rfl, rfl⟩ | ⟨_, h2⟩
      · cases h4
      · exact f.apart j l t u b hjl h1 h2 h3 h4 h5 h6
  · rcases hb with hb | rfl
    · exact f.trk b hb
    · exact ⟨_, q1⟩
  · rcases get_set h1 with ⟨_, rfl⟩ | ⟨_, h1⟩
    · cases h2
    · exact .inl ⟨j, t, h1, h2, h3⟩
mutual
theorem DpR.rep {A A' : Addr → Prop} {H : Hp} (e : ∀ a, A a → A' a) : ∀ {v d}, DpR A H v d → (∀ a, LR H v a → A' a) → Rep A' H v d
  | _, _, .leaf h _, _ => Rep.mono e (fun _ _ _ z => z) h
  | _, _, .lst h1 h2 _ h4, k => .lst (k _ (.here h1)) h1 h2 (DpRs.rep e h4 fun v hv a l => k a (.lst h1 hv l))
  | _, _, .tup h1 h2 h3 h4, k => .tup (e _ h1) h2 h3 (DpRs.rep e h4 fun v hv a l => k a (.tup h2 hv l))
theorem DpRs.rep {A A' : Addr → Prop} {H : Hp} (e : ∀ a, A a → A' a) : ∀ {vs ds}, DpRs A H vs ds → (∀ v ∈ vs, ∀ a, LR H v a → A' a) → RepAll A' H vs ds
  | _, _, .nil, _ => .nil
  | _, _, .cons h1 h2, k => .cons (DpR.rep e h1 (k _ List.mem_cons_self)) (DpRs.rep e h2 fun v hv => k v (List.mem_cons_of_mem _ hv))
end
/-- lists under lists are frozen where they stand -/
theorem stp_freezeD {A H σ} {ρ : Env} {i : Nat} {kk : DK} {d : D} (f : Fit A H σ ρ) (hs : ρ[i]? = some (.dp kk d)) (hk : kk ≠ .junk) :
    ∃ v, σ[i]? = some (some v) ∧ Stp A H σ ρ (fun b => A b ∨ LR H v b) H σ (ρ.set i (.fz d)) ∧ Rep (fun b => A b ∨ LR H v b) H v d := by
  obtain ⟨ov, e1, v, d', rfl, r, h2, _, _⟩ := f.at hs
  cases h2 hk
  have e : ∀ b, A b → A b ∨ LR H v b := fun _ h => .inl h
  have k : Keep A H H := fun _ _ _ h => h
  have rep : Rep (fun b => A b ∨ LR H v b) H v d := r.rep e fun _ l => .inr l
  have mt : ∀ b, Mut σ (ρ.set i (.fz d)) b → Mut σ ρ b := fun b ⟨j, t, h1, h2, h3⟩ => by
    rcases get_set h1 with ⟨_, rfl⟩ | ⟨_, h1⟩
    · cases h2
    · exact ⟨j, t, h1, h2, h3⟩
  have dps : ∀ (j : Nat) k2 d2, (ρ.set i (Slot.fz d))[j]? = some (Slot.dp k2 d2) → ρ[j]? = some (.dp k2 d2) ∧ σ[j]? = σ[j]? := fun j k2 d2 h => by
    rcases get_set h with ⟨_, h⟩ | ⟨_, h⟩
    · cases h
    · exact ⟨h, rfl⟩
  have pv : ∀ b, LR H v b → Prv H σ ρ b := fun b l => ⟨i, kk, d, v, hs, e1, l⟩
  refine ⟨v, e1, ⟨e, fun _ _ h _ _ => h, fun _ h => h, fun b m => .inl (mt b m), fun j es h => ⟨rfl, ?_⟩, fun b hb => ?_, fun j es h o => ?_, fun b hb => .inr (.inl (f.prv_back dps (fun _ _ _ z => z) (fun _ _ _ z => z) b hb)), ⟨by rw [List.length_set]; exact f.len, fun j t ov h1 h2 => ?_, fun j l t u b hjl h1 h2 h3 h4 h5 h6 => ?_, fun b hb => ?_, f.prv_go dps (fun _ _ _ z => z) (fun _ _ _ z => z) fun j t b h1 h2 h3 => ?_⟩⟩, rep⟩
  · by_cases hj : i = j
    · subst hj; rw [hs] at h; cases h
    · exact ⟨es, by rw [List.getElem?_set_ne hj]; exact h⟩
  · rcases hb with hb | hb
    · exact .inl hb
    · exact .inr (.inr (.inr (.inl (pv b hb))))
  · rcases get_set h with ⟨_, h⟩ | ⟨_, h⟩
    · subst h; cases o
    · exact ⟨h, rfl⟩
  · rcases get_set h1 with ⟨rfl, rfl⟩ | ⟨hj, h1⟩
    · rw [e1] at h2; cases h2; exact ⟨_, rfl, rep⟩
    · have ok := f.slot j t _ h1 h2
      refine ok.go e k (fun _ _ _ _ z => z) (fun b lt z hb => ?_) (fun _ _ _ z => z) (fun _ _ _ _ _ _ _ _ z => z) (fun k2 d2 w b ez z l hb => ?_)
      · subst z
        rcases hb with hb | hb
        · exact ok.nofz lt hb
        · exact (f.prv i kk d v b hs e1 hb).1 j t h1 (liveB_of lt) h2
      · subst ez z
        rcases hb with hb | hb
        · exact (f.lr h1 h2 l).1 hb
        · exact (f.prv i kk d v b hs e1 hb).2 j k2 d2 w (fun z => hj z.symm) h1 h2 l
  · rcases get_set h1 with ⟨rfl, rfl⟩ | ⟨_, h1⟩
    · cases h3
    · rcases get_set h2 with ⟨rfl, rfl⟩ | ⟨_, h2⟩
      · cases h4
      · exact f.apart j l t u b hjl h1 h2 h3 h4 h5 h6
  · rcases hb with hb | hb
    · exact f.trk b hb
    · obtain ⟨_, vs, z⟩ := f.lr hs e1 hb
      exact ⟨_, z⟩
  · rcases get_set h1 with ⟨_, rfl⟩ | ⟨_, h1⟩
    · cases h2
    · exact .inl ⟨j, t, h1, h2, h3⟩

theorem snd_var (C : CtxOk X N q F) {i x pos} (h : nameB N q i x = true) : SndE X (.Name x pos) (ev F (.var i)) := by
  refine ⟨tVar i, pe_name C h, fun A H σ ρ r ρ' f e Q k => ?_⟩
  simp only [ev, freeze] at e
  split at e
  · rename_i d hs
    cases e
    obtain ⟨ov, e1, w, rfl, q⟩ := f.at hs
    exact ⟨w, e1, k A H w (Stp.refl f) q⟩
  · rename_i ds hs
    cases e
    obtain ⟨a, e1, s, r⟩ := stp_freeze f hs (.inl rfl)
    exact ⟨_, e1, k _ H _ s r⟩
  · rename_i ds hs
    cases e
    obtain ⟨a, e1, s, r⟩ := stp_freeze f hs (.inr rfl)
    exact ⟨_, e1, k _ H _ s r⟩
  · rename_i d hs
    cases e
    obtain ⟨v, e1, s, r⟩ := stp_freezeD f hs (by simp)
    exact ⟨_, e1, k _ H _ s r⟩
  · rename_i d hs
    cases e
    obtain ⟨v, e1, s, r⟩ := stp_freezeD f hs (by simp)
    exact ⟨_, e1, k _ H _ s r⟩
  · cases e
theorem sndO_var (C : CtxOk X N q F) {i x pos g} (h : nameB N q i x = true) : SndO X (.Name x pos) (opd (.var i) g) := by
  refine ⟨tVar i, pe_name C h, fun A H σ ρ o ρ' f e Q k => ?_⟩
  simp only [opd] at e
  split at e
  · rename_i d hs
    cases e
    obtain ⟨ov, e1, w, rfl, q⟩ := f.at hs
    exact ⟨w, e1, k A H w (Stp.refl f) q⟩
  · cases e
  · rename_i d hs
    cases e
    obtain ⟨v, e1, s, r⟩ := stp_freezeD f hs (by simp)
    exact ⟨_, e1, k _ H _ s r⟩
  · rename_i d hs
    cases e
    obtain ⟨v, e1, s, r⟩ := stp_freezeD f hs (by simp)
    exact ⟨_, e1, k _ H _ s r⟩
  · rename_i s n1 n2 n3 n4 hs
    cases e
    obtain ⟨ov, e1, q⟩ := f.at hs
    have : ∃ w, ov = some w := by
      cases s with
      | un => exact absurd rfl n2
      | fz d => exact absurd rfl (n1 d)
      | own _ => obtain ⟨_, _, q, _⟩ := q; exact ⟨_, q⟩
      | lent _ => obtain ⟨_, _, q, _⟩ := q; exact ⟨_, q⟩
      | bor _ => obtain ⟨_, _, q, _⟩ := q; exact ⟨_, q⟩
      | mu _ => obtain ⟨_, _, q, _⟩ := q; exact ⟨_, q⟩
      | dct _ => obtain ⟨_, _, q, _⟩ := q; exact ⟨_, q⟩
      | ro _ => obtain ⟨_, _, q, _⟩ := q; exact ⟨_, q⟩
      | dp _ _ => obtain ⟨_, _, q, _⟩ := q; exact ⟨_, q⟩
    obtain ⟨w, rfl⟩ := this
    exact ⟨w, e1, k A H w (Stp.refl f) e1⟩
  · cases e
theorem SndE.o {e f a} (h : SndE X e f) (n : ∀ i, a ≠ .var i) : SndO X e (opd a f) := by
  obtain ⟨t, p, hq⟩ := h.d
  refine ⟨t, p, fun A H σ ρ o ρ' ft e Q k => ?_⟩
  have e' : (match f ρ with | some (r, ρ') => some (Opd.v r.d, ρ') | none => none) = some (o, ρ') := by
    cases a <;> first | exact e | exact absurd rfl (n _)
  cases hr : f ρ with
  | none => rw [hr] at e'; cases e'
  | some p =>
    rw [hr] at e'
    cases e'
    exact hq A H σ ρ p.1 p.2 ft hr Q fun A' H' v s ok => k A' H' v s ok
theorem snd_flat {e v d f} (p : PE X e (tC v)) (r : ∀ A H, Rep A H v d) (hf : ∀ ρ, f ρ = some (Res.fr d, ρ)) : SndE X e f := by
  refine ⟨tC v, p, fun A H σ ρ r' ρ' ft e Q k => ?_⟩
  rw [hf] at e
  cases e
  exact k A H v (Stp.refl ft) (r A H)

def fBin (o : Bop) (fa fb : Env → Option (Opd × Env)) (ρ : Env) : Option (Res × Env) := match fa ρ with
    | none => none
    | some (oa, ρ1) => match fb ρ1 with
      | none => none
      | some (ob, ρ2) => match oa.get ρ2, ob.get ρ2 with
        | some da, some db => (dBin o da db).map fun r => (r, ρ2)
        | _, _ => none
def fNeg (fa : Env → Option (Res × Env)) (ρ : Env) : Option (Res × Env) := match fa ρ with
    | some (.fr (.int i), ρ1) => some (.fr (.int (-i)), ρ1)
    | _ => none
def fNo (fa : Env → Option (Res × Env)) (ρ : Env) : Option (Res × Env) := match fa ρ with
    | some (.fr (.bool i), ρ1) => some (.fr (.bool (!i)), ρ1)
    | _ => none
theorem snd_bin {a b pos fa fb} (o : Bop) (ha : SndO X a fa) (hb : SndO X b fb) : SndE X (.BinOp a (bop o) b pos) (fBin o fa fb) := by
  obtain ⟨ta, pa, qa⟩ := ha
  obtain ⟨tb, pb, qb⟩ := hb
  obtain ⟨r, po, qo⟩ := snd_bop (X := X) o
  refine ⟨_, pe_op po pa pb, fun A H σ ρ r ρ' ft e Q k => ?_⟩
  unfold fBin at e
  split at e
  · cases e
  · rename_i oa ρ1 e1
    split at e
    · cases e
    · rename_i ob ρ2 e2
      split at e
      · rename_i da db e3 e4
        cases e5 : dBin o da db with
        | none => rw [e5] at e; cases e
        | some r' =>
          rw [e5] at e
          cases e
          refine qa A H σ ρ oa ρ1 ft e1 _ fun A1 H1 v1 s1 k1 => ?_
          refine qb A1 H1 σ ρ1 ob ρ' s1.fit e2 _ fun A2 H2 v2 s2 k2 => ?_
          have k1' := k1.mono s2.ext (s2.keep s1.fit)
          refine qo A2 H2 σ ρ' v1 v2 da db r s2.fit (Opd.ok s2.fit k1' e3) (Opd.ok s2.fit k2 e4) e5 Q fun A3 H3 v3 s3 k3 => ?_
          exact k A3 H3 v3 ((s1.trans s2).trans s3) (k3.start fun a z => (s1.trans s2).dom a z)
      · cases e
theorem snd_neg {a pos fa} (ha : SndE X a fa) : SndE X (.UnaryOp .USub a pos) (fNeg fa) := by
  obtain ⟨ta, pa, qa⟩ := ha
  refine ⟨_, pe_un un_neg pa, fun A H σ ρ r ρ' ft e Q k => ?_⟩
  unfold fNeg at e
  split at e
  · rename_i i ρ1 e1
    cases e
    refine qa A H σ ρ _ ρ' ft e1 _ fun A1 H1 v1 s1 k1 => ?_
    cases k1
    exact ⟨i, rfl, k A1 H1 _ s1 .int⟩
  · cases e
/-- a value that is a bool, as a test -/
theorem SndE.t {e f} (h : SndE X e f) (he : ∀ whole, isTrue e X.env whole = (do let v ← whole; standAt e.pos; holding [v] (truthy v))) : SndT X e f := by
  obtain ⟨t, p, hq⟩ := h
  refine ⟨_, pt_val p he, fun A H σ ρ b ρ' ft e Q k => ?_⟩
  refine hq A H σ ρ _ ρ' ft e _ fun A' H' v s ok => ?_
  cases ok
  exact ⟨b, rfl, k A' H' s⟩
theorem snd_no {a pos fa} (ha : SndE X a fa) : SndE X (.UnaryOp .Not a pos) (fNo fa) := by
  obtain ⟨ta, pa, qa⟩ := ha
  refine ⟨_, pe_not pa, fun A H σ ρ r ρ' ft e Q k => ?_⟩
  unfold fNo at e
  split at e
  · rename_i i ρ1 e1
    cases e
    refine qa A H σ ρ _ ρ' ft e1 _ fun A1 H1 v1 s1 k1 => ?_
    cases k1
    exact ⟨i, rfl, k A1 H1 _ s1 .bool⟩
  · cases e
theorem sndT_no {a pos fa} (ha : SndT X a fa) : SndT X (.UnaryOp .Not a pos) (fNo fa) := by
  obtain ⟨ta, pa, qa⟩ := ha
  refine ⟨_, pt_not pa, fun A H σ ρ r ρ' ft e Q k => ?_⟩
  unfold fNo at e
  split at e
  · rename_i i ρ1 e1
    cases e
    exact qa A H σ ρ _ ρ' ft e1 _ fun A1 H1 s1 => k A1 H1 s1
  · cases e
def fCmp (o : Cop) (fa fb : Env → Option (Opd × Env)) (ρ : Env) : Option (Res × Env) := match fa ρ with
    | none => none
    | some (oa, ρ1) => match fb ρ1 with
      | none => none
      | some (ob, ρ2) => match oa.get ρ2, ob.get ρ2 with
        | some da, some db => (dCmp o da db).map fun r => (.fr (.bool r), ρ2)
        | _, _ => none
theorem cmp_core {ta tb fa fb A H σ ρ b ρ'} {r : R2} {o : Cop} (qa : ∀ A H σ ρ o ρ', Fit A H σ ρ → fa ρ = some (o, ρ') → ∀ Q : VK, (∀ A' H' v, Stp A H σ ρ A' H' σ ρ' → OpdOk A' H' σ v o → Q v H') → ta σ H Q)
    (qb : ∀ A H σ ρ o ρ', Fit A H σ ρ → fb ρ = some (o, ρ') → ∀ Q : VK, (∀ A' H' v, Stp A H σ ρ A' H' σ ρ' → OpdOk A' H' σ v o → Q v H') → tb σ H Q)
    (qo : ∀ A H x y d e b, RepW A H x d → RepW A H y e → dCmp o d e = some b → ∀ Q : VK, Q (.bl b) H → r x y H Q)
    (ft : Fit A H σ ρ) (e : fCmp o fa fb ρ = some (b, ρ')) (Q : VK) (k : ∀ A' H' c, Stp A H σ ρ A' H' σ ρ' → b = .fr (.bool c) → Q (.bl c) H') : tOp r ta tb σ H Q := by
  unfold fCmp at e
  split at e
  · cases e
  · rename_i oa ρ1 e1
    split at e
    · cases e
    · rename_i ob ρ2 e2
      split at e
      · rename_i da db e3 e4
        cases e5 : dCmp o da db with
        | none => rw [e5] at e; cases e
        | some c =>
          rw [e5] at e
          cases e
          refine qa A H σ ρ oa ρ1 ft e1 _ fun A1 H1 v1 s1 k1 => ?_
          refine qb A1 H1 σ ρ1 ob ρ' s1.fit e2 _ fun A2 H2 v2 s2 k2 => ?_
          have k1' := k1.mono s2.ext (s2.keep s1.fit)
          exact qo A2 H2 v1 v2 da db c (Opd.ok s2.fit k1' e3) (Opd.ok s2.fit k2 e4) e5 Q (k A2 H2 c (s1.trans s2) rfl)
      · cases e
theorem snd_cmp (C : CtxOk X N q F) {a b pos fa fb} (o : Cop) (hm : behindInMarks (cop o) b = false) (ha : SndO X a fa) (hb : SndO X b fb) : SndE X (.Compare a [cop o] [b] pos) (fCmp o fa fb) := by
  obtain ⟨ta, pa, qa⟩ := ha
  obtain ⟨tb, pb, qb⟩ := hb
  obtain ⟨r, po, qo⟩ := snd_cop C.un o
  exact ⟨_, pe_cmpR po pa pb hm, fun A H σ ρ r ρ' ft e Q k => cmp_core qa qb qo ft e Q fun A' H' c s e => k A' H' _ s (by subst e; exact .bool)⟩
theorem sndT_cmp (C : CtxOk X N q F) {a b pos fa fb} (o : Cop) (hm : behindInMarks (cop o) b = false) (ha : SndO X a fa) (hb : SndO X b fb) : SndT X (.Compare a [cop o] [b] pos) (fCmp o fa fb) := by
  obtain ⟨ta, pa, qa⟩ := ha
  obtain ⟨tb, pb, qb⟩ := hb
  obtain ⟨r, po, qo⟩ := snd_cop C.un o
  exact ⟨_, pt_cmpR po pa pb hm, fun A H σ ρ b ρ' ft e Q k => cmp_core qa qb qo ft e _ fun A' H' c s e => ⟨c, rfl, by cases e; exact k A' H' s⟩⟩
def fCmp2 (o p : Cop) (fa fb fc : Env → Option (Res × Env)) (ρ : Env) : Option (Res × Env) := match fa ρ with
    | none => none
    | some (ra, ρ1) => match fb ρ1 with
      | none => none
      | some (rb, ρ2) => match dCmp o ra.d rb.d with
        | none => none
        | some false => some (.fr (.bool false), ρ2)
        | some true => match fc ρ2 with
          | none => none
          | some (rc, ρ3) => (dCmp p rb.d rc.d).map fun r => (.fr (.bool r), ρ3)
theorem chain_core {ta tb tc fa fb fc A H σ ρ b ρ'} {r r' : R2} {o p : Cop} (qa : ∀ A H σ ρ r ρ', Fit A H σ ρ → fa ρ = some (r, ρ') → ∀ Q : VK, (∀ A' H' v, Stp A H σ ρ A' H' σ ρ' → Rep A' H' v r.d → Q v H') → ta σ H Q)
    (qb : ∀ A H σ ρ r ρ', Fit A H σ ρ → fb ρ = some (r, ρ') → ∀ Q : VK, (∀ A' H' v, Stp A H σ ρ A' H' σ ρ' → Rep A' H' v r.d → Q v H') → tb σ H Q)
    (qc : ∀ A H σ ρ r ρ', Fit A H σ ρ → fc ρ = some (r, ρ') → ∀ Q : VK, (∀ A' H' v, Stp A H σ ρ A' H' σ ρ' → Rep A' H' v r.d → Q v H') → tc σ H Q)
    (qo : ∀ A H x y d e b, RepW A H x d → RepW A H y e → dCmp o d e = some b → ∀ Q : VK, Q (.bl b) H → r x y H Q)
    (qp : ∀ A H x y d e b, RepW A H x d → RepW A H y e → dCmp p d e = some b → ∀ Q : VK, Q (.bl b) H → r' x y H Q)
    (ft : Fit A H σ ρ) (e : fCmp2 o p fa fb fc ρ = some (b, ρ')) (Q : VK) (k : ∀ A' H' c, Stp A H σ ρ A' H' σ ρ' → b = .fr (.bool c) → Q (.bl c) H') : tChain r r' ta tb tc σ H Q := by
  unfold fCmp2 at e
  split at e
  · cases e
  · rename_i ra ρ1 e1
    split at e
    · cases e
    · rename_i rb ρ2 e2
      refine qa A H σ ρ ra ρ1 ft e1 _ fun A1 H1 v1 s1 k1 => ?_
      refine qb A1 H1 σ ρ1 rb ρ2 s1.fit e2 _ fun A2 H2 v2 s2 k2 => ?_
      have k1' := k1.mono s2.ext (s2.keep s1.fit)
      split at e
      · cases e
      · rename_i e3
        cases e
        exact qo A2 H2 v1 v2 _ _ false (.inl k1') (.inl k2) e3 _ ⟨false, rfl, by rw [if_neg Bool.false_ne_true]; exact k A2 H2 false (s1.trans s2) rfl⟩
      · rename_i e3
        split at e
        · cases e
        · rename_i rc ρ3 e4
          cases e5 : dCmp p rb.d rc.d with
          | none => rw [e5] at e; cases e
          | some c =>
            rw [e5] at e
            cases e
            refine qo A2 H2 v1 v2 _ _ true (.inl k1') (.inl k2) e3 _ ⟨true, rfl, ?_⟩
            rw [if_pos rfl]
            refine qc A2 H2 σ ρ2 rc ρ' s2.fit e4 _ fun A3 H3 v3 s3 k3 => ?_
            exact qp A3 H3 v2 v3 _ _ c (.inl (k2.mono s3.ext (s3.keep s2.fit))) (.inl k3) e5 Q (k A3 H3 c ((s1.trans s2).trans s3) rfl)
theorem snd_cmp2 (C : CtxOk X N q F) {a b c pos fa fb fc} (o p : Cop) (hm : lastMarks [cop o, cop p] [b, c] = false) (ha : SndE X a fa) (hb : SndE X b fb) (hc : SndE X c fc) : SndE X (.Compare a [cop o, cop p] [b, c] pos) (fCmp2 o p fa fb fc) := by
  obtain ⟨ta, pa, qa⟩ := ha.d
  obtain ⟨tb, pb, qb⟩ := hb.d
  obtain ⟨tc, pc, qc⟩ := hc.d
  obtain ⟨r, po, qo⟩ := snd_cop C.un o
  obtain ⟨r', po', qo'⟩ := snd_cop C.un p
  exact ⟨_, pe_chain po po' pa pb pc hm, fun A H σ ρ r ρ' ft e Q k => chain_core qa qb qc qo qo' ft e Q fun A' H' c s e => k A' H' _ s (by subst e; exact .bool)⟩
theorem sndT_cmp2 (C : CtxOk X N q F) {a b c pos fa fb fc} (o p : Cop) (hm : lastMarks [cop o, cop p] [b, c] = false) (ha : SndE X a fa) (hb : SndE X b fb) (hc : SndE X c fc) : SndT X (.Compare a [cop o, cop p] [b, c] pos) (fCmp2 o p fa fb fc) := by
  obtain ⟨ta, pa, qa⟩ := ha.d
  obtain ⟨tb, pb, qb⟩ := hb.d
  obtain ⟨tc, pc, qc⟩ := hc.d
  obtain ⟨r, po, qo⟩ := snd_cop C.un o
  obtain ⟨r', po', qo'⟩ := snd_cop C.un p
  exact ⟨_, pt_chain po po' pa pb pc hm, fun A H σ ρ b ρ' ft e Q k => chain_core qa qb qc qo qo' ft e _ fun A' H' c s e => ⟨c, rfl, by cases e; exact k A' H' s⟩⟩

/-! ### and, or, if -/
def fAnd (fa fb : Env → Option (Res × Env)) (ρ : Env) : Option (Res × Env) := match fa ρ with
    | some (.fr (.bool false), ρ1) => some (.fr (.bool false), ρ1)
    | some (.fr (.bool true), ρ1) => fb ρ1
    | _ => none
def fOr (fa fb : Env → Option (Res × Env)) (ρ : Env) : Option (Res × Env) := match fa ρ with
    | some (.fr (.bool true), ρ1) => some (.fr (.bool true), ρ1)
    | some (.fr (.bool false), ρ1) => fb ρ1
    | _ => none
def fIf (fc fa fb : Env → Option (Res × Env)) (ρ : Env) : Option (Res × Env) := match fc ρ with
    | some (.fr (.bool true), ρ1) => fa ρ1
    | some (.fr (.bool false), ρ1) => fb ρ1
    | _ => none
theorem snd_and {a b rest pos fa fb} (ha : SndE X a fa) (hb : SndE X (.BoolOp .And (b :: rest) pos) fb) : SndE X (.BoolOp .And (a :: b :: rest) pos) (fAnd fa fb) := by
  obtain ⟨ta, pa, qa⟩ := ha
  obtain ⟨tb, pb, qb⟩ := hb
  refine ⟨_, pe_and pa pb, fun A H σ ρ r ρ' ft e Q k => ?_⟩
  unfold fAnd at e
  split at e
  · rename_i ρ1 e1
    cases e
    refine qa A H σ ρ _ ρ' ft e1 _ fun A1 H1 v1 s1 k1 => ?_
    cases k1
    exact ⟨false, rfl, by rw [if_neg Bool.false_ne_true]; exact k A1 H1 _ s1 .bool⟩
  · rename_i ρ1 e1
    refine qa A H σ ρ _ ρ1 ft e1 _ fun A1 H1 v1 s1 k1 => ?_
    cases k1
    refine ⟨true, rfl, ?_⟩
    rw [if_pos rfl]
    exact qb A1 H1 σ ρ1 r ρ' s1.fit e Q fun A2 H2 v2 s2 k2 => k A2 H2 v2 (s1.trans s2) (k2.start s1.dom)
  · cases e
theorem snd_or {a b rest pos fa fb} (ha : SndE X a fa) (hb : SndE X (.BoolOp .Or (b :: rest) pos) fb) : SndE X (.BoolOp .Or (a :: b :: rest) pos) (fOr fa fb) := by
  obtain ⟨ta, pa, qa⟩ := ha
  obtain ⟨tb, pb, qb⟩ := hb
  refine ⟨_, pe_or pa pb, fun A H σ ρ r ρ' ft e Q k => ?_⟩
  unfold fOr at e
  split at e
  · rename_i ρ1 e1
    cases e
    refine qa A H σ ρ _ ρ' ft e1 _ fun A1 H1 v1 s1 k1 => ?_
    cases k1
    exact ⟨true, rfl, by rw [if_pos rfl]; exact k A1 H1 _ s1 .bool⟩
  · rename_i ρ1 e1
    refine qa A H σ ρ _ ρ1 ft e1 _ fun A1 H1 v1 s1 k1 => ?_
    cases k1
    refine ⟨false, rfl, ?_⟩
    rw [if_neg Bool.false_ne_true]
    exact qb A1 H1 σ ρ1 r ρ' s1.fit e Q fun A2 H2 v2 s2 k2 => k A2 H2 v2 (s1.trans s2) (k2.start s1.dom)
  · cases e
theorem snd_one {op a pos f} (h : SndE X a f) : SndE X (.BoolOp op [a] pos) f := by
  obtain ⟨t, p, hq⟩ := h
  exact ⟨t, pe_one p, hq⟩
/-- a chain of and, or as a test, whatever its whole is -/
def SndW (X : Cx) (e : Expr) (f : Env → Option (Res × Env)) : Prop := ∃ t : TT, PW X e t ∧
  ∀ A H σ ρ b ρ', Fit A H σ ρ → f ρ = some (.fr (.bool b), ρ') → ∀ Q : Bool → Hp → Prop, (∀ A' H', Stp A H σ ρ A' H' σ ρ' → Q b H') → t σ H Q
theorem SndW.t {e f} (h : SndW X e f) : SndT X e f := let ⟨t, p, hq⟩ := h; ⟨t, p.pt, hq⟩
theorem sndW_and1 {a pos f} (h : SndT X a f) : SndW X (.BoolOp .And [a] pos) f := let ⟨t, p, hq⟩ := h; ⟨t, pw_and1 p, hq⟩
theorem sndW_or1 {a pos f} (h : SndT X a f) : SndW X (.BoolOp .Or [a] pos) f := let ⟨t, p, hq⟩ := h; ⟨t, pw_or1 p, hq⟩
theorem sndW_and {a b rest pos fa fb} (ha : SndT X a fa) (hb : SndW X (.BoolOp .And (b :: rest) pos) fb) : SndW X (.BoolOp .And (a :: b :: rest) pos) (fAnd fa fb) := by
  obtain ⟨ta, pa, qa⟩ := ha
  obtain ⟨tb, pb, qb⟩ := hb
  refine ⟨_, pw_and pa pb, fun A H σ ρ b ρ' ft e Q k => ?_⟩
  unfold fAnd at e
  split at e
  · rename_i ρ1 e1
    cases e
    refine qa A H σ ρ _ ρ' ft e1 _ fun A1 H1 s1 => ?_
    show if false = true then _ else _
    rw [if_neg Bool.false_ne_true]
    exact k A1 H1 s1
  · rename_i ρ1 e1
    refine qa A H σ ρ _ ρ1 ft e1 _ fun A1 H1 s1 => ?_
    show if true = true then _ else _
    rw [if_pos rfl]
    exact qb A1 H1 σ ρ1 b ρ' s1.fit e Q fun A2 H2 s2 => k A2 H2 (s1.trans s2)
  · cases e
theorem sndW_or {a b rest pos fa fb} (ha : SndT X a fa) (hb : SndW X (.BoolOp .Or (b :: rest) pos) fb) : SndW X (.BoolOp .Or (a :: b :: rest) pos) (fOr fa fb) := by
  obtain ⟨ta, pa, qa⟩ := ha
  obtain ⟨tb, pb, qb⟩ := hb
  refine ⟨_, pw_or pa pb, fun A H σ ρ b ρ' ft e Q k => ?_⟩
  unfold fOr at e
  split at e
  · rename_i ρ1 e1
    cases e
    refine qa A H σ ρ _ ρ' ft e1 _ fun A1 H1 s1 => ?_
    show if true = true then _ else _
    rw [if_pos rfl]
    exact k A1 H1 s1
  · rename_i ρ1 e1
    refine qa A H σ ρ _ ρ1 ft e1 _ fun A1 H1 s1 => ?_
    show if false = true then _ else _
    rw [if_neg Bool.false_ne_true]
    exact qb A1 H1 σ ρ1 b ρ' s1.fit e Q fun A2 H2 s2 => k A2 H2 (s1.trans s2)
  · cases e
theorem snd_if {c a b pos fc fa fb} (hc : SndT X c fc) (ha : SndE X a fa) (hb : SndE X b fb) : SndE X (.IfExp c a b pos) (fIf fc fa fb) := by
  obtain ⟨tc, pc, qc⟩ := hc
  obtain ⟨ta, pa, qa⟩ := ha
  obtain ⟨tb, pb, qb⟩ := hb
  refine ⟨_, pe_ifExp pc pa pb, fun A H σ ρ r ρ' ft e Q k => ?_⟩
  unfold fIf at e
  split at e
  · rename_i ρ1 e1
    refine qc A H σ ρ _ ρ1 ft e1 _ fun A1 H1 s1 => ?_
    show if true = true then _ else _
    rw [if_pos rfl]
    exact qa A1 H1 σ ρ1 r ρ' s1.fit e Q fun A2 H2 v2 s2 k2 => k A2 H2 v2 (s1.trans s2) (k2.start s1.dom)
  · rename_i ρ1 e1
    refine qc A H σ ρ _ ρ1 ft e1 _ fun A1 H1 s1 => ?_
    show if false = true then _ else _
    rw [if_neg Bool.false_ne_true]
    exact qb A1 H1 σ ρ1 r ρ' s1.fit e Q fun A2 H2 v2 s2 k2 => k A2 H2 v2 (s1.trans s2) (k2.start s1.dom)
  · cases e
theorem pt_ifExp {c a b pos} {tc ta tb : TT} (hc : PT X c tc) (ha : PT X a ta) (hb : PT X b tb) : PT X (.IfExp c a b pos) (fun σ H Q => tc σ H fun d H1 => if d = true then ta σ H1 Q else tb σ H1 Q) := by
  refine ⟨fun pins s σ H Q I h => ?_⟩
  show wpAny _ _ (isTrue c X.env (eval c X.env) >>= fun d => if d = true then isTrue a X.env (eval a X.env) else isTrue b X.env (eval b X.env)) _ _ s
  refine wpAny_bind (thn (hc.run pins s σ H _ I h) fun d s1 ⟨H1, I1, q1⟩ => ?_)
  cases d with
  | true => exact ha.run pins s1 σ H1 Q I1 q1
  | false => exact hb.run pins s1 σ H1 Q I1 q1
theorem sndT_if {c a b pos fc fa fb} (hc : SndT X c fc) (ha : SndT X a fa) (hb : SndT X b fb) : SndT X (.IfExp c a b pos) (fIf fc fa fb) := by
  obtain ⟨tc, pc, qc⟩ := hc
  obtain ⟨ta, pa, qa⟩ := ha
  obtain ⟨tb, pb, qb⟩ := hb
  refine ⟨_, pt_ifExp pc pa pb, fun A H σ ρ r ρ' ft e Q k => ?_⟩
  unfold fIf at e
  split at e
  · rename_i ρ1 e1
    refine qc A H σ ρ _ ρ1 ft e1 _ fun A1 H1 s1 => ?_
    show if true = true then _ else _
    rw [if_pos rfl]
    exact qa A1 H1 σ ρ1 r ρ' s1.fit e Q fun A2 H2 s2 => k A2 H2 (s1.trans s2)
  · rename_i ρ1 e1
    refine qc A H σ ρ _ ρ1 ft e1 _ fun A1 H1 s1 => ?_
    show if false = true then _ else _
    rw [if_neg Bool.false_ne_true]
    exact qb A1 H1 σ ρ1 r ρ' s1.fit e Q fun A2 H2 s2 => k A2 H2 (s1.trans s2)
  · cases e
end
end Ev

set_option maxRecDepth 100000
/-! Ev5: subscripts, displays, arguments, builtins. -/
namespace Ev
open PySem L2
variable [TheK]
section
variable {X : Cx} {N : List Str} {q : Sc} {F : FT}

theorem RepR.list {A H v ds} (h : RepR A H v (.list ds)) : ∃ a vs, v = .ref a ∧ SqL TheK.K H a vs ∧ vs.length ≤ sizeLine ∧ RepAll A H vs ds := by
  rcases h with h | ⟨a, vs, es, h1, h2, h3, h4, h5⟩
  · cases h with | lst h1 h2 h3 h4 => exact ⟨_, _, rfl, SqL.of h2, h3, h4⟩
  · cases h2; exact ⟨a, vs, h1, h3, h4, h5⟩
theorem RepR.w {A H v d} (h : RepR A H v d) (n : ∀ ds, d ≠ .list ds) : RepW A H v d := by
  rcases h with h | ⟨a, vs, es, h1, h2, h3, h4, h5⟩
  · exact .inl h
  · exact absurd h2 (n _)
theorem at_rep {A H vs ds i d} (r : RepAll A H vs ds) (h : atI ds i = some d) : ∃ v, atI vs i = some v ∧ Rep A H v d := by
  unfold atI at *
  rw [r.length]
  cases e : ixN ds.length i with
  | none => rw [e] at h; cases h
  | some j =>
    rw [e] at h
    exact r.get j h
def fIdx (fa : Env → Option (Opd × Env)) (fi : Env → Option (Res × Env)) (ρ : Env) : Option (Res × Env) := match fa ρ with
    | none => none
    | some (oa, ρ1) => match fi ρ1 with
      | none => none
      | some (ri, ρ2) => match oa.getR ρ2 with
        | some da => (dIdx da ri.d).map fun d => (.fr d, ρ2)
        | none => none
theorem snd_idx (C : CtxOk X N q F) {a b pos fa fb} (hs : PlainIx b) (ha : SndO X a fa) (hb : SndE X b fb) : SndE X (.Subscript a b pos) (fIdx fa fb) := by
  obtain ⟨ta, pa, qa⟩ := ha
  obtain ⟨tb, pb, qb⟩ := hb.d
  refine ⟨_, pe_ix ix_seq pa pb hs, fun A H σ ρ r ρ' ft e Q k => ?_⟩
  unfold fIdx at e
  split at e
  · cases e
  · rename_i oa ρ1 e1
    split at e
    · cases e
    · rename_i ri ρ2 e2
      split at e
      · rename_i da e3
        cases e4 : dIdx da ri.d with
        | none => rw [e4] at e; cases e
        | some d =>
          rw [e4] at e
          cases e
          refine qa A H σ ρ oa ρ1 ft e1 _ fun A1 H1 v1 s1 k1 => ?_
          refine qb A1 H1 σ ρ1 ri ρ' s1.fit e2 _ fun A2 H2 v2 s2 k2 => ?_
          have k1' := Opd.okR s2.fit (k1.mono s2.ext (s2.keep s1.fit)) e3
          have fin : ∀ w, Rep A2 H2 w d → Q w H2 := fun w hw => k A2 H2 w (s1.trans s2) hw
          generalize ri.d = di at e4 k2
          cases da <;> try (simp only [dIdx, reduceCtorEq] at e4; done)
          · rename_i z
            cases k2 <;> simp only [dIdx, reduceCtorEq] at e4
            rename_i i
            split at e4
            · rename_i hz
              cases e5 : atI z.cps.toList i with
              | none => rw [e5] at e4; cases e4
              | some c =>
                rw [e5] at e4
                cases e4
                cases (k1'.w (fun _ z => by cases z)).str
                exact .inr (.inr ⟨z, i, c, rfl, rfl, hz, e5, fin _ .str⟩)
            · cases e4
          · rename_i ds
            cases k2 <;> simp only [dIdx, reduceCtorEq] at e4
            obtain ⟨p, vs, rfl, h1, h2, h3⟩ := k1'.list
            obtain ⟨w, h4, h5⟩ := at_rep h3 e4
            exact .inl ⟨p, vs, _, w, rfl, rfl, by rw [← C.kk]; exact h1, h4, fin w h5⟩
          · rename_i ds
            cases k2 <;> simp only [dIdx, reduceCtorEq] at e4
            obtain ⟨p, vs, rfl, h0, h1, h2, h3⟩ := (k1'.w (fun _ z => by cases z)).tup
            obtain ⟨w, h4, h5⟩ := at_rep h3 e4
            exact .inr (.inl ⟨p, vs, _, w, rfl, rfl, SqT.of h1, h4, fin w h5⟩)
      · cases e
/-- a part of a slice -/
def SndPart (X : Cx) (e : Option Expr) (f : Env → Option (Option Int × Env)) : Prop := ∃ t : TO, PO X e t ∧
  ∀ A H σ ρ r ρ', Fit A H σ ρ → f ρ = some (r, ρ') → ∀ Q : Option Int → Hp → Prop, (∀ A' H', Stp A H σ ρ A' H' σ ρ' → Q r H') → t σ H Q
theorem sndPart_none : SndPart X none (fun ρ => some (none, ρ)) := ⟨_, po_none, fun A H σ ρ r ρ' ft e Q k => by cases e; exact k A H (Stp.refl ft)⟩
def fPart (fa : Env → Option (Res × Env)) (ρ : Env) : Option (Option Int × Env) := match fa ρ with
    | some (.fr (.int i), ρ1) => some (some i, ρ1)
    | _ => none
theorem sndPart_some {e f} (h : SndE X e f) : SndPart X (some e) (fPart f) := by
  obtain ⟨t, p, hq⟩ := h
  refine ⟨_, po_some p, fun A H σ ρ r ρ' ft e Q k => ?_⟩
  unfold fPart at e
  split at e
  · rename_i i ρ1 e1
    cases e
    refine hq A H σ ρ _ ρ' ft e1 _ fun A1 H1 v s1 k1 => ?_
    cases k1
    exact ⟨i, rfl, k A1 H1 s1⟩
  · cases e
theorem cut_rep {A H vs ds lo hi} (r : RepAll A H vs ds) : RepAll A H (cutV vs lo hi) (cutD ds lo hi) := by
  unfold cutV cutD
  rw [r.length]
  exact (r.drop _).take _
theorem cut_len {vs : List V} {lo hi} : (cutV vs lo hi).length ≤ vs.length := by
  unfold cutV
  rw [List.length_take, List.length_drop]
  omega
def fSlc (fa : Env → Option (Opd × Env)) (fl fh : Env → Option (Option Int × Env)) (ρ : Env) : Option (Res × Env) := match fa ρ with
    | none => none
    | some (oa, ρ1) => match fl ρ1 with
      | none => none
      | some (l, ρ2) => match fh ρ2 with
        | none => none
        | some (h, ρ3) => match oa.get ρ3 with
          | some da => (dSlc da l h).map fun r => (r, ρ3)
          | none => none
def fRvs (fa : Env → Option (Opd × Env)) (ρ : Env) : Option (Res × Env) := match fa ρ with
    | none => none
    | some (oa, ρ1) => match oa.get ρ1 with
      | some d => (dRev d).map fun r => (r, ρ1)
      | none => none
theorem RepAll.rev {A H} : ∀ {vs ds}, RepAll A H vs ds → RepAll A H vs.reverse ds.reverse
  | _, _, .nil => .nil
  | _, _, .cons h t => by
    rw [List.reverse_cons, List.reverse_cons]
    exact (RepAll.rev t).append (.cons h .nil)
theorem snd_rvs {a pos fa} {kk : Nat} {p1 p2 p3 : Pos} (ha : SndO X a fa) : SndE X (.Subscript a (.Slice none none (some (.UnaryOp .USub (.Constant (.int 1) kk p1) p2)) p3) pos) (fRvs fa) := by
  obtain ⟨ta, pa, qa⟩ := ha
  refine ⟨_, pe_revA pa, fun A H σ ρ r ρ' ft e Q k => ?_⟩
  unfold fRvs at e
  split at e
  · cases e
  · rename_i oa ρ1 e1
    split at e
    · rename_i d e2
      cases e3 : dRev d with
      | none => rw [e3] at e; cases e
      | some r' =>
        rw [e3] at e
        cases e
        refine qa A H σ ρ oa ρ' ft e1 _ fun A1 H1 v1 s1 k1 => ?_
        have k1' := Opd.ok s1.fit k1 e2
        cases d <;> simp only [dRev, reduceCtorEq, Option.some.injEq] at e3
        · subst e3
          obtain ⟨p, vs, rfl, h1, h2, h3⟩ := k1'.list
          exact ⟨p, vs, rfl, .inl ⟨SqL.of h1, fun b hb => k A1 _ _ (s1.trans (Stp.grow s1.fit (upd_grow hb))) ((res_new s1.fit hb (by rw [List.length_reverse]; exact h2) (RepAll.rev h3)).start s1.dom)⟩⟩
        · subst e3
          obtain ⟨p, vs, rfl, h0, h1, h2, h3⟩ := k1'.tup
          exact ⟨p, vs, rfl, .inr ⟨SqT.of h1, fun b hb => k _ _ _ (s1.trans (Stp.frz s1.fit hb)) (rep_newT hb (by rw [List.length_reverse]; exact h2) (RepAll.rev h3))⟩⟩
    · cases e
theorem snd_slc {a lo hi p2 pos fa fl fh} (ha : SndO X a fa) (hl : SndPart X lo fl) (hh : SndPart X hi fh) : SndE X (.Subscript a (.Slice lo hi none p2) pos) (fSlc fa fl fh) := by
  obtain ⟨ta, pa, qa⟩ := ha
  obtain ⟨tl, pl, ql⟩ := hl
  obtain ⟨th, ph, qh⟩ := hh
  refine ⟨_, pe_slice (sl_list.or (sl_tupA.or sl_str)) pa pl ph, fun A H σ ρ r ρ' ft e Q k => ?_⟩
  unfold fSlc at e
  split at e
  · cases e
  · rename_i oa ρ1 e1
    split at e
    · cases e
    · rename_i l ρ2 e2
      split at e
      · cases e
      · rename_i h ρ3 e3
        split at e
        · rename_i da e4
          cases e5 : dSlc da l h with
          | none => rw [e5] at e; cases e
          | some d =>
            rw [e5] at e
            cases e
            refine qa A H σ ρ oa ρ1 ft e1 _ fun A1 H1 v1 s1 k1 => ?_
            refine ql A1 H1 σ ρ1 l ρ2 s1.fit e2 _ fun A2 H2 s2 => ?_
            refine qh A2 H2 σ ρ2 h ρ' s2.fit e3 _ fun A3 H3 s3 => ?_
            have s23 := s2.trans s3
            have k1' := Opd.ok s3.fit (k1.mono s23.ext (s23.keep s1.fit)) e4
            have s := s1.trans s23
            cases da <;> simp only [dSlc, reduceCtorEq] at e5
            · split at e5
              · rename_i hz
                cases e5
                cases k1'.str
                exact .inr (.inr ⟨_, rfl, hz, k A3 H3 _ s .str⟩)
              · cases e5
            · cases e5
              obtain ⟨p, vs, rfl, h1, h2, h3⟩ := k1'.list
              exact .inl ⟨p, vs, rfl, SqL.of h1, fun b hb => k A3 _ _ (s.trans (Stp.grow s.fit (upd_grow hb))) ((res_new s.fit hb (Nat.le_trans cut_len h2) (cut_rep h3)).start s.dom)⟩
            · rename_i ds
              cases e5
              obtain ⟨p, vs, rfl, h0, h1, h2, h3⟩ := k1'.tup
              refine .inr (.inl ⟨p, vs, rfl, SqT.of h1, fun hw => ?_, fun hw b hb => ?_⟩)
              · have e6 : cutD ds l h = ds := by
                  unfold cutD
                  rw [← h3.length, hw.1, hw.2, List.drop_zero, Nat.sub_zero, h3.length, List.take_length]
                exact k A3 H3 _ s (by rw [e6]; exact .tup h0 h1 h2 h3)
              · exact k _ _ _ (s.trans (Stp.frz s.fit hb)) (rep_newT hb (Nat.le_trans cut_len h2) (cut_rep h3))
        · cases e

/-! ### arguments -/
def notStar : Expr → Bool
  | .Starred .. => false
  | _ => true
theorem star_cons {e : Expr} {es : List Expr} {env : PySem.Env} (h : notStar e = true) : starEach (e :: es) env = (false, eval e env) :: starEach es env := by
  cases e <;> first | rfl | cases h
theorem star_any {es : List Expr} {env : PySem.Env} {pos : Pos} (h : es.all notStar = true) : (backTo pos (starEach es env)).any (·.1) = false := by
  induction es with
  | nil => rfl
  | cons e r ih =>
    rw [List.all_cons, Bool.and_eq_true] at h
    rw [star_cons h.1]
    show (backTo pos (starEach r env)).any (·.1) = false
    exact ih h.2
theorem sndA_nil : SndA X [] (fun ρ => some ([], ρ)) := ⟨_, pa_nil, fun A H σ ρ r ρ' ft e Q k => by cases e; exact k A H [] (Stp.refl ft) .nil⟩
def fCons (fa : Env → Option (Res × Env)) (fs : Env → Option (List D × Env)) (ρ : Env) : Option (List D × Env) := match fa ρ with
    | none => none
    | some (r, ρ1) => match fs ρ1 with
      | none => none
      | some (ds, ρ2) => some (r.d :: ds, ρ2)
theorem sndA_cons {e es fa fs} (hn : notStar e = true) (ha : SndE X e fa) (hs : SndA X es fs) : SndA X (e :: es) (fCons fa fs) := by
  obtain ⟨ta, pa, qa⟩ := ha.d
  obtain ⟨ts, ps, qs⟩ := hs
  refine ⟨_, pa_cons pa ps (star_cons hn), fun A H σ ρ r ρ' ft e Q k => ?_⟩
  unfold fCons at e
  split at e
  · cases e
  · rename_i ra ρ1 e1
    split at e
    · cases e
    · rename_i ds ρ2 e2
      cases e
      refine qa A H σ ρ ra ρ1 ft e1 _ fun A1 H1 v1 s1 k1 => ?_
      refine qs A1 H1 σ ρ1 ds ρ' s1.fit e2 _ fun A2 H2 vs s2 k2 => ?_
      exact k A2 H2 _ (s1.trans s2) (.cons (k1.mono s2.ext (s2.keep s1.fit)) k2)
theorem sndP_nil : SndP X [] (fun ρ => some ([], ρ)) := ⟨_, pa_nil, fun A H σ ρ r ρ' ft e Q k => by cases e; exact k A H [] (Stp.refl ft) trivial⟩
def fConsP (fa : Env → Option (Opd × Env)) (fs : Env → Option (List Opd × Env)) (ρ : Env) : Option (List Opd × Env) := match fa ρ with
    | none => none
    | some (r, ρ1) => match fs ρ1 with
      | none => none
      | some (ds, ρ2) => some (r :: ds, ρ2)
theorem sndP_cons {e es fa fs} (hn : notStar e = true) (ha : SndO X e fa) (hs : SndP X es fs) : SndP X (e :: es) (fConsP fa fs) := by
  obtain ⟨ta, pa, qa⟩ := ha
  obtain ⟨ts, ps, qs⟩ := hs
  refine ⟨_, pa_cons pa ps (star_cons hn), fun A H σ ρ r ρ' ft e Q k => ?_⟩
  unfold fConsP at e
  split at e
  · cases e
  · rename_i ra ρ1 e1
    split at e
    · cases e
    · rename_i ds ρ2 e2
      cases e
      refine qa A H σ ρ ra ρ1 ft e1 _ fun A1 H1 v1 s1 k1 => ?_
      refine qs A1 H1 σ ρ1 ds ρ' s1.fit e2 _ fun A2 H2 vs s2 k2 => ?_
      exact k A2 H2 _ (s1.trans s2) ⟨k1.mono s2.ext (s2.keep s1.fit), k2⟩
/-- a frozen argument is an operand -/
theorem SndE.ov {e f} (h : SndE X e f) : SndO X e (fun ρ => match f ρ with | none => none | some (r, ρ1) => some (.v r.d, ρ1)) := by
  obtain ⟨t, p, hq⟩ := h.d
  refine ⟨t, p, fun A H σ ρ o ρ' ft e Q k => ?_⟩
  cases hr : f ρ with
  | none => simp only [hr, reduceCtorEq] at e
  | some r =>
    simp only [hr, Option.some.injEq, Prod.mk.injEq] at e
    obtain ⟨rfl, rfl⟩ := e
    exact hq A H σ ρ r.1 r.2 ft hr Q fun A' H' v s ok => k A' H' v s ok

/-! ### displays -/
def fTup (fs : Env → Option (List D × Env)) (ρ : Env) : Option (Res × Env) := match fs ρ with
    | none => none
    | some (ds, ρ1) => if ds.length ≤ sizeLine then some (.fr (.tuple ds), ρ1) else none
def fLst (fs : Env → Option (List D × Env)) (ρ : Env) : Option (Res × Env) := match fs ρ with
    | none => none
    | some (ds, ρ1) => if ds.length ≤ sizeLine then some (.nw ds, ρ1) else none
theorem snd_tup {es k2 pos fs} (hs : SndA X es fs) : SndE X (.Tuple es k2 pos) (fTup fs) := by
  obtain ⟨ts, ps, qs⟩ := hs
  refine ⟨_, pe_tup ps, fun A H σ ρ r ρ' ft e Q k => ?_⟩
  unfold fTup at e
  split at e
  · cases e
  · rename_i ds ρ1 e1
    split at e
    · rename_i hz
      cases e
      refine qs A H σ ρ ds ρ' ft e1 _ fun A1 H1 vs s1 k1 => ?_
      rw [← k1.length] at hz
      exact ⟨hz, fun p hp => k _ _ _ (s1.trans (Stp.frz s1.fit hp)) (rep_newT hp hz k1)⟩
    · cases e
theorem snd_lst {es pos fs} (hs : SndA X es fs) : SndE X (.List es pos) (fLst fs) := by
  obtain ⟨ts, ps, qs⟩ := hs
  refine ⟨_, pe_lst ps, fun A H σ ρ r ρ' ft e Q k => ?_⟩
  unfold fLst at e
  split at e
  · cases e
  · rename_i ds ρ1 e1
    split at e
    · rename_i hz
      cases e
      refine qs A H σ ρ ds ρ' ft e1 _ fun A1 H1 vs s1 k1 => ?_
      rw [← k1.length] at hz
      exact ⟨hz, fun p hp => k _ _ _ (s1.trans (Stp.grow s1.fit (upd_grow hp))) ((res_new s1.fit hp hz k1).start s1.dom)⟩
    · cases e

/-! ### builtins -/
def RepWs (A : Addr → Prop) (H : Hp) : List V → List D → Prop
  | [], [] => True
  | v :: vs, d :: ds => RepW A H v d ∧ RepWs A H vs ds
  | _, _ => False
theorem opds_ok {A H σ ρ} (f : Fit A H σ ρ) : ∀ {vs os ds}, OpdsOk A H σ vs os → os.mapM (Opd.get ρ) = some ds → RepWs A H vs ds
  | [], [], ds, _, e => by simp at e; subst e; trivial
  | v :: vs, o :: os, ds, ⟨h1, h2⟩, e => by
    rw [List.mapM_cons] at e
    cases e1 : o.get ρ with
    | none => rw [e1] at e; cases e
    | some d =>
      cases e2 : os.mapM (Opd.get ρ) with
      | none => rw [e1, e2] at e; cases e
      | some es =>
        rw [e1, e2] at e
        cases e
        exact ⟨Opd.ok f h1 e1, opds_ok f h2 e2⟩
def CallSnd (X : Cx) (f : Value) (g : List D → Option Res) : Prop := ∃ r : List V → Hp → VK → Prop, CallR X f r ∧
  ∀ A H σ ρ vs ds res, Fit A H σ ρ → RepWs A H vs ds → g ds = some res → ∀ Q : VK, (∀ A' H' v, Stp A H σ ρ A' H' σ ρ → ResOk A' H H' σ ρ v res → Q v H') → r vs H Q
def fBlt (g : List D → Option Res) (fs : Env → Option (List Opd × Env)) (ρ : Env) : Option (Res × Env) := match fs ρ with
    | none => none
    | some (os, ρ1) => match os.mapM (Opd.get ρ1) with
      | none => none
      | some ds => (g ds).map fun r => (r, ρ1)
theorem blt_core {t : TA} {fs g r A H σ ρ res ρ'} {Q : VK} (qs : ∀ A H σ ρ r ρ', Fit A H σ ρ → fs ρ = some (r, ρ') → ∀ Q : List V → Hp → Prop, (∀ A' H' vs, Stp A H σ ρ A' H' σ ρ' → OpdsOk A' H' σ vs r → Q vs H') → t σ H Q)
    (hc : ∀ A H σ ρ vs ds res, Fit A H σ ρ → RepWs A H vs ds → g ds = some res → ∀ Q : VK, (∀ A' H' v, Stp A H σ ρ A' H' σ ρ → ResOk A' H H' σ ρ v res → Q v H') → r vs H Q)
    (ft : Fit A H σ ρ) (e : fBlt g fs ρ = some (res, ρ')) (k : ∀ A' H' v, Stp A H σ ρ A' H' σ ρ' → ResOk A' H H' σ ρ' v res → Q v H') : tCB r t σ H Q := by
  unfold fBlt at e
  split at e
  · cases e
  · rename_i os ρ1 e1
    split at e
    · cases e
    · rename_i ds e2
      cases e3 : g ds with
      | none => rw [e3] at e; cases e
      | some r' =>
        rw [e3] at e
        cases e
        refine qs A H σ ρ os ρ' ft e1 _ fun A1 H1 vs s1 k1 => ?_
        exact hc A1 H1 σ ρ' vs ds res s1.fit (opds_ok s1.fit k1 e2) e3 Q fun A2 H2 v s2 k2 => k A2 H2 v (s1.trans s2) (k2.start s1.dom)
theorem snd_bltB (C : CtxOk X N q F) {name : String} {id e es p pos fs g} (hc : CallSnd X (.builtin id) g) (hx : name ∈ bltNames) (hg : glB q.sc (Str.ofString name) = true) (hv : bootBuiltins (Str.ofString name) = some (.builtin id))
    (hn : Str.ofString name ≠ "__name__") (hd : (Str.ofString name == ("__debug__" : Str)) = false) (st : (e :: es).all notStar = true) (hs : SndP X (e :: es) fs) : SndE X (.Call (.Name (Str.ofString name) p) (e :: es) [] pos) (fBlt g fs) := by
  obtain ⟨r, pr, qr⟩ := hc
  obtain ⟨ts, ps, qs⟩ := hs
  rw [List.all_cons, Bool.and_eq_true] at st
  exact ⟨_, pe_callB pr (gl_of C hg) (C.bl _ hx) hv ps hn hd (star_cons st.1) (star_any st.2), fun A H σ ρ r ρ' ft e Q k => blt_core qs qr ft e k⟩
theorem snd_bltT (C : CtxOk X N q F) {name : String} {id e es p pos fs g} (hc : CallSnd X (.type id) g) (hx : name ∈ bltNames) (hg : glB q.sc (Str.ofString name) = true) (hv : bootBuiltins (Str.ofString name) = some (.type id))
    (hn : Str.ofString name ≠ "__name__") (hd : (Str.ofString name == ("__debug__" : Str)) = false) (st : (e :: es).all notStar = true) (hs : SndP X (e :: es) fs) : SndE X (.Call (.Name (Str.ofString name) p) (e :: es) [] pos) (fBlt g fs) := by
  obtain ⟨r, pr, qr⟩ := hc
  obtain ⟨ts, ps, qs⟩ := hs
  rw [List.all_cons, Bool.and_eq_true] at st
  exact ⟨_, pe_callTy pr (gl_of C hg) (C.bl _ hx) hv ps hn hd (star_cons st.1) (star_any st.2), fun A H σ ρ r ρ' ft e Q k => blt_core qs qr ft e k⟩
end
end Ev

set_option maxRecDepth 100000
/-! Ev6: each builtin. -/
namespace Ev
open PySem L2
variable [TheK]
section
variable {X : Cx}
theorem RepW.seq {A H v ds} (h : RepW A H v (.list ds) ∨ RepW A H v (.tuple ds)) {K} : ∃ a vs, v = .ref a ∧ (SqL K H a vs ∨ SqT K H a vs) ∧ vs.length ≤ sizeLine ∧ RepAll A H vs ds := by
  rcases h with h | h
  · obtain ⟨a, vs, h1, h2, h3, h4⟩ := h.list
    exact ⟨a, vs, h1, .inl (SqL.of h2), h3, h4⟩
  · obtain ⟨a, vs, h1, _, h2, h3, h4⟩ := h.tup
    exact ⟨a, vs, h1, .inr (SqT.of h2), h3, h4⟩
theorem RepWs.nil {A H vs} (h : RepWs A H vs []) : vs = [] := by cases vs with | nil => rfl | cons _ _ => exact h.elim
theorem RepWs.cons {A H vs d ds} (h : RepWs A H vs (d :: ds)) : ∃ v ws, vs = v :: ws ∧ RepW A H v d ∧ RepWs A H ws ds := by
  cases vs with
  | nil => exact h.elim
  | cons v ws => exact ⟨v, ws, rfl, h.1, h.2⟩
theorem RepWs.one {A H vs d} (h : RepWs A H vs [d]) : ∃ v, vs = [v] ∧ RepW A H v d := by
  obtain ⟨v, ws, rfl, h1, h2⟩ := h.cons
  cases h2.nil
  exact ⟨v, rfl, h1⟩
theorem RepWs.two {A H vs d e} (h : RepWs A H vs [d, e]) : ∃ v w, vs = [v, w] ∧ RepW A H v d ∧ RepW A H w e := by
  obtain ⟨v, ws, rfl, h1, h2⟩ := h.cons
  obtain ⟨w, rfl, h3⟩ := h2.one
  exact ⟨v, w, rfl, h1, h3⟩
/-- a builtin of one argument that makes nothing -/
theorem call1 {f g} {r : List V → Hp → VK → Prop} (hc : CallR X f r) (n : ∀ ds, ds.length ≠ 1 → g ds = none)
    (h : ∀ A H v d res, RepW A H v d → g [d] = some res → ∃ d', res = .fr d' ∧ ∀ Q : VK, (∀ w, Rep A H w d' → Q w H) → r [v] H Q) : CallSnd X f g := by
  refine ⟨r, hc, fun A H σ ρ vs ds res ft hv e Q k => ?_⟩
  by_cases hl : ds.length = 1
  · obtain ⟨d, rfl⟩ := List.length_eq_one_iff.mp hl
    obtain ⟨v, rfl, h1⟩ := hv.one
    obtain ⟨d', rfl, h2⟩ := h A H v d res h1 e
    exact h2 Q fun w hw => k A H w (Stp.refl ft) hw
  · rw [n ds hl] at e; cases e
theorem one_none {b : Blt} (hb : b ≠ .max2 ∧ b ≠ .min2 ∧ b ≠ .gcd) : ∀ ds : List D, ds.length ≠ 1 → dBlt b ds = none := by
  intro ds h
  match ds with
  | [] => cases b <;> rfl
  | [_] => exact absurd rfl h
  | x :: y :: r => cases b <;> simp_all [dBlt]
theorem cs_abs : CallSnd X (.builtin "abs") (dBlt .abs) := by
  refine call1 call_abs (one_none (by decide)) fun A H v d res h e => ?_
  cases d <;> simp only [dBlt, reduceCtorEq] at e
  cases e
  cases h.int
  refine ⟨_, rfl, fun Q k => ⟨_, rfl, k _ ?_⟩⟩
  rename_i i
  have : (if i < 0 then -i else i) = (i.natAbs : Int) := by split <;> omega
  rw [this]; exact .int
theorem cs_int : CallSnd X (.type "int") (dBlt .int) := by
  refine call1 call_int1 (one_none (by decide)) fun A H v d res h e => ?_
  cases d <;> simp only [dBlt, reduceCtorEq] at e <;> cases e
  · cases h.bool
    exact ⟨_, rfl, fun Q k => .inr ⟨_, rfl, k _ .int⟩⟩
  · cases h.int
    exact ⟨_, rfl, fun Q k => .inl ⟨_, rfl, k _ .int⟩⟩
theorem cs_str : CallSnd X (.type "str") (dBlt .str) := by
  refine call1 call_str_int (one_none (by decide)) fun A H v d res h e => ?_
  cases d <;> simp only [dBlt, reduceCtorEq] at e
  split at e
  · rename_i hz
    cases e
    cases h.int
    exact ⟨_, rfl, fun Q k => ⟨_, rfl, hz, k _ .str⟩⟩
  · cases e
theorem cs_repr : CallSnd X (.builtin "repr") (dBlt .repr) := by
  refine call1 SkE.call_repr_int (one_none (by decide)) fun A H v d res h e => ?_
  cases d <;> simp only [dBlt, reduceCtorEq] at e
  split at e
  · rename_i hz
    cases e
    cases h.int
    exact ⟨_, rfl, fun Q k => ⟨_, rfl, hz, k _ .str⟩⟩
  · cases e
theorem cs_sum (hc : X.calm = true) : CallSnd X (.builtin "sum") (dBlt .sum) := by
  refine call1 (cr_sum hc) (one_none (by decide)) fun A H v d res h e => ?_
  cases d <;> simp only [dBlt, reduceCtorEq] at e
  rename_i ds
  cases e1 : allInts ds with
  | none => rw [e1] at e; cases e
  | some ns =>
    rw [e1] at e
    cases e
    obtain ⟨a, vs, rfl, h1, h2, h3⟩ := h.list
    obtain ⟨rfl, _⟩ := rep_of_ints h3 e1
    exact ⟨_, rfl, fun Q k => ⟨a, ns, rfl, SqL.of h1, k _ .int⟩⟩
theorem maxI_mem : ∀ (m : Int) (r : List Int), maxI m r ∈ m :: r ∧ ∀ y ∈ m :: r, y ≤ maxI m r
  | m, [] => ⟨by simp [maxI], fun y h => by simp at h; simp [maxI, h]⟩
  | m, x :: r => by
    obtain ⟨h1, h2⟩ := maxI_mem (if x > m then x else m) r
    unfold maxI
    refine ⟨?_, fun y hy => ?_⟩
    · rcases List.mem_cons.mp h1 with h | h
      · rw [h]; split <;> simp
      · exact List.mem_cons_of_mem _ (List.mem_cons_of_mem _ h)
    · have h0 := h2 _ List.mem_cons_self
      rcases List.mem_cons.mp hy with rfl | hy
      · split at h0 <;> split <;> omega
      · rcases List.mem_cons.mp hy with rfl | hy
        · split at h0 <;> split <;> omega
        · exact h2 y (List.mem_cons_of_mem _ hy)
theorem minI_mem : ∀ (m : Int) (r : List Int), minI m r ∈ m :: r ∧ ∀ y ∈ m :: r, minI m r ≤ y
  | m, [] => ⟨by simp [minI], fun y h => by simp at h; simp [minI, h]⟩
  | m, x :: r => by
    obtain ⟨h1, h2⟩ := minI_mem (if x < m then x else m) r
    unfold minI
    refine ⟨?_, fun y hy => ?_⟩
    · rcases List.mem_cons.mp h1 with h | h
      · rw [h]; split <;> simp
      · exact List.mem_cons_of_mem _ (List.mem_cons_of_mem _ h)
    · have h0 := h2 _ List.mem_cons_self
      rcases List.mem_cons.mp hy with rfl | hy
      · split at h0 <;> split <;> omega
      · rcases List.mem_cons.mp hy with rfl | hy
        · split at h0 <;> split <;> omega
        · exact h2 y (List.mem_cons_of_mem _ hy)
theorem max_uniq {x : Int} {r : List Int} {m : Int} (h1 : m ∈ x :: r) (h2 : ∀ y ∈ x :: r, y ≤ m) : m = maxI x r := by
  obtain ⟨h3, h4⟩ := maxI_mem x r
  exact Int.le_antisymm (h4 m h1) (h2 _ h3)
theorem min_uniq {x : Int} {r : List Int} {m : Int} (h1 : m ∈ x :: r) (h2 : ∀ y ∈ x :: r, m ≤ y) : m = minI x r := by
  obtain ⟨h3, h4⟩ := minI_mem x r
  exact Int.le_antisymm (h2 _ h3) (h4 m h1)

theorem reads_ints {h : Heap} : ∀ {its : List Value} {ns : List Int}, Vals (ns.map V.int) its → ∃ as, ReadsAll h its (ns.map .int) as
  | [], [], _ => ⟨_, ReadsAll.nil⟩
  | _ :: _, [], h => by cases h
  | [], _ :: _, h => by cases h
  | u :: us, n :: ns, h => by
    cases h with
    | cons r t =>
      obtain ⟨tk, rfl⟩ := r
      obtain ⟨as, q⟩ := reads_ints t
      exact ⟨_, ReadsAll.cons (Reads.int n tk) q⟩
theorem alike_ints (ns : List Int) : PySem.W.AlikeAll (ns.map .int) := by
  refine ⟨fun x hx y hy => ?_, fun x hx => ?_⟩
  · obtain ⟨a, _, rfl⟩ := List.mem_map.mp hx
    obtain ⟨b, _, rfl⟩ := List.mem_map.mp hy
    rfl
  · obtain ⟨a, _, rfl⟩ := List.mem_map.mp hx
    intro z; cases z
theorem depth_ints : ∀ ns : List Int, PyData.depthAll (ns.map .int) = 0
  | [] => rfl
  | n :: r => by simp [PyData.depthAll, PyData.depth, depth_ints r]
theorem call_maxT (hc : X.calm = true) (hu : X.A.units + 65 < cLine) : CallR X (.builtin "max") (fun vs H Q => ∃ (a : Addr) (x : Int) (r : List Int), vs = [.ref a] ∧ SqT X.K H a ((x :: r).map V.int) ∧ Q (.int (r.foldl max x)) H) := by
  intro pins s σ H xs us Q I rv h
  obtain ⟨a, x, r, rfl, hs, q⟩ := h
  obtain ⟨its, vv, ht, hz⟩ := I.tuple hs
  rw [Vals.ref1 rv]
  obtain ⟨as, rr⟩ := reads_ints (h := s.heap) vv
  refine PySem.W.max_tuple_data (x := .int x) (xs := r.map .int) (I.ok.hd hc) (show s.heap.IsTuple a its.toArray from ht) (by simpa using rr) (alike_ints (x :: r)) (by show _ + PyData.depthAll ((x :: r).map .int) < _; rw [depth_ints]; omega) fun i v h' tk bs e1 e2 k => ?_
  rw [PySem.W.maxD_ints] at e2
  cases e2 with
  | int _ t => exact ⟨.int _, H, I.kept (t' := tk) k, ⟨t, rfl⟩, q⟩
theorem call_minT (hc : X.calm = true) (hu : X.A.units + 65 < cLine) : CallR X (.builtin "min") (fun vs H Q => ∃ (a : Addr) (x : Int) (r : List Int), vs = [.ref a] ∧ SqT X.K H a ((x :: r).map V.int) ∧ Q (.int (r.foldl min x)) H) := by
  intro pins s σ H xs us Q I rv h
  obtain ⟨a, x, r, rfl, hs, q⟩ := h
  obtain ⟨its, vv, ht, hz⟩ := I.tuple hs
  rw [Vals.ref1 rv]
  obtain ⟨as, rr⟩ := reads_ints (h := s.heap) vv
  refine PySem.W.min_tuple_data (x := .int x) (xs := r.map .int) (I.ok.hd hc) (show s.heap.IsTuple a its.toArray from ht) (by simpa using rr) (alike_ints (x :: r)) (by show _ + PyData.depthAll ((x :: r).map .int) < _; rw [depth_ints]; omega) fun i v h' tk bs e1 e2 k => ?_
  rw [PySem.W.minD_ints] at e2
  cases e2 with
  | int _ t => exact ⟨.int _, H, I.kept (t' := tk) k, ⟨t, rfl⟩, q⟩
theorem maxI_fold : ∀ (x : Int) (r : List Int), maxI x r = r.foldl max x
  | _, [] => rfl
  | x, y :: r => by
    unfold maxI
    rw [List.foldl_cons, maxI_fold]
    congr 1
    rw [Int.max_def]; split <;> split <;> omega
theorem minI_fold : ∀ (x : Int) (r : List Int), minI x r = r.foldl min x
  | _, [] => rfl
  | x, y :: r => by
    unfold minI
    rw [List.foldl_cons, minI_fold]
    congr 1
    rw [Int.min_def]; split <;> split <;> omega
theorem cs_max (hc : X.calm = true) (hu : X.A.units + 65 < cLine) : CallSnd X (.builtin "max") (dBlt .max) := by
  refine call1 (((cr_max hc).or (call_maxT hc hu)).or (cr_maxD hc hu)) (one_none (by decide)) fun A H v d res h e => ?_
  have hd : ∃ ds, (d = .list ds ∨ d = .tuple ds) ∧ mxR (allInts ds) ds = some res := by
    cases d <;> simp only [dBlt, reduceCtorEq] at e
    · exact ⟨_, .inl rfl, e⟩
    · exact ⟨_, .inr rfl, e⟩
  obtain ⟨ds, hd, e⟩ := hd
  cases e1 : allInts ds with
  | some ns =>
    rw [e1] at e
    cases ns with
    | nil => cases e
    | cons x r =>
      cases e
      rcases hd with rfl | rfl
      · obtain ⟨a, vs, rfl, h1, h2, h3⟩ := h.list
        obtain ⟨rfl, _⟩ := rep_of_ints h3 e1
        exact ⟨_, rfl, fun Q k => .inl (.inl ⟨a, x :: r, rfl, SqL.of h1, by simp, fun m m1 m2 => by rw [max_uniq m1 m2]; exact k _ .int⟩)⟩
      · obtain ⟨a, vs, rfl, _, h1, h2, h3⟩ := h.tup
        obtain ⟨rfl, _⟩ := rep_of_ints h3 e1
        exact ⟨_, rfl, fun Q k => .inl (.inr ⟨a, x, r, rfl, SqT.of h1, by rw [← maxI_fold]; exact k _ .int⟩)⟩
  | none =>
    rw [e1] at e
    cases ds with
    | nil => cases e
    | cons x r =>
      simp only [mxR] at e
      split at e
      · rename_i ok
        cases e
        have : ∃ a vs, v = .ref a ∧ (SqL X.K H a vs ∨ SqT X.K H a vs) ∧ vs.length ≤ sizeLine ∧ RepAll A H vs (x :: r) := RepW.seq (by rcases hd with rfl | rfl; exact .inl h; exact .inr h)
        obtain ⟨a, vs, rfl, h1, h2, h3⟩ := this
        refine ⟨_, rfl, fun Q k => .inr ⟨a, vs, x, r, rfl, h1, h3.dp, ok, fun i w e2 e3 => k w ?_⟩⟩
        obtain ⟨d', e4, h4⟩ := h3.getV i e2
        rw [e3] at e4
        cases e4
        exact h4
      · cases e
theorem cs_min (hc : X.calm = true) (hu : X.A.units + 65 < cLine) : CallSnd X (.builtin "min") (dBlt .min) := by
  refine call1 (((cr_min hc).or (call_minT hc hu)).or (cr_minD hc hu)) (one_none (by decide)) fun A H v d res h e => ?_
  have hd : ∃ ds, (d = .list ds ∨ d = .tuple ds) ∧ mnR (allInts ds) ds = some res := by
    cases d <;> simp only [dBlt, reduceCtorEq] at e
    · exact ⟨_, .inl rfl, e⟩
    · exact ⟨_, .inr rfl, e⟩
  obtain ⟨ds, hd, e⟩ := hd
  cases e1 : allInts ds with
  | some ns =>
    rw [e1] at e
    cases ns with
    | nil => cases e
    | cons x r =>
      cases e
      rcases hd with rfl | rfl
      · obtain ⟨a, vs, rfl, h1, h2, h3⟩ := h.list
        obtain ⟨rfl, _⟩ := rep_of_ints h3 e1
        exact ⟨_, rfl, fun Q k => .inl (.inl ⟨a, x :: r, rfl, SqL.of h1, by simp, fun m m1 m2 => by rw [min_uniq m1 m2]; exact k _ .int⟩)⟩
      · obtain ⟨a, vs, rfl, _, h1, h2, h3⟩ := h.tup
        obtain ⟨rfl, _⟩ := rep_of_ints h3 e1
        exact ⟨_, rfl, fun Q k => .inl (.inr ⟨a, x, r, rfl, SqT.of h1, by rw [← minI_fold]; exact k _ .int⟩)⟩
  | none =>
    rw [e1] at e
    cases ds with
    | nil => cases e
    | cons x r =>
      simp only [mnR] at e
      split at e
      · rename_i ok
        cases e
        have : ∃ a vs, v = .ref a ∧ (SqL X.K H a vs ∨ SqT X.K H a vs) ∧ vs.length ≤ sizeLine ∧ RepAll A H vs (x :: r) := RepW.seq (by rcases hd with rfl | rfl; exact .inl h; exact .inr h)
        obtain ⟨a, vs, rfl, h1, h2, h3⟩ := this
        refine ⟨_, rfl, fun Q k => .inr ⟨a, vs, x, r, rfl, h1, h3.dp, ok, fun i w e2 e3 => k w ?_⟩⟩
        obtain ⟨d', e4, h4⟩ := h3.getV i e2
        rw [e3] at e4
        cases e4
        exact h4
      · cases e
/-- a builtin of two ints -/
theorem call2 {f} {b : Blt} {r : List V → Hp → VK → Prop} (g : Int → Int → Int) (hc : CallR X f r) (hb : ∀ ds res, dBlt b ds = some res → ∃ i j, ds = [.int i, .int j] ∧ res = .fr (.int (g i j)))
    (h : ∀ i j H Q, Q (.int (g i j)) H → r [.int i, .int j] H Q) : CallSnd X f (dBlt b) := by
  refine ⟨r, hc, fun A H σ ρ vs ds res ft hv e Q k => ?_⟩
  obtain ⟨i, j, rfl, rfl⟩ := hb ds res e
  obtain ⟨v, w, rfl, h1, h2⟩ := hv.two
  cases h1.int
  cases h2.int
  exact h i j H Q (k A H _ (Stp.refl ft) .int)
theorem cs_max2 (hc : X.calm = true) : CallSnd X (.builtin "max") (dBlt .max2) := by
  refine call2 (fun i j => if j > i then j else i) (call_max2 hc) (fun ds res e => ?_) fun i j H Q k => ⟨i, j, rfl, k⟩
  unfold dBlt at e
  split at e <;> simp_all
  exact ⟨_, _, ⟨rfl, rfl⟩, e.symm⟩
theorem cs_min2 (hc : X.calm = true) : CallSnd X (.builtin "min") (dBlt .min2) := by
  refine call2 (fun i j => if j < i then j else i) (call_min2 hc) (fun ds res e => ?_) fun i j H Q k => ⟨i, j, rfl, k⟩
  unfold dBlt at e
  split at e <;> simp_all
  exact ⟨_, _, ⟨rfl, rfl⟩, e.symm⟩
theorem cs_gcd : CallSnd X (.builtin "math.gcd") (dBlt .gcd) := by
  refine call2 (fun a b => (Nat.gcd a.natAbs b.natAbs : Nat)) cr_gcd (fun ds res e => ?_) fun i j H Q k => ⟨i, j, rfl, k⟩
  unfold dBlt at e
  split at e <;> simp_all
  exact ⟨_, _, ⟨rfl, rfl⟩, e.symm⟩
theorem cs_any (hc : X.calm = true) : CallSnd X (.builtin "any") (dBlt .any) := by
  refine call1 (cr_any hc) (one_none (by decide)) fun A H v d res h e => ?_
  cases d <;> simp only [dBlt, reduceCtorEq] at e
  rename_i ds
  cases e1 : allBools ds with
  | none => rw [e1] at e; cases e
  | some ns =>
    rw [e1] at e
    cases e
    obtain ⟨a, vs, rfl, h1, h2, h3⟩ := h.list
    obtain ⟨rfl, _⟩ := rep_of_bools h3 e1
    exact ⟨_, rfl, fun Q k => ⟨a, ns, rfl, SqL.of h1, k _ .bool⟩⟩
theorem cs_all (hc : X.calm = true) : CallSnd X (.builtin "all") (dBlt .all) := by
  refine call1 (cr_all hc) (one_none (by decide)) fun A H v d res h e => ?_
  cases d <;> simp only [dBlt, reduceCtorEq] at e
  rename_i ds
  cases e1 : allBools ds with
  | none => rw [e1] at e; cases e
  | some ns =>
    rw [e1] at e
    cases e
    obtain ⟨a, vs, rfl, h1, h2, h3⟩ := h.list
    obtain ⟨rfl, _⟩ := rep_of_bools h3 e1
    exact ⟨_, rfl, fun Q k => ⟨a, ns, rfl, SqL.of h1, k _ .bool⟩⟩
theorem insI_perm (x : Int) : ∀ r : List Int, (insI x r).Perm (x :: r)
  | [] => .refl _
  | y :: r => by
    unfold insI
    split
    · exact .refl _
    · exact ((insI_perm x r).cons y).trans (.swap x y r)
theorem sortI_perm : ∀ r : List Int, (sortI r).Perm r
  | [] => .refl _
  | x :: r => (insI_perm x _).trans ((sortI_perm r).cons x)
theorem insI_sorted (x : Int) : ∀ r : List Int, r.Pairwise (· ≤ ·) → (insI x r).Pairwise (· ≤ ·)
  | [], _ => by simp [insI]
  | y :: r, h => by
    unfold insI
    obtain ⟨h1, h2⟩ := List.pairwise_cons.mp h
    split
    · rename_i hz
      refine List.pairwise_cons.mpr ⟨fun a ha => ?_, h⟩
      rcases List.mem_cons.mp ha with rfl | ha
      · exact hz
      · exact Int.le_trans hz (h1 a ha)
    · refine List.pairwise_cons.mpr ⟨fun a ha => ?_, insI_sorted x r h2⟩
      rcases List.mem_cons.mp ((insI_perm x r).mem_iff.mp ha) with rfl | ha
      · omega
      · exact h1 a ha
theorem sortI_sorted : ∀ r : List Int, (sortI r).Pairwise (· ≤ ·)
  | [] => .nil
  | x :: r => insI_sorted x _ (sortI_sorted r)
theorem sort_uniq {l m : List Int} (p : l.Perm m) (h1 : l.Pairwise (· ≤ ·)) (h2 : m.Pairwise (· ≤ ·)) : l = m :=
  p.eq_of_pairwise (fun a b _ _ h3 h4 => Int.le_antisymm h3 h4) h1 h2
theorem rep_zip {A : Addr → Prop} {H : Hp} : ∀ {vs : List V} {ds : List D}, RepAll A H vs ds → ∀ p ∈ vs.zip ds, Rep A H p.1 p.2
  | [], [], _, p, h => by simp at h
  | _ :: _, _ :: _, .cons r rr, p, h => by
    simp only [List.zip_cons_cons, List.mem_cons] at h
    rcases h with rfl | h
    · exact r
    · exact rep_zip rr p h
theorem rep_unzip {A : Addr → Prop} {H : Hp} : ∀ {ps : List (V × D)}, (∀ p ∈ ps, Rep A H p.1 p.2) → RepAll A H (ps.map Prod.fst) (ps.map Prod.snd)
  | [], _ => .nil
  | p :: ps, h => .cons (h p (by simp)) (rep_unzip fun q hq => h q (by simp [hq]))
theorem cs_sorted (hu : X.A.units + 65 < cLine) : CallSnd X (.builtin "sorted") (dBlt .sorted) := by
  refine ⟨_, cr_sortedA.or (cr_sortD hu), fun A H σ ρ vs ds res ft hv e Q k => ?_⟩
  have : ∃ es, ((ds = [.list es] ∧ srtR (allInts es) es = some res) ∨ (ds = [.tuple es] ∧ ∃ ns, allInts es = some ns ∧ res = .nw ((sortI ns).map .int))) := by
    unfold dBlt at e
    split at e <;> simp_all
    all_goals
      rename_i es
      obtain ⟨ns, h1, h2⟩ := e
      exact ⟨ns, h1, h2.symm⟩
  obtain ⟨es, hd⟩ := this
  have hints : ∀ ns, allInts es = some ns → res = .nw ((sortI ns).map .int) → (ds = [.list es] ∨ ds = [.tuple es]) → (rSortedA X.K vs H Q ∨ rSortD X.K vs H Q) := by
    intro ns e1 e3 hd'
    subst e3
    have : ∃ v, vs = [v] ∧ (RepW A H v (.list es) ∨ RepW A H v (.tuple es)) := by
      rcases hd' with z | z
      · rw [z] at hv; obtain ⟨v, e5, h⟩ := hv.one; exact ⟨v, e5, .inl h⟩
      · rw [z] at hv; obtain ⟨v, e5, h⟩ := hv.one; exact ⟨v, e5, .inr h⟩
    obtain ⟨v, rfl, h⟩ := this
    obtain ⟨a, ws, rfl, h1, h2, h3⟩ := RepW.seq h (K := X.K)
    obtain ⟨rfl, _⟩ := rep_of_ints h3 e1
    refine .inl ⟨a, ns, rfl, h1, fun ns' p hp hs hn => ?_⟩
    have e2 : ns' = sortI ns := sort_uniq (hp.trans (sortI_perm ns).symm) hs (sortI_sorted ns)
    subst e2
    exact k A _ _ (Stp.grow ft (upd_grow hn)) (res_new ft hn (by rw [List.length_map, (sortI_perm ns).length_eq]; simpa using h2) (rep_ints _))
  rcases hd with ⟨rfl, e2⟩ | ⟨rfl, ns, e1, e2⟩
  · cases e1 : allInts es with
    | some ns =>
      rw [e1] at e2
      cases e2
      exact hints ns e1 rfl (.inl rfl)
    | none =>
      rw [e1] at e2
      simp only [srtR, sortG] at e2
      split at e2
      · rename_i ok
        cases e2
        obtain ⟨v, rfl, h⟩ := hv.one
        obtain ⟨a, ws, rfl, h1, h2, h3⟩ := h.list
        refine .inr ⟨a, ws, es, rfl, SqL.of h1, h3.dp, ok, fun ps p hp e3 hn => ?_⟩
        have hr : RepAll A H (ps.map Prod.fst) (sortD es) := by
          rw [← e3]
          exact rep_unzip fun q hq => rep_zip h3 q (hp.mem_iff.mp hq)
        refine k A _ _ (Stp.grow ft (upd_grow hn)) (res_new ft hn ?_ hr)
        rw [List.length_map, hp.length_eq, List.length_zip]
        exact Nat.le_trans (Nat.min_le_left _ _) h2
      · cases e2
  · exact hints ns e1 e2 (.inr rfl)
theorem cs_list : CallSnd X (.type "list") (dBlt .list) := by
  refine ⟨_, call_list_of, fun A H σ ρ vs ds res ft hv e Q k => ?_⟩
  have : ∃ es, (ds = [.list es] ∨ ds = [.tuple es]) ∧ res = .nw es := by
    unfold dBlt at e
    split at e <;> simp_all
  obtain ⟨es, hd, rfl⟩ := this
  have : ∃ v, vs = [v] ∧ (RepW A H v (.list es) ∨ RepW A H v (.tuple es)) := by
    rcases hd with rfl | rfl
    · obtain ⟨v, rfl, h⟩ := hv.one; exact ⟨v, rfl, .inl h⟩
    · obtain ⟨v, rfl, h⟩ := hv.one; exact ⟨v, rfl, .inr h⟩
  obtain ⟨v, rfl, h⟩ := this
  obtain ⟨a, ws, rfl, h1, h2, h3⟩ := RepW.seq h (K := X.K)
  exact ⟨a, ws, rfl, h1, fun p hn => k A _ _ (Stp.grow ft (upd_grow hn)) (res_new ft hn h2 h3)⟩
theorem cs_tuple : CallSnd X (.type "tuple") (dBlt .tuple) := by
  refine ⟨_, call_tuple_of, fun A H σ ρ vs ds res ft hv e Q k => ?_⟩
  have : ∃ es, (ds = [.list es] ∨ ds = [.tuple es]) ∧ res = .fr (.tuple es) := by
    unfold dBlt at e
    split at e <;> simp_all
  obtain ⟨es, hd, rfl⟩ := this
  rcases hd with rfl | rfl
  · obtain ⟨v, rfl, h⟩ := hv.one
    obtain ⟨a, ws, rfl, h1, h2, h3⟩ := h.list
    exact ⟨a, ws, rfl, .inl ⟨SqL.of h1, fun p hn => k _ _ _ (Stp.frz ft hn) (rep_newT hn h2 h3)⟩⟩
  · obtain ⟨v, rfl, h⟩ := hv.one
    obtain ⟨a, ws, rfl, h0, h1, h2, h3⟩ := h.tup
    exact ⟨a, ws, rfl, .inr ⟨SqT.of h1, k A H _ (Stp.refl ft) (.tup h0 h1 h2 h3)⟩⟩
/-- len: it also measures the script -/
theorem sndR_len {v d r A H} {K : PySem.W.Frag} (hk : TheK.K = K) (h : RepR A H v d) (e : dLen d = some r) : ∃ n : Int, r = .int n ∧ ∀ (Q : VK), Q (.int n) H →
    ((∃ p ys, [v] = [.ref p] ∧ (SqL K H p ys ∨ SqT K H p ys) ∧ Q (.int ys.length) H) ∨ ∃ z, [v] = [V.str z] ∧ z.length ≤ sizeLine ∧ Q (.int z.length) H) := by
  cases d <;> simp only [dLen, reduceCtorEq] at e
  · split at e
    · rename_i z hz
      cases e
      cases (h.w (fun _ z => by cases z)).str
      exact ⟨_, rfl, fun Q k => .inr ⟨_, rfl, hz, k⟩⟩
    · cases e
  · cases e
    obtain ⟨a, vs, rfl, h1, h2, h3⟩ := h.list
    exact ⟨_, rfl, fun Q k => .inl ⟨a, vs, rfl, .inl (by rw [← hk]; exact h1), by rw [h3.length]; exact k⟩⟩
  · cases e
    obtain ⟨a, vs, rfl, _, h1, h2, h3⟩ := (h.w (fun _ z => by cases z)).tup
    exact ⟨_, rfl, fun Q k => .inl ⟨a, vs, rfl, .inr (SqT.of h1), by rw [h3.length]; exact k⟩⟩
end
end Ev

set_option maxRecDepth 100000
/-! Ev7: len, isinstance, changes of a list, calls. -/
namespace Ev
open PySem L2
variable [TheK]
section
variable {X : Cx} {N : List Str} {q : Sc} {F : FT}
def fLen (fa : Env → Option (Opd × Env)) (ρ : Env) : Option (Res × Env) := match fa ρ with
    | none => none
    | some (oa, ρ1) => match oa.getR ρ1 with
      | some d => (dLen d).map fun r => (.fr r, ρ1)
      | none => none
theorem snd_len (C : CtxOk X N q F) {e p pos fa} (hg : glB q.sc (Str.ofString "len") = true) (hn : notStar e = true) (ha : SndO X e fa) : SndE X (.Call (.Name (Str.ofString "len") p) [e] [] pos) (fLen fa) := by
  obtain ⟨ta, pa, qa⟩ := ha
  refine ⟨_, pe_callB (call_len_seq.or call_len_str) (gl_of C hg) (C.bl "len" (by decide)) PySem.boot_len (pa_cons pa pa_nil (star_cons hn)) (by decide) (by decide) (star_cons hn) rfl, fun A H σ ρ r ρ' ft e Q k => ?_⟩
  unfold fLen at e
  split at e
  · cases e
  · rename_i oa ρ1 e1
    split at e
    · rename_i d e2
      cases e3 : dLen d with
      | none => rw [e3] at e; cases e
      | some n =>
        rw [e3] at e
        cases e
        refine qa A H σ ρ oa ρ' ft e1 _ fun A1 H1 v1 s1 k1 => ?_
        obtain ⟨m, rfl, q⟩ := sndR_len C.kk (Opd.okR s1.fit k1 e2) e3
        exact q Q (k A1 H1 _ s1 .int)
    · cases e

def tyName : Ty → String
  | .int => "int"
  | .bool => "bool"
  | .str => "str"
  | .tuple => "tuple"
  | .list => "list"
theorem boot_ty (t : Ty) : bootBuiltins (Str.ofString (tyName t)) = some (.type (tyName t)) := by cases t <;> decide +kernel
def fIsi (t : Ty) (fa : Env → Option (Opd × Env)) (ρ : Env) : Option (Res × Env) := match fa ρ with
    | none => none
    | some (oa, ρ1) => (oa.get ρ1).map fun d => (.fr (.bool (tyIs t d)), ρ1)
theorem boot_isi : bootBuiltins (Str.ofString "isinstance") = some (.builtin "isinstance") := by decide +kernel
theorem ty_ok {A H v d} {K : PySem.W.Frag} (h : RepW A H v d) (t : Ty) : ∃ n, TyX K H v (.type n) ∧ PySem.W.kitOne K (.type n) (.type (tyName t)) = some (tyIs t d) := by
  have go : ∀ n, TyX K H v (.type n) → kitB n (tyName t) = some (tyIs t d) → ∃ n, TyX K H v (.type n) ∧ PySem.W.kitOne K (.type n) (.type (tyName t)) = some (tyIs t d) := fun n h1 h2 => ⟨n, h1, kit_ty h2⟩
  rcases h with h | ⟨a, vs, ds, rfl, rfl, h1, h2, h3⟩
  · cases h with
    | none => exact go "NoneType" (.base .non) (by cases t <;> first | (show _ = some true; decide +kernel) | (show _ = some false; decide +kernel))
    | bool => exact go "bool" (.base (.bl _)) (by cases t <;> first | (show _ = some true; decide +kernel) | (show _ = some false; decide +kernel))
    | int => exact go "int" (.base (.int _)) (by cases t <;> first | (show _ = some true; decide +kernel) | (show _ = some false; decide +kernel))
    | str => exact go "str" (.base (.str _)) (by cases t <;> first | (show _ = some true; decide +kernel) | (show _ = some false; decide +kernel))
    | lst _ h1 => exact go "list" (.base (.lst h1)) (by cases t <;> first | (show _ = some true; decide +kernel) | (show _ = some false; decide +kernel))
    | tup _ h1 => exact go "tuple" (.base (.tup h1)) (by cases t <;> first | (show _ = some true; decide +kernel) | (show _ = some false; decide +kernel))
  · exact go "list" (.base (.lst h1)) (by cases t <;> first | (show _ = some true; decide +kernel) | (show _ = some false; decide +kernel))
theorem snd_isi (C : CtxOk X N q F) {e p p2 pos fa} (t : Ty) (hg : glB q.sc (Str.ofString "isinstance") = true) (hg2 : glB q.sc (Str.ofString (tyName t)) = true) (hn : notStar e = true) (ha : SndO X e fa) :
    SndE X (.Call (.Name (Str.ofString "isinstance") p) [e, .Name (Str.ofString (tyName t)) p2] [] pos) (fIsi t fa) := by
  obtain ⟨ta, pa, qa⟩ := ha
  have hb : tyName t ∈ bltNames := by cases t <;> decide
  have p2' : PE X (.Name (Str.ofString (tyName t)) p2) (tC (.ty (tyName t))) :=
    pe_bltn (gl_of C hg2) (C.bl _ hb) (boot_ty t) rfl (by cases t <;> decide) (by cases t <;> decide)
  refine ⟨_, pe_callB call_isi (gl_of C hg) (C.bl "isinstance" (by decide)) boot_isi (pa_cons pa (pa_cons p2' pa_nil (star_cons rfl)) (star_cons hn)) (by decide) (by decide) (star_cons hn) (star_any rfl), fun A H σ ρ r ρ' ft e Q k => ?_⟩
  unfold fIsi at e
  split at e
  · cases e
  · rename_i oa ρ1 e1
    cases e2 : oa.get ρ1 with
    | none => rw [e2] at e; cases e
    | some d =>
      rw [e2] at e
      cases e
      refine qa A H σ ρ oa ρ' ft e1 _ fun A1 H1 v1 s1 k1 => ?_
      obtain ⟨n, h1, h2⟩ := ty_ok (K := X.K) (Opd.ok s1.fit k1 e2) t
      exact ⟨v1, .ty (tyName t), .type n, .type (tyName t), tyIs t d, rfl, .ty _, h1, h2, k A1 H1 _ s1 .bool⟩

/-! ### a list is changed -/
theorem Fit.mut_nofrz {A H σ ρ} (f : Fit A H σ ρ) {a} (h : Mut σ ρ a) (o : Obj) (u : HO) (e0 : H a = some (.frz o u)) : False := by
  obtain ⟨i, s, e1, e2, e3⟩ := h
  have q := f.slot i s _ e1 e3
  cases s <;> simp [mutS] at e2 <;> obtain ⟨b, vs, e, h, _⟩ := q <;> cases e <;> rw [h] at e0 <;> cases e0
def withL : Slot → List D → Slot
  | .own _, ds => .own ds
  | .mu _, ds => .mu ds
  | s, _ => s
theorem stp_upd {A H σ} {ρ : Env} {i : Nat} {s : Slot} {a : Addr} {vs : List V} {ds : List D} (f : Fit A H σ ρ) (hs : ρ[i]? = some s) (hm0 : mutL s = true) (ha : σ[i]? = some (some (.ref a))) (hl : vs.length ≤ sizeLine) (r : RepAll A H vs ds) :
    Stp A H σ ρ A (upd H a (.lst vs)) σ (ρ.set i (withL s ds)) := by
  have hm : mutS s = true := mutL_S hm0
  have m : Mut σ ρ a := ⟨i, s, hs, hm, ha⟩
  have na : ¬ A a := fun z => f.nomut z m
  have k : Keep A H (upd H a (.lst vs)) := fun b o hb e => by
    have : b ≠ a := fun z => na (z ▸ hb)
    rw [upd_ne this]; exact e
  have lv : live s = true := by cases s <;> first | rfl | (cases hm; done)
  have mt : ∀ b, Mut σ (ρ.set i (withL s ds)) b → Mut σ ρ b := fun b ⟨j, t, h1, h2, h3⟩ => by
    rcases get_set h1 with ⟨rfl, rfl⟩ | ⟨_, h1⟩
    · exact ⟨i, s, hs, hm, h3⟩
    · exact ⟨j, t, h1, h2, h3⟩
  obtain ⟨oa, hoa⟩ := f.mut_at m
  have dps : ∀ (j : Nat) k2 d2, (ρ.set i (withL s ds))[j]? = some (Slot.dp k2 d2) → ρ[j]? = some (.dp k2 d2) ∧ σ[j]? = σ[j]? := fun j k2 d2 h => by
    rcases get_set h with ⟨_, h⟩ | ⟨_, h⟩
    · cases s <;> first | (cases hm0; done) | (cases h; done)
    · exact ⟨h, rfl⟩
  have kl : ∀ b o, Prv H σ ρ b → H b = some o → (upd H a (.lst vs)) b = some o := fun b o hp e => by
    have : b ≠ a := fun z => f.mut_prv m (z ▸ hp)
    rw [upd_ne this]; exact e
  refine ⟨fun _ h => h, fun b o h n _ => ?_, fun b h => ?_, fun b m => .inl (mt b m), fun j es h => ⟨rfl, ?_⟩, fun b hb => .inl hb, fun j es h o => ?_, fun b hb => .inr (.inl (f.prv_back dps k kl b hb)), ⟨by rw [List.length_set]; exact f.len, fun j t ov h1 h2 => ?_, fun j l t u b hjl h1 h2 h3 h4 h5 h6 => ?_, fun b hb => ?_, f.prv_go dps k kl fun j t b h1 h2 h3 => ?_⟩⟩
  · have : b ≠ a := fun z => n (z ▸ m)
    rw [upd_ne this]; exact h
  · by_cases e : b = a
    · subst e; rw [upd_same] at h; cases h
    · rw [upd_ne e] at h; exact h
  · by_cases hj : i = j
    · subst hj; rw [hs] at h; cases h; exact ⟨ds, set_get hs⟩
    · exact ⟨es, by rw [List.getElem?_set_ne hj]; exact h⟩
  · rcases get_set h with ⟨rfl, h8⟩ | ⟨_, h⟩
    · subst h8; cases s <;> first | (cases hm; done) | (cases o; done)
    · exact ⟨h, rfl⟩
  · rcases get_set h1 with ⟨rfl, rfl⟩ | ⟨hj, h1⟩
    · rw [ha] at h2; cases h2
      cases s <;> first | (cases hm; done) | (cases hm0; done) | exact ⟨a, vs, rfl, upd_same, hl, RepAll.mono (fun _ z => z) k r, na⟩
    · have ok := f.slot j t _ h1 h2
      refine ok.go (fun _ z => z) k (fun b o hb z e => ?_) (fun b lt z => by subst z; exact ok.nofz lt) (fun b o u e => ?_) (fun k2 d2 w b o ez z l e => by subst ez z; exact kl b o ⟨j, k2, d2, w, h1, h2, l⟩ e) (fun k2 d2 w b ez z l => by subst ez z; exact (f.lr h1 h2 l).1)
      · subst z
        have : b ≠ a := fun z => by subst z; exact f.apart i j s t _ hj hs h1 lv hb ha h2
        rw [upd_ne this]; exact e
      · have : b ≠ a := fun z => by
          subst z
          exact f.mut_nofrz m _ _ e
        rw [upd_ne this]; exact e
  · rcases get_set h1 with ⟨rfl, rfl⟩ | ⟨n1, h1⟩
    · rcases get_set h2 with ⟨rfl, rfl⟩ | ⟨_, h2⟩
      · exact hjl rfl
      · exact f.apart i l s u b hjl hs h2 lv h4 h5 h6
    · rcases get_set h2 with ⟨rfl, rfl⟩ | ⟨_, h2⟩
      · exact f.apart j i t s b hjl h1 hs h3 (liveB_of lv) h5 h6
      · exact f.apart j l t u b hjl h1 h2 h3 h4 h5 h6
  · obtain ⟨o, e⟩ := f.trk b hb
    exact ⟨o, k b o hb e⟩
  · rcases get_set h1 with ⟨rfl, rfl⟩ | ⟨_, h1⟩
    · exact .inl ⟨i, s, hs, liveB_of lv, h3⟩
    · exact .inl ⟨j, t, h1, h2, h3⟩
/-- the list of a slot that may be changed -/
theorem Fit.mutl {A H σ} {ρ : Env} {i : Nat} {s : Slot} (f : Fit A H σ ρ) (hs : ρ[i]? = some s) (hm : mutL s = true) : ∃ a vs ds, σ[i]? = some (some (.ref a)) ∧ s = withL s ds ∧ s.d? = some (.list ds) ∧ H a = some (.lst vs) ∧ vs.length ≤ sizeLine ∧ RepAll A H vs ds := by
  obtain ⟨ov, e1, q⟩ := f.at hs
  cases s with
  | own ds => obtain ⟨a, vs, rfl, q1, q2, q3, q4⟩ := q; exact ⟨a, vs, ds, e1, rfl, rfl, q1, q2, q3⟩
  | mu ds => obtain ⟨a, vs, rfl, q1, q2, q3, q4⟩ := q; exact ⟨a, vs, ds, e1, rfl, rfl, q1, q2, q3⟩
  | _ => cases hm
def cthName : Cth → String
  | .append => "append"
  | .pop => "pop"
  | .popAt => "pop"
  | .insert => "insert"
  | .extend => "extend"
  | .remove => "remove"
  | .reverse => "reverse"
/-- a method that changes a list, by values -/
def ChgSnd (X : Cx) (id : String) (m : Cth) : Prop := ∃ r : V → List V → Hp → VK → Prop, MtR X id r ∧
  ∀ A H a vs xs ws ds p, H a = some (.lst vs) → vs.length ≤ sizeLine → RepAll A H vs xs → RepAll A H ws ds → dChg m xs ds = some p →
    ∀ Q : VK, (∀ vs' w, vs'.length ≤ sizeLine → RepAll A H vs' p.1 → Rep A H w p.2 → Q w (upd H a (.lst vs'))) → r (.ref a) ws H Q
def fChg (m : Cth) (i : Nat) (fs : Env → Option (List D × Env)) (ρ : Env) : Option (Res × Env) := match rd ρ i with
    | some (.list _) => match fs ρ with
      | none => none
      | some (ds, ρ1) => match ρ1[i]? with
        | some (.own xs) => (dChg m xs ds).map fun p => (.fr p.2, ρ1.set i (.own p.1))
        | some (.mu xs) => (dChg m xs ds).map fun p => (.fr p.2, ρ1.set i (.mu p.1))
        | _ => none
    | _ => none
theorem chg_core {t : TA} {fs r A H σ ρ res ρ'} {m : Cth} {i : Nat} {Q : VK} {K : PySem.W.Frag} (qs : ∀ A H σ ρ r ρ', Fit A H σ ρ → fs ρ = some (r, ρ') → ∀ Q : List V → Hp → Prop, (∀ A' H' vs, Stp A H σ ρ A' H' σ ρ' → RepAll A' H' vs r → Q vs H') → t σ H Q)
    (hc : ∀ A H a vs xs ws ds p, H a = some (.lst vs) → vs.length ≤ sizeLine → RepAll A H vs xs → RepAll A H ws ds → dChg m xs ds = some p →
      ∀ Q : VK, (∀ vs' w, vs'.length ≤ sizeLine → RepAll A H vs' p.1 → Rep A H w p.2 → Q w (upd H a (.lst vs'))) → r (.ref a) ws H Q)
    (hi : i < σ.length) (ft : Fit A H σ ρ) (e : fChg m i fs ρ = some (res, ρ')) (k : ∀ A' H' v, Stp A H σ ρ A' H' σ ρ' → ResOk A' H H' σ ρ' v res → Q v H') : tBM K "list" r (tVar i) t σ H Q := by
  unfold fChg at e
  split at e
  · rename_i ds0 e0
    have hov : ∃ v, σ[i]? = some (some v) := by
      simp only [rd] at e0
      split at e0
      · rename_i s hs
        obtain ⟨ov, e1, q⟩ := ft.at hs
        cases s <;> simp only [Slot.d?, reduceCtorEq] at e0
        · obtain ⟨w, rfl, _⟩ := q; exact ⟨_, e1⟩
        all_goals (obtain ⟨a, vs, rfl, _⟩ := q; exact ⟨_, e1⟩)
      · cases e0
    obtain ⟨v, hv⟩ := hov
    obtain ⟨a, vs, rfl, h1, h2, h3⟩ := (rd_ok ft hv e0).list
    refine ⟨_, hv, .inl ⟨rfl, _, SqL.of h1⟩, ?_⟩
    split at e
    · cases e
    · rename_i ds ρ1 e1
      refine qs A H σ ρ ds ρ1 ft e1 _ fun A1 H1 ws s1 k1 => ?_
      have go : ∀ s xs, ρ1[i]? = some s → mutL s = true → s.d? = some (.list xs) → (dChg m xs ds).map (fun p => (Res.fr p.2, ρ1.set i (withL s p.1))) = some (res, ρ') → r (.ref a) ws H1 Q := fun s xs hs hm hd e => by
        cases e4 : dChg m xs ds with
        | none => rw [e4] at e; cases e
        | some p =>
          rw [e4] at e
          cases e
          obtain ⟨a', vs', ds', q1, q2, q3, q4, q5, q6⟩ := s1.fit.mutl hs hm
          rw [hv] at q1; cases q1
          rw [hd] at q3; cases q3
          refine hc A1 H1 a vs' _ ws ds p q4 q5 q6 k1 e4 Q fun vs2 w z1 z2 z3 => ?_
          have s2 := stp_upd s1.fit hs hm hv z1 z2
          exact k A1 _ w (s1.trans s2) (Rep.mono (fun _ z => z) (s2.keep s1.fit) z3)
      split at e
      · rename_i xs hs
        exact go _ xs hs rfl rfl e
      · rename_i xs hs
        exact go _ xs hs rfl rfl e
      · cases e
  · cases e
end
end Ev

set_option maxRecDepth 100000
/-! Ev8: methods that change a list; calls of defs. -/
namespace Ev
open PySem L2
variable [TheK]
section
variable {X : Cx} {N : List Str} {q : Sc} {F : FT}
theorem RepAll.nil_v {A H ws} (h : RepAll A H ws []) : ws = [] := by cases h; rfl
theorem RepAll.one_v {A H ws d} (h : RepAll A H ws [d]) : ∃ w, ws = [w] ∧ Rep A H w d := by
  cases h with | cons h1 h2 => cases h2; exact ⟨_, rfl, h1⟩
theorem chg_append : ChgSnd X "list.append" .append := by
  refine ⟨_, mt_append, fun A H a vs xs ws ds p ha hl r rd e Q k => ?_⟩
  match ds, e with
  | [d], e =>
    simp only [dChg] at e
    split at e
    · rename_i hz
      cases e
      obtain ⟨w, rfl, hw⟩ := rd.one_v
      rw [← r.length] at hz
      exact ⟨a, vs, w, rfl, rfl, ha, hz, k _ .non (by rw [List.length_append, List.length_singleton]; exact hz) (r.append (.one hw)) .none⟩
    · cases e
  | [], e => cases e
  | _ :: _ :: _, e => simp [dChg] at e
theorem chg_reverse : ChgSnd X "list.reverse" .reverse := by
  refine ⟨_, mt_reverse, fun A H a vs xs ws ds p ha hl r rd e Q k => ?_⟩
  match ds, e with
  | [], e =>
    cases e
    cases rd.nil_v
    exact ⟨a, vs, rfl, rfl, ha, k _ .non (by rw [List.length_reverse]; exact hl) r.reverse .none⟩
  | _ :: _, e => simp [dChg] at e
theorem chg_pop : ChgSnd X "list.pop" .pop := by
  refine ⟨_, mt_pop, fun A H a vs xs ws ds p ha hl r rd e Q k => ?_⟩
  match ds, e with
  | [], e =>
    simp only [dChg] at e
    split at e
    · cases e
    · rename_i z hz
      cases e
      cases rd.nil_v
      rw [List.getLast?_eq_getElem?] at hz
      obtain ⟨w, h1, h2⟩ := r.get _ hz
      rw [← r.length] at h1
      exact ⟨a, vs, w, rfl, rfl, ha, h1, k _ w (by rw [List.length_dropLast]; omega) r.dropLast h2⟩
  | _ :: _, e => simp [dChg] at e
theorem chg_popAt : ChgSnd X "list.pop" .popAt := by
  refine ⟨_, mt_popAt, fun A H a vs xs ws ds p ha hl r rd e Q k => ?_⟩
  match ds, e with
  | [.int i], e =>
    simp only [dChg] at e
    cases e1 : ixN xs.length i with
    | none => rw [e1] at e; cases e
    | some j =>
      rw [e1] at e
      cases e2 : xs[j]? with
      | none => simp [e2] at e
      | some z =>
        simp only [e2, Option.bind_some, Option.map_some, Option.some.injEq] at e
        cases e
        obtain ⟨w0, rfl, hw⟩ := rd.one_v
        cases hw
        obtain ⟨w, h1, h2⟩ := r.get _ e2
        rw [← r.length] at e1
        obtain ⟨q1, q2, q3, q4⟩ := ixN_seq e1
        have hz : (sizeLine : Int) ≤ 2 ^ 62 := by decide
        refine ⟨a, vs, i, j, w, rfl, rfl, ha, by omega, by omega, q1, h1, k _ w (Nat.le_trans (List.length_eraseIdx_le _ _) hl) (r.erase j) h2⟩
  | [], e => cases e
  | [.none], e => simp [dChg] at e
  | [.bool _], e => simp [dChg] at e
  | [.str _], e => simp [dChg] at e
  | [.list _], e => simp [dChg] at e
  | [.tuple _], e => simp [dChg] at e
  | [.dict _], e => simp [dChg] at e
  | _ :: _ :: _, e => simp [dChg] at e
theorem chg_insert : ChgSnd X "list.insert" .insert := by
  refine ⟨_, mt_insert, fun A H a vs xs ws ds p ha hl r rd e Q k => ?_⟩
  have hd : ∃ i d, ds = [.int i, d] := by
    unfold dChg at e
    split at e <;> simp_all
  obtain ⟨i, d, rfl⟩ := hd
  simp only [dChg] at e
  split at e
  · rename_i hz
    cases e
    cases rd with
    | cons h1 h2 =>
      cases h1
      obtain ⟨w, rfl, hw⟩ := h2.one_v
      have hz3 := hz.2.2
      rw [← r.length] at hz3
      refine ⟨a, vs, i, w, rfl, rfl, ha, hz3, hz.1, hz.2.1, k _ .non ?_ ((r.take _).append (.one hw) |>.append (r.drop _)) .none⟩
      simp only [List.length_append, List.length_take, List.length_drop, List.length_singleton]
      omega
  · cases e
theorem chg_extend : ChgSnd X "list.extend" .extend := by
  refine ⟨_, mt_extend, fun A H a vs xs ws ds p ha hl r rd e Q k => ?_⟩
  have hd : ∃ ys, ds = [.list ys] := by
    unfold dChg at e
    split at e <;> simp_all
  obtain ⟨ys, rfl⟩ := hd
  simp only [dChg] at e
  split at e
  · rename_i hz
    cases e
    obtain ⟨w, rfl, hw⟩ := rd.one_v
    cases hw with
    | @lst b zs _ g1 g2 g3 g4 =>
      have hz' : vs.length + zs.length ≤ sizeLine := by rw [r.length, g4.length]; exact hz
      exact ⟨a, b, vs, zs, rfl, rfl, ha, g2, hz', k _ .non (by rw [List.length_append]; exact hz') (r.append g4) .none⟩
  · cases e
/-- x.remove(d), data of any depth -/
def rRemD (K : PySem.W.Frag) : V → List V → Hp → VK → Prop := fun x xs H Q => ∃ (l : Addr) (y : V) (d : D) (vs : List V) (ds : List D) (j : Nat), x = .ref l ∧ xs = [y] ∧ H l = some (.lst vs) ∧ Dp K H (.ref l) (.list ds) ∧ DpAll K H vs ds ∧ Dp K H y d ∧
  SeqAt.shaped (.list ds) = true ∧ SeqAt.shaped d = true ∧ indexD d ds = some j ∧ Q .non (upd H l (.lst (vs.eraseIdx j)))
theorem indexD_find (d : D) : ∀ ds : List D, indexD d ds = SeqAt.dataPlace ds d
  | [] => rfl
  | x :: r => by
    unfold indexD SeqAt.dataPlace
    rw [List.findIdx?_cons, indexD_find d r]
    rfl
theorem vals_erase : ∀ {vs : List V} {us : List Value} (j : Nat), Vals vs us → Vals (vs.eraseIdx j) (us.eraseIdx j)
  | _, _, _, .nil => by simp; exact .nil
  | _, _, 0, .cons _ h => h
  | _, _, j + 1, .cons r h => .cons r (vals_erase j h)
theorem mt_removeD (hu : X.A.units + 65 < cLine) : MtM X "list.remove" (rRemD X.K) := by
  intro pins s σ H x xs v us Q I rx rxs h
  obtain ⟨l, y, d, vs, ds, j, rfl, rfl, hH, hl, hv, hy, sl, sd, hj, q⟩ := h
  cases rx
  obtain ⟨u, rfl, ru⟩ := rxs.one
  obtain ⟨z, its, n, r, hlen, e⟩ := I.lstM hH
  obtain ⟨bs, r1⟩ := Dp.reads I d y u hy ru
  obtain ⟨as, r2⟩ := Dp.readsAll I ds _ its hv r
  have c1 : PyData.canLay0 (.list ds) = true := SeqAt.canLay_of_shaped sl
  have c2 := SeqAt.canLay_of_shaped sd
  have p1 := PyData.plain_of_canLay0 _ c1
  have p2 := PyData.plain_of_canLay0 _ c2
  refine SeqAt.remove_list_data (vs := its.toArray) ⟨_, e, rfl, n, rfl⟩ (by simpa using r2) r1 (by simpa [PyData.plain] using p1) p2 (PyProof.Rows.room_in_shaped sd hu) (by rw [← indexD_find]; exact hj) (by rw [List.size_toArray, ← hlen]; exact z) ?_
  refine ⟨.non, _, I.lset (its' := its.eraseIdx j) (t' := s.toks) hH e ?_ (vals_erase j r) ?_, rfl, q⟩
  · show its.toArray.eraseIdxIfInBounds j = (its.eraseIdx j).toArray
    rw [List.eraseIdxIfInBounds_toArray]
  · exact Nat.le_trans (List.length_eraseIdx_le _ _) z
theorem chg_remove (hu : X.A.units + 65 < cLine) : ChgSnd X "list.remove" .remove := by
  refine ⟨_, mt_removeD hu, fun A H a vs xs ws ds p ha hl r rd e Q k => ?_⟩
  have hd : ∃ d, ds = [d] := by
    unfold dChg at e
    split at e <;> simp_all
  obtain ⟨d, rfl⟩ := hd
  simp only [dChg] at e
  split at e
  · rename_i hz
    rw [Bool.and_eq_true] at hz
    cases e1 : indexD d xs with
    | none => rw [e1] at e; cases e
    | some j =>
      rw [e1] at e
      cases e
      obtain ⟨w, rfl, hw⟩ := rd.one_v
      exact ⟨a, w, d, vs, xs, j, rfl, rfl, ha, .lst (SqL.of ha) r.dp, r.dp, hw.dp, hz.2, hz.1, e1, k _ .non (Nat.le_trans (List.length_eraseIdx_le _ _) hl) (r.erase j) .none⟩
  · cases e
theorem few_ok {es : List Expr} {env : PySem.Env} {pos : Pos} (h : es.all notStar = true) (hl : es.length < 29) : ((backTo pos (starEach es env)).all (fun x => !x.1) && (backToKw pos (keywordEach [] env)).all (fun x => x.1.isSome)
      && decide (es.length + ([] : List Keyword).length + (if ([] : List Keyword).isEmpty then 0 else 1) < 30)) = true := by
  have h1 : (backTo pos (starEach es env)).all (fun x => !x.1) = true := by
    have := star_any (env := env) (pos := pos) h
    rw [List.all_eq_not_any_not]
    simpa using this
  rw [h1]
  simp [keywordEach, backToKw]
  omega
/-- x.m(e, ..) -/
theorem snd_chg (C : CtxOk X N q F) {m : Cth} {id : String} {i : Nat} {x : Str} {e es px apos cpos fs} (hc : ChgSnd X id m) (slot : PySem.Slot "list" (Str.ofString (cthName m)) id) (hty : typeOf (.builtin id) = pure (.type "method_descriptor"))
    (hx : nameB N q i x = true) (hi : i < N.length) (st : (e :: es).all notStar = true) (hf : (e :: es).length < 29) (hl : (apos.endLine == cpos.line) = true) (hs : SndA X (e :: es) fs) :
    SndE X (.Call (.Attribute (.Name x px) (Str.ofString (cthName m)) apos) (e :: es) [] cpos) (fChg m i fs) := by
  obtain ⟨r, pr, qr⟩ := hc
  obtain ⟨ts, ps, qs⟩ := hs
  have st' := st
  rw [List.all_cons, Bool.and_eq_true] at st'
  refine ⟨_, pe_bm PySem.F.plainAttrs_list slot hty pr (pe_name C hx) ps rfl (few_ok st hf) hl (star_cons st'.1) (star_any st'.2), fun A H σ ρ r ρ' ft e Q k => ?_⟩
  refine chg_core qs qr ?_ ft e k
  unfold fChg rd at e
  split at e
  · rename_i e0
    split at e0
    · rename_i s hs
      rw [ft.len]
      exact (List.getElem?_eq_some_iff.mp hs).1
    · cases e0
  · cases e
theorem snd_chg0 (C : CtxOk X N q F) {m : Cth} {id : String} {i : Nat} {x : Str} {px apos cpos} (hc : ChgSnd X id m) (slot : PySem.Slot "list" (Str.ofString (cthName m)) id) (hty : typeOf (.builtin id) = pure (.type "method_descriptor"))
    (hx : nameB N q i x = true) (hl : (apos.endLine == cpos.line) = true) :
    SndE X (.Call (.Attribute (.Name x px) (Str.ofString (cthName m)) apos) [] [] cpos) (fChg m i (fun ρ => some ([], ρ))) := by
  obtain ⟨r, pr, qr⟩ := hc
  refine ⟨_, pe_bm0 PySem.F.plainAttrs_list slot hty pr (pe_name C hx) rfl hl, fun A H σ ρ r ρ' ft e Q k => ?_⟩
  have hi : i < σ.length := by
    unfold fChg rd at e
    split at e
    · rename_i e0
      split at e0
      · rename_i s hs
        rw [ft.len]
        exact (List.getElem?_eq_some_iff.mp hs).1
      · cases e0
    · cases e
  have h := chg_core (K := X.K) (t := tNil) (fun A H σ ρ r ρ' ft e Q k => by cases e; exact k A H [] (Stp.refl ft) .nil) qr hi ft e k
  obtain ⟨v, h1, h2, h3⟩ := h
  exact ⟨v, h1, h2, h3⟩

/-! ### calls -/
theorem args_at {A H σ} {ρ : Env} : ∀ {ks os ss vs}, argsOf ρ ks os = some ss → OpdsOk A H σ vs os → vs.length = ks.length ∧ ss.length = ks.length ∧ os.length = ks.length ∧
    ∀ (n : Nat) s, ss[n]? = some s → ∃ k o v, ks[n]? = some k ∧ os[n]? = some o ∧ vs[n]? = some v ∧ argOf ρ k o = some s ∧ OpdOk A H σ v o
  | [], [], ss, [], e, _ => by cases e; exact ⟨rfl, rfl, rfl, fun n s h => by simp at h⟩
  | [], [], ss, _ :: _, e, h => h.elim
  | _ :: _, [], _, _, e, _ => by simp [argsOf] at e
  | [], _ :: _, _, _, e, _ => by simp [argsOf] at e
  | _ :: _, _ :: _, _, [], _, h => h.elim
  | k :: ks, o :: os, ss, v :: vs, e, ⟨h1, h2⟩ => by
    unfold argsOf at e
    split at e
    · cases e
    · rename_i s0 e1
      split at e
      · cases e
      · rename_i ss0 e2
        cases e
        obtain ⟨l1, l2, l3, g⟩ := args_at e2 h2
        refine ⟨by simp [l1], by simp [l2], by simp [l3], fun n s hn => ?_⟩
        cases n with
        | zero => simp at hn; subst hn; exact ⟨k, o, v, rfl, rfl, rfl, e1, h1⟩
        | succ n => obtain ⟨k', o', v', a1, a2, a3, a4, a5⟩ := g n s (by simpa using hn); exact ⟨k', o', v', by simpa using a1, by simpa using a2, by simpa using a3, a4, a5⟩
theorem arg_live {ρ : Env} {k o s} (h : argOf ρ k o = some s) (l : live s = true) : k = .M ∧ ∃ i t, o = .sl i ∧ ρ[i]? = some t ∧ mutS t = true := by
  unfold argOf at h
  split at h
  · cases h; cases l
  · split at h <;> first | (cases h; done) | (cases h; cases l; done)
  · cases h; cases l
  · cases h
  · cases h
  · split at h
    · cases h; exact ⟨rfl, _, _, rfl, by assumption, rfl⟩
    · cases h; exact ⟨rfl, _, _, rfl, by assumption, rfl⟩
    · cases h
theorem arg_liveB {ρ : Env} {k o s} (h : argOf ρ k o = some s) (l : liveB s = true) : ∃ i t, o = .sl i ∧ ρ[i]? = some t ∧ liveB t = true := by
  unfold argOf at h
  split at h
  · cases h; cases l
  · split at h
    · cases h; cases l
    all_goals first | (cases h; done) | (cases h; cases l; done) | (cases h; exact ⟨_, _, rfl, by assumption, rfl⟩)
  · cases h; cases l
  · cases h
  · cases h
  · split at h
    · cases h; exact ⟨_, _, rfl, by assumption, rfl⟩
    · cases h; exact ⟨_, _, rfl, by assumption, rfl⟩
    · cases h
theorem arg_ok {A H σ v} {ρ : Env} {k o s} (f : Fit A H σ ρ) (h : argOf ρ k o = some s) (ok : OpdOk A H σ v o) : SlotOk A H (some v) s := by
  unfold argOf at h
  split at h
  · cases h; exact ⟨v, rfl, ok⟩
  · rename_i i
    split at h
    · rename_i d e; cases h; exact f.slot i _ _ e ok
    · rename_i ds e; cases h; obtain ⟨a, vs, q1, q2, q3, q4, _⟩ := f.slot i _ _ e ok; exact ⟨a, vs, q1, q2, q3, q4⟩
    · rename_i ds e; cases h; obtain ⟨a, vs, q1, q2, q3, q4, _⟩ := f.slot i _ _ e ok; exact ⟨a, vs, q1, q2, q3, q4⟩
    · rename_i ds e; cases h; exact f.slot i _ _ e ok
    · rename_i ds e; cases h; obtain ⟨a, vs, q1, q2, q3, q4, _⟩ := f.slot i _ _ e ok; exact ⟨a, vs, q1, q2, q3, q4⟩
    · rename_i ds e; cases h; exact f.slot i _ _ e ok
    · cases h
  · cases h; exact ⟨v, rfl, ok⟩
  · cases h
  · cases h
  · rename_i i
    split at h
    · rename_i ds e; cases h; exact f.slot i (.own ds) _ e ok
    · rename_i ds e; cases h; exact f.slot i _ _ e ok
    · cases h
theorem pair_ne {ks : List PK} {os : List Opd} (h : apartB ks os = true) {n m i j : Nat} {k k' : PK} (nm : n ≠ m) (a1 : ks[n]? = some k) (a2 : os[n]? = some (Opd.sl i)) (b1 : ks[m]? = some k') (b2 : os[m]? = some (Opd.sl j)) (hk : k = PK.M) : i ≠ j := by
  unfold apartB at h
  rw [decide_eq_true_eq, List.pairwise_iff_getElem] at h
  have z1 : (ks.zip os)[n]? = some (k, .sl i) := by rw [List.getElem?_zip_eq_some]; exact ⟨a1, a2⟩
  have z2 : (ks.zip os)[m]? = some (k', .sl j) := by rw [List.getElem?_zip_eq_some]; exact ⟨b1, b2⟩
  obtain ⟨l1, y1⟩ := List.getElem?_eq_some_iff.mp z1
  obtain ⟨l2, y2⟩ := List.getElem?_eq_some_iff.mp z2
  rcases Nat.lt_or_gt_of_ne nm with lt | lt
  · have := h n m l1 l2 lt
    rw [y1, y2] at this
    simp [okPair, hk] at this
    exact this
  · have := h m n l2 l1 lt
    rw [y1, y2] at this
    simp [okPair, hk] at this
    exact fun z => this z.symm
theorem arg_nodp {ρ : Env} {k o s} (h : argOf ρ k o = some s) (kk : DK) (d : D) : s ≠ .dp kk d := by
  intro z
  subst z
  unfold argOf at h
  split at h
  · cases h
  · split at h <;> cases h
  · cases h
  · cases h
  · cases h
  · split at h <;> cases h
theorem args_fit {A H σ vs} {ρ : Env} {ks os ss} (f : Fit A H σ ρ) (e : argsOf ρ ks os = some ss) (ok : OpdsOk A H σ vs os) (ap : apartB ks os = true) : Fit A H (vs.map some) ss := by
  obtain ⟨l1, l2, l3, g⟩ := args_at e ok
  have gv : ∀ (n : Nat) s, ss[n]? = some s → ∃ k o v, ks[n]? = some k ∧ os[n]? = some o ∧ (vs.map some)[n]? = some (some v) ∧ argOf ρ k o = some s ∧ OpdOk A H σ v o := fun n s hn => by
    obtain ⟨k, o, v, a1, a2, a3, a4, a5⟩ := g n s hn
    exact ⟨k, o, v, a1, a2, by rw [List.getElem?_map, a3]; rfl, a4, a5⟩
  refine ⟨by rw [List.length_map, l1, l2], fun n s ov h1 h2 => ?_, fun n m s t a nm h1 h2 h3 h4 h5 h6 => ?_, f.trk, fun n kk d v a h1 _ _ => by
    obtain ⟨k, o, v, a1, a2, a3, a4, a5⟩ := gv n _ h1
    exact absurd rfl (arg_nodp a4 kk d)⟩
  · obtain ⟨k, o, v, a1, a2, a3, a4, a5⟩ := gv n s h1
    rw [a3] at h2; cases h2
    exact arg_ok f a4 a5
  · obtain ⟨k, o, v, a1, a2, a3, a4, a5⟩ := gv n s h1
    obtain ⟨k', o', v', b1, b2, b3, b4, b5⟩ := gv m t h2
    rw [a3] at h5; cases h5
    rw [b3] at h6; cases h6
    obtain ⟨hk, i, si, rfl, c1, c2⟩ := arg_live a4 h3
    obtain ⟨j, sj, rfl, d1, d2⟩ := arg_liveB b4 h4
    have ij := pair_ne ap nm a1 a2 b1 b2 hk
    exact f.apart i j si sj a ij c1 d1 (by cases si <;> first | rfl | (cases c2; done)) d2 a5 b5
theorem muts_at : ∀ {ks : List PK} {os : List Opd} {n i : Nat}, (muts ks os)[n]? = some i → ∃ m : Nat, ks[m]? = some PK.M ∧ os[m]? = some (Opd.sl i)
  | [], _, n, i, h => by simp [muts] at h
  | k :: ks, [], n, i, h => by cases k <;> simp [muts] at h
  | k :: ks, o :: os, n, i, h => by
    have go : (muts ks os)[n]? = some i ∨ (∃ n', n = n' + 1 ∧ (muts ks os)[n']? = some i) ∨ (n = 0 ∧ k = .M ∧ o = .sl i) := by
      cases k <;> cases o <;> first
        | exact .inl h
        | (cases n with
           | zero => simp [muts] at h; subst h; exact .inr (.inr ⟨rfl, rfl, rfl⟩)
           | succ n => exact .inr (.inl ⟨n, rfl, by simpa [muts] using h⟩))
    rcases go with h | ⟨n', _, h⟩ | ⟨_, rfl, rfl⟩
    · obtain ⟨m, a, b⟩ := muts_at h; exact ⟨m + 1, by simpa using a, by simpa using b⟩
    · obtain ⟨m, a, b⟩ := muts_at h; exact ⟨m + 1, by simpa using a, by simpa using b⟩
    · exact ⟨0, rfl, rfl⟩
theorem muts_nodup : ∀ {ks os}, apartB ks os = true → (muts ks os).Nodup
  | [], _, _ => by simp [muts]
  | k :: ks, [], _ => by cases k <;> simp [muts]
  | k :: ks, o :: os, h => by
    have h' : apartB ks os = true := by
      unfold apartB at *
      rw [decide_eq_true_eq] at *
      rw [List.zip_cons_cons] at h
      exact (List.pairwise_cons.mp h).2
    have ih := muts_nodup h'
    cases k <;> cases o <;> first
      | exact ih
      | (rename_i i
         show (i :: muts ks os).Nodup
         refine List.nodup_cons.mpr ⟨fun hm => ?_, ih⟩
         obtain ⟨n, hn⟩ := List.getElem?_of_mem hm
         obtain ⟨m, a, b⟩ := muts_at hn
         exact pair_ne (n := 0) (m := m + 1) h (by omega) rfl rfl (by simpa using a) (by simpa using b) rfl rfl)
theorem outs_at : ∀ {is outs} {ρ ρ' : Env}, outsIn is outs ρ = some ρ' → is.Nodup → ρ'.length = ρ.length ∧ (∀ j, j ∉ is → ρ'[j]? = ρ[j]?) ∧
    ∀ (n i : Nat), is[n]? = some i → ∃ s ds, ρ[i]? = some s ∧ mutL s = true ∧ outs[n]? = some ds ∧ ρ'[i]? = some (withL s ds)
  | [], [], ρ, ρ', e, _ => by cases e; exact ⟨rfl, fun _ _ => rfl, fun n i h => by simp at h⟩
  | [], _ :: _, _, _, e, _ => by simp [outsIn] at e
  | _ :: _, [], _, _, e, _ => by simp [outsIn] at e
  | i :: is, ds :: outs, ρ, ρ', e, nd => by
    obtain ⟨n1, n2⟩ := List.nodup_cons.mp nd
    have go : ∀ s, ρ[i]? = some s → mutL s = true → outsIn is outs (ρ.set i (withL s ds)) = some ρ' → ρ'.length = ρ.length ∧ (∀ j, j ∉ i :: is → ρ'[j]? = ρ[j]?) ∧
        ∀ (n j : Nat), (i :: is)[n]? = some j → ∃ s es, ρ[j]? = some s ∧ mutL s = true ∧ (ds :: outs)[n]? = some es ∧ ρ'[j]? = some (withL s es) := fun s hs hm e => by
      obtain ⟨a1, a2, a3⟩ := outs_at e n2
      refine ⟨by rw [a1, List.length_set], fun j hj => ?_, fun n j hn => ?_⟩
      · rw [a2 j (fun z => hj (List.mem_cons_of_mem _ z)), List.getElem?_set_ne (fun z => hj (by rw [z]; exact List.mem_cons_self))]
      · cases n with
        | zero => simp at hn; subst hn; exact ⟨s, ds, hs, hm, rfl, by rw [a2 i n1]; exact set_get hs⟩
        | succ n =>
          have hn' : is[n]? = some j := by simpa using hn
          have ji : i ≠ j := fun z => n1 (by rw [z]; exact List.mem_of_getElem? hn')
          obtain ⟨t, es, b1, b2, b3, b4⟩ := a3 n j hn'
          rw [List.getElem?_set_ne ji] at b1
          exact ⟨t, es, b1, b2, by simpa using b3, b4⟩
    unfold outsIn at e
    split at e
    · rename_i xs hs; exact go _ hs rfl e
    · rename_i xs hs; exact go _ hs rfl e
    · cases e
theorem args_tail {ρ : Env} {k ks o os ss} (h : argsOf ρ (k :: ks) (o :: os) = some ss) : ∃ s ss', argOf ρ k o = some s ∧ argsOf ρ ks os = some ss' := by
  unfold argsOf at h
  split at h
  · cases h
  · rename_i s e1
    split at h
    · cases h
    · rename_i ss' e2
      exact ⟨s, ss', e1, e2⟩
theorem outsOk_at {A H A0 H0 σ} {ρ : Env} : ∀ {ks os vs outs ss}, argsOf ρ ks os = some ss → OutsOk A H ks vs outs → OpdsOk A0 H0 σ vs os → ∀ (n i : Nat), (muts ks os)[n]? = some i →
    ∃ a ws ds, σ[i]? = some (some (.ref a)) ∧ outs[n]? = some ds ∧ H a = some (.lst ws) ∧ ws.length ≤ sizeLine ∧ RepAll A H ws ds ∧ ¬ A a
  | [], os, vs, outs, _, _, _, _, n, i, h => by simp [muts] at h
  | k :: ks, [], vs, outs, _, _, _, _, n, i, h => by cases k <;> simp [muts] at h
  | k :: ks, o :: os, [], outs, _, _, _, h, _, _, _ => h.elim
  | .B :: ks, o :: os, v :: vs, outs, _, e, q, ⟨_, h2⟩, n, i, h => by
    obtain ⟨_, _, _, e2⟩ := args_tail e
    exact outsOk_at (ks := ks) e2 q h2 n i (by cases o <;> exact h)
  | .I :: ks, o :: os, v :: vs, outs, _, e, q, ⟨_, h2⟩, n, i, h => by
    obtain ⟨_, _, _, e2⟩ := args_tail e
    exact outsOk_at (ks := ks) e2 q h2 n i (by cases o <;> exact h)
  | .M :: ks, o :: os, v :: vs, [], _, _, q, _, n, i, h => q.elim
  | .M :: ks, .v d :: os, v :: vs, ds :: outs, _, e, _, _, n, i, h => by
    obtain ⟨_, _, e1, _⟩ := args_tail e
    cases e1
  | .M :: ks, .sl j :: os, v :: vs, ds :: outs, _, e, ⟨q1, q2⟩, ⟨h1, h2⟩, n, i, h => by
    obtain ⟨_, _, _, e2⟩ := args_tail e
    cases n with
    | zero =>
      simp [muts] at h; subst h
      obtain ⟨a, ws, rfl, z1, z2, z3, z4⟩ := q1
      exact ⟨a, ws, ds, h1, rfl, z1, z2, z3, z4⟩
    | succ n =>
      obtain ⟨a, ws, es, z0, z1, z2⟩ := outsOk_at e2 q2 h2 n i (by simpa [muts] using h)
      exact ⟨a, ws, es, z0, by simpa using z1, z2⟩
theorem muts_of : ∀ {ks : List PK} {os : List Opd} {m i : Nat}, ks[m]? = some PK.M → os[m]? = some (Opd.sl i) → i ∈ muts ks os
  | [], _, m, i, h, _ => by simp at h
  | k :: ks, [], m, i, _, h => by simp at h
  | k :: ks, o :: os, 0, i, h1, h2 => by
    simp at h1 h2; subst h1 h2
    exact List.mem_cons_self
  | k :: ks, o :: os, m + 1, i, h1, h2 => by
    have := muts_of (ks := ks) (os := os) (m := m) (by simpa using h1) (by simpa using h2)
    cases k <;> cases o <;> first | exact this | exact List.mem_cons_of_mem _ this
/-- behind a call -/
theorem call_stp {A H σ vs A' H' ρ2} {ρ : Env} {ks os ss outs} (f : Fit A H σ ρ) (e : argsOf ρ ks os = some ss) (ok : OpdsOk A H σ vs os) (ap : apartB ks os = true) (eo : outsIn (muts ks os) outs ρ = some ρ2)
    (e1 : ∀ a, A a → A' a) (e2 : ∀ a o, H a = some o → ¬ Mut (vs.map some) ss a → H' a = some o) (e3 : ∀ a, H' a = none → H a = none) (e4 : ∀ a, A' a → A a ∨ H a = none) (e5 : ∀ a, A' a → ∃ o, H' a = some o) (e6 : OutsOk A' H' ks vs outs) :
    Stp A H σ ρ A' H' σ ρ2 ∧ (∀ (i : Nat) (t : Slot), ρ2[i]? = some t → ∃ s, ρ[i]? = some s ∧ liveB t = liveB s) ∧ ∀ a, Prv H' σ ρ2 a → Prv H σ ρ a := by
  obtain ⟨l1, l2, l3, g⟩ := args_at e ok
  have ok0 := ok
  have nd := muts_nodup ap
  obtain ⟨o1, o2, o3⟩ := outs_at eo nd
  have ko := outsOk_at e e6 ok
  -- what is Mut among the arguments
  have mutA : ∀ a, Mut (vs.map some) ss a → ∃ i, i ∈ muts ks os ∧ σ[i]? = some (some (.ref a)) := fun a ⟨n, s, h1, h2, h3⟩ => by
    obtain ⟨k, o, v, a1, a2, a3, a4, a5⟩ := g n s h1
    obtain ⟨rfl, i, t, rfl, b1, b2⟩ := arg_live a4 (by cases s <;> first | rfl | (cases h2; done))
    rw [List.getElem?_map, a3] at h3
    cases h3
    exact ⟨i, muts_of a1 a2, a5⟩
  have mutM : ∀ a i, i ∈ muts ks os → σ[i]? = some (some (.ref a)) → Mut σ ρ a := fun a i hi hs => by
    obtain ⟨n, hn⟩ := List.getElem?_of_mem hi
    obtain ⟨s, ds, b1, b2, _⟩ := o3 n i hn
    exact ⟨i, s, b1, mutL_S b2, hs⟩
  -- each slot behind
  have back : ∀ (i : Nat) (t : Slot), ρ2[i]? = some t → (i ∉ muts ks os ∧ ρ[i]? = some t) ∨ ∃ n s ds, (muts ks os)[n]? = some i ∧ ρ[i]? = some s ∧ mutL s = true ∧ outs[n]? = some ds ∧ t = withL s ds := fun i t h => by
    by_cases hi : i ∈ muts ks os
    · obtain ⟨n, hn⟩ := List.getElem?_of_mem hi
      obtain ⟨s, ds, b1, b2, b3, b4⟩ := o3 n i hn
      rw [b4] at h; cases h
      exact .inr ⟨n, s, ds, hn, b1, b2, b3, rfl⟩
    · rw [o2 i hi] at h; exact .inl ⟨hi, h⟩
  have kinds : ∀ (i : Nat) (t : Slot), ρ2[i]? = some t → ∃ s, ρ[i]? = some s ∧ liveB t = liveB s ∧ live t = live s ∧ mutS t = mutS s := fun i t h => by
    rcases back i t h with ⟨_, h⟩ | ⟨n, s, ds, _, h9, hm, _, rfl⟩
    · exact ⟨t, h, rfl, rfl, rfl⟩
    · exact ⟨s, h9, by cases s <;> rfl, by cases s <;> rfl, by cases s <;> rfl⟩
  have frame : ∀ a o, H a = some o → ¬ Mut σ ρ a → H' a = some o := fun a o h n => e2 a o h fun m => by
    obtain ⟨i, hi, hs⟩ := mutA a m
    exact n (mutM a i hi hs)
  have keep : Keep A H H' := fun a o ha h => frame a o h (f.nomut ha)
  have sub : ∀ a, Mut σ ρ2 a → Mut σ ρ a := fun a ⟨i, t, h1, h2, h3⟩ => by
    obtain ⟨s, q1, _, _, q2⟩ := kinds i t h1
    exact ⟨i, s, q1, by rw [← q2]; exact h2, h3⟩
  have dps : ∀ (j : Nat) k2 d2, ρ2[j]? = some (Slot.dp k2 d2) → ρ[j]? = some (.dp k2 d2) ∧ σ[j]? = σ[j]? := fun j k2 d2 h => by
    rcases back j _ h with ⟨_, h⟩ | ⟨n, s, ds, _, h9, hm, _, z⟩
    · exact ⟨h, rfl⟩
    · cases s <;> first | (cases hm; done) | (cases z; done)
  have kl : ∀ b o, Prv H σ ρ b → H b = some o → H' b = some o := fun b o hp h => frame b o h fun m => f.mut_prv m hp
  have pb := f.prv_back dps keep kl
  refine ⟨⟨e1, fun a o h n _ => frame a o h n, e3, fun a m => .inl (sub a m), fun i ds h => ⟨rfl, ?_⟩, fun a h => (e4 a h).elim .inl fun z => .inr (.inl z), fun i ds h o => ?_, fun b hb => .inr (.inl (pb b hb)), ⟨by rw [o1]; exact f.len, fun i t ov h1 h2 => ?_, fun i j s t a ij h1 h2 h3 h4 h5 h6 => ?_, e5, f.prv_go dps keep kl fun j t b h1 h2 h3 => (let ⟨s, q1, q2, _⟩ := kinds j t h1; .inl ⟨j, s, q1, by rw [← q2]; exact h2, h3⟩)⟩⟩, fun i t h => let ⟨s, q1, q2, _⟩ := kinds i t h; ⟨s, q1, q2⟩, pb⟩
  · by_cases hi : i ∈ muts ks os
    · obtain ⟨n, hn⟩ := List.getElem?_of_mem hi
      obtain ⟨s, es, b1, b2, b3, b4⟩ := o3 n i hn
      rw [h] at b1; cases b1
      exact ⟨es, b4⟩
    · exact ⟨ds, by rw [o2 i hi]; exact h⟩
  · rcases back i _ h with ⟨_, h⟩ | ⟨n, s, es, _, h, hm, _, z⟩
    · exact ⟨h, rfl⟩
    · subst z; cases s <;> first | (cases hm; done) | (cases o; done)
  · rcases back i t h1 with ⟨hi, h⟩ | ⟨n, s, ds, hn, h, hm, hd, rfl⟩
    · have ok := f.slot i t ov h h2
      refine ok.go e1 keep (fun a o lb z w => ?_) (fun a lt z hb => ?_) (fun a o u w => e2 a _ w fun m => (by
        exact (args_fit f e ok0 ap).mut_nofrz m _ _ w)) (fun k2 d2 w b o ez z l e => by subst ez z; exact kl b o ⟨i, k2, d2, w, h, h2, l⟩ e) (fun k2 d2 w b ez z l hb => by
        subst ez z
        obtain ⟨z1, vs, z2⟩ := f.lr h h2 l
        rcases e4 b hb with z | z
        · exact z1 z
        · rw [z] at z2; cases z2)
      · subst z
        refine e2 a o w fun m => ?_
        obtain ⟨j, hj, hs⟩ := mutA a m
        obtain ⟨n, hn⟩ := List.getElem?_of_mem hj
        obtain ⟨s, es, b1, b2, _⟩ := o3 n j hn
        exact f.apart j i s t a (fun z => hi (z ▸ hj)) b1 h (by cases s <;> first | rfl | (cases b2; done)) lb hs h2
      · subst z
        rcases e4 a hb with z | z
        · exact ok.nofz lt z
        · exact f.noref z i t h (liveB_of lt) h2
    · obtain ⟨a, ws, es, z0, z1, z2, z3, z4, z5⟩ := ko n i hn
      rw [hd] at z1; cases z1
      rw [h2] at z0; cases z0
      cases s <;> first | (cases hm; done) | exact ⟨a, ws, rfl, z2, z3, z4, z5⟩
  · obtain ⟨s', q1, q2, q3, _⟩ := kinds i s h1
    obtain ⟨t', r1, r2, _⟩ := kinds j t h2
    exact f.apart i j s' t' a ij q1 r1 (by rw [← q3]; exact h3) (by rw [← r2]; exact h4) h5 h6

def fCall (g : Option (List PK × Fn)) (fs : List PK → Env → Option (List Opd × Env)) (ρ : Env) : Option (Res × Env) := match g with
    | none => none
    | some (ks, fn) => match fs ks ρ with
      | none => none
      | some (os, ρ1) => if apartB ks os = false then none else
        match argsOf ρ1 ks os with
        | none => none
        | some ss => match fn ss with
          | none => none
          | some (r, outs) => match outsIn (muts ks os) outs ρ1 with
            | none => none
            | some ρ2 => some (r, ρ2)
theorem call_fin {A H σ vs} {ρ : Env} {ks fn os ss r outs ρ2} (f : Fit A H σ ρ) (ok : OpdsOk A H σ vs os) (ap : apartB ks os = true) (e : argsOf ρ ks os = some ss) (ef : fn ss = some (r, outs)) (eo : outsIn (muts ks os) outs ρ = some ρ2)
    (Q : VK) (E : XK) (k : ∀ A' H' v, Stp A H σ ρ A' H' σ ρ2 → ResOk A' H H' σ ρ2 v r → Q v H') : spOf ks fn vs H Q E := by
  obtain ⟨l1, _⟩ := args_at e ok
  refine ⟨l1, A, ss, r, outs, args_fit f e ok ap, ef, fun A' H' v e1 e2 e3 e4 e5 e6 e7 => ?_⟩
  obtain ⟨s, kd, pb⟩ := call_stp f e ok ap eo e1 e2 e3 e4 e5 e7
  refine k A' H' v s ?_
  cases r with
  | fr d => exact e6
  | nw ds =>
    obtain ⟨a, ws, q1, q2, q3, q4, q5, q6⟩ := e6
    refine ⟨a, ws, q1, q2, q3, q4, q5, q6, fun i t h1 h2 => ?_, fun z => f.noprv_none q6 (pb a z)⟩
    obtain ⟨t', z1, z2⟩ := kd i t h1
    exact f.noref q6 i t' z1 (by rw [← z2]; exact h2)
theorem fcall_inv {g fs ρ r ρ'} (e : fCall g fs ρ = some (r, ρ')) : ∃ ks fn os ρ1 ss outs, g = some (ks, fn) ∧ fs ks ρ = some (os, ρ1) ∧ apartB ks os = true ∧ argsOf ρ1 ks os = some ss ∧ fn ss = some (r, outs) ∧ outsIn (muts ks os) outs ρ1 = some ρ' := by
  unfold fCall at e
  split at e
  · cases e
  · rename_i ks fn
    split at e
    · cases e
    · rename_i os ρ1 e2
      split at e
      · cases e
      · rename_i e3
        split at e
        · cases e
        · rename_i ss e4
          split at e
          · cases e
          · rename_i r' outs e5
            split at e
            · cases e
            · rename_i ρ2 e6
              cases e
              exact ⟨ks, fn, os, ρ1, ss, outs, rfl, e2, by simpa using e3, e4, e5, e6⟩
theorem snd_call (C : CtxOk X N q F) {f : String} {e es p pos} {fs : List PK → Env → Option (List Opd × Env)} (hg : glB q.sc (Str.ofString f) = true) (hd : (Str.ofString f == ("__debug__" : Str)) = false) (st : (e :: es).all notStar = true) (hs : ∀ ks, SndP X (e :: es) (fs ks)) :
    SndE X (.Call (.Name (Str.ofString f) p) (e :: es) [] pos) (fCall (F f) fs) := by
  rw [List.all_cons, Bool.and_eq_true] at st
  cases hf : F f with
  | none =>
    obtain ⟨t, p, _⟩ := hs []
    refine ⟨fun _ _ _ => False, ⟨fun _ _ _ _ _ _ h => h.elim⟩, fun A H σ ρ r ρ' ft e Q k => ?_⟩
    cases e
  | some g =>
    obtain ⟨ks, fn⟩ := g
    obtain ⟨ts, ps, qs⟩ := hs ks
    obtain ⟨fa, fd, prs, lv, m1, m2, m3, m4, m5⟩ := C.fns f ks fn hf
    refine ⟨_, pe_call m5 m4 (gl_of C hg) m1 m2 m3 .nil pass0 ps hd (star_cons st.1) (star_any st.2), fun A H σ ρ r ρ' ft e Q k => ?_⟩
    obtain ⟨ks', fn', os, ρ1, ss, outs, z1, z2, z3, z4, z5, z6⟩ := fcall_inv e
    cases z1
    refine qs A H σ ρ os ρ1 ft z2 _ fun A1 H1 vs s1 k1 => ?_
    rw [List.append_nil]
    exact call_fin s1.fit k1 z3 z4 z5 z6 Q E0 fun A2 H2 v s2 k2 => k A2 H2 v (s1.trans s2) (k2.start s1.dom)
theorem snd_call0 (C : CtxOk X N q F) {f : String} {p pos} {fs : List PK → Env → Option (List Opd × Env)} (hg : glB q.sc (Str.ofString f) = true) (hd : (Str.ofString f == ("__debug__" : Str)) = false) (hs : ∀ ks ρ os ρ', fs ks ρ = some (os, ρ') → os = [] ∧ ρ' = ρ) :
    SndE X (.Call (.Name (Str.ofString f) p) [] [] pos) (fCall (F f) fs) := by
  cases hf : F f with
  | none =>
    refine ⟨fun _ _ _ => False, ⟨fun _ _ _ _ _ _ h => h.elim⟩, fun A H σ ρ r ρ' ft e Q k => ?_⟩
    cases e
  | some g =>
    obtain ⟨ks, fn⟩ := g
    obtain ⟨fa, fd, prs, lv, m1, m2, m3, m4, m5⟩ := C.fns f ks fn hf
    refine ⟨_, pe_call0 m5 m4 (gl_of C hg) m1 m2 m3 .nil pass0 hd, fun A H σ ρ r ρ' ft e Q k => ?_⟩
    obtain ⟨ks', fn', os, ρ1, ss, outs, z1, z2, z3, z4, z5, z6⟩ := fcall_inv e
    cases z1
    obtain ⟨rfl, rfl⟩ := hs _ _ _ _ z2
    show spOf ks fn ([] ++ []) H Q E0
    exact call_fin (vs := []) (os := []) ft trivial z3 z4 z5 z6 Q E0 fun A2 H2 v s2 k2 => k A2 H2 v s2 k2
end
end Ev

set_option maxRecDepth 100000
/-! EvK: a call of flat answer, whose arguments are looked at without being frozen. -/
namespace Ev
open PySem L2
variable [TheK]
/-- whatever stands in the heap -/
def Any (H : Hp) (a : Addr) : Prop := ∃ o, H a = some o
theorem Any.grow {H H' : Hp} (k : ∀ a o, H a = some o → H' a = some o) : ∀ a, Any H a → Any H' a := fun a ⟨o, e⟩ => ⟨o, k a o e⟩
theorem Rep.any {H H' : Hp} {v d} (k : ∀ a o, H a = some o → H' a = some o) (h : Rep (Any H) H v d) : Rep (Any H') H' v d := Rep.mono (Any.grow k) (fun a o _ e => k a o e) h
theorem RepAll.any {H H' : Hp} {v d} (k : ∀ a o, H a = some o → H' a = some o) (h : RepAll (Any H) H v d) : RepAll (Any H') H' v d := RepAll.mono (Any.grow k) (fun a o _ e => k a o e) h
theorem RepW.anyRep {A : Addr → Prop} {H : Hp} {v d} (t : ∀ a, A a → Any H a) (h : RepW A H v d) : Rep (Any H) H v d := by
  rcases h with h | ⟨a, vs, ds, rfl, rfl, h1, h2, h3⟩
  · exact Rep.mono t (fun _ _ _ e => e) h
  · exact .lst ⟨_, h1⟩ h1 h2 (RepAll.mono t (fun _ _ _ e => e) h3)
section
variable {X : Cx} {N : List Str} {q : Sc} {F : FT}
def SndK (X : Cx) (e : Expr) (f : Env → Option D) : Prop := ∃ t : TE, PE X e t ∧
  ∀ A H σ ρ d, Fit A H σ ρ → f ρ = some d → ∀ Q : VK, (∀ H' v, (∀ a o, H a = some o → H' a = some o) → (∀ a, H' a = none → H a = none) → Rep (Any H') H' v d → Q v H') → t σ H Q
def SndKs (X : Cx) (es : List Expr) (f : Env → Option (List D)) : Prop := ∃ t : TA, PA X es t ∧
  ∀ A H σ ρ ds, Fit A H σ ρ → f ρ = some ds → ∀ Q : List V → Hp → Prop, (∀ H' vs, (∀ a o, H a = some o → H' a = some o) → (∀ a, H' a = none → H a = none) → RepAll (Any H') H' vs ds → Q vs H') → t σ H Q
theorem sndK_var (C : CtxOk X N q F) {i x pos} (h : nameB N q i x = true) : SndK X (.Name x pos) (fun ρ => pk ρ (.var i)) := by
  refine ⟨_, pe_name C h, fun A H σ ρ d ft e Q k => ?_⟩
  simp only [pk] at e
  have hov : ∃ v, σ[i]? = some (some v) := by
    simp only [rd] at e
    split at e
    · rename_i s hs
      obtain ⟨ov, e1, q⟩ := ft.at hs
      cases s <;> simp only [Slot.d?, reduceCtorEq] at e
      · obtain ⟨w, rfl, _⟩ := q; exact ⟨_, e1⟩
      all_goals (obtain ⟨a, vs, rfl, _⟩ := q; exact ⟨_, e1⟩)
    · cases e
  obtain ⟨v, hv⟩ := hov
  exact ⟨v, hv, k H v (fun _ _ h => h) (fun _ h => h) ((rd_ok ft hv e).anyRep ft.trk)⟩
theorem sndK_int {n k1 pos} : SndK X (.Constant (.int n) k1 pos) (fun ρ => pk ρ (.int n)) := by
  refine ⟨_, pe_int, fun A H σ ρ d ft e Q k => ?_⟩
  simp only [pk, Option.some.injEq] at e
  subst e
  exact k H _ (fun _ _ h => h) (fun _ h => h) .int
theorem sndK_tup {es : List Expr} {k2 pos} {ie : Es} (hs : SndKs X es (fun ρ => pks ρ ie)) : SndK X (.Tuple es k2 pos) (fun ρ => pk ρ (.tup ie)) := by
  obtain ⟨ts, ps, qs⟩ := hs
  refine ⟨_, pe_tup ps, fun A H σ ρ d ft e Q k => ?_⟩
  simp only [pk] at e
  split at e
  · rename_i ds e1
    split at e
    · rename_i hz
      cases e
      refine qs A H σ ρ ds ft e1 _ fun H1 vs k1 k1' k2 => ?_
      rw [← k2.length] at hz
      refine ⟨hz, fun p hp => ?_⟩
      have g := upd_grow (o := .tup vs) hp
      refine k _ _ (fun a o h => g a o (k1 a o h)) (fun a h => k1' a ?_) (.tup ⟨_, upd_same⟩ upd_same hz (k2.any g))
      cases e2 : H1 a with
      | none => rfl
      | some o => rw [g a o e2] at h; cases h
    · cases e
  · cases e
theorem sndKs_nil : SndKs X [] (fun ρ => pks ρ .nil) := ⟨_, pa_nil, fun A H σ ρ ds ft e Q k => by
  simp only [pks, Option.some.injEq] at e
  subst e
  exact k H [] (fun _ _ h => h) (fun _ h => h) .nil⟩
theorem sndKs_cons {e : Expr} {es : List Expr} {ie : E} {ies : Es} (hn : notStar e = true) (he : SndK X e (fun ρ => pk ρ ie)) (hs : SndKs X es (fun ρ => pks ρ ies)) : SndKs X (e :: es) (fun ρ => pks ρ (.cons ie ies)) := by
  obtain ⟨t, p, q⟩ := he
  obtain ⟨ts, ps, qs⟩ := hs
  refine ⟨_, pa_cons p ps (star_cons hn), fun A H σ ρ ds ft e Q k => ?_⟩
  simp only [pks] at e
  split at e
  · rename_i d e1
    split at e
    · rename_i ds' e2
      cases e
      refine q A H σ ρ d ft e1 _ fun H1 v k1 k1' k2 => ?_
      refine qs A H1 σ ρ ds' (ft.grow k1) e2 _ fun H2 vs k3 k3' k4 => ?_
      exact k H2 _ (fun a o h => k3 a o (k1 a o h)) (fun a h => k1' a (k3' a h)) (.cons (k2.any k3) k4)
    · cases e
  · cases e
theorem rep_flat {A A' : Addr → Prop} {H H' : Hp} {v d} (h : Rep A H v d) (f : isFlat d = true) : Rep A' H' v d := by
  cases h <;> first | (cases f; done) | constructor
theorem fit_any {H : Hp} : ∀ {vs : List V} {ds : List D}, RepAll (Any H) H vs ds → Fit (Any H) H (vs.map some) (ds.map .fz) := by
  intro vs ds h
  refine ⟨by rw [List.length_map, List.length_map, h.length], fun i s ov h1 h2 => ?_, fun i j s t a hij h1 h2 h3 => ?_, fun a h => h, fun i kk d v a h1 _ _ => by
    rw [List.getElem?_map] at h1
    cases e1 : ds[i]? with
    | none => rw [e1] at h1; cases h1
    | some d => rw [e1] at h1; cases h1⟩
  · rw [List.getElem?_map] at h1 h2
    cases e1 : ds[i]? with
    | none => rw [e1] at h1; cases h1
    | some d =>
      rw [e1] at h1
      cases h1
      obtain ⟨v, e2, r⟩ := h.get i e1
      rw [e2] at h2
      cases h2
      exact ⟨v, rfl, r⟩
  · rw [List.getElem?_map] at h1
    cases e1 : ds[i]? with
    | none => rw [e1] at h1; cases h1
    | some d => rw [e1] at h1; cases h1; cases h3
def fPcall (g : Option (List PK × Fn)) (fs : Env → Option (List D)) (ρ : Env) : Option (Res × Env) := match g with
    | none => none
    | some (ks, fn) => match fs ρ with
      | none => none
      | some ds => if (ks.all notM && decide (ds.length = ks.length)) = true then flatO ρ (fn (ds.map .fz)) else none
theorem nomut_fz {σ : St} {ds : List D} {a : Addr} : ¬ Mut σ (ds.map .fz) a := by
  rintro ⟨i, s, h1, h2, _⟩
  rw [List.getElem?_map] at h1
  cases e1 : ds[i]? with
  | none => rw [e1] at h1; cases h1
  | some d => rw [e1] at h1; cases h1; cases h2
theorem snd_pcall (C : CtxOk X N q F) {f : String} {e es p pos} {fs : Env → Option (List D)} (hg : glB q.sc (Str.ofString f) = true) (hd : (Str.ofString f == ("__debug__" : Str)) = false) (st : (e :: es).all notStar = true) (hs : SndKs X (e :: es) fs) :
    SndE X (.Call (.Name (Str.ofString f) p) (e :: es) [] pos) (fPcall (F f) fs) := by
  rw [List.all_cons, Bool.and_eq_true] at st
  cases hf : F f with
  | none => exact ⟨fun _ _ _ => False, ⟨fun _ _ _ _ _ _ h => h.elim⟩, fun A H σ ρ r ρ' ft e Q k => by cases e⟩
  | some g =>
    obtain ⟨ks, fn⟩ := g
    obtain ⟨ts, ps, qs⟩ := hs
    obtain ⟨fa, fd, prs, lv, m1, m2, m3, m4, m5⟩ := C.fns f ks fn hf
    refine ⟨_, pe_call m5 m4 (gl_of C hg) m1 m2 m3 .nil pass0 ps hd (star_cons st.1) (star_any st.2), fun A H σ ρ r ρ' ft e Q k => ?_⟩
    simp only [fPcall] at e
    split at e
    · cases e
    · rename_i ds e1
      split at e
      · rename_i hz
        rw [Bool.and_eq_true, decide_eq_true_eq] at hz
        cases e2 : fn (ds.map .fz) with
        | none => rw [e2] at e; cases e
        | some ro =>
          obtain ⟨res, outs⟩ := ro
          rw [e2] at e
          cases res with
          | nw _ => cases e
          | fr d =>
            cases outs with
            | cons _ _ => cases e
            | nil =>
              simp only [flatO] at e
              split at e
              · rename_i hfl
                cases e
                refine qs A H σ ρ ds ft e1 _ fun H1 vs g1 g1' r1 => ?_
                rw [List.append_nil]
                show spOf ks fn vs H1 Q E0
                refine ⟨by rw [r1.length]; exact hz.2, Any H1, ds.map .fz, .fr d, [], fit_any r1, e2, fun A' H' v a1 a2 a3 a4 a5 a6 a7 => ?_⟩
                have gr : ∀ a o, H a = some o → H' a = some o := fun a o h => a2 a o (g1 a o h) nomut_fz
                exact k A H' v (Stp.grow ft gr) (rep_flat a6 hfl)
              · cases e
      · cases e
mutual
def chkPk (N : List Str) (q : Sc) : E → Expr → Bool
  | .var i, ex => (match ex with
    | .Name x _ => nameB N q i x
    | _ => false)
  | .int n, ex => (match ex with
    | .Constant (.int m) _ _ => decide (m = n)
    | _ => false)
  | .tup es, ex => (match ex with
    | .Tuple xs _ _ => xs.all notStar && chkPks N q es xs
    | _ => false)
  | _, _ => false
def chkPks (N : List Str) (q : Sc) : Es → List Expr → Bool
  | .nil, es => (match es with
    | [] => true
    | _ => false)
  | .cons e es, xs => (match xs with
    | x :: r => chkPk N q e x && chkPks N q es r
    | _ => false)
end
mutual
theorem snd_pk : ∀ (e : E) {X : Cx} {q : Sc} {ex : Expr}, CtxOk X N q F → chkPk N q e ex = true → SndK X ex (fun ρ => pk ρ e)
  | .var i, X, q, ex, C, h => by
    unfold chkPk at h
    split at h
    · exact sndK_var C h
    · cases h
  | .int n, X, q, ex, C, h => by
    unfold chkPk at h
    split at h
    · simp only [decide_eq_true_eq] at h
      subst h
      exact sndK_int
    · cases h
  | .tup es, X, q, ex, C, h => by
    unfold chkPk at h
    split at h
    · rw [Bool.and_eq_true] at h
      exact sndK_tup (snd_pks es C h.2 h.1)
    · cases h
  | .bl _, _, _, _, _, h => by unfold chkPk at h; cases h
  | .non, _, _, _, _, h => by unfold chkPk at h; cases h
  | .str _, _, _, _, _, h => by unfold chkPk at h; cases h
  | .bin .., _, _, _, _, h => by unfold chkPk at h; cases h
  | .neg .., _, _, _, _, h => by unfold chkPk at h; cases h
  | .no .., _, _, _, _, h => by unfold chkPk at h; cases h
  | .cmp .., _, _, _, _, h => by unfold chkPk at h; cases h
  | .cmp2 .., _, _, _, _, h => by unfold chkPk at h; cases h
  | .and .., _, _, _, _, h => by unfold chkPk at h; cases h
  | .or .., _, _, _, _, h => by unfold chkPk at h; cases h
  | .ite .., _, _, _, _, h => by unfold chkPk at h; cases h
  | .idx .., _, _, _, _, h => by unfold chkPk at h; cases h
  | .slc .., _, _, _, _, h => by unfold chkPk at h; cases h
  | .rvs .., _, _, _, _, h => by unfold chkPk at h; cases h
  | .dix .., _, _, _, _, h => by unfold chkPk at h; cases h
  | .dlen .., _, _, _, _, h => by unfold chkPk at h; cases h
  | .dget .., _, _, _, _, h => by unfold chkPk at h; cases h
  | .din .., _, _, _, _, h => by unfold chkPk at h; cases h
  | .lst .., _, _, _, _, h => by unfold chkPk at h; cases h
  | .comp .., _, _, _, _, h => by unfold chkPk at h; cases h
  | .comp2 .., _, _, _, _, h => by unfold chkPk at h; cases h
  | .setc .., _, _, _, _, h => by unfold chkPk at h; cases h
  | .call .., _, _, _, _, h => by unfold chkPk at h; cases h
  | .pcall .., _, _, _, _, h => by unfold chkPk at h; cases h
  | .blt .., _, _, _, _, h => by unfold chkPk at h; cases h
  | .isi .., _, _, _, _, h => by unfold chkPk at h; cases h
  | .len .., _, _, _, _, h => by unfold chkPk at h; cases h
  | .rngs .., _, _, _, _, h => by unfold chkPk at h; cases h
  | .meth .., _, _, _, _, h => by unfold chkPk at h; cases h
  | .chg .., _, _, _, _, h => by unfold chkPk at h; cases h
theorem snd_pks : ∀ (es : Es) {X : Cx} {q : Sc} {xs : List Expr}, CtxOk X N q F → chkPks N q es xs = true → xs.all notStar = true → SndKs X xs (fun ρ => pks ρ es)
  | .nil, X, q, xs, C, h, _ => by
    unfold chkPks at h
    split at h
    · exact sndKs_nil
    · cases h
  | .cons e es, X, q, xs, C, h, st => by
    unfold chkPks at h
    split at h
    · rw [Bool.and_eq_true] at h
      rw [List.all_cons, Bool.and_eq_true] at st
      exact sndKs_cons st.1 (snd_pk e C h.1) (snd_pks es C h.2 st.2)
    · cases h
end
end
end Ev

set_option maxRecDepth 100000
/-! Ev9: what is walked; comprehensions. -/
namespace Ev
open PySem L2
variable [TheK]

/-! ### slots lent, slots wiped -/
theorem lendL_len : ∀ (ls : List Nat) (ρ : Env), (lendL ls ρ).length = ρ.length
  | [], ρ => rfl
  | i :: r, ρ => by
    unfold lendL
    split
    · rw [lendL_len, List.length_set]
    · exact lendL_len r ρ
/-- all of ls are lists of one's own -/
def Owns (ρ : Env) (ls : List Nat) : Prop := ∀ i ∈ ls, ∃ ds, ρ[i]? = some (.own ds)
theorem lendL_at : ∀ (ls : List Nat) (ρ : Env) (j : Nat), (lendL ls ρ)[j]? = (match ρ[j]? with | some (.own ds) => if j ∈ ls then some (.lent ds) else some (.own ds) | x => x)
  | [], ρ, j => by
    unfold lendL
    cases h : ρ[j]? with
    | none => rfl
    | some s => cases s <;> simp
  | i :: r, ρ, j => by
    unfold lendL
    split
    · rename_i ds hs
      rw [lendL_at r]
      by_cases e : i = j
      · subst e
        rw [set_get hs, hs]
        simp
      · rw [List.getElem?_set_ne e]
        cases h : ρ[j]? with
        | none => rfl
        | some s => cases s <;> simp [Ne.symm e]
    · rename_i hn
      rw [lendL_at r]
      cases h : ρ[j]? with
      | none => rfl
      | some s =>
        cases s <;> first
          | rfl
          | (have e : j ≠ i := fun e => by subst e; exact absurd h (hn _)
             simp [e])
theorem unlend_at : ∀ (ls : List Nat) (ρ : Env) (j : Nat), (unlend ls ρ)[j]? = (match ρ[j]? with | some (.lent ds) => if j ∈ ls then some (.own ds) else some (.lent ds) | x => x)
  | [], ρ, j => by
    unfold unlend
    cases h : ρ[j]? with
    | none => rfl
    | some s => cases s <;> simp
  | i :: r, ρ, j => by
    unfold unlend
    split
    · rename_i ds hs
      rw [unlend_at r]
      by_cases e : i = j
      · subst e
        rw [set_get hs, hs]
        simp
      · rw [List.getElem?_set_ne e]
        cases h : ρ[j]? with
        | none => rfl
        | some s => cases s <;> simp [Ne.symm e]
    · rename_i hn
      rw [unlend_at r]
      cases h : ρ[j]? with
      | none => rfl
      | some s =>
        cases s <;> first
          | rfl
          | (have e : j ≠ i := fun e => by subst e; exact absurd h (hn _)
             simp [e])
theorem unlend_len : ∀ (ls : List Nat) (ρ : Env), (unlend ls ρ).length = ρ.length
  | [], ρ => rfl
  | i :: r, ρ => by
    unfold unlend
    split
    · rw [unlend_len, List.length_set]
    · exact unlend_len r ρ
/-- a slot behind lending: the same but for own, lent -/
theorem lend_inv {ls : List Nat} {ρ : Env} {j : Nat} {s : Slot} (h : (lendL ls ρ)[j]? = some s) : (ρ[j]? = some s ∧ (∀ ds, s = .own ds → j ∉ ls)) ∨ ∃ ds, s = .lent ds ∧ ρ[j]? = some (.own ds) ∧ j ∈ ls := by
  rw [lendL_at] at h
  split at h
  · rename_i ds hs
    split at h
    · rename_i hj; cases h; exact .inr ⟨ds, rfl, hs, hj⟩
    · rename_i hj; cases h; exact .inl ⟨hs, fun _ _ => hj⟩
  · rename_i hn
    exact .inl ⟨h, fun ds e => by subst e; exact absurd h (hn ds)⟩
theorem unlend_inv {ls : List Nat} {ρ : Env} {j : Nat} {s : Slot} (h : (unlend ls ρ)[j]? = some s) : (ρ[j]? = some s ∧ (∀ ds, s = .lent ds → j ∉ ls)) ∨ ∃ ds, s = .own ds ∧ ρ[j]? = some (.lent ds) ∧ j ∈ ls := by
  rw [unlend_at] at h
  split at h
  · rename_i ds hs
    split at h
    · rename_i hj; cases h; exact .inr ⟨ds, rfl, hs, hj⟩
    · rename_i hj; cases h; exact .inl ⟨hs, fun _ _ => hj⟩
  · rename_i hn
    exact .inl ⟨h, fun ds e => by subst e; exact absurd h (hn ds)⟩
theorem Fit.lend {A H σ} {ρ : Env} (f : Fit A H σ ρ) (ls : List Nat) : Fit A H σ (lendL ls ρ) := by
  refine ⟨by rw [lendL_len]; exact f.len, fun i s ov h1 h2 => ?_, fun i j s t a ij h1 h2 h3 h4 h5 h6 => ?_, f.trk, f.prv_go (fun i kk d h => by
    rcases lend_inv h with ⟨h, _⟩ | ⟨ds, z, _, _⟩
    · exact ⟨h, rfl⟩
    · cases z) (fun _ _ _ z => z) (fun _ _ _ z => z) fun j s a h1 h2 h3 => (by
    rcases lend_inv h1 with ⟨h, _⟩ | ⟨ds, rfl, h, _⟩
    · exact .inl ⟨j, s, h, h2, h3⟩
    · exact .inl ⟨j, _, h, rfl, h3⟩)⟩
  · rcases lend_inv h1 with ⟨h, _⟩ | ⟨ds, rfl, h, _⟩
    · exact f.slot i s ov h h2
    · exact f.slot i (.own ds) ov h h2
  · have g1 : ∃ s', ρ[i]? = some s' ∧ live s' = true := by
      rcases lend_inv h1 with ⟨h, _⟩ | ⟨ds, rfl, h, _⟩
      · exact ⟨s, h, h3⟩
      · exact ⟨_, h, rfl⟩
    have g2 : ∃ t', ρ[j]? = some t' ∧ liveB t' = true := by
      rcases lend_inv h2 with ⟨h, _⟩ | ⟨ds, rfl, h, _⟩
      · exact ⟨t, h, h4⟩
      · exact ⟨_, h, rfl⟩
    obtain ⟨s', q1, q2⟩ := g1
    obtain ⟨t', r1, r2⟩ := g2
    exact f.apart i j s' t' a ij q1 r1 q2 r2 h5 h6
theorem Fit.unlend {A H σ} {ρ : Env} (f : Fit A H σ ρ) (ls : List Nat) : Fit A H σ (unlend ls ρ) := by
  refine ⟨by rw [unlend_len]; exact f.len, fun i s ov h1 h2 => ?_, fun i j s t a ij h1 h2 h3 h4 h5 h6 => ?_, f.trk, f.prv_go (fun i kk d h => by
    rcases unlend_inv h with ⟨h, _⟩ | ⟨ds, z, _, _⟩
    · exact ⟨h, rfl⟩
    · cases z) (fun _ _ _ z => z) (fun _ _ _ z => z) fun j s a h1 h2 h3 => (by
    rcases unlend_inv h1 with ⟨h, _⟩ | ⟨ds, rfl, h, _⟩
    · exact .inl ⟨j, s, h, h2, h3⟩
    · exact .inl ⟨j, _, h, rfl, h3⟩)⟩
  · rcases unlend_inv h1 with ⟨h, _⟩ | ⟨ds, rfl, h, _⟩
    · exact f.slot i s ov h h2
    · exact f.slot i (.lent ds) ov h h2
  · have g1 : ∃ s', ρ[i]? = some s' ∧ live s' = true := by
      rcases unlend_inv h1 with ⟨h, _⟩ | ⟨ds, rfl, h, _⟩
      · exact ⟨s, h, h3⟩
      · exact ⟨_, h, rfl⟩
    have g2 : ∃ t', ρ[j]? = some t' ∧ liveB t' = true := by
      rcases unlend_inv h2 with ⟨h, _⟩ | ⟨ds, rfl, h, _⟩
      · exact ⟨t, h, h4⟩
      · exact ⟨_, h, rfl⟩
    obtain ⟨s', q1, q2⟩ := g1
    obtain ⟨t', r1, r2⟩ := g2
    exact f.apart i j s' t' a ij q1 r1 q2 r2 h5 h6
theorem mut_lend {σ} {ρ : Env} {ls a} (m : Mut σ (lendL ls ρ) a) : Mut σ ρ a := by
  obtain ⟨i, s, h1, h2, h3⟩ := m
  rcases lend_inv h1 with ⟨h, _⟩ | ⟨ds, rfl, h, _⟩
  · exact ⟨i, s, h, h2, h3⟩
  · cases h2
theorem prv_lend {H σ} {ρ : Env} {ls a} : Prv H σ (lendL ls ρ) a ↔ Prv H σ ρ a := by
  constructor
  · rintro ⟨i, k, d, v, h1, h2, l⟩
    rcases lend_inv h1 with ⟨h, _⟩ | ⟨ds, z, _, _⟩
    · exact ⟨i, k, d, v, h, h2, l⟩
    · cases z
  · rintro ⟨i, k, d, v, h1, h2, l⟩
    exact ⟨i, k, d, v, by rw [lendL_at, h1], h2, l⟩
theorem prv_unlend {H σ} {ρ : Env} {ls a} (h : Prv H σ (unlend ls ρ) a) : Prv H σ ρ a := by
  obtain ⟨i, k, d, v, h1, h2, l⟩ := h
  rcases unlend_inv h1 with ⟨h, _⟩ | ⟨ds, z, _, _⟩
  · exact ⟨i, k, d, v, h, h2, l⟩
  · cases z
/-- a loop's way, with the lists it walks lent meanwhile -/
theorem Stp.unlend {A H σ ρ A' H' σ' ρ' ls} (ow : Owns ρ ls) (s : Stp A H σ (lendL ls ρ) A' H' σ' ρ') : Stp A H σ ρ A' H' σ' (unlend ls ρ') where
  ext := s.ext
  frame := fun a o h n n2 => s.frame a o h (fun m => n (mut_lend m)) fun m => n2 (prv_lend.mp m)
  dom := s.dom
  prv := fun a h => by
    rcases s.prv a (prv_unlend h) with m | m | m
    · exact .inl (mut_lend m)
    · exact .inr (.inl (prv_lend.mp m))
    · exact .inr (.inr m)
  sub := fun a ⟨i, t, h1, h2, h3⟩ => by
    rcases unlend_inv h1 with ⟨h, _⟩ | ⟨ds, rfl, h, hi⟩
    · rcases s.sub a ⟨i, t, h, h2, h3⟩ with m | m | m
      · exact .inl (mut_lend m)
      · exact .inr (.inl (prv_lend.mp m))
      · exact .inr (.inr m)
    · obtain ⟨e1, e2⟩ := s.lents i _ h rfl
      obtain ⟨es, q⟩ := ow i hi
      exact .inl ⟨i, _, q, rfl, by rw [← e2]; exact h3⟩
  mus := fun i ds h => by
    have : (lendL ls ρ)[i]? = some (.mu ds) := by rw [lendL_at, h]
    obtain ⟨e1, ds', e2⟩ := s.mus i ds this
    exact ⟨e1, ds', by rw [unlend_at, e2]⟩
  news := fun a h => by
    rcases s.news a h with q | q | q | q | ⟨i, ds, q1, q2⟩
    · exact .inl q
    · exact .inr (.inl q)
    · exact .inr (.inr (.inl (mut_lend q)))
    · exact .inr (.inr (.inr (.inl (prv_lend.mp q))))
    · rcases lend_inv q1 with ⟨z, _⟩ | ⟨es, z1, z2, _⟩
      · exact .inr (.inr (.inr (.inr ⟨i, ds, z, q2⟩)))
      · exact .inr (.inr (.inl ⟨i, _, z2, rfl, q2⟩))
  lents := fun i t h o => by
    rcases unlend_inv h with ⟨z, z2⟩ | ⟨ds, rfl, _, _⟩
    · obtain ⟨e1, e2⟩ := s.lents i t z o
      refine ⟨?_, e2⟩
      rcases lend_inv e1 with ⟨y, _⟩ | ⟨ds, y1, _, y3⟩
      · exact y
      · exact absurd y3 (z2 ds y1)
    · cases o
  fit := s.fit.unlend ls

/-! ### what is walked -/
/-- J walks ds, whatever happens to the rest, as long as the objects at G stay -/
def IterOk (A : Addr → Prop) (H : Hp) (G : Addr → Prop) (J : It) (ds : List D) : Prop :=
  (∀ a, G a → ∃ o, H a = some o) ∧ ∀ (A' : Addr → Prop) (H' : Hp), (∀ a, A a → A' a) → Keep A H H' → (∀ a o, G a → H a = some o → H' a = some o) → ∀ i : Nat,
    (i < ds.length → J.go i H') ∧ (ds.length ≤ i → J.stop i H') ∧
    ∀ x H'' d, ds[i]? = some d → J.yld i H' x H'' → (H'' = H' ∧ Rep A' H' x d) ∨ ∃ p o, H' p = none ∧ H'' = upd H' p o ∧ Rep (fun b => A' b ∨ b = p) H'' x d
/-- frozen, or held by a slot -/
def Held (A : Addr → Prop) (σ : St) (ρ : Env) (a : Addr) : Prop := A a ∨ ∃ (j : Nat) (s : Slot), ρ[j]? = some s ∧ liveB s = true ∧ σ[j]? = some (some (.ref a))
theorem Fit.held_noprv {A H σ} {ρ : Env} {a : Addr} (f : Fit A H σ ρ) (h : Held A σ ρ a) : ¬ Prv H σ ρ a := by
  rcases h with h | ⟨j, s, h1, h2, h3⟩
  · exact f.noprv h
  · rintro ⟨i, k, d, v, e1, e2, l⟩
    exact (f.prv i k d v a e1 e2 l).1 j s h1 h2 h3
def SndI (X : Cx) (tg iter : Expr) (f : Env → Option (List D × Env × List Nat)) : Prop := ∃ wi : TI, PI X tg iter wi ∧
  ∀ A H σ ρ ds ρ0 ls, Fit A H σ ρ → f ρ = some (ds, ρ0, ls) → ∀ R : It → Hp → Prop,
    (∀ A' H' J G, Stp A H σ ρ A' H' σ ρ0 → IterOk A' H' G J ds → (∀ a, G a → ¬ Mut σ (lendL ls ρ0) a ∧ Held A' σ ρ0 a) → ds.length ≤ sizeLine → Owns ρ0 ls → R J H') → wi σ H R
section
variable {X : Cx} {N : List Str} {q : Sc} {F : FT} {tg : Expr}
/-- over a list or a tuple -/
def iSeq (K : PySem.W.Frag) (tl : TE) : TI := fun σ H R => tl σ H fun x H1 => (∃ a, x = .ref a ∧ (∃ xs, SqL K H1 a xs) ∧ R (Itl K a) H1) ∨ ∃ a, x = .ref a ∧ (∃ xs, SqT K H1 a xs) ∧ R (Itt K a) H1
theorem pi_seq {l : Expr} {tl : TE} (hl : PE X l tl) : PI X tg l (iSeq X.K tl) := by
  refine ⟨fun pins s σ H R I h => ?_⟩
  refine thn (hl.run pins s σ H _ I h) fun v s1 ⟨x, H1, I1, r1, q1⟩ => ?_
  rcases q1 with ⟨a, e, ⟨xs, hq⟩, q⟩ | ⟨a, e, ⟨xs, hq⟩, q⟩
  · subst e
    cases r1
    obtain ⟨its, rv, p, hz⟩ := I1.list hq
    refine wpAny_pyIter_list p.isList ?_
    refine ⟨s1.heap.objs.size, [s1.heap.objs.size], _, _, H1, rfl, I1.kept (t' := s1.toks) fun b o e => Heap.get?_push_of_some _ e, turn_list a _, ⟨_, Heap.get?_push_size _ rfl, rfl, rfl⟩, fun b hb => ?_, q⟩
    have e : b = s1.heap.objs.size := by simpa using hb
    subst e
    exact I1.fpOk (Nat.le_refl _) (I1.hok.fresh (Nat.le_refl _))
  · subst e
    cases r1
    obtain ⟨its, rv, p, hz⟩ := I1.tuple hq
    refine wpAny_pyIter_tuple (show s1.heap.IsTuple a its.toArray from p) ?_
    refine ⟨s1.heap.objs.size, [s1.heap.objs.size], _, _, H1, rfl, I1.kept (t' := s1.toks) fun b o e => Heap.get?_push_of_some _ e, turn_tuple a _, ⟨_, Heap.get?_push_size _ rfl, rfl, rfl⟩, fun b hb => ?_, q⟩
    have e : b = s1.heap.objs.size := by simpa using hb
    subst e
    exact I1.fpOk (Nat.le_refl _) (I1.hok.fresh (Nat.le_refl _))
def fSeq (fa : Env → Option (Opd × Env)) (ρ : Env) : Option (List D × Env × List Nat) := match fa ρ with
    | none => none
    | some (oa, ρ1) => if noMu oa ρ1 = false then none else match (oa.get ρ1).bind seqOf with
      | none => none
      | some ds => some (ds, ρ1, lends oa ρ1)
theorem owns_lends (o : Opd) (ρ : Env) : Owns ρ (lends o ρ) := by
  intro i hi
  unfold lends at hi
  split at hi
  · cases hi
  · split at hi
    · rename_i ds h; simp at hi; subst hi; exact ⟨ds, h⟩
    · cases hi
/-- an operand's own object is not changed while it is lent -/
theorem opd_safe {A H σ} {ρ : Env} {a : Addr} {o : Opd} (f : Fit A H σ ρ) (h : OpdOk A H σ (.ref a) o) (d : D) (hd : o.get ρ = some d) {ls} (hl : ∀ i ∈ lends o ρ, i ∈ ls) (nm : noMu o ρ = true) : ¬ Mut σ (lendL ls ρ) a := by
  rintro ⟨i, s, h1, h2, h3⟩
  have g : ∃ s0, ρ[i]? = some s0 ∧ mutS s0 = true ∧ (∀ ds, s0 = .own ds → i ∉ ls) := by
    rcases lend_inv h1 with ⟨z, n⟩ | ⟨ds, rfl, _, _⟩
    · exact ⟨s, z, h2, n⟩
    · cases h2
  obtain ⟨s0, z, hm, n⟩ := g
  have lv : live s0 = true := by cases s0 <;> first | rfl | (cases hm; done)
  cases o with
  | v d' =>
    have rep : Rep A H (.ref a) d' := h
    have ha : A a := by cases rep <;> assumption
    exact (f.slot i s0 _ z h3).nofz lv ha
  | sl j =>
    have hj : σ[j]? = some (some (.ref a)) := h
    by_cases e : i = j
    · subst e
      cases s0 with
      | own ds => exact n ds rfl (hl i (by simp [lends, z]))
      | mu ds => simp [noMu, z] at nm
      | dct kvs => simp [Opd.get, rd, z, Slot.d?] at hd
      | _ => cases hm
    · -- another slot: of what kind?
      simp only [Opd.get, rd] at hd
      have : ∃ t : Slot, ρ[j]? = some t := by
        split at hd
        · rename_i t ht; exact ⟨t, ht⟩
        · cases hd
      obtain ⟨t, ht⟩ := this
      by_cases lb : liveB t = true
      · exact f.apart i j s0 t a e z ht lv lb h3 hj
      · have q := f.slot j t _ ht hj
        cases t with
        | un => rw [ht] at hd; cases hd
        | fz d' =>
          obtain ⟨w, e1, rep⟩ := q
          cases e1
          have ha : A a := by cases rep <;> assumption
          exact (f.slot i s0 _ z h3).nofz lv ha
        | ro ds => rw [ht] at hd; cases hd
        | dp _ _ => rw [ht] at hd; cases hd
        | _ => exact absurd rfl lb
theorem opd_held {A H σ} {ρ : Env} {a : Addr} {o : Opd} (f : Fit A H σ ρ) (h : OpdOk A H σ (.ref a) o) (d : D) (hd : o.get ρ = some d) : Held A σ ρ a := by
  cases o with
  | v d' =>
    have rep : Rep A H (.ref a) d' := h
    exact .inl (by cases rep <;> assumption)
  | sl j =>
    have hj : σ[j]? = some (some (.ref a)) := h
    simp only [Opd.get, rd] at hd
    have : ∃ t : Slot, ρ[j]? = some t := by
      split at hd
      · rename_i t ht; exact ⟨t, ht⟩
      · cases hd
    obtain ⟨t, ht⟩ := this
    by_cases lb : liveB t = true
    · exact .inr ⟨j, t, ht, lb, hj⟩
    · have q := f.slot j t _ ht hj
      cases t with
      | un => rw [ht] at hd; cases hd
      | fz d' =>
        obtain ⟨w, e1, rep⟩ := q
        cases e1
        exact .inl (by cases rep <;> assumption)
      | ro ds => rw [ht] at hd; cases hd
      | dp _ _ => rw [ht] at hd; cases hd
      | _ => exact absurd rfl lb
theorem opd_safe2 {A H σ} {ρ : Env} {a : Addr} {o : Opd} (f : Fit A H σ ρ) (h : OpdOk A H σ (.ref a) o) (d : D) (hd : o.get ρ = some d) {ls} (hl : ∀ i ∈ lends o ρ, i ∈ ls) (nm : noMu o ρ = true) : ¬ Mut σ (lendL ls ρ) a ∧ Held A σ ρ a :=
  ⟨opd_safe f h d hd hl nm, opd_held f h d hd⟩
theorem rep_ref {A H v d} (h : RepR A H v d) (n : isFlat d = false) : ∃ a, v = .ref a := by
  rcases h with h | ⟨a, vs, ds, rfl, _⟩
  · cases h <;> first | (cases n; done) | exact ⟨_, rfl⟩
  · exact ⟨a, rfl⟩

theorem lend_own {ls : List Nat} {ρ : Env} (h : Owns ρ ls) : True := trivial
theorem iter_seqL {A H ds a vs} {K : PySem.W.Frag} (hr : H a = some (.lst vs)) (r : RepAll A H vs ds) : IterOk A H (fun b => b = a) (Itl K a) ds := by
  refine ⟨fun b e => ?_, fun A' H' e k kg i => ?_⟩
  · subst e
    exact ⟨_, hr⟩
  · have hr' : Rd H' a (.lst vs) := .inl (kg a _ rfl hr)
    have r' := RepAll.mono e k r
    refine ⟨fun hi => ?_, fun hi => ⟨vs, .inl hr', by rw [r.length]; exact hi⟩, fun x H'' d hd y => ?_⟩
    · obtain ⟨v, h1, _⟩ := r'.get i (List.getElem?_eq_getElem hi)
      exact ⟨vs, v, .inl hr', h1⟩
    · obtain ⟨rfl, y⟩ := y
      obtain ⟨v, h1, h2⟩ := r'.get i hd
      rw [y vs (.inl hr')] at h1
      cases h1
      exact .inl ⟨rfl, h2⟩
theorem iter_seqT {A H ds a vs} {K : PySem.W.Frag} (hr : H a = some (.tup vs)) (r : RepAll A H vs ds) : IterOk A H (fun b => b = a) (Itt K a) ds := by
  refine ⟨fun b e => ?_, fun A' H' e k kg i => ?_⟩
  · subst e
    exact ⟨_, hr⟩
  · have hr' : SqT K H' a vs := SqT.of (kg a _ rfl hr)
    have r' := RepAll.mono e k r
    refine ⟨fun hi => ?_, fun hi => ⟨vs, hr', by rw [r.length]; exact hi⟩, fun x H'' d hd y => ?_⟩
    · obtain ⟨v, h1, _⟩ := r'.get i (List.getElem?_eq_getElem hi)
      exact ⟨vs, v, hr', h1⟩
    · obtain ⟨rfl, y⟩ := y
      obtain ⟨v, h1, h2⟩ := r'.get i hd
      rw [y vs hr'] at h1
      cases h1
      exact .inl ⟨rfl, h2⟩
theorem sndI_seq {e fa} (ha : SndO X e fa) : SndI X tg e (fSeq fa) := by
  obtain ⟨ta, pa, qa⟩ := ha
  refine ⟨_, pi_seq pa, fun A H σ ρ ds ρ0 ls ft e R k => ?_⟩
  unfold fSeq at e
  split at e
  · cases e
  · rename_i oa ρ1 e1
    split at e
    · cases e
    · rename_i nm
      split at e
      · cases e
      · rename_i ds' e2
        cases e
        refine qa A H σ ρ oa ρ0 ft e1 _ fun A1 H1 v1 s1 k1 => ?_
        cases e3 : oa.get ρ0 with
        | none => rw [e3] at e2; cases e2
        | some d =>
          rw [e3] at e2
          have w := Opd.ok s1.fit k1 e3
          have nm' : noMu oa ρ0 = true := by simpa using nm
          cases d <;> simp only [Option.bind_some, seqOf, reduceCtorEq, Option.some.injEq] at e2
          · subst e2
            obtain ⟨a, vs, rfl, h1, h2, h3⟩ := w.list
            have sf := opd_safe2 s1.fit k1 _ e3 (ls := lends oa ρ0) (fun i h => h) nm'
            exact .inl ⟨a, rfl, ⟨vs, SqL.of h1⟩, k A1 H1 _ _ s1 (iter_seqL h1 h3) (fun b e => by subst e; exact sf) (by rw [← h3.length]; exact h2) (owns_lends _ _)⟩
          · subst e2
            obtain ⟨a, vs, rfl, h0, h1, h2, h3⟩ := w.tup
            have sf := opd_safe2 s1.fit k1 _ e3 (ls := lends oa ρ0) (fun i h => h) nm'
            exact .inr ⟨a, rfl, ⟨vs, SqT.of h1⟩, k A1 H1 _ _ s1 (iter_seqT h1 h3) (fun b e => by subst e; exact sf) (by rw [← h3.length]; exact h2) (owns_lends _ _)⟩
theorem rngD_len (a b : Int) : (rngD a b).length = (b - a).toNat := by unfold rngD; rw [List.length_map, List.length_range]
theorem rngD_get {a b : Int} {i : Nat} {d : D} (h : (rngD a b)[i]? = some d) : d = .int (a + i) := by
  unfold rngD at h
  rw [List.getElem?_map] at h
  cases e : (List.range (b - a).toNat)[i]? with
  | none => rw [e] at h; cases h
  | some j =>
    rw [e] at h
    cases h
    obtain ⟨hl, hj⟩ := List.getElem?_eq_some_iff.mp e
    rw [List.getElem_range] at hj
    subst hj
    rfl
theorem iter_rng {A H} (a b : Int) : IterOk A H (fun _ => False) (Itr a (b - a).toNat) (rngD a b) := by
  refine ⟨fun _ h => h.elim, fun A' H' e k kg i => ⟨fun h => ?_, fun h => ?_, fun x H'' d hd y => ?_⟩⟩
  · rw [rngD_len] at h; exact h
  · rw [rngD_len] at h; exact h
  · obtain ⟨rfl, rfl⟩ := y
    cases rngD_get hd
    exact .inl ⟨rfl, .int⟩
def fRng1 (fa : Env → Option (Res × Env)) (ρ : Env) : Option (List D × Env × List Nat) := match fa ρ with
    | some (.fr (.int i), ρ1) => if -(2 ^ 62) ≤ i ∧ i ≤ (sizeLine : Int) then some (rngD 0 i, ρ1, []) else none
    | _ => none
theorem owns_nil {ρ : Env} : Owns ρ [] := fun _ h => by cases h
theorem sndI_rng1 (C : CtxOk X N q F) {e p pos fa} (hg : glB q.sc (Str.ofString "range") = true) (hn : notStar e = true) (ha : SndE X e fa) : SndI X tg (.Call (.Name (Str.ofString "range") p) [e] [] pos) (fRng1 fa) := by
  obtain ⟨ta, pa, qa⟩ := ha
  refine ⟨_, pi_range1 (gl_of C hg) (C.bl "range" (by decide)) (pa_cons pa pa_nil (star_cons hn)) (star_cons hn), fun A H σ ρ ds ρ0 ls ft e R k => ?_⟩
  unfold fRng1 at e
  split at e
  · rename_i i ρ1 e1
    split at e
    · rename_i hz
      cases e
      refine qa A H σ ρ _ ρ0 ft e1 _ fun A1 H1 v1 s1 k1 => ?_
      cases k1
      have hs : (sizeLine : Int) < 2 ^ 62 := by decide
      refine ⟨i, rfl, hz.1, by omega, ?_⟩
      have := k A1 H1 _ _ s1 (iter_rng 0 i) (fun _ h => h.elim) (by rw [rngD_len]; omega) owns_nil
      simpa using this
    · cases e
  · cases e
theorem rngR_get {a b : Int} {i : Nat} {d : D} (h : (rngD a b).reverse[i]? = some d) : i < (b - a).toNat ∧ d = .int (a + (((b - a).toNat : Nat) : Int) - 1 + (i : Nat) * (-1)) := by
  have hi := (List.getElem?_eq_some_iff.mp h).1
  rw [List.length_reverse, rngD_len] at hi
  rw [List.getElem?_reverse (by rw [rngD_len]; exact hi), rngD_len] at h
  refine ⟨hi, ?_⟩
  rw [rngD_get h]
  congr 1
  omega
theorem iter_rngR {A H} (a b : Int) : IterOk A H (fun _ => False) (Itc (a + (((b - a).toNat : Nat) : Int) - 1) (-1) (b - a).toNat) (rngD a b).reverse := by
  refine ⟨fun _ h => h.elim, fun A' H' e k kg i => ⟨fun h => ?_, fun h => ?_, fun x H'' d hd y => ?_⟩⟩
  · rw [List.length_reverse, rngD_len] at h; exact h
  · rw [List.length_reverse, rngD_len] at h; exact h
  · obtain ⟨rfl, rfl⟩ := y
    obtain ⟨_, rfl⟩ := rngR_get hd
    exact .inl ⟨rfl, .int⟩
theorem dwnD_len (a b : Int) : (dwnD a b).length = (a - b).toNat := by unfold dwnD; rw [List.length_map, List.length_range]
theorem dwnD_get {a b : Int} {i : Nat} {d : D} (h : (dwnD a b)[i]? = some d) : d = .int (a + (i : Nat) * (-1)) := by
  unfold dwnD at h
  rw [List.getElem?_map] at h
  cases e : (List.range (a - b).toNat)[i]? with
  | none => rw [e] at h; cases h
  | some j =>
    rw [e] at h
    cases h
    obtain ⟨hl, hj⟩ := List.getElem?_eq_some_iff.mp e
    rw [List.getElem_range] at hj
    subst hj
    show PyData.int _ = PyData.int _
    congr 1
    rw [Int.mul_neg, Int.mul_one]
    rfl
theorem iter_dwn {A H} (a b : Int) : IterOk A H (fun _ => False) (Itc a (-1) (a - b).toNat) (dwnD a b) := by
  refine ⟨fun _ h => h.elim, fun A' H' e k kg i => ⟨fun h => ?_, fun h => ?_, fun x H'' d hd y => ?_⟩⟩
  · rw [dwnD_len] at h; exact h
  · rw [dwnD_len] at h; exact h
  · obtain ⟨rfl, rfl⟩ := y
    cases dwnD_get hd
    exact .inl ⟨rfl, .int⟩
def fRrng1 (fa : Env → Option (Res × Env)) (ρ : Env) : Option (List D × Env × List Nat) := match fa ρ with
    | some (.fr (.int i), ρ1) => if -(2 ^ 62) ≤ i ∧ i ≤ (sizeLine : Int) then some ((rngD 0 i).reverse, ρ1, []) else none
    | _ => none
theorem sndI_rrng1 (C : CtxOk X N q F) {e p pos p' pos' fa} (hg' : glB q.sc (Str.ofString "reversed") = true) (hg : glB q.sc (Str.ofString "range") = true) (hn : notStar e = true) (ha : SndE X e fa) :
    SndI X tg (.Call (.Name (Str.ofString "reversed") p') [.Call (.Name (Str.ofString "range") p) [e] [] pos] [] pos') (fRrng1 fa) := by
  obtain ⟨ta, pa, qa⟩ := ha
  refine ⟨_, pi_revR (gl_of C hg') (C.bl "reversed" (by decide)) (prg_1 (gl_of C hg) (C.bl "range" (by decide)) pa (star_cons hn)), fun A H σ ρ ds ρ0 ls ft e R k => ?_⟩
  unfold fRrng1 at e
  split at e
  · rename_i i ρ1 e1
    split at e
    · rename_i hz
      cases e
      refine qa A H σ ρ _ ρ0 ft e1 _ fun A1 H1 v1 s1 k1 => ?_
      cases k1
      have hs : (sizeLine : Int) < 2 ^ 62 := by decide
      refine ⟨i, rfl, by omega, by omega, hz.1, by omega, ?_⟩
      exact k A1 H1 _ _ s1 (iter_rngR 0 i) (fun _ h => h.elim) (by rw [List.length_reverse, rngD_len]; omega) owns_nil
    · cases e
  · cases e
def fRrng2 (fa fb : Env → Option (Res × Env)) (ρ : Env) : Option (List D × Env × List Nat) := match fa ρ with
    | some (.fr (.int i), ρ1) => match fb ρ1 with
      | some (.fr (.int j), ρ2) => if -(2 ^ 62) ≤ i ∧ i < 2 ^ 62 ∧ j < 2 ^ 62 ∧ -(2 ^ 62) ≤ j ∧ j - i ≤ (sizeLine : Int) then some ((rngD i j).reverse, ρ2, []) else none
      | _ => none
    | _ => none
theorem sndI_rrng2 (C : CtxOk X N q F) {e e' p pos p' pos' fa fb} (hg' : glB q.sc (Str.ofString "reversed") = true) (hg : glB q.sc (Str.ofString "range") = true) (hn : notStar e = true) (hn' : notStar e' = true) (ha : SndE X e fa) (hb : SndE X e' fb) :
    SndI X tg (.Call (.Name (Str.ofString "reversed") p') [.Call (.Name (Str.ofString "range") p) [e, e'] [] pos] [] pos') (fRrng2 fa fb) := by
  obtain ⟨ta, pa, qa⟩ := ha
  obtain ⟨tb, pb, qb⟩ := hb
  refine ⟨_, pi_revR (gl_of C hg') (C.bl "reversed" (by decide)) (prg_2 (gl_of C hg) (C.bl "range" (by decide)) pa pb (star_cons hn) (star_cons hn') (by rw [star_cons hn']; rfl)), fun A H σ ρ ds ρ0 ls ft e R k => ?_⟩
  unfold fRrng2 at e
  split at e
  · rename_i i ρ1 e1
    split at e
    · rename_i j ρ2 e2
      split at e
      · rename_i hz
        cases e
        refine qa A H σ ρ _ ρ1 ft e1 _ fun A1 H1 v1 s1 k1 => ?_
        cases k1
        refine qb A1 H1 σ ρ1 _ ρ0 s1.fit e2 _ fun A2 H2 v2 s2 k2 => ?_
        cases k2
        refine ⟨i, j, rfl, rfl, hz.1, hz.2.1, hz.2.2.2.1, hz.2.2.1, ?_⟩
        exact k A2 H2 _ _ (s1.trans s2) (iter_rngR i j) (fun _ h => h.elim) (by rw [List.length_reverse, rngD_len]; omega) owns_nil
      · cases e
    · cases e
  · cases e
def fDwn (fa fb : Env → Option (Res × Env)) (ρ : Env) : Option (List D × Env × List Nat) := match fa ρ with
    | some (.fr (.int i), ρ1) => match fb ρ1 with
      | some (.fr (.int j), ρ2) => if -(2 ^ 62) ≤ i ∧ i < 2 ^ 62 ∧ j < 2 ^ 62 ∧ -(2 ^ 62) ≤ j ∧ i - j ≤ (sizeLine : Int) then some (dwnD i j, ρ2, []) else none
      | _ => none
    | _ => none
theorem sndI_dwn (C : CtxOk X N q F) {e e' p pos k1 p1 p2 fa fb} (hg : glB q.sc (Str.ofString "range") = true) (hn : notStar e = true) (hn' : notStar e' = true) (ha : SndE X e fa) (hb : SndE X e' fb) :
    SndI X tg (.Call (.Name (Str.ofString "range") p) [e, e', .UnaryOp .USub (.Constant (.int 1) k1 p1) p2] [] pos) (fDwn fa fb) := by
  obtain ⟨ta, pa, qa⟩ := ha
  obtain ⟨tb, pb, qb⟩ := hb
  have hn3 : notStar (.UnaryOp .USub (.Constant (.int 1) k1 p1) p2) = true := rfl
  refine ⟨_, pi_range3 (gl_of C hg) (C.bl "range" (by decide)) (pa_cons pa (pa_cons pb (pa_cons (pe_un un_neg pe_int) pa_nil (star_cons hn3)) (star_cons hn')) (star_cons hn)) (star_cons hn) (by rw [star_cons hn', star_cons hn3]; rfl), fun A H σ ρ ds ρ0 ls ft e R k => ?_⟩
  unfold fDwn at e
  split at e
  · rename_i i ρ1 e1
    split at e
    · rename_i j ρ2 e2
      split at e
      · rename_i hz
        cases e
        refine qa A H σ ρ _ ρ1 ft e1 _ fun A1 H1 v1 s1 k1 => ?_
        cases k1
        refine qb A1 H1 σ ρ1 _ ρ0 s1.fit e2 _ fun A2 H2 v2 s2 k2 => ?_
        cases k2
        refine ⟨1, rfl, i, j, -1, (i - j).toNat, rfl, RgC.neg hz.1 hz.2.1 hz.2.2.2.1 hz.2.2.1, ?_⟩
        exact k A2 H2 _ _ (s1.trans s2) (iter_dwn i j) (fun _ h => h.elim) (by rw [dwnD_len]; omega) owns_nil
      · cases e
    · cases e
  · cases e
def fRng2 (fa fb : Env → Option (Res × Env)) (ρ : Env) : Option (List D × Env × List Nat) := match fa ρ with
    | some (.fr (.int i), ρ1) => match fb ρ1 with
      | some (.fr (.int j), ρ2) => if -(2 ^ 62) ≤ i ∧ i < 2 ^ 62 ∧ j < 2 ^ 62 ∧ -(2 ^ 62) ≤ j ∧ j - i ≤ (sizeLine : Int) then some (rngD i j, ρ2, []) else none
      | _ => none
    | _ => none
theorem sndI_rng2 (C : CtxOk X N q F) {e e' p pos fa fb} (hg : glB q.sc (Str.ofString "range") = true) (hn : notStar e = true) (hn' : notStar e' = true) (ha : SndE X e fa) (hb : SndE X e' fb) : SndI X tg (.Call (.Name (Str.ofString "range") p) [e, e'] [] pos) (fRng2 fa fb) := by
  obtain ⟨ta, pa, qa⟩ := ha
  obtain ⟨tb, pb, qb⟩ := hb
  refine ⟨_, pi_range2 (gl_of C hg) (C.bl "range" (by decide)) (pa_cons pa (pa_cons pb pa_nil (star_cons hn')) (star_cons hn)) (by rw [star_cons hn, star_cons hn']; rfl) (star_cons hn'), fun A H σ ρ ds ρ0 ls ft e R k => ?_⟩
  unfold fRng2 at e
  split at e
  · rename_i i ρ1 e1
    split at e
    · rename_i j ρ2 e2
      split at e
      · rename_i hz
        cases e
        refine qa A H σ ρ _ ρ1 ft e1 _ fun A1 H1 v1 s1 k1 => ?_
        cases k1
        refine qb A1 H1 σ ρ1 _ ρ0 s1.fit e2 _ fun A2 H2 v2 s2 k2 => ?_
        cases k2
        refine ⟨i, j, rfl, ⟨hz.1, hz.2.1, hz.2.2.2.1, hz.2.2.1⟩, ?_⟩
        exact k A2 H2 _ _ (s1.trans s2) (iter_rng i j) (fun _ h => h.elim) (by rw [rngD_len]; omega) owns_nil
      · cases e
    · cases e
  · cases e
end
/-! ### zip, enumerate, reversed -/
theorem upd_keep {A : Addr → Prop} {H : Hp} {p : Addr} {o : HO} (h : H p = none) : Keep A H (upd H p o) := fun a o' _ e => by
  have : a ≠ p := fun z => by subst z; rw [h] at e; cases e
  rw [upd_ne this]; exact e
theorem rep_pair {A H x y dx dy} {p : Addr} (h : H p = none) (h1 : Rep A H x dx) (h2 : Rep A H y dy) : Rep (fun b => A b ∨ b = p) (upd H p (.tup [x, y])) (.ref p) (.tuple [dx, dy]) :=
  .tup (.inr rfl) (by simp [upd]) (by show 2 ≤ sizeLine; decide) (.cons (h1.mono (fun _ h => .inl h) (upd_keep h)) (.cons (h2.mono (fun _ h => .inl h) (upd_keep h)) .nil))
theorem pairD_get {xs ys : List D} {i : Nat} {d : D} (h : (pairD xs ys)[i]? = some d) : ∃ a b, xs[i]? = some a ∧ ys[i]? = some b ∧ d = .tuple [a, b] := by
  unfold pairD at h
  rw [List.getElem?_map] at h
  cases e : (xs.zip ys)[i]? with
  | none => rw [e] at h; cases h
  | some p =>
    rw [e] at h
    cases h
    rw [List.getElem?_zip_eq_some] at e
    exact ⟨_, _, e.1, e.2, rfl⟩
theorem pairD_len (xs ys : List D) : (pairD xs ys).length = min xs.length ys.length := by simp [pairD]
theorem enumD_len (xs : List D) : (enumD xs).length = xs.length := by simp [enumD]
theorem enumD_get {xs : List D} {i : Nat} {d : D} (h : (enumD xs)[i]? = some d) : ∃ a, xs[i]? = some a ∧ d = .tuple [.int (i : Nat), a] := by
  unfold enumD at h
  rw [List.getElem?_map, List.getElem?_zipIdx] at h
  cases e : xs[i]? with
  | none => rw [e] at h; cases h
  | some p => rw [e] at h; cases h; exact ⟨p, rfl, by simp⟩
theorem iter_zipL {A H a b vs ws xs ys} {K : PySem.W.Frag} (ha : H a = some (.lst vs)) (hb : H b = some (.lst ws)) (r1 : RepAll A H vs xs) (r2 : RepAll A H ws ys) :
    IterOk A H (fun c => c = a ∨ c = b) (Itz K a b) (pairD xs ys) := by
  refine ⟨fun c e => ?_, fun A' H' e k kg i => ?_⟩
  · rcases e with rfl | rfl
    · exact ⟨_, ha⟩
    · exact ⟨_, hb⟩
  · have ga : SqL K H' a vs := SqL.of (kg a _ (.inl rfl) ha)
    have gb : SqL K H' b ws := SqL.of (kg b _ (.inr rfl) hb)
    have r1' := RepAll.mono e k r1
    have r2' := RepAll.mono e k r2
    refine ⟨fun hi => ?_, fun hi => ⟨vs, ws, ga, gb, by rw [pairD_len] at hi; rw [r1.length, r2.length]; omega⟩, fun x H'' d hd y => ?_⟩
    · obtain ⟨dx, dy, h1, h2, _⟩ := pairD_get (List.getElem?_eq_getElem hi)
      obtain ⟨v, h3, _⟩ := r1'.get i h1
      obtain ⟨w, h4, _⟩ := r2'.get i h2
      exact ⟨vs, ws, v, w, ga, gb, h3, h4⟩
    · obtain ⟨T, x0, y0, rfl, hT, rfl, hx, hy⟩ := y
      obtain ⟨dx, dy, h1, h2, rfl⟩ := pairD_get hd
      obtain ⟨v, h3, h3'⟩ := r1'.get i h1
      obtain ⟨w, h4, h4'⟩ := r2'.get i h2
      rw [hx vs ga] at h3; cases h3
      rw [hy ws gb] at h4; cases h4
      exact .inr ⟨T, _, hT, rfl, rep_pair hT h3' h4'⟩
theorem iter_zipT {A H a b vs ws xs ys} {K : PySem.W.Frag} (ha : H a = some (.tup vs)) (hb : H b = some (.tup ws)) (r1 : RepAll A H vs xs) (r2 : RepAll A H ws ys) :
    IterOk A H (fun c => c = a ∨ c = b) (RZ.ItzT K a b) (pairD xs ys) := by
  refine ⟨fun c e => ?_, fun A' H' e k kg i => ?_⟩
  · rcases e with rfl | rfl
    · exact ⟨_, ha⟩
    · exact ⟨_, hb⟩
  · have ga : SqT K H' a vs := SqT.of (kg a _ (.inl rfl) ha)
    have gb : SqT K H' b ws := SqT.of (kg b _ (.inr rfl) hb)
    have r1' := RepAll.mono e k r1
    have r2' := RepAll.mono e k r2
    refine ⟨fun hi => ?_, fun hi => ⟨vs, ws, ga, gb, by rw [pairD_len] at hi; rw [r1.length, r2.length]; omega⟩, fun x H'' d hd y => ?_⟩
    · obtain ⟨dx, dy, h1, h2, _⟩ := pairD_get (List.getElem?_eq_getElem hi)
      obtain ⟨v, h3, _⟩ := r1'.get i h1
      obtain ⟨w, h4, _⟩ := r2'.get i h2
      exact ⟨vs, ws, v, w, ga, gb, h3, h4⟩
    · obtain ⟨T, x0, y0, rfl, hT, rfl, hx, hy⟩ := y
      obtain ⟨dx, dy, h1, h2, rfl⟩ := pairD_get hd
      obtain ⟨v, h3, h3'⟩ := r1'.get i h1
      obtain ⟨w, h4, h4'⟩ := r2'.get i h2
      rw [hx vs ga] at h3; cases h3
      rw [hy ws gb] at h4; cases h4
      exact .inr ⟨T, _, hT, rfl, rep_pair hT h3' h4'⟩
theorem iter_enumL {A H a vs xs} {K : PySem.W.Frag} (ha : H a = some (.lst vs)) (r1 : RepAll A H vs xs) : IterOk A H (fun c => c = a) (Ite K a) (enumD xs) := by
  refine ⟨fun c e => ?_, fun A' H' e k kg i => ?_⟩
  · subst e; exact ⟨_, ha⟩
  · have ga : SqL K H' a vs := SqL.of (kg a _ rfl ha)
    have r1' := RepAll.mono e k r1
    refine ⟨fun hi => ?_, fun hi => ⟨vs, ga, by rw [enumD_len] at hi; rw [r1.length]; exact hi⟩, fun x H'' d hd y => ?_⟩
    · obtain ⟨dx, h1, _⟩ := enumD_get (List.getElem?_eq_getElem hi)
      obtain ⟨v, h3, _⟩ := r1'.get i h1
      exact ⟨vs, v, ga, h3⟩
    · obtain ⟨T, x0, rfl, hT, rfl, hx⟩ := y
      obtain ⟨dx, h1, rfl⟩ := enumD_get hd
      obtain ⟨v, h3, h3'⟩ := r1'.get i h1
      rw [hx vs ga] at h3; cases h3
      exact .inr ⟨T, _, hT, rfl, rep_pair hT .int h3'⟩
theorem iter_revL {A H a vs xs} {K : PySem.W.Frag} (ha : H a = some (.lst vs)) (r1 : RepAll A H vs xs) : IterOk A H (fun c => c = a) (Itv K a vs.length) xs.reverse := by
  refine ⟨fun c e => ?_, fun A' H' e k kg i => ?_⟩
  · subst e; exact ⟨_, ha⟩
  · have ga : SqL K H' a vs := SqL.of (kg a _ rfl ha)
    have r1' := RepAll.mono e k r1
    have r2' := r1'.reverse
    have hl := r1.length
    refine ⟨fun hi => ?_, fun hi => ?_, fun x H'' d hd y => ?_⟩
    · rw [List.length_reverse, ← hl] at hi
      obtain ⟨v, h3, _⟩ := r1'.get (vs.length - 1 - i) (List.getElem?_eq_getElem (by omega))
      exact ⟨hi, vs, v, ga, h3⟩
    · rw [List.length_reverse, ← hl] at hi; exact hi
    · obtain ⟨rfl, hx⟩ := y
      have hi : i < xs.length := by
        have := (List.getElem?_eq_some_iff.mp hd).1
        rwa [List.length_reverse] at this
      rw [List.getElem?_reverse hi, ← hl] at hd
      obtain ⟨v, h3, h3'⟩ := r1'.get _ hd
      rw [hx vs ga] at h3; cases h3
      exact .inl ⟨rfl, h3'⟩
theorem iter_revT {A H a vs xs} {K : PySem.W.Frag} (ha : H a = some (.tup vs)) (r1 : RepAll A H vs xs) : IterOk A H (fun c => c = a) (RT.ItvT K a vs.length) xs.reverse := by
  refine ⟨fun c e => ?_, fun A' H' e k kg i => ?_⟩
  · subst e; exact ⟨_, ha⟩
  · have ga : SqT K H' a vs := SqT.of (kg a _ rfl ha)
    have r1' := RepAll.mono e k r1
    have hl := r1.length
    refine ⟨fun hi => ?_, fun hi => ?_, fun x H'' d hd y => ?_⟩
    · rw [List.length_reverse, ← hl] at hi
      obtain ⟨v, h3, _⟩ := r1'.get (vs.length - 1 - i) (List.getElem?_eq_getElem (by omega))
      exact ⟨hi, vs, v, ga, h3⟩
    · rw [List.length_reverse, ← hl] at hi; exact hi
    · obtain ⟨rfl, hx⟩ := y
      have hi : i < xs.length := by
        have := (List.getElem?_eq_some_iff.mp hd).1
        rwa [List.length_reverse] at this
      rw [List.getElem?_reverse hi, ← hl] at hd
      obtain ⟨v, h3, h3'⟩ := r1'.get _ hd
      rw [hx vs ga] at h3; cases h3
      exact .inl ⟨rfl, h3'⟩
def fEnm (fa : Env → Option (Opd × Env)) (ρ : Env) : Option (List D × Env × List Nat) := match fa ρ with
    | none => none
    | some (oa, ρ1) => if noMu oa ρ1 = false then none else match (oa.get ρ1).bind seqOf with
      | some ds => some (enumD ds, ρ1, lends oa ρ1)
      | none => none
def fRev (fa : Env → Option (Opd × Env)) (ρ : Env) : Option (List D × Env × List Nat) := match fa ρ with
    | none => none
    | some (oa, ρ1) => if noMu oa ρ1 = false then none else match (oa.get ρ1).bind seqOf with
      | none => none
      | some ds => some (ds.reverse, ρ1, lends oa ρ1)
def fZip (fa fb : Env → Option (Opd × Env)) (ρ : Env) : Option (List D × Env × List Nat) := match fa ρ with
    | none => none
    | some (oa, ρ1) => match fb ρ1 with
      | none => none
      | some (ob, ρ2) => if noMu oa ρ2 = false then none else if noMu ob ρ2 = false then none else match oa.get ρ2 with
        | some (.list xs) => (match ob.get ρ2 with
          | some (.list ys) => some (pairD xs ys, ρ2, lends oa ρ2 ++ lends ob ρ2)
          | _ => none)
        | some (.tuple xs) => (match ob.get ρ2 with
          | some (.tuple ys) => some (pairD xs ys, ρ2, lends oa ρ2 ++ lends ob ρ2)
          | _ => none)
        | _ => none
section
variable {X : Cx} {N : List Str} {q : Sc} {F : FT} {elts : List Expr} {kk : Nat} {tpos : Pos}
theorem iter_enumT {A H a vs xs} {K : PySem.W.Frag} (ha : H a = some (.tup vs)) (r1 : RepAll A H vs xs) : IterOk A H (fun c => c = a) (IteT K a) (enumD xs) := by
  refine ⟨fun b e => by subst e; exact ⟨_, ha⟩, fun A' H' e k kg i => ?_⟩
  have ga : SqT K H' a vs := SqT.of (kg a _ rfl ha)
  have r1' := RepAll.mono e k r1
  have hl := r1.length
  refine ⟨fun hi => ?_, fun hi => ?_, fun x H'' d hd y => ?_⟩
  · rw [enumD_len] at hi
    obtain ⟨v, h3, _⟩ := r1'.get i (List.getElem?_eq_getElem hi)
    exact ⟨vs, v, ga, h3⟩
  · rw [enumD_len] at hi
    exact ⟨vs, ga, by rw [hl]; exact hi⟩
  · obtain ⟨T, w, rfl, hn, rfl, hx⟩ := y
    obtain ⟨dx, e1, rfl⟩ := enumD_get hd
    obtain ⟨v, h3, h3'⟩ := r1'.get i e1
    rw [hx vs ga] at h3; cases h3
    exact .inr ⟨T, _, hn, rfl, rep_pair hn .int h3'⟩
theorem sndI_enm (C : CtxOk X N q F) {e p pos fa} (hg : glB q.sc (Str.ofString "enumerate") = true) (hn : notStar e = true) (ha : SndO X e fa) : SndI X (.Tuple elts kk tpos) (.Call (.Name (Str.ofString "enumerate") p) [e] [] pos) (fEnm fa) := by
  obtain ⟨ta, pa, qa⟩ := ha
  refine ⟨_, pi_enumA (gl_of C hg) (C.bl "enumerate" (by decide)) (pa_cons pa pa_nil (star_cons hn)) (star_cons hn), fun A H σ ρ ds ρ0 ls ft e R k => ?_⟩
  unfold fEnm at e
  split at e
  · cases e
  · rename_i oa ρ1 e1
    split at e
    · cases e
    · rename_i nm
      split at e
      · rename_i ds' e2
        cases e
        refine qa A H σ ρ oa ρ0 ft e1 _ fun A1 H1 v1 s1 k1 => ?_
        cases e3 : oa.get ρ0 with
        | none => rw [e3] at e2; cases e2
        | some d =>
          rw [e3] at e2
          have w := Opd.ok s1.fit k1 e3
          have nm' : noMu oa ρ0 = true := by simpa using nm
          cases d <;> simp only [Option.bind_some, seqOf, reduceCtorEq, Option.some.injEq] at e2
          · subst e2
            obtain ⟨a, vs, rfl, h1, h2, h3⟩ := w.list
            have sf := opd_safe2 s1.fit k1 _ e3 (ls := lends oa ρ0) (fun i h => h) nm'
            exact ⟨a, vs, rfl, .inl ⟨SqL.of h1, k A1 H1 _ _ s1 (iter_enumL h1 h3) (fun b e => by subst e; exact sf) (by rw [enumD_len, ← h3.length]; exact h2) (owns_lends _ _)⟩⟩
          · subst e2
            obtain ⟨a, vs, rfl, h0, h1, h2, h3⟩ := w.tup
            have sf := opd_safe2 s1.fit k1 _ e3 (ls := lends oa ρ0) (fun i h => h) nm'
            exact ⟨a, vs, rfl, .inr ⟨SqT.of h1, k A1 H1 _ _ s1 (iter_enumT h1 h3) (fun b e => by subst e; exact sf) (by rw [enumD_len, ← h3.length]; exact h2) (owns_lends _ _)⟩⟩
      · cases e
theorem sndI_rev (C : CtxOk X N q F) {tg e p pos fa} (hg : glB q.sc (Str.ofString "reversed") = true) (hn : notStar e = true) (ha : SndO X e fa) : SndI X tg (.Call (.Name (Str.ofString "reversed") p) [e] [] pos) (fRev fa) := by
  obtain ⟨ta, pa, qa⟩ := ha
  refine ⟨_, RT.pi_revA (gl_of C hg) (C.bl "reversed" (by decide)) pa (star_cons hn), fun A H σ ρ ds ρ0 ls ft e R k => ?_⟩
  unfold fRev at e
  split at e
  · cases e
  · rename_i oa ρ1 e1
    split at e
    · cases e
    · rename_i nm
      split at e
      · cases e
      · rename_i ds' e2
        cases e
        refine qa A H σ ρ oa ρ0 ft e1 _ fun A1 H1 v1 s1 k1 => ?_
        cases e3 : oa.get ρ0 with
        | none => rw [e3] at e2; cases e2
        | some d =>
          rw [e3] at e2
          have w := Opd.ok s1.fit k1 e3
          have nm' : noMu oa ρ0 = true := by simpa using nm
          cases d <;> simp only [Option.bind_some, seqOf, reduceCtorEq, Option.some.injEq] at e2
          · subst e2
            obtain ⟨a, vs, rfl, h1, h2, h3⟩ := w.list
            have sf := opd_safe2 s1.fit k1 _ e3 (ls := lends oa ρ0) (fun i h => h) nm'
            exact ⟨a, vs, rfl, .inl ⟨SqL.of h1, k A1 H1 _ _ s1 (iter_revL h1 h3) (fun b e => by subst e; exact sf) (by rw [List.length_reverse, ← h3.length]; exact h2) (owns_lends _ _)⟩⟩
          · subst e2
            obtain ⟨a, vs, rfl, h0, h1, h2, h3⟩ := w.tup
            have sf := opd_safe2 s1.fit k1 _ e3 (ls := lends oa ρ0) (fun i h => h) nm'
            exact ⟨a, vs, rfl, .inr ⟨SqT.of h1, k A1 H1 _ _ s1 (iter_revT h1 h3) (fun b e => by subst e; exact sf) (by rw [List.length_reverse, ← h3.length]; exact h2) (owns_lends _ _)⟩⟩
theorem owns_app {ρ : Env} {a b : List Nat} (h1 : Owns ρ a) (h2 : Owns ρ b) : Owns ρ (a ++ b) := fun i hi => (List.mem_append.mp hi).elim (h1 i) (h2 i)
theorem sndI_zip (C : CtxOk X N q F) {e e2 p pos fa fb} (hg : glB q.sc (Str.ofString "zip") = true) (hn : notStar e = true) (hn2 : notStar e2 = true) (ha : SndO X e fa) (hb : SndO X e2 fb) : SndI X (.Tuple elts kk tpos) (.Call (.Name (Str.ofString "zip") p) [e, e2] [] pos) (fZip fa fb) := by
  obtain ⟨ta, pa, qa⟩ := ha
  obtain ⟨tb, pb, qb⟩ := hb
  refine ⟨_, RZ.pi_zipA (gl_of C hg) (C.bl "zip" (by decide)) (pa_cons pa (pa_cons pb pa_nil (star_cons hn2)) (star_cons hn)) (star_cons hn) (by rw [star_cons hn2]; rfl), fun A H σ ρ ds ρ0 ls ft e R k => ?_⟩
  unfold fZip at e
  split at e
  · cases e
  · rename_i oa ρ1 e1
    split at e
    · cases e
    · rename_i ob ρ2 e2
      split at e
      · cases e
      · rename_i nm
        split at e
        · cases e
        · rename_i nn
          have nm' : noMu oa ρ2 = true := by simpa using nm
          have nn' : noMu ob ρ2 = true := by simpa using nn
          split at e
          · rename_i xs g1
            split at e
            · rename_i ys g2
              cases e
              refine qa A H σ ρ oa ρ1 ft e1 _ fun A1 H1 v1 s1 k1 => qb A1 H1 σ ρ1 ob ρ0 s1.fit e2 _ fun A2 H2 v2 s2 k2 => ?_
              have k1' := k1.mono s2.ext (s2.keep s1.fit)
              obtain ⟨a, vs, rfl, h1, h2, h3⟩ := (Opd.ok s2.fit k1' g1).list
              obtain ⟨b, ws, rfl, h4, h5, h6⟩ := (Opd.ok s2.fit k2 g2).list
              have sf := opd_safe2 s2.fit k1' _ g1 (ls := lends oa ρ0 ++ lends ob ρ0) (fun i h => List.mem_append.mpr (.inl h)) nm'
              have sg := opd_safe2 s2.fit k2 _ g2 (ls := lends oa ρ0 ++ lends ob ρ0) (fun i h => List.mem_append.mpr (.inr h)) nn'
              refine ⟨a, b, vs, ws, rfl, .inl ⟨SqL.of h1, SqL.of h4, k A2 H2 _ _ (s1.trans s2) (iter_zipL h1 h4 h3 h6) (fun c e => ?_) (by rw [pairD_len, ← h3.length]; omega) (owns_app (owns_lends _ _) (owns_lends _ _))⟩⟩
              rcases e with rfl | rfl
              · exact sf
              · exact sg
            · cases e
          · rename_i xs g1
            split at e
            · rename_i ys g2
              cases e
              refine qa A H σ ρ oa ρ1 ft e1 _ fun A1 H1 v1 s1 k1 => qb A1 H1 σ ρ1 ob ρ0 s1.fit e2 _ fun A2 H2 v2 s2 k2 => ?_
              have k1' := k1.mono s2.ext (s2.keep s1.fit)
              obtain ⟨a, vs, rfl, h0, h1, h2, h3⟩ := (Opd.ok s2.fit k1' g1).tup
              obtain ⟨b, ws, rfl, h0', h4, h5, h6⟩ := (Opd.ok s2.fit k2 g2).tup
              have sf := opd_safe2 s2.fit k1' _ g1 (ls := lends oa ρ0 ++ lends ob ρ0) (fun i h => List.mem_append.mpr (.inl h)) nm'
              have sg := opd_safe2 s2.fit k2 _ g2 (ls := lends oa ρ0 ++ lends ob ρ0) (fun i h => List.mem_append.mpr (.inr h)) nn'
              refine ⟨a, b, vs, ws, rfl, .inr ⟨SqT.of h1, SqT.of h4, k A2 H2 _ _ (s1.trans s2) (iter_zipT h1 h4 h3 h6) (fun c e => ?_) (by rw [pairD_len, ← h3.length]; omega) (owns_app (owns_lends _ _) (owns_lends _ _))⟩⟩
              rcases e with rfl | rfl
              · exact sf
              · exact sg
            · cases e
          · cases e
end
end Ev

set_option maxRecDepth 100000
/-! Ev10: targets; comprehensions. -/
namespace Ev
open PySem L2
variable [TheK]

/-! ### names are stored -/
theorem put_inv {i s ρ ρ'} (h : put i s ρ = some ρ') : ∃ t, ρ[i]? = some t ∧ (∀ ds, t ≠ .mu ds) ∧ ρ' = ρ.set i s := by
  unfold put at h
  split at h
  · cases h
  · rename_i t n ht
    cases h
    exact ⟨t, ht, fun ds e => n ds (by rw [e]), rfl⟩
  · cases h
theorem set_dp {σ : St} {ρ : Env} {i : Nat} {s : Slot} {v} (nd : ∀ k d, s ≠ .dp k d) : ∀ (j : Nat) k d, (ρ.set i s)[j]? = some (.dp k d) → ρ[j]? = some (.dp k d) ∧ (σ.set i v)[j]? = σ[j]? := fun j k d h => by
  rcases get_set h with ⟨_, z⟩ | ⟨e, z⟩
  · exact absurd z.symm (nd k d)
  · exact ⟨z, List.getElem?_set_ne e⟩
theorem stp_fz {A H σ v d} {ρ : Env} {i : Nat} {t : Slot} (f : Fit A H σ ρ) (ht : ρ[i]? = some t) (nm : ∀ ds, t ≠ .mu ds) (r : Rep A H v d) : Stp A H σ ρ A H (σ.set i (some v)) (ρ.set i (.fz d)) := by
  have other : ∀ (j : Nat) (s : Slot), (ρ.set i (.fz d))[j]? = some s → (i = j ∧ s = .fz d) ∨ (i ≠ j ∧ ρ[j]? = some s ∧ (σ.set i (some v))[j]? = σ[j]?) := fun j s h => by
    rcases get_set h with ⟨e, z⟩ | ⟨e, z⟩
    · exact .inl ⟨e, z⟩
    · exact .inr ⟨e, z, List.getElem?_set_ne e⟩
  refine ⟨fun _ h => h, fun _ _ h _ _ => h, fun _ h => h, fun a ⟨j, s, h1, h2, h3⟩ => ?_, fun j ds h => ?_, fun _ h => .inl h, fun j s h o => ?_, fun a h => .inr (.inl (f.prv_back (set_dp (fun _ _ e => by cases e)) (fun _ _ _ h => h) (fun _ _ _ h => h) a h)), ⟨by rw [List.length_set, List.length_set]; exact f.len, fun j s ov h1 h2 => ?_, fun j l s u a jl h1 h2 h3 h4 h5 h6 => ?_, f.trk, f.prv_go (set_dp (fun _ _ e => by cases e)) (fun _ _ _ h => h) (fun _ _ _ h => h) fun j s a h1 h2 h3 => ?_⟩⟩
  · rcases other j s h1 with ⟨_, rfl⟩ | ⟨_, z, e⟩
    · cases h2
    · rw [e] at h3; exact .inl ⟨j, s, z, h2, h3⟩
  · have ij : i ≠ j := fun e => by subst e; rw [ht] at h; cases h; exact nm ds rfl
    exact ⟨List.getElem?_set_ne ij, ds, by rw [List.getElem?_set_ne ij]; exact h⟩
  · rcases other j s h with ⟨_, rfl⟩ | ⟨_, z, e⟩
    · cases o
    · exact ⟨z, e⟩
  · rcases other j s h1 with ⟨rfl, rfl⟩ | ⟨_, z, e⟩
    · have : (σ.set i (some v))[i]? = some (some v) := List.getElem?_set_self (by rw [f.len]; exact (List.getElem?_eq_some_iff.mp ht).1)
      rw [this] at h2; cases h2
      exact ⟨v, rfl, r⟩
    · rw [e] at h2; exact f.slot j s ov z h2
  · rcases other j s h1 with ⟨_, rfl⟩ | ⟨_, z, e⟩
    · cases h3
    · rcases other l u h2 with ⟨_, rfl⟩ | ⟨_, z', e'⟩
      · cases h4
      · rw [e] at h5; rw [e'] at h6
        exact f.apart j l s u a jl z z' h3 h4 h5 h6
  · rcases other j s h1 with ⟨_, rfl⟩ | ⟨_, z, e⟩
    · cases h2
    · rw [e] at h3; exact .inl ⟨j, s, z, h2, h3⟩
/-- a new list gets a name -/
theorem stp_own {A0 H0 σ0 ρ0 A H σ v ds} {ρ : Env} {i : Nat} {t : Slot} (s : Stp A0 H0 σ0 ρ0 A H σ ρ) (ht : ρ[i]? = some t) (nm : ∀ es, t ≠ .mu es) (h0 : ∀ es, ρ0[i]? = some (.mu es) → False) (r : ResOk A H0 H σ ρ v (.nw ds)) : Stp A0 H0 σ0 ρ0 A H (σ.set i (some v)) (ρ.set i (.own ds)) := by
  obtain ⟨p, vs, rfl, r1, r2, r3, r4, r5, r6, r7⟩ := r
  have other : ∀ (j : Nat) (s : Slot), (ρ.set i (.own ds))[j]? = some s → (i = j ∧ s = .own ds ∧ (σ.set i (some (.ref p)))[j]? = some (some (.ref p))) ∨ (i ≠ j ∧ ρ[j]? = some s ∧ (σ.set i (some (.ref p)))[j]? = σ[j]?) := fun j u h => by
    rcases get_set h with ⟨e, z⟩ | ⟨e, z⟩
    · subst e
      exact .inl ⟨rfl, z, List.getElem?_set_self (by rw [s.fit.len]; exact (List.getElem?_eq_some_iff.mp ht).1)⟩
    · exact .inr ⟨e, z, List.getElem?_set_ne e⟩
  refine ⟨s.ext, s.frame, s.dom, fun a ⟨j, u, h1, h2, h3⟩ => ?_, fun j es h => ?_, s.news, fun j u h o => ?_, fun a h => s.prv a (s.fit.prv_back (set_dp (fun _ _ e => by cases e)) (fun _ _ _ h => h) (fun _ _ _ h => h) a h), ⟨by rw [List.length_set, List.length_set]; exact s.fit.len, fun j u ov h1 h2 => ?_, fun j l u w a jl h1 h2 h3 h4 h5 h6 => ?_, s.fit.trk, ?_⟩⟩
  · rcases other j u h1 with ⟨_, rfl, e⟩ | ⟨_, z, e⟩
    · rw [e] at h3; cases h3; exact .inr (.inr r5)
    · rw [e] at h3; exact s.sub a ⟨j, u, z, h2, h3⟩
  · have ij : i ≠ j := fun e => by subst e; exact h0 es h
    obtain ⟨e1, es', e2⟩ := s.mus j es h
    exact ⟨by rw [List.getElem?_set_ne ij]; exact e1, es', by rw [List.getElem?_set_ne ij]; exact e2⟩
  · rcases other j u h with ⟨_, rfl, _⟩ | ⟨_, z, e⟩
    · cases o
    · rw [e]; exact s.lents j u z o
  · rcases other j u h1 with ⟨rfl, rfl, e⟩ | ⟨_, z, e⟩
    · rw [e] at h2; cases h2; exact ⟨p, vs, rfl, r1, r2, r3, r4⟩
    · rw [e] at h2; exact s.fit.slot j u ov z h2
  · rcases other j u h1 with ⟨rfl, rfl, e⟩ | ⟨_, z, e⟩
    · rw [e] at h5; cases h5
      rcases other l w h2 with ⟨rfl, _, _⟩ | ⟨_, z', e'⟩
      · exact jl rfl
      · rw [e'] at h6; exact r6 l w z' h4 h6
    · rcases other l w h2 with ⟨rfl, rfl, e'⟩ | ⟨_, z', e'⟩
      · rw [e'] at h6; cases h6
        rw [e] at h5; exact r6 j u z (liveB_of h3) h5
      · rw [e] at h5; rw [e'] at h6
        exact s.fit.apart j l u w a jl z z' h3 h4 h5 h6
  · intro j k d v a h1 h2 l
    obtain ⟨z, e⟩ := set_dp (σ := σ) (v := some (.ref p)) (fun _ _ e => by cases e) j k d h1
    rw [e] at h2
    obtain ⟨q1, q2⟩ := s.fit.prv j k d v a z h2 l
    refine ⟨fun l' w e1 e2 e3 => ?_, fun l' k' d' v' hj e1 e2 => ?_⟩
    · rcases other l' w e1 with ⟨rfl, rfl, e'⟩ | ⟨_, z', e'⟩
      · rw [e'] at e3; cases e3
        exact r7 ⟨j, k, d, v, z, h2, l⟩
      · rw [e'] at e3; exact q1 l' w z' e2 e3
    · obtain ⟨z', e'⟩ := set_dp (σ := σ) (v := some (.ref p)) (fun _ _ e => by cases e) l' k' d' e1
      rw [e'] at e2
      exact q2 l' k' d' v' hj z' e2

mutual
def tslots : T → List Nat
  | .name i => [i]
  | .tup ts => tsslots ts
def tsslots : Ts → List Nat
  | .nil => []
  | .cons t ts => tslots t ++ tsslots ts
end
def OnlyAt (vs : List Nat) (σ σ' : St) : Prop := σ'.length = σ.length ∧ ∀ i, i ∉ vs → σ'[i]? = σ[i]?
theorem OnlyAt.trans {vs σ σ1 σ2} (a : OnlyAt vs σ σ1) (b : OnlyAt vs σ1 σ2) : OnlyAt vs σ σ2 := ⟨b.1.trans a.1, fun i h => (b.2 i h).trans (a.2 i h)⟩
theorem OnlyAt.mono {vs ws σ σ'} (a : OnlyAt vs σ σ') (h : ∀ i ∈ vs, i ∈ ws) : OnlyAt ws σ σ' := ⟨a.1, fun i n => a.2 i fun z => n (h i z)⟩
theorem wipe_at : ∀ (vs : List Nat) (σ : St) (i : Nat), (wipe σ vs)[i]? = if i ∈ vs then (if i < σ.length then some none else none) else σ[i]?
  | [], σ, i => by simp [wipe]
  | v :: r, σ, i => by
    unfold wipe
    by_cases e : v = i
    · subst e
      by_cases hl : v < σ.length
      · rw [List.getElem?_set_self (by rw [wipe_length]; exact hl)]; simp [hl]
      · rw [List.getElem?_eq_none (by rw [List.length_set, wipe_length]; omega)]; simp [hl]
    · rw [List.getElem?_set_ne e, wipe_at r]
      simp [Ne.symm e]
theorem wipe_only {vs σ σ'} (h : OnlyAt vs σ σ') : wipe σ' vs = wipe σ vs := by
  apply List.ext_getElem?
  intro i
  rw [wipe_at, wipe_at]
  split
  · rw [h.1]
  · rename_i n; exact h.2 i n
theorem wipe_wipe {vs σ} : wipe (wipe σ vs) vs = wipe σ vs := by
  apply List.ext_getElem?
  intro i
  rw [wipe_at, wipe_at, wipe_length]
  split <;> rfl
def SndG (X : Cx) (tg : Expr) (t : T) : Prop := ∃ g : TG, PG X tg g ∧
  ∀ A H σ ρ v d ρ', Fit A H σ ρ → Rep A H v d → asgT t d ρ = some ρ' → ∀ Q : St → Hp → Prop, (∀ σ', Stp A H σ ρ A H σ' ρ' → OnlyAt (tslots t) σ σ' → Q σ' H) → g v σ H Q
def SndGs (X : Cx) (tgs : List Expr) (ts : Ts) : Prop := ∃ g : TGs, PGs X tgs g ∧
  ∀ A H σ ρ vs ds ρ', Fit A H σ ρ → RepAll A H vs ds → asgTs ts ds ρ = some ρ' → ∀ Q : St → Hp → Prop, (∀ σ', Stp A H σ ρ A H σ' ρ' → OnlyAt (tsslots ts) σ σ' → Q σ' H) → g vs σ H Q
def locB (q : Sc) (x : Str) : Bool := match q.sc.names.lookup x with
  | some .local => true
  | some .cell => q.fs x
  | _ => false
section
variable {X : Cx} {N : List Str} {q : Sc} {F : FT}
theorem loc_of (C : CtxOk X N q F) {x} (h : locB q x = true) : Loc X.env.scope x ∧ (X.fn x = true ∨ X.env.scope.names.lookup x = some .local) := by
  unfold locB at h
  rw [C.sc, C.fn]
  split at h
  · exact ⟨.inl (by assumption), .inr (by assumption)⟩
  · exact ⟨.inr (by assumption), .inl h⟩
  · cases h
theorem only_set {σ : St} {i : Nat} {v} : OnlyAt [i] σ (σ.set i v) := ⟨List.length_set, fun j h => List.getElem?_set_ne (fun e => h (by simp [e]))⟩
theorem sndG_name (C : CtxOk X N q F) {i x pos} (hN : N[i]? = some x) (hl : locB q x = true) : SndG X (.Name x pos) (.name i) := by
  obtain ⟨h1, h2⟩ := loc_of C hl
  refine ⟨_, pg_name C.nd (by rw [C.N]; exact hN) h1 h2, fun A H σ ρ v d ρ' ft r e Q k => ?_⟩
  simp only [asgT] at e
  obtain ⟨t, ht, nm, rfl⟩ := put_inv e
  exact k _ (stp_fz ft ht nm r) only_set
theorem sndGs_nil : SndGs X [] .nil := by
  refine ⟨_, pgs_nil, fun A H σ ρ vs ds ρ' ft r e Q k => ?_⟩
  cases r with
  | nil => simp only [asgTs] at e; cases e; exact ⟨rfl, k σ (Stp.refl ft) ⟨rfl, fun _ _ => rfl⟩⟩
  | cons _ _ => simp only [asgTs] at e; cases e
theorem assign_cons {e : Expr} {es : List Expr} {env : PySem.Env} (h : notStar e = true) : assignEach (e :: es) env = (false, assign e env) :: assignEach es env := by
  cases e <;> first | rfl | cases h
theorem sndGs_cons {e es t ts} (hn : notStar e = true) (h : SndG X e t) (hs : SndGs X es ts) : SndGs X (e :: es) (.cons t ts) := by
  obtain ⟨g, pg, qg⟩ := h
  obtain ⟨gs, pgs, qgs⟩ := hs
  refine ⟨_, pgs_cons pg pgs (by rw [assign_cons hn]; rfl), fun A H σ ρ vs ds ρ' ft r e Q k => ?_⟩
  cases r with
  | nil => simp only [asgTs] at e; cases e
  | cons r1 r2 =>
    simp only [asgTs] at e
    split at e
    · rename_i ρ1 e1
      refine ⟨_, _, rfl, qg A H σ ρ _ _ ρ1 ft r1 e1 _ fun σ1 s1 o1 => ?_⟩
      refine qgs A H σ1 ρ1 _ _ ρ' s1.fit r2 e _ fun σ2 s2 o2 => ?_
      exact k σ2 (s1.trans s2) ((o1.mono fun i h => List.mem_append_left _ h).trans (o2.mono fun i h => List.mem_append_right _ h))
    · cases e
theorem assign_len {es : List Expr} {env : PySem.Env} : (assignEach es env).length = es.length := by
  induction es with
  | nil => rfl
  | cons e r ih => cases e <;> simp [assignEach, ih]
theorem assign_nostar {es : List Expr} {env : PySem.Env} (h : es.all notStar = true) : (assignEach es env).findIdx? (·.1) = none := by
  induction es with
  | nil => rfl
  | cons e r ih =>
    rw [List.all_cons, Bool.and_eq_true] at h
    rw [assign_cons h.1, List.findIdx?_cons]
    simp [ih h.2]
theorem asgTs_len : ∀ {ts ds ρ ρ'}, asgTs ts ds ρ = some ρ' → ∀ {tgs}, SndGs X tgs ts → True := fun _ _ _ => trivial
def tsLen : Ts → Nat
  | .nil => 0
  | .cons _ ts => tsLen ts + 1
theorem asgTs_tsLen : ∀ {ts ds ρ ρ'}, asgTs ts ds ρ = some ρ' → ds.length = tsLen ts
  | .nil, [], _, _, _ => rfl
  | .nil, _ :: _, _, _, e => by simp [asgTs] at e
  | .cons _ _, [], _, _, e => by simp [asgTs] at e
  | .cons t ts, d :: ds, ρ, ρ', e => by
    simp only [asgTs] at e
    split at e
    · simp [tsLen, asgTs_tsLen e]
    · cases e
theorem sndG_tup (C : CtxOk X N q F) {es k pos ts} (hl : es.length = tsLen ts) (st : es.all notStar = true) (h : SndGs X es ts) : SndG X (.Tuple es k pos) (.tup ts) := by
  obtain ⟨g, pg, qg⟩ := h
  refine ⟨_, pg_tup C.calm pg assign_len (assign_nostar st), fun A H σ ρ v d ρ' ft r e Q k => ?_⟩
  cases r with
  | tup h1 h2 h3 h4 =>
    simp only [asgT] at e
    exact ⟨_, _, rfl, SqT.of h2, by rw [h4.length, asgTs_tsLen e, hl], qg A H σ ρ _ _ ρ' ft h4 e Q fun σ' s o => k σ' s o⟩
  | _ => simp only [asgT] at e; cases e

/-! ### readings that hang on the evaluator alone -/
def tE (f : Env → Option (Res × Env)) : TE := fun σ H Q => ∃ A ρ r ρ', Fit A H σ ρ ∧ f ρ = some (r, ρ') ∧ ∀ A' H' v, Stp A H σ ρ A' H' σ ρ' → Rep A' H' v r.d → Q v H'
def tT (f : Env → Option (Bool × Env)) : TT := fun σ H Q => ∃ A ρ b ρ', Fit A H σ ρ ∧ f ρ = some (b, ρ') ∧ ∀ A' H', Stp A H σ ρ A' H' σ ρ' → Q b H'
def gT (t : T) : TG := fun v σ H Q => ∃ A ρ d ρ', Fit A H σ ρ ∧ Rep A H v d ∧ asgT t d ρ = some ρ' ∧ ∀ σ', Stp A H σ ρ A H σ' ρ' → OnlyAt (tslots t) σ σ' → Q σ' H
theorem SndE.pe {e f} (h : SndE X e f) : PE X e (tE f) := by
  obtain ⟨t, p, hq⟩ := h.d
  exact ⟨fun pins s σ H Q I ⟨A, ρ, r, ρ', ft, e, k⟩ => p.run pins s σ H Q I (hq A H σ ρ r ρ' ft e Q k)⟩
theorem SndG.pg {tg t} (h : SndG X tg t) : PG X tg (gT t) := by
  obtain ⟨g, p, hq⟩ := h
  exact ⟨fun pins s σ H v u Q I rv ⟨A, ρ, d, ρ', ft, r, e, k⟩ => p.run pins s σ H v u Q I rv (hq A H σ ρ v d ρ' ft r e Q k)⟩
/-- the tests of a comprehension -/
def SndC (X : Cx) (ifs : List Expr) (f : Env → Option (Bool × Env)) : Prop := ∃ t : TT, PTs X ifs t ∧
  ∀ A H σ ρ b ρ', Fit A H σ ρ → f ρ = some (b, ρ') → ∀ Q : Bool → Hp → Prop, (∀ A' H', Stp A H σ ρ A' H' σ ρ' → Q b H') → t σ H Q
theorem SndC.pts {ifs f} (h : SndC X ifs f) : PTs X ifs (tT f) := by
  obtain ⟨t, p, hq⟩ := h
  exact ⟨fun pins s σ H Q I ⟨A, ρ, b, ρ', ft, e, k⟩ => p.run pins s σ H Q I (hq A H σ ρ b ρ' ft e Q k)⟩
theorem sndC_nil : SndC X [] (fun ρ => some (true, ρ)) := ⟨_, pts_nil, fun A H σ ρ b ρ' ft e Q k => by cases e; exact k A H (Stp.refl ft)⟩
def fCond (fa : Env → Option (Res × Env)) (ρ : Env) : Option (Bool × Env) := match fa ρ with
    | some (.fr (.bool i), ρ1) => some (i, ρ1)
    | _ => none
theorem sndC_one {e f} (h : SndT X e f) : SndC X [e] (fCond f) := by
  obtain ⟨t, p, hq⟩ := h
  refine ⟨_, pts_one p, fun A H σ ρ b ρ' ft e Q k => ?_⟩
  unfold fCond at e
  split at e
  · rename_i i ρ1 e1
    cases e
    exact hq A H σ ρ b ρ' ft e1 Q k
  · cases e
end
end Ev

set_option maxRecDepth 100000
/-! Ev11: list comprehensions. -/
namespace Ev
open PySem L2
variable [TheK]

theorem wipeE_len : ∀ (vs : List Nat) (ρ : Env), (wipeE vs ρ).length = ρ.length
  | [], ρ => rfl
  | v :: r, ρ => by unfold wipeE; rw [List.length_set, wipeE_len r]
theorem wipeE_at : ∀ (vs : List Nat) (ρ : Env) (i : Nat), (wipeE vs ρ)[i]? = if i ∈ vs then (if i < ρ.length then some .un else none) else ρ[i]?
  | [], ρ, i => by simp [wipeE]
  | v :: r, ρ, i => by
    unfold wipeE
    by_cases e : v = i
    · subst e
      by_cases hl : v < ρ.length
      · rw [List.getElem?_set_self (by rw [wipeE_len]; exact hl)]; simp [hl]
      · rw [List.getElem?_eq_none (by rw [List.length_set, wipeE_len]; omega)]; simp [hl]
    · rw [List.getElem?_set_ne e, wipeE_at r]
      simp [Ne.symm e]
theorem backE_len : ∀ (vs : List Nat) (ρ0 ρ : Env), (backE vs ρ0 ρ).length = ρ.length
  | [], _, ρ => rfl
  | v :: r, ρ0, ρ => by
    unfold backE
    split
    · rw [List.length_set, backE_len r]
    · exact backE_len r ρ0 ρ
theorem backE_at : ∀ (vs : List Nat) (ρ0 ρ : Env) (i : Nat), ρ0.length = ρ.length → (backE vs ρ0 ρ)[i]? = if i ∈ vs then ρ0[i]? else ρ[i]?
  | [], ρ0, ρ, i, _ => by simp [backE]
  | v :: r, ρ0, ρ, i, hl => by
    unfold backE
    split
    · rename_i s hs
      by_cases e : v = i
      · subst e
        rw [List.getElem?_set_self (by rw [backE_len, ← hl]; exact (List.getElem?_eq_some_iff.mp hs).1)]
        simp [hs]
      · rw [List.getElem?_set_ne e, backE_at r ρ0 ρ i hl]
        simp [Ne.symm e]
    · rename_i hn
      rw [backE_at r ρ0 ρ i hl]
      by_cases e : i = v
      · subst e
        have h0 : ρ0[i]? = none := hn
        have h1 : ρ[i]? = none := List.getElem?_eq_none (by rw [← hl]; exact List.getElem?_eq_none_iff.mp h0)
        simp [h0, h1]
      · simp [e]
theorem wipeE_inv {vs ρ} {i : Nat} {s : Slot} (h : (wipeE vs ρ)[i]? = some s) : s = .un ∨ (i ∉ vs ∧ ρ[i]? = some s) := by
  rw [wipeE_at] at h
  split at h
  · split at h
    · cases h; exact .inl rfl
    · cases h
  · rename_i n; exact .inr ⟨n, h⟩
theorem wipe_dp {vs σ ρ} : ∀ (i : Nat) k d, (wipeE vs ρ)[i]? = some (.dp k d) → ρ[i]? = some (.dp k d) ∧ (wipe σ vs)[i]? = σ[i]? := fun i k d h => by
  rcases wipeE_inv h with e | ⟨n, h⟩
  · cases e
  · exact ⟨h, by rw [wipe_at, if_neg n]⟩
theorem wipe_at_not {vs σ} {i : Nat} (h : i ∉ vs) : (wipe σ vs)[i]? = σ[i]? := by rw [wipe_at, if_neg h]
theorem Stp.wipe {A H σ0 ρ0 A' H' σ ρ vs} (s : Stp A H σ0 ρ0 A' H' σ ρ) (nm : ∀ i ∈ vs, ∀ ds, ρ0[i]? = some (.mu ds) → False) : Stp A H σ0 ρ0 A' H' (wipe σ vs) (wipeE vs ρ) where
  ext := s.ext
  frame := s.frame
  dom := s.dom
  sub := fun a ⟨i, t, h1, h2, h3⟩ => by
    rcases wipeE_inv h1 with rfl | ⟨n, h⟩
    · cases h2
    · rw [wipe_at_not n] at h3; exact s.sub a ⟨i, t, h, h2, h3⟩
  mus := fun i ds h => by
    have n : i ∉ vs := fun z => nm i z ds h
    obtain ⟨e1, ds', e2⟩ := s.mus i ds h
    exact ⟨by rw [wipe_at_not n]; exact e1, ds', by rw [wipeE_at, if_neg n]; exact e2⟩
  news := s.news
  prv := fun a h => s.prv a (s.fit.prv_back wipe_dp (fun _ _ _ z => z) (fun _ _ _ z => z) a h)
  lents := fun i t h o => by
    rcases wipeE_inv h with rfl | ⟨n, h⟩
    · cases o
    · rw [wipe_at_not n]; exact s.lents i t h o
  fit := by
    refine ⟨by rw [wipe_length, wipeE_len]; exact s.fit.len, fun i t ov h1 h2 => ?_, fun i j t u a ij h1 h2 h3 h4 h5 h6 => ?_, s.fit.trk, s.fit.prv_go wipe_dp (fun _ _ _ z => z) (fun _ _ _ z => z) fun j t a h1 h2 h3 => ?_⟩
    · rcases wipeE_inv h1 with rfl | ⟨n, h⟩
      · trivial
      · rw [wipe_at_not n] at h2; exact s.fit.slot i t ov h h2
    · rcases wipeE_inv h1 with rfl | ⟨n, h⟩
      · cases h3
      · rcases wipeE_inv h2 with rfl | ⟨n', h'⟩
        · cases h4
        · rw [wipe_at_not n] at h5; rw [wipe_at_not n'] at h6
          exact s.fit.apart i j t u a ij h h' h3 h4 h5 h6
    · rcases wipeE_inv h1 with rfl | ⟨n, h⟩
      · cases h2
      · rw [wipe_at_not n] at h3; exact .inl ⟨j, t, h, h2, h3⟩
/-- the names of the block are what they were -/
theorem Stp.back {A H σ ρ0 A' H' ρ vs} (f : Fit A H σ ρ0) (s : Stp A H σ ρ0 A' H' (L2.wipe σ vs) ρ) (qt : ∀ i ∈ vs, ∃ t, ρ0[i]? = some t ∧ quietS t = true) : Stp A H σ ρ0 A' H' σ (backE vs ρ0 ρ) := by
  have hl : ρ0.length = ρ.length := by rw [← f.len, ← s.fit.len, wipe_length]
  have inv : ∀ (i : Nat) (t : Slot), (backE vs ρ0 ρ)[i]? = some t → (i ∈ vs ∧ ρ0[i]? = some t ∧ quietS t = true) ∨ (i ∉ vs ∧ ρ[i]? = some t) := fun i t h => by
    rw [backE_at vs ρ0 ρ i hl] at h
    split at h
    · rename_i hi
      obtain ⟨u, q1, q2⟩ := qt i hi
      rw [h] at q1; cases q1
      exact .inl ⟨hi, h, q2⟩
    · rename_i hi; exact .inr ⟨hi, h⟩
  have hd : ∀ (i : Nat) k d, (backE vs ρ0 ρ)[i]? = some (.dp k d) → ρ[i]? = some (.dp k d) ∧ σ[i]? = (L2.wipe σ vs)[i]? := fun i k d h => by
    rcases inv i _ h with ⟨_, _, z⟩ | ⟨n, z⟩
    · cases z
    · exact ⟨z, by rw [wipe_at_not n]⟩
  refine ⟨s.ext, s.frame, s.dom, fun a ⟨i, t, h1, h2, h3⟩ => ?_, fun i ds h => ?_, s.news, fun i t h o => ?_, fun a h => s.prv a (s.fit.prv_back hd (fun _ _ _ z => z) (fun _ _ _ z => z) a h), ⟨by rw [backE_len, ← hl]; exact f.len, fun i t ov h1 h2 => ?_, fun i j t u a ij h1 h2 h3 h4 h5 h6 => ?_, s.fit.trk, s.fit.prv_go hd (fun _ _ _ z => z) (fun _ _ _ z => z) fun j t a h1 h2 h3 => ?_⟩⟩
  · rcases inv i t h1 with ⟨_, _, z⟩ | ⟨n, z⟩
    · cases t <;> first | (cases h2; done) | (cases z; done)
    · exact s.sub a ⟨i, t, z, h2, by rw [wipe_at_not n]; exact h3⟩
  · have n : i ∉ vs := fun z => by
      obtain ⟨u, q1, q2⟩ := qt i z
      rw [h] at q1; cases q1; cases q2
    obtain ⟨_, ds', e2⟩ := s.mus i ds h
    exact ⟨rfl, ds', by rw [backE_at vs ρ0 ρ i hl, if_neg n]; exact e2⟩
  · rcases inv i t h with ⟨_, _, z⟩ | ⟨n, z⟩
    · cases t <;> first | (cases o; done) | (cases z; done)
    · exact ⟨(s.lents i t z o).1, rfl⟩
  · rcases inv i t h1 with ⟨_, z, z2⟩ | ⟨n, z⟩
    · exact (f.slot i t ov z h2).go s.ext (s.keep f) (fun a o lb => by cases t <;> first | (cases lb; done) | (cases z2; done)) (fun a lv => by cases t <;> first | (cases lv; done) | (cases z2; done)) (fun a o u e => s.frame a _ e (fun m => (f.mut_nofrz m _ _ e).elim) fun ⟨i', k', d', v', y1, y2, y3⟩ => by obtain ⟨_, ws, y4⟩ := f.lr y1 y2 y3; rw [e] at y4; cases y4) (fun kk d v a o e => by subst e; cases z2) (fun kk d v a e => by subst e; cases z2)
    · exact s.fit.slot i t ov z (by rw [wipe_at_not n]; exact h2)
  · rcases inv i t h1 with ⟨_, _, z⟩ | ⟨n, z⟩
    · cases t <;> first | (cases h3; done) | (cases z; done)
    · rcases inv j u h2 with ⟨_, _, z'⟩ | ⟨n', z'⟩
      · cases u <;> first | (cases h4; done) | (cases z'; done)
      · exact s.fit.apart i j t u a ij z z' h3 h4 (by rw [wipe_at_not n]; exact h5) (by rw [wipe_at_not n']; exact h6)
  · rcases inv j t h1 with ⟨_, _, z⟩ | ⟨n, z⟩
    · cases t <;> first | (cases h2; done) | (cases z; done)
    · exact .inl ⟨j, t, z, h2, by rw [wipe_at_not n]; exact h3⟩
/-- no slot holds the object at D -/
def NoRef (H : Hp) (σ : St) (ρ : Env) (D : Addr) : Prop := (∀ (j : Nat) (s : Slot), ρ[j]? = some s → liveB s = true → σ[j]? ≠ some (some (.ref D))) ∧ ¬ Prv H σ ρ D
theorem NoRef.new {A H σ ρ D} (f : Fit A H σ ρ) (h : H D = none) : NoRef H σ ρ D := ⟨fun j s h1 h2 => f.noref h j s h1 h2, f.noprv_none h⟩
theorem NoRef.nomut {H σ ρ D} (n : NoRef H σ ρ D) : ¬ Mut σ ρ D := fun ⟨i, s, h1, h2, h3⟩ => n.1 i s h1 (by cases s <;> first | rfl | (cases h2; done)) h3
theorem NoRef.wipe {A H σ ρ D} (f : Fit A H σ ρ) (n : NoRef H σ ρ D) (vs : List Nat) : NoRef H (L2.wipe σ vs) (wipeE vs ρ) D := ⟨fun j s h1 h2 h3 => by
    rcases wipeE_inv h1 with rfl | ⟨m, h⟩
    · cases h2
    · rw [wipe_at_not m] at h3; exact n.1 j s h h2 h3, fun h => n.2 (f.prv_back wipe_dp (fun _ _ _ z => z) (fun _ _ _ z => z) D h)⟩
theorem NoRef.stp {A H σ ρ A' H' σ' ρ' D o} (n : NoRef H σ ρ D) (s : Stp A H σ ρ A' H' σ' ρ') (h : H D = some o) : NoRef H' σ' ρ' D := ⟨fun j t h1 h2 h3 => by
    by_cases hm : mutS t = true
    · rcases s.sub D ⟨j, t, h1, hm, h3⟩ with q | q | q
      · exact n.nomut q
      · exact n.2 q
      · rw [h] at q; cases q
    · have ho : oldS t = true := by cases t <;> first | rfl | (cases h2; done) | exact absurd rfl hm
      obtain ⟨e1, e2⟩ := s.lents j t h1 ho
      exact n.1 j t e1 h2 (by rw [← e2]; exact h3), fun p => by
    rcases s.prv D p with q | q | q
    · exact n.nomut q
    · exact n.2 q
    · rw [h] at q; cases q⟩
theorem nofrz_stp {A H σ ρ A' H' σ' ρ' D o} (na : ¬ A D) (n : NoRef H σ ρ D) (s : Stp A H σ ρ A' H' σ' ρ') (h : H D = some o) : ¬ A' D := fun z => by
  rcases s.news D z with q | q | q | q | ⟨i, ds, q1, q2⟩
  · exact na q
  · rw [h] at q; cases q
  · exact n.nomut q
  · exact n.2 q
  · exact n.1 i _ q1 rfl q2
theorem keep_other {A : Addr → Prop} {H : Hp} {D : Addr} {g : Hp} (hg : ∀ a, a ≠ D → g a = H a) (na : ¬ A D) : Keep A H g := fun b u hb e => by
  have : b ≠ D := fun z => na (z ▸ hb)
  rw [hg b this]; exact e
theorem prv_other {H σ ρ D} {g : Hp} (hg : ∀ a, a ≠ D → g a = H a) (n : ¬ Prv H σ ρ D) : ∀ a o, Prv H σ ρ a → H a = some o → g a = some o := fun b u hb e => by
  have : b ≠ D := fun z => n (z ▸ hb)
  rw [hg b this]; exact e
theorem NoRef.go {A H σ ρ D} {g : Hp} (f : Fit A H σ ρ) (n : NoRef H σ ρ D) (hg : ∀ a, a ≠ D → g a = H a) (na : ¬ A D) : NoRef g σ ρ D :=
  ⟨n.1, fun h => n.2 (f.prv_back (fun _ _ _ z => ⟨z, rfl⟩) (keep_other hg na) (prv_other hg n.2) D h)⟩
theorem NoRef.go_back {A H σ ρ D} {g : Hp} (n : NoRef H σ ρ D) (f : Fit A H σ ρ) (hg : ∀ a, a ≠ D → g a = H a) (na : ¬ A D) : ∀ a, Prv g σ ρ a → Prv H σ ρ a :=
  f.prv_back (fun _ _ _ z => ⟨z, rfl⟩) (keep_other hg na) (prv_other hg n.2)
/-- an object that nobody of these holds is written, or goes -/
theorem Stp.oth {A H σ ρ A' H' σ' ρ' D} {g : Hp} (s : Stp A H σ ρ A' H' σ' ρ') (h0 : H D = none) (na : ¬ A' D) (n : NoRef H' σ' ρ' D) (hd : ∀ o u, H' D ≠ some (.frz o u)) (hg : ∀ a, a ≠ D → g a = H' a) : Stp A H σ ρ A' g σ' ρ' := by
  have k : Keep A' H' g := keep_other hg na
  refine ⟨s.ext, fun a u e m m2 => ?_, fun a e => ?_, s.sub, s.mus, s.news, s.lents, fun a h => s.prv a (s.fit.prv_back (fun _ _ _ z => ⟨z, rfl⟩) k (prv_other hg n.2) a h), ⟨s.fit.len, fun i t ov h1 h2 => ?_, s.fit.apart, fun a ha => let ⟨u, e⟩ := s.fit.trk a ha; ⟨u, k a u ha e⟩, s.fit.prv_go (fun _ _ _ z => ⟨z, rfl⟩) k (prv_other hg n.2) fun j t a h1 h2 h3 => .inl ⟨j, t, h1, h2, h3⟩⟩⟩
  · rw [hg a (ne_of_none e h0)]; exact s.frame a u e m m2
  · by_cases z : a = D
    · subst z; exact h0
    · rw [hg a z] at e; exact s.dom a e
  · exact (s.fit.slot i t ov h1 h2).go (fun _ z => z) k (fun a u lb e z => by
      subst e
      have : a ≠ D := fun y => by subst y; exact n.1 i t h1 lb h2
      rw [hg a this]; exact z) (fun a lv e => by subst e; exact (s.fit.slot i t _ h1 h2).nofz lv) (fun a o u e => (by
      have : a ≠ D := fun y => by subst y; exact hd o u e
      rw [hg a this]; exact e)) (fun kk d v a o e1 e2 l e3 => by
      subst e1 e2
      exact prv_other hg n.2 a o ⟨i, kk, d, v, h1, h2, l⟩ e3) (fun kk d v a e1 e2 l => by
      subst e1 e2
      exact (s.fit.lr h1 h2 l).1)
theorem Stp.other {A H σ ρ A' H' σ' ρ' D o} (s : Stp A H σ ρ A' H' σ' ρ') (h0 : H D = none) (na : ¬ A' D) (n : NoRef H' σ' ρ' D) (hd : ∀ o u, H' D ≠ some (.frz o u)) : Stp A H σ ρ A' (upd H' D o) σ' ρ' :=
  s.oth h0 na n hd fun a h => upd_ne h
theorem NoRef.upd {A H σ ρ D o} (f : Fit A H σ ρ) (n : NoRef H σ ρ D) (na : ¬ A D) : NoRef (L2.upd H D o) σ ρ D := n.go f (fun a h => upd_ne h) na
def stepC (t : T) (vs : List Nat) (fc : Env → Option (Bool × Env)) (fe : Env → Option (Res × Env)) (d : D) (ρ : Env) : Option (Option D × Env) := match asgT t d ρ with
        | none => none
        | some ρa => match fc ρa with
          | none => none
          | some (false, ρb) => some (none, wipeE vs ρb)
          | some (true, ρb) => match fe ρb with
            | none => none
            | some (r, ρc) => some (some r.d, wipeE vs ρc)
def fComp (t : T) (vs : List Nat) (fi : Env → Option (List D × Env × List Nat)) (fc : Env → Option (Bool × Env)) (fe : Env → Option (Res × Env)) (ρ : Env) : Option (Res × Env) := match fi ρ with
    | none => none
    | some (ds, ρ0, ls) => if (vs.all fun v => match (lendL ls ρ0)[v]? with | some s => quietS s | none => false) = false then none else
      match compL (stepC t vs fc fe) ds (wipeE vs (lendL ls ρ0)) with
      | none => none
      | some (r, ρ2) => some (.nw r, unlend ls (backE vs (lendL ls ρ0) ρ2))
theorem comp_core {wi : TI} {t : T} {vs : List Nat} {fi fc fe} (hts : ∀ i ∈ tslots t, i ∈ vs)
    (qi : ∀ A H σ ρ ds ρ0 ls, Fit A H σ ρ → fi ρ = some (ds, ρ0, ls) → ∀ R : L2.It → Hp → Prop,
      (∀ A' H' J G, Stp A H σ ρ A' H' σ ρ0 → IterOk A' H' G J ds → (∀ a, G a → ¬ Mut σ (lendL ls ρ0) a ∧ Held A' σ ρ0 a) → ds.length ≤ sizeLine → Owns ρ0 ls → R J H') → wi σ H R)
    {A H σ ρ r ρ'} (ft : Fit A H σ ρ) (e : fComp t vs fi fc fe ρ = some (r, ρ')) (Q : VK) (k : ∀ A' H' v, Stp A H σ ρ A' H' σ ρ' → ResOk A' H H' σ ρ' v r → Q v H') :
    tLc wi (gT t) (tT fc) (tE fe) vs σ H Q := by
  unfold fComp at e
  split at e
  · cases e
  · rename_i ds ρ0 ls e1
    split at e
    · cases e
    · rename_i hq
      split at e
      · cases e
      · rename_i rr ρ2 e2
        cases e
        have hq : ∀ i ∈ vs, ∃ s, (lendL ls ρ0)[i]? = some s ∧ quietS s = true := fun i hi => by
          have := (List.all_eq_true.mp (by simpa using hq : (vs.all fun v => match (lendL ls ρ0)[v]? with | some s => quietS s | none => false) = true)) i hi
          split at this
          · rename_i s hs; exact ⟨s, hs, this⟩
          · cases this
        have nm : ∀ i ∈ vs, ∀ es, (lendL ls ρ0)[i]? = some (.mu es) → False := fun i hi es h => by
          obtain ⟨s, z1, z2⟩ := hq i hi
          rw [h] at z1; cases z1; cases z2
        refine qi A H σ ρ ds ρ0 ls ft e1 _ fun A1 H1 J G s1 io gm lens ow => ?_
        have f1 := s1.fit.lend ls
        obtain ⟨gt, gw⟩ := io
        intro D hD
        have nD : ¬ A1 D := f1.nofrz hD
        have rD : NoRef H1 σ (lendL ls ρ0) D := .new f1 hD
        have b0 : Stp A1 H1 σ (lendL ls ρ0) A1 H1 (L2.wipe σ vs) (wipeE vs (lendL ls ρ0)) := (Stp.refl f1).wipe nm
        have rD0 : NoRef H1 (L2.wipe σ vs) (wipeE vs (lendL ls ρ0)) D := rD.wipe f1 vs
        refine ⟨fun i m Hc => m = ds.length - i ∧ i ≤ ds.length ∧ ∃ (Ac : Addr → Prop) (ρb : Env) (vacc : List V) (dacc rest : List Ev.D), Stp A1 H1 σ (lendL ls ρ0) Ac Hc (L2.wipe σ vs) ρb ∧ Hc D = some (.lst vacc) ∧ vacc.length ≤ i ∧ RepAll Ac Hc vacc dacc ∧ ¬ Ac D ∧
          NoRef Hc (L2.wipe σ vs) ρb D ∧ compL (stepC t vs fc fe) (ds.drop i) ρb = some (rest, ρ2) ∧ dacc ++ rest = rr,
          ⟨ds.length, rfl, Nat.zero_le _, A1, _, [], [], rr, b0.other hD nD rD0 (fun o u z => by rw [hD] at z; cases z), upd_same, Nat.le_refl _, .nil, nD, rD0.upd b0.fit nD, e2, rfl⟩, ?_⟩
        rintro i m Hc ⟨rfl, hi, Ac, ρb, vacc, dacc, rest, sb, hDc, hl, ra, nDc, rDc, ec, er⟩
        have kc : Keep A1 H1 Hc := sb.keep f1
        have gk : ∀ a o, G a → H1 a = some o → Hc a = some o := fun a o hg z => sb.frame a o z (gm a hg).1 fun m => s1.fit.held_noprv (gm a hg).2 (prv_lend.mp m)
        obtain ⟨g1, g2, g3⟩ := gw Ac Hc sb.ext kc gk i
        by_cases hlt : i < ds.length
        · refine .inr ⟨g1 hlt, ?_⟩
          rw [List.drop_eq_getElem_cons hlt] at ec
          simp only [compL] at ec
          split at ec
          · cases ec
          · rename_i o ρ3 e3
            split at ec
            · cases ec
            · rename_i r2 ρ4 e4
              cases ec
              -- what the turn is to reach
              refine ⟨fun Hn => ∃ (An : Addr → Prop) (vn : List V) (dn : List Ev.D), Stp A1 H1 σ (lendL ls ρ0) An Hn (L2.wipe σ vs) ρ3 ∧ Hn D = some (.lst vn) ∧ vn.length ≤ i + 1 ∧ RepAll An Hn vn dn ∧ ¬ An D ∧ NoRef Hn (L2.wipe σ vs) ρ3 D ∧ dn ++ r2 = rr, fun Hn hn => ?_, fun x H' y => ?_⟩
              · obtain ⟨An, vn, dn, z1, z2, z3, z4, z5, z6, z7⟩ := hn
                exact ⟨ds.length - (i + 1), by omega, rfl, hlt, An, ρ3, vn, dn, r2, z1, z2, z3, z4, z5, z6, e4, z7⟩
              · -- the item
                have item : ∃ A', Stp Ac Hc (L2.wipe σ vs) ρb A' H' (L2.wipe σ vs) ρb ∧ Rep A' H' x ds[i] := by
                  rcases g3 x H' ds[i] (List.getElem?_eq_getElem hlt) y with ⟨rfl, rx⟩ | ⟨p, o', hp, rfl, rx⟩
                  · exact ⟨Ac, Stp.refl sb.fit, rx⟩
                  · exact ⟨_, Stp.frz sb.fit hp, rx⟩
                obtain ⟨A', si, rx⟩ := item
                unfold stepC at e3
                split at e3
                · cases e3
                · rename_i ρa ea
                  refine ⟨A', ρb, ds[i], ρa, si.fit, rx, ea, fun σ' sa oa => ?_⟩
                  have wv : L2.wipe σ' vs = L2.wipe σ vs := by rw [wipe_only (oa.mono hts), wipe_wipe]
                  refine ⟨wv, ?_⟩
                  split at e3
                  · cases e3
                  · rename_i ρb' ec'
                    cases e3
                    refine ⟨A', ρa, false, ρb', sa.fit, ec', fun A2 H2 s2 => ?_⟩
                    show if false = true then _ else _
                    rw [if_neg Bool.false_ne_true]
                    have tot := (si.trans sa).trans s2
                    have all := (sb.trans tot).wipe nm
                    rw [wv] at all
                    have rn := rDc.stp tot hDc
                    refine ⟨A2, vacc, dacc, all, tot.frame D _ hDc rDc.nomut rDc.2, Nat.le_succ_of_le hl, RepAll.mono tot.ext (tot.keep sb.fit) ra, nofrz_stp nDc rDc tot hDc, by rw [← wv]; exact rn.wipe tot.fit vs, er⟩
                  · rename_i ρb' ec'
                    split at e3
                    · cases e3
                    · rename_i re ρc ee
                      cases e3
                      refine ⟨A', ρa, true, ρb', sa.fit, ec', fun A2 H2 s2 => ?_⟩
                      show if true = true then _ else _
                      rw [if_pos rfl]
                      refine ⟨A2, ρb', re, ρc, s2.fit, ee, fun A3 H3 y3 s3 r3 => ?_⟩
                      have tot := ((si.trans sa).trans s2).trans s3
                      have all := (sb.trans tot).wipe nm
                      rw [wv] at all
                      have rn := rDc.stp tot hDc
                      have hD3 := tot.frame D _ hDc rDc.nomut rDc.2
                      have na3 := nofrz_stp nDc rDc tot hDc
                      have rn3 : NoRef H3 (L2.wipe σ vs) (wipeE vs ρc) D := by rw [← wv]; exact rn.wipe tot.fit vs
                      have kD : Keep A3 H3 (upd H3 D (.lst (vacc ++ [y3]))) := fun b u hb e => by
                        have : b ≠ D := fun z => na3 (z ▸ hb)
                        rw [upd_ne this]; exact e
                      refine ⟨vacc, hD3, by omega, A3, vacc ++ [y3], dacc ++ [re.d], all.other hD na3 rn3 (fun o u z => by rw [hD3] at z; cases z), upd_same, by rw [List.length_append, List.length_singleton]; omega, ?_, na3, rn3.upd all.fit na3, by rw [List.append_assoc]; exact er⟩
                      exact RepAll.mono (fun _ z => z) kD ((RepAll.mono tot.ext (tot.keep sb.fit) ra).append (.one r3))
        · have ie : i = ds.length := by omega
          subst ie
          refine .inl ⟨g2 (Nat.le_refl _), ?_⟩
          rw [List.drop_length] at ec
          simp only [compL] at ec
          cases ec
          rw [List.append_nil] at er
          subst er
          have sk := Stp.back f1 sb hq
          have su := Stp.unlend ow sk
          refine k Ac Hc _ (s1.trans su) ⟨D, vacc, rfl, hDc, by omega, ra, nDc, s1.dom D hD, fun j s h1 h2 => ?_, fun h => rDc.2 (sb.fit.prv_back (fun j k d h => ?_) (fun _ _ _ z => z) (fun _ _ _ z => z) D (prv_unlend h))⟩
          · have hl2 : (lendL ls ρ0).length = ρ2.length := by rw [← f1.len, ← sb.fit.len, wipe_length]
            have bk : ∀ (u : Slot), (backE vs (lendL ls ρ0) ρ2)[j]? = some u → liveB u = true → σ[j]? ≠ some (some (.ref D)) := fun u hu lu h3 => by
              rw [backE_at vs _ _ j hl2] at hu
              split at hu
              · rename_i hj
                obtain ⟨u', z1, z2⟩ := hq j hj
                rw [hu] at z1; cases z1
                cases u <;> first | (cases lu; done) | (cases z2; done)
              · rename_i hj
                exact rDc.1 j u hu lu (by rw [wipe_at_not hj]; exact h3)
            rcases unlend_inv h1 with ⟨z, _⟩ | ⟨es, rfl, z, _⟩
            · exact bk s z h2
            · exact bk _ z rfl
          · have hl2 : (lendL ls ρ0).length = ρ2.length := by rw [← f1.len, ← sb.fit.len, wipe_length]
            rw [backE_at vs _ _ j hl2] at h
            split at h
            · rename_i hj
              obtain ⟨u', z1, z2⟩ := hq j hj
              rw [h] at z1; cases z1; cases z2
            · rename_i hj
              exact ⟨h, by rw [wipe_at_not hj]⟩
def fSetc (srt : Bool) (t : T) (vs : List Nat) (fi : Env → Option (List D × Env × List Nat)) (fc : Env → Option (Bool × Env)) (fe : Env → Option (Res × Env)) (ρ : Env) : Option (Res × Env) := match fi ρ with
    | none => none
    | some (ds, ρ0, ls) => if (vs.all fun v => match (lendL ls ρ0)[v]? with | some s => quietS s | none => false) = false then none else
      match compL (stepC t vs fc fe) ds (wipeE vs (lendL ls ρ0)) with
      | none => none
      | some (r, ρ2) => (setR srt r).map fun x => (x, unlend ls (backE vs (lendL ls ρ0) ρ2))
theorem fSetc_eq {srt t vs fi fc fe ρ} : fSetc srt t vs fi fc fe ρ = match fComp t vs fi fc fe ρ with
    | some (.nw r, ρ1) => (setR srt r).map fun x => (x, ρ1)
    | _ => none := by
  unfold fSetc fComp
  cases h1 : fi ρ with
  | none => rfl
  | some p =>
    obtain ⟨ds, ρ0, ls⟩ := p
    simp only
    by_cases hq : (vs.all fun v => match (lendL ls ρ0)[v]? with | some s => quietS s | none => false) = false
    · rw [if_pos hq, if_pos hq]
    · rw [if_neg hq, if_neg hq]
      cases h2 : compL (stepC t vs fc fe) ds (wipeE vs (lendL ls ρ0)) with
      | none => rfl
      | some q => rfl
/-! ### two clauses -/
def tI (f : Env → Option (List D × Env × List Nat)) : TI := fun σ H R => ∃ A ρ ds ρ0 ls, Fit A H σ ρ ∧ f ρ = some (ds, ρ0, ls) ∧
  ∀ A' H' J G, Stp A H σ ρ A' H' σ ρ0 → IterOk A' H' G J ds → (∀ a, G a → ¬ Mut σ (lendL ls ρ0) a ∧ Held A' σ ρ0 a) → ds.length ≤ sizeLine → Owns ρ0 ls → R J H'
theorem SndI.pi {X : Cx} {tg iter : Expr} {f} (h : SndI X tg iter f) : PI X tg iter (tI f) := by
  obtain ⟨wi, p, hq⟩ := h
  exact ⟨fun pins s σ H R I ⟨A, ρ, ds, ρ0, ls, ft, e, k⟩ => p.run pins s σ H R I (hq A H σ ρ ds ρ0 ls ft e R k)⟩
/-- the heap without an address -/
def del (H : Hp) (D : Addr) : Hp := fun a => if a = D then none else H a
theorem del_ne {H : Hp} {D a : Addr} (h : a ≠ D) : del H D a = H a := if_neg h
theorem del_at (H : Hp) (D : Addr) : del H D D = none := if_pos rfl
theorem upd_del {H : Hp} {D : Addr} {o : HO} (h : H D = some o) : upd (del H D) D o = H := by
  funext a
  by_cases e : a = D
  · subst e; rw [upd_same, h]
  · rw [upd_ne e, del_ne e]
theorem Stp.del {A H σ ρ A' H' σ' ρ' D} (s : Stp A H σ ρ A' H' σ' ρ') (h0 : H D = none) (na : ¬ A' D) (n : NoRef H' σ' ρ' D) (hd : ∀ o u, H' D ≠ some (.frz o u)) : Stp A H σ ρ A' (del H' D) σ' ρ' :=
  s.oth h0 na n hd fun a h => del_ne h
theorem IterOk.del {A : Addr → Prop} {H : Hp} {G : Addr → Prop} {J : L2.It} {ds : List D} {D : Addr} (io : IterOk A H G J ds) (na : ¬ A D) (ng : ¬ G D) : IterOk A (Ev.del H D) G J ds := by
  obtain ⟨g1, g2⟩ := io
  refine ⟨fun a ha => ?_, fun A' H' e k kg i => g2 A' H' e (fun b u hb z => ?_) (fun a o ha z => ?_) i⟩
  · obtain ⟨o, z⟩ := g1 a ha
    have : a ≠ D := fun y => ng (y ▸ ha)
    exact ⟨o, by rw [del_ne this]; exact z⟩
  · have : b ≠ D := fun y => na (y ▸ hb)
    exact k b u hb (by rw [del_ne this]; exact z)
  · have : a ≠ D := fun y => ng (y ▸ ha)
    exact kg a o ha (by rw [del_ne this]; exact z)
/-- the turns of a comprehension's last clause, from a list that is begun -/
theorem loop_core {t : T} {vs : List Nat} {fc fe} (hts : ∀ i ∈ tslots t, i ∈ vs) {A1 : Addr → Prop} {H1 : Hp} {σ : St} {ρ1 : Env} {G : Addr → Prop} {J : L2.It} {ds : List Ev.D} {D : Addr} {vacc0 : List V} {dacc0 r : List Ev.D} {ρ2 : Env} {Fin : Hp → Prop}
    (f1 : Fit A1 H1 σ ρ1) (hq : ∀ i ∈ vs, ∃ s, ρ1[i]? = some s ∧ quietS s = true) (io : IterOk A1 H1 G J ds) (gm : ∀ a, G a → ¬ Mut σ ρ1 a ∧ ¬ Prv H1 σ ρ1 a)
    (hD : H1 D = none) (nD : ¬ A1 D) (rD : NoRef H1 σ ρ1 D) (ra0 : RepAll A1 (upd H1 D (.lst vacc0)) vacc0 dacc0) (e2 : compL (stepC t vs fc fe) ds (wipeE vs ρ1) = some (r, ρ2)) (hz : (dacc0 ++ r).length ≤ sizeLine)
    (K : ∀ Ac Hc vacc, Stp A1 H1 σ ρ1 Ac Hc (L2.wipe σ vs) ρ2 → Hc D = some (.lst vacc) → RepAll Ac Hc vacc (dacc0 ++ r) → ¬ Ac D → NoRef Hc (L2.wipe σ vs) ρ2 D → Fin Hc) :
    ∃ W : Nat → Nat → Hp → Prop, (∃ m, W 0 m (upd H1 D (.lst vacc0))) ∧ ∀ i m H, W i m H →
      (J.stop i H ∧ Fin H) ∨ (J.go i H ∧ ∃ Nx : Hp → Prop, (∀ H', Nx H' → ∃ m', m' < m ∧ W (i + 1) m' H') ∧ ∀ x H', J.yld i H x H' → gT t x (L2.wipe σ vs) H' fun σ2 H2 => L2.wipe σ2 vs = L2.wipe σ vs ∧ tT fc σ2 H2 fun b H3 =>
        if b = true then tE fe σ2 H3 fun y H4 => ∃ acc, H4 D = some (.lst acc) ∧ acc.length < sizeLine ∧ Nx (upd H4 D (.lst (acc ++ [y]))) else Nx H3) := by
  have nm : ∀ i ∈ vs, ∀ es, ρ1[i]? = some (.mu es) → False := fun i hi es h => by
    obtain ⟨s, z1, z2⟩ := hq i hi
    rw [h] at z1; cases z1; cases z2
  obtain ⟨gt, gw⟩ := io
  have b0 : Stp A1 H1 σ ρ1 A1 H1 (L2.wipe σ vs) (wipeE vs ρ1) := (Stp.refl f1).wipe nm
  have rD0 : NoRef H1 (L2.wipe σ vs) (wipeE vs ρ1) D := rD.wipe f1 vs
  refine ⟨fun i m Hc => m = ds.length - i ∧ i ≤ ds.length ∧ ∃ (Ac : Addr → Prop) (ρb : Env) (vacc : List V) (dacc rest : List Ev.D), Stp A1 H1 σ ρ1 Ac Hc (L2.wipe σ vs) ρb ∧ Hc D = some (.lst vacc) ∧ RepAll Ac Hc vacc dacc ∧ ¬ Ac D ∧
    NoRef Hc (L2.wipe σ vs) ρb D ∧ compL (stepC t vs fc fe) (ds.drop i) ρb = some (rest, ρ2) ∧ dacc ++ rest = dacc0 ++ r,
    ⟨ds.length, rfl, Nat.zero_le _, A1, _, vacc0, dacc0, r, b0.other hD nD rD0 (fun o u z => by rw [hD] at z; cases z), upd_same, ra0, nD, rD0.upd b0.fit nD, e2, rfl⟩, ?_⟩
  rintro i m Hc ⟨rfl, hi, Ac, ρb, vacc, dacc, rest, sb, hDc, ra, nDc, rDc, ec, er⟩
  have kc : Keep A1 H1 Hc := sb.keep f1
  have gk : ∀ a o, G a → H1 a = some o → Hc a = some o := fun a o hg z => sb.frame a o z (gm a hg).1 (gm a hg).2
  obtain ⟨g1, g2, g3⟩ := gw Ac Hc sb.ext kc gk i
  by_cases hlt : i < ds.length
  · refine .inr ⟨g1 hlt, ?_⟩
    rw [List.drop_eq_getElem_cons hlt] at ec
    simp only [compL] at ec
    split at ec
    · cases ec
    · rename_i o ρ3 e3
      split at ec
      · cases ec
      · rename_i r2 ρ4 e4
        cases ec
        refine ⟨fun Hn => ∃ (An : Addr → Prop) (vn : List V) (dn : List Ev.D), Stp A1 H1 σ ρ1 An Hn (L2.wipe σ vs) ρ3 ∧ Hn D = some (.lst vn) ∧ RepAll An Hn vn dn ∧ ¬ An D ∧ NoRef Hn (L2.wipe σ vs) ρ3 D ∧ dn ++ r2 = dacc0 ++ r, fun Hn hn => ?_, fun x H' y => ?_⟩
        · obtain ⟨An, vn, dn, z1, z2, z4, z5, z6, z7⟩ := hn
          exact ⟨ds.length - (i + 1), by omega, rfl, hlt, An, ρ3, vn, dn, r2, z1, z2, z4, z5, z6, e4, z7⟩
        · have item : ∃ A', Stp Ac Hc (L2.wipe σ vs) ρb A' H' (L2.wipe σ vs) ρb ∧ Rep A' H' x ds[i] := by
            rcases g3 x H' ds[i] (List.getElem?_eq_getElem hlt) y with ⟨rfl, rx⟩ | ⟨p, o', hp, rfl, rx⟩
            · exact ⟨Ac, Stp.refl sb.fit, rx⟩
            · exact ⟨_, Stp.frz sb.fit hp, rx⟩
          obtain ⟨A', si, rx⟩ := item
          unfold stepC at e3
          split at e3
          · cases e3
          · rename_i ρa ea
            refine ⟨A', ρb, ds[i], ρa, si.fit, rx, ea, fun σ' sa oa => ?_⟩
            have wv : L2.wipe σ' vs = L2.wipe σ vs := by rw [wipe_only (oa.mono hts), wipe_wipe]
            refine ⟨wv, ?_⟩
            split at e3
            · cases e3
            · rename_i ρb' ec'
              cases e3
              refine ⟨A', ρa, false, ρb', sa.fit, ec', fun A2 H2 s2 => ?_⟩
              show if false = true then _ else _
              rw [if_neg Bool.false_ne_true]
              have tot := (si.trans sa).trans s2
              have all := (sb.trans tot).wipe nm
              rw [wv] at all
              have rn := rDc.stp tot hDc
              refine ⟨A2, vacc, dacc, all, tot.frame D _ hDc rDc.nomut rDc.2, RepAll.mono tot.ext (tot.keep sb.fit) ra, nofrz_stp nDc rDc tot hDc, by rw [← wv]; exact rn.wipe tot.fit vs, er⟩
            · rename_i ρb' ec'
              split at e3
              · cases e3
              · rename_i re ρc ee
                cases e3
                refine ⟨A', ρa, true, ρb', sa.fit, ec', fun A2 H2 s2 => ?_⟩
                show if true = true then _ else _
                rw [if_pos rfl]
                refine ⟨A2, ρb', re, ρc, s2.fit, ee, fun A3 H3 y3 s3 r3 => ?_⟩
                have tot := ((si.trans sa).trans s2).trans s3
                have all := (sb.trans tot).wipe nm
                rw [wv] at all
                have rn := rDc.stp tot hDc
                have hD3 := tot.frame D _ hDc rDc.nomut rDc.2
                have na3 := nofrz_stp nDc rDc tot hDc
                have rn3 : NoRef H3 (L2.wipe σ vs) (wipeE vs ρc) D := by rw [← wv]; exact rn.wipe tot.fit vs
                have kD : Keep A3 H3 (upd H3 D (.lst (vacc ++ [y3]))) := fun b u hb e => by
                  have : b ≠ D := fun z => na3 (z ▸ hb)
                  rw [upd_ne this]; exact e
                have hlen : vacc.length < sizeLine := by
                  rw [ra.length]
                  have := congrArg List.length er
                  simp only [List.length_append, List.length_cons] at this hz
                  omega
                refine ⟨vacc, hD3, hlen, A3, vacc ++ [y3], dacc ++ [re.d], all.other hD na3 rn3 (fun o u z => by rw [hD3] at z; cases z), upd_same, ?_, na3, rn3.upd all.fit na3, by rw [List.append_assoc]; exact er⟩
                exact RepAll.mono (fun _ z => z) kD ((RepAll.mono tot.ext (tot.keep sb.fit) ra).append (.one r3))
  · have ie : i = ds.length := by omega
    subst ie
    refine .inl ⟨g2 (Nat.le_refl _), ?_⟩
    rw [List.drop_length] at ec
    simp only [compL] at ec
    cases ec
    rw [List.append_nil] at er
    subst er
    exact K Ac Hc vacc sb hDc ra nDc rDc
def step2 (t : T) (vs : List Nat) (fc0 : Env → Option (Bool × Env)) (fi1 : Env → Option (List D × Env × List Nat)) (t1 : T) (vs1 : List Nat) (fc : Env → Option (Bool × Env)) (fe : Env → Option (Res × Env)) (d : D) (ρ : Env) : Option (List D × Env) := match asgT t d ρ with
        | none => none
        | some ρa => match fc0 ρa with
          | none => none
          | some (false, ρb) => some ([], wipeE vs ρb)
          | some (true, ρb) => match fi1 ρb with
            | some (ds1, ρ1, []) => if (vs1.all fun v => match ρ1[v]? with | some s => quietS s | none => false) = false then none else
              match compL (stepC t1 vs1 fc fe) ds1 (wipeE vs1 ρ1) with
              | none => none
              | some (r, ρ2) => some (r, wipeE vs ρ2)
            | _ => none
def fComp2 (t : T) (vs : List Nat) (fi : Env → Option (List D × Env × List Nat)) (fc0 : Env → Option (Bool × Env)) (fi1 : Env → Option (List D × Env × List Nat)) (t1 : T) (vs1 : List Nat) (fc : Env → Option (Bool × Env)) (fe : Env → Option (Res × Env)) (ρ : Env) : Option (Res × Env) := match fi ρ with
    | none => none
    | some (ds, ρ0, ls) => if (vs.all fun v => match (lendL ls ρ0)[v]? with | some s => quietS s | none => false) = false then none else
      match compL2 (step2 t vs fc0 fi1 t1 vs1 fc fe) ds (wipeE vs (lendL ls ρ0)) with
      | none => none
      | some (r, ρ2) => if r.length ≤ sizeLine then some (.nw r, unlend ls (backE vs (lendL ls ρ0) ρ2)) else none
theorem wipe_in {vs vs1 : List Nat} (h : ∀ i ∈ vs1, i ∈ vs) (σ : St) : L2.wipe (L2.wipe σ vs1) vs = L2.wipe σ vs := by
  apply List.ext_getElem?
  intro i
  simp only [wipe_at, wipe_length]
  by_cases hi : i ∈ vs
  · simp [hi]
  · have : i ∉ vs1 := fun z => hi (h i z)
    simp [hi, this]
theorem comp2_core {wi : TI} {t t1 : T} {vs vs1 : List Nat} {fi fc0 fi1 fc fe} (hts : ∀ i ∈ tslots t, i ∈ vs) (hts1 : ∀ i ∈ tslots t1, i ∈ vs1) (hvs : ∀ i ∈ vs1, i ∈ vs)
    (qi : ∀ A H σ ρ ds ρ0 ls, Fit A H σ ρ → fi ρ = some (ds, ρ0, ls) → ∀ R : L2.It → Hp → Prop,
      (∀ A' H' J G, Stp A H σ ρ A' H' σ ρ0 → IterOk A' H' G J ds → (∀ a, G a → ¬ Mut σ (lendL ls ρ0) a ∧ Held A' σ ρ0 a) → ds.length ≤ sizeLine → Owns ρ0 ls → R J H') → wi σ H R)
    {A H σ ρ r ρ'} (ft : Fit A H σ ρ) (e : fComp2 t vs fi fc0 fi1 t1 vs1 fc fe ρ = some (r, ρ')) (Q : VK) (k : ∀ A' H' v, Stp A H σ ρ A' H' σ ρ' → ResOk A' H H' σ ρ' v r → Q v H') :
    tLc2 wi (gT t) (tT fc0) (tI fi1) (gT t1) (tT fc) (tE fe) vs vs1 σ H Q := by
  unfold fComp2 at e
  split at e
  · cases e
  · rename_i ds ρ0 ls e1
    split at e
    · cases e
    · rename_i hq
      split at e
      · cases e
      · rename_i rr ρ2 e2
        split at e
        · rename_i hz
          cases e
          have hq : ∀ i ∈ vs, ∃ s, (lendL ls ρ0)[i]? = some s ∧ quietS s = true := fun i hi => by
            have := (List.all_eq_true.mp (by simpa using hq : (vs.all fun v => match (lendL ls ρ0)[v]? with | some s => quietS s | none => false) = true)) i hi
            split at this
            · rename_i s hs; exact ⟨s, hs, this⟩
            · cases this
          have nm : ∀ i ∈ vs, ∀ es, (lendL ls ρ0)[i]? = some (.mu es) → False := fun i hi es h => by
            obtain ⟨s, z1, z2⟩ := hq i hi
            rw [h] at z1; cases z1; cases z2
          refine qi A H σ ρ ds ρ0 ls ft e1 _ fun A1 H1 J G s1 io gm lens ow => ?_
          have f1 := s1.fit.lend ls
          obtain ⟨gt, gw⟩ := io
          intro D hD
          have nD : ¬ A1 D := f1.nofrz hD
          have rD : NoRef H1 σ (lendL ls ρ0) D := .new f1 hD
          have b0 : Stp A1 H1 σ (lendL ls ρ0) A1 H1 (L2.wipe σ vs) (wipeE vs (lendL ls ρ0)) := (Stp.refl f1).wipe nm
          have rD0 : NoRef H1 (L2.wipe σ vs) (wipeE vs (lendL ls ρ0)) D := rD.wipe f1 vs
          refine ⟨fun i m Hc => m = ds.length - i ∧ i ≤ ds.length ∧ ∃ (Ac : Addr → Prop) (ρb : Env) (vacc : List V) (dacc rest : List Ev.D), Stp A1 H1 σ (lendL ls ρ0) Ac Hc (L2.wipe σ vs) ρb ∧ Hc D = some (.lst vacc) ∧ RepAll Ac Hc vacc dacc ∧ ¬ Ac D ∧
            NoRef Hc (L2.wipe σ vs) ρb D ∧ compL2 (step2 t vs fc0 fi1 t1 vs1 fc fe) (ds.drop i) ρb = some (rest, ρ2) ∧ dacc ++ rest = rr,
            ⟨ds.length, rfl, Nat.zero_le _, A1, _, [], [], rr, b0.other hD nD rD0 (fun o u z => by rw [hD] at z; cases z), upd_same, .nil, nD, rD0.upd b0.fit nD, e2, rfl⟩, ?_⟩
          rintro i m Hc ⟨rfl, hi, Ac, ρb, vacc, dacc, rest, sb, hDc, ra, nDc, rDc, ec, er⟩
          have kc : Keep A1 H1 Hc := sb.keep f1
          have gk : ∀ a o, G a → H1 a = some o → Hc a = some o := fun a o hg z => sb.frame a o z (gm a hg).1 fun m => s1.fit.held_noprv (gm a hg).2 (prv_lend.mp m)
          obtain ⟨g1, g2, g3⟩ := gw Ac Hc sb.ext kc gk i
          by_cases hlt : i < ds.length
          · refine .inr ⟨g1 hlt, ?_⟩
            rw [List.drop_eq_getElem_cons hlt] at ec
            simp only [compL2] at ec
            split at ec
            · cases ec
            · rename_i o ρ3 e3
              split at ec
              · cases ec
              · rename_i r2 ρ4 e4
                cases ec
                refine ⟨fun Hn => ∃ (An : Addr → Prop) (vn : List V) (dn : List Ev.D), Stp A1 H1 σ (lendL ls ρ0) An Hn (L2.wipe σ vs) ρ3 ∧ Hn D = some (.lst vn) ∧ RepAll An Hn vn dn ∧ ¬ An D ∧ NoRef Hn (L2.wipe σ vs) ρ3 D ∧ dn ++ r2 = rr, fun Hn hn => ?_, fun x H' y => ?_⟩
                · obtain ⟨An, vn, dn, z1, z2, z4, z5, z6, z7⟩ := hn
                  exact ⟨ds.length - (i + 1), by omega, rfl, hlt, An, ρ3, vn, dn, r2, z1, z2, z4, z5, z6, e4, z7⟩
                · have item : ∃ A', Stp Ac Hc (L2.wipe σ vs) ρb A' H' (L2.wipe σ vs) ρb ∧ Rep A' H' x ds[i] := by
                    rcases g3 x H' ds[i] (List.getElem?_eq_getElem hlt) y with ⟨rfl, rx⟩ | ⟨p, o', hp, rfl, rx⟩
                    · exact ⟨Ac, Stp.refl sb.fit, rx⟩
                    · exact ⟨_, Stp.frz sb.fit hp, rx⟩
                  obtain ⟨A', si, rx⟩ := item
                  unfold step2 at e3
                  split at e3
                  · cases e3
                  · rename_i ρa ea
                    refine ⟨A', ρb, ds[i], ρa, si.fit, rx, ea, fun σ' sa oa => ?_⟩
                    have wv : L2.wipe σ' vs = L2.wipe σ vs := by rw [wipe_only (oa.mono hts), wipe_wipe]
                    refine ⟨wv, ?_⟩
                    split at e3
                    · cases e3
                    · rename_i ρb' ec'
                      cases e3
                      refine ⟨A', ρa, false, ρb', sa.fit, ec', fun A2 H2 s2 => ?_⟩
                      show if false = true then _ else _
                      rw [if_neg Bool.false_ne_true]
                      have tot := (si.trans sa).trans s2
                      have all := (sb.trans tot).wipe nm
                      rw [wv] at all
                      have rn := rDc.stp tot hDc
                      refine ⟨A2, vacc, dacc, all, tot.frame D _ hDc rDc.nomut rDc.2, RepAll.mono tot.ext (tot.keep sb.fit) ra, nofrz_stp nDc rDc tot hDc, by rw [← wv]; exact rn.wipe tot.fit vs, er⟩
                    · rename_i ρb' ec'
                      split at e3
                      · rename_i ds1 ρ1 ei
                        split at e3
                        · cases e3
                        · rename_i hq1
                          split at e3
                          · cases e3
                          · rename_i r1 ρ2' ee
                            cases e3
                            have hq1 : ∀ i ∈ vs1, ∃ s, ρ1[i]? = some s ∧ quietS s = true := fun i hi => by
                              have := (List.all_eq_true.mp (by simpa using hq1 : (vs1.all fun v => match ρ1[v]? with | some s => quietS s | none => false) = true)) i hi
                              split at this
                              · rename_i s hs; exact ⟨s, hs, this⟩
                              · cases this
                            refine ⟨A', ρa, true, ρb', sa.fit, ec', fun A2 H2 s2 => ?_⟩
                            show if true = true then _ else _
                            rw [if_pos rfl]
                            refine ⟨A2, ρb', ds1, ρ1, [], s2.fit, ei, fun A3 H3 J1 G1 s3 io1 gm1 len1 ow1 => ?_⟩
                            have tot := ((si.trans sa).trans s2).trans s3
                            have rn := rDc.stp tot hDc
                            have hD3 := tot.frame D _ hDc rDc.nomut rDc.2
                            have na3 := nofrz_stp nDc rDc tot hDc
                            have sd := (sb.trans tot).del hD na3 rn (fun o u z => by rw [hD3] at z; cases z)
                            have ng : ¬ G1 D := fun z => by
                              rcases (gm1 D z).2 with h | ⟨j, s, h1, h2, h3⟩
                              · exact na3 h
                              · exact rn.1 j s h1 h2 h3
                            have lc := loop_core (t := t1) (vs := vs1) (fc := fc) (fe := fe) hts1 (D := D) (vacc0 := vacc) (dacc0 := dacc) (r := o) (ρ2 := ρ2')
                              (Fin := fun Hn => ∃ (An : Addr → Prop) (vn : List V) (dn : List Ev.D), Stp A1 H1 σ (lendL ls ρ0) An Hn (L2.wipe σ vs) (wipeE vs ρ2') ∧ Hn D = some (.lst vn) ∧ RepAll An Hn vn dn ∧ ¬ An D ∧ NoRef Hn (L2.wipe σ vs) (wipeE vs ρ2') D ∧ dn ++ r2 = rr)
                              sd.fit hq1 (io1.del na3 ng) (fun a ha => ⟨(gm1 a ha).1, fun z => s3.fit.held_noprv (gm1 a ha).2 (rn.go_back s3.fit (fun a h => del_ne h) na3 a z)⟩) (del_at _ _) na3 (rn.go s3.fit (fun a h => del_ne h) na3) (by rw [upd_del hD3]; exact RepAll.mono tot.ext (tot.keep sb.fit) ra) ee
                              (by
                                have := congrArg List.length er
                                simp only [List.length_append] at this ⊢
                                omega)
                              (fun Ac' Hc' vacc' sK hDK raK naK rnK => by
                                have all := (sd.trans sK).wipe nm
                                rw [wipe_in hvs, wv] at all
                                refine ⟨Ac', vacc', dacc ++ o, all, hDK, raK, naK, by rw [← wv, ← wipe_in hvs]; exact rnK.wipe sK.fit vs, by rw [List.append_assoc]; exact er⟩)
                            rw [upd_del hD3] at lc
                            exact lc
                      · cases e3
          · have ie : i = ds.length := by omega
            subst ie
            refine .inl ⟨g2 (Nat.le_refl _), ?_⟩
            rw [List.drop_length] at ec
            simp only [compL2] at ec
            cases ec
            rw [List.append_nil] at er
            subst er
            have sk := Stp.back f1 sb hq
            have su := Stp.unlend ow sk
            refine k Ac Hc _ (s1.trans su) ⟨D, vacc, rfl, hDc, by rw [ra.length]; exact hz, ra, nDc, s1.dom D hD, fun j s h1 h2 => ?_, fun h => rDc.2 (sb.fit.prv_back (fun j k d h => ?_) (fun _ _ _ z => z) (fun _ _ _ z => z) D (prv_unlend h))⟩
            · have hl2 : (lendL ls ρ0).length = ρ2.length := by rw [← f1.len, ← sb.fit.len, wipe_length]
              have bk : ∀ (u : Slot), (backE vs (lendL ls ρ0) ρ2)[j]? = some u → liveB u = true → σ[j]? ≠ some (some (.ref D)) := fun u hu lu h3 => by
                rw [backE_at vs _ _ j hl2] at hu
                split at hu
                · rename_i hj
                  obtain ⟨u', z1, z2⟩ := hq j hj
                  rw [hu] at z1; cases z1
                  cases u <;> first | (cases lu; done) | (cases z2; done)
                · rename_i hj
                  exact rDc.1 j u hu lu (by rw [wipe_at_not hj]; exact h3)
              rcases unlend_inv h1 with ⟨z, _⟩ | ⟨es, rfl, z, _⟩
              · exact bk s z h2
              · exact bk _ z rfl
            · have hl2 : (lendL ls ρ0).length = ρ2.length := by rw [← f1.len, ← sb.fit.len, wipe_length]
              rw [backE_at vs _ _ j hl2] at h
              split at h
              · rename_i hj
                obtain ⟨u', z1, z2⟩ := hq j hj
                rw [h] at z1; cases z1; cases z2
              · rename_i hj
                exact ⟨h, by rw [wipe_at_not hj]⟩
        · cases e
end Ev

set_option maxRecDepth 100000
/-! Ev12: statements. -/
namespace Ev
open PySem L2
variable [TheK]

def RtOk (A : Addr → Prop) (Hs H : Hp) (σ : St) (ρ : Env) (v : V) : Res → Prop
  | .fr d => Rep A H v d
  | .nw ds => ∃ a vs, v = .ref a ∧ H a = some (.lst vs) ∧ vs.length ≤ sizeLine ∧ RepAll A H vs ds ∧ ¬ A a ∧ (Hs a = none ∨ ∃ i : Nat, ρ[i]? = some (.own ds) ∧ σ[i]? = some (some (.ref a)))
theorem RtOk.start {A Hs Hs' H σ ρ v r} (h : RtOk A Hs H σ ρ v r) (d : ∀ a, Hs a = none → Hs' a = none) : RtOk A Hs' H σ ρ v r := by
  cases r with
  | fr _ => exact h
  | nw _ => obtain ⟨a, vs, h1, h2, h3, h4, h5, h6⟩ := h; exact ⟨a, vs, h1, h2, h3, h4, h5, h6.imp (d a) id⟩
/-- what is wanted behind a statement that ends so -/
def Kont (A : Addr → Prop) (H : Hp) (σ : St) (ρ : Env) (Dn : Ends) (ρ' : Env) : Out → Prop
  | .next => ∀ A' H' σ', Stp A H σ ρ A' H' σ' ρ' → Dn.nx σ' H'
  | .brk => ∀ A' H' σ', Stp A H σ ρ A' H' σ' ρ' → Dn.bk σ' H'
  | .cont => ∀ A' H' σ', Stp A H σ ρ A' H' σ' ρ' → Dn.ct σ' H'
  | .ret r => ∀ A' H' σ' v, Stp A H σ ρ A' H' σ' ρ' → RtOk A' H H' σ' ρ' v r → Dn.rt v H'
theorem Kont.after {A H σ ρ Dn ρ' o A1 H1 σ1 ρ1} (s : Stp A H σ ρ A1 H1 σ1 ρ1) (k : Kont A H σ ρ Dn ρ' o) : Kont A1 H1 σ1 ρ1 Dn ρ' o := by
  cases o with
  | next => exact fun A' H' σ' s' => k A' H' σ' (s.trans s')
  | brk => exact fun A' H' σ' s' => k A' H' σ' (s.trans s')
  | cont => exact fun A' H' σ' s' => k A' H' σ' (s.trans s')
  | ret r => exact fun A' H' σ' v s' r' => k A' H' σ' v (s.trans s') (r'.start s.dom)
def SndS (X : Cx) (st : Stmt) (f : Env → Option (Out × Env)) : Prop := ∃ t : TS, PS X st t ∧
  ∀ A H σ ρ o ρ', Fit A H σ ρ → f ρ = some (o, ρ') → ∀ Dn : Ends, Kont A H σ ρ Dn ρ' o → t Dn σ H
def SndSs (X : Cx) (st : List Stmt) (f : Env → Option (Out × Env)) : Prop := ∃ t : TS, PSs X st t ∧
  ∀ A H σ ρ o ρ', Fit A H σ ρ → f ρ = some (o, ρ') → ∀ Dn : Ends, Kont A H σ ρ Dn ρ' o → t Dn σ H
section
variable {X : Cx} {N : List Str} {q : Sc} {F : FT}
theorem sndSs_nil : SndSs X [] (fun ρ => some (.next, ρ)) := ⟨_, pss_nil, fun A H σ ρ o ρ' ft e Dn k => by cases e; exact k A H σ (Stp.refl ft)⟩
def fSeqS (fa fb : Env → Option (Out × Env)) (ρ : Env) : Option (Out × Env) := match fa ρ with
    | some (.next, ρ1) => fb ρ1
    | x => x
theorem sndSs_cons {st rest fa fb} (ha : SndS X st fa) (hb : SndSs X rest fb) : SndSs X (st :: rest) (fSeqS fa fb) := by
  obtain ⟨ta, pa, qa⟩ := ha
  obtain ⟨tb, pb, qb⟩ := hb
  refine ⟨_, pss_cons pa pb, fun A H σ ρ o ρ' ft e Dn k => ?_⟩
  unfold fSeqS at e
  split at e
  · rename_i ρ1 e1
    refine qa A H σ ρ .next ρ1 ft e1 _ fun A1 H1 σ1 s1 => ?_
    exact qb A1 H1 σ1 ρ1 o ρ' s1.fit e Dn (k.after s1)
  · rename_i n
    refine qa A H σ ρ o ρ' ft e _ ?_
    cases o with
    | next => exact absurd e (n ρ')
    | brk => exact k
    | cont => exact k
    | ret r => exact k
theorem snd_pass {pos} : SndS X (.Pass pos) (fun ρ => some (.next, ρ)) := ⟨_, ps_pass, fun A H σ ρ o ρ' ft e Dn k => by cases e; exact k A H σ (Stp.refl ft)⟩
theorem snd_brk {pos} : SndS X (.Break pos) (fun ρ => some (.brk, ρ)) := ⟨_, ps_break, fun A H σ ρ o ρ' ft e Dn k => by cases e; exact k A H σ (Stp.refl ft)⟩
theorem snd_cont {pos} : SndS X (.Continue pos) (fun ρ => some (.cont, ρ)) := ⟨_, ps_continue, fun A H σ ρ o ρ' ft e Dn k => by cases e; exact k A H σ (Stp.refl ft)⟩
theorem snd_retN {pos} : SndS X (.Return none pos) (fun ρ => some (.ret (.fr .none), ρ)) := ⟨_, ps_retN, fun A H σ ρ o ρ' ft e Dn k => by cases e; exact k A H σ .non (Stp.refl ft) .none⟩
def fDrop (fa : Env → Option (Res × Env)) (ρ : Env) : Option (Out × Env) := (fa ρ).map fun p => (.next, p.2)
def isComp : Expr → Bool
  | .ListComp .. | .SetComp .. | .DictComp .. => true
  | _ => false
theorem swaps_no {e : Expr} {t l env} (h : isComp e = false) : swapsWith e t l env = pure false := by
  cases e <;> first | rfl | cases h
theorem snd_ex {e pos fa} (hc : isComp e = false) (ha : SndE X e fa) : SndS X (.Expr e pos) (fDrop fa) := by
  obtain ⟨t, p, hq⟩ := ha.d
  refine ⟨_, ps_expr p (swaps_no hc), fun A H σ ρ o ρ' ft e Dn k => ?_⟩
  unfold fDrop at e
  cases e1 : fa ρ with
  | none => rw [e1] at e; cases e
  | some r =>
    rw [e1] at e
    cases e
    exact hq A H σ ρ r.1 r.2 ft e1 _ fun A' H' v s _ => k A' H' σ s
def fRet (fa : Env → Option (Res × Env)) (ρ : Env) : Option (Out × Env) := (fa ρ).map fun p => (.ret p.1, p.2)
theorem snd_ret {e pos fa} (ha : SndE X e fa) : SndS X (.Return (some e) pos) (fRet fa) := by
  obtain ⟨t, p, hq⟩ := ha
  refine ⟨_, ps_ret p, fun A H σ ρ o ρ' ft e Dn k => ?_⟩
  unfold fRet at e
  cases e1 : fa ρ with
  | none => rw [e1] at e; cases e
  | some r =>
    rw [e1] at e
    cases e
    refine hq A H σ ρ r.1 r.2 ft e1 _ fun A' H' v s ok => k A' H' σ v s ?_
    generalize r.1 = r1 at ok
    cases r1 with
    | fr d => exact ok
    | nw ds => obtain ⟨a, vs, h1, h2, h3, h4, h5, h6, _⟩ := ok; exact ⟨a, vs, h1, h2, h3, h4, h5, .inl h6⟩
def fRetV (i : Nat) (ρ : Env) : Option (Out × Env) := match ρ[i]? with
    | some (.fz d) => some (.ret (.fr d), ρ)
    | some (.own ds) => some (.ret (.nw ds), ρ)
    | some (.dp .tree d) => some (.ret (.fr d), ρ.set i (.fz d))
    | some (.dp .prv d) => some (.ret (.fr d), ρ.set i (.fz d))
    | _ => none
theorem snd_retV (C : CtxOk X N q F) {i x px pos} (h : nameB N q i x = true) : SndS X (.Return (some (.Name x px)) pos) (fRetV i) := by
  refine ⟨_, ps_ret (pe_name C h), fun A H σ ρ o ρ' ft e Dn k => ?_⟩
  unfold fRetV at e
  split at e
  · rename_i d hs
    cases e
    obtain ⟨ov, e1, w, rfl, r⟩ := ft.at hs
    exact ⟨w, e1, k A H σ w (Stp.refl ft) r⟩
  · rename_i ds hs
    cases e
    obtain ⟨ov, e1, a, vs, rfl, q1, q2, q3, q4⟩ := ft.at hs
    exact ⟨_, e1, k A H σ _ (Stp.refl ft) ⟨a, vs, rfl, q1, q2, q3, q4, .inr ⟨i, hs, e1⟩⟩⟩
  · rename_i d hs
    cases e
    obtain ⟨v, e1, s, r⟩ := stp_freezeD ft hs (by decide)
    exact ⟨v, e1, k _ H σ v s r⟩
  · rename_i d hs
    cases e
    obtain ⟨v, e1, s, r⟩ := stp_freezeD ft hs (by decide)
    exact ⟨v, e1, k _ H σ v s r⟩
  · cases e
def fIfS (fc : Env → Option (Res × Env)) (fa fb : Env → Option (Out × Env)) (ρ : Env) : Option (Out × Env) := match fc ρ with
    | some (.fr (.bool true), ρ1) => fa ρ1
    | some (.fr (.bool false), ρ1) => fb ρ1
    | _ => none
theorem snd_ife {c a b pos fc fa fb} (hc : SndT X c fc) (ha : SndSs X a fa) (hb : SndSs X b fb) : SndS X (.If c a b pos) (fIfS fc fa fb) := by
  obtain ⟨tc, pc, qc⟩ := hc
  obtain ⟨ta, pa, qa⟩ := ha
  obtain ⟨tb, pb, qb⟩ := hb
  refine ⟨_, ps_if pc pa pb, fun A H σ ρ o ρ' ft e Dn k => ?_⟩
  unfold fIfS at e
  split at e
  · rename_i ρ1 e1
    refine qc A H σ ρ _ ρ1 ft e1 _ fun A1 H1 s1 => ?_
    show if true = true then _ else _
    rw [if_pos rfl]
    exact qa A1 H1 σ ρ1 o ρ' s1.fit e Dn (k.after s1)
  · rename_i ρ1 e1
    refine qc A H σ ρ _ ρ1 ft e1 _ fun A1 H1 s1 => ?_
    show if false = true then _ else _
    rw [if_neg Bool.false_ne_true]
    exact qb A1 H1 σ ρ1 o ρ' s1.fit e Dn (k.after s1)
  · cases e

/-! ### names are set -/
def fAsg (t : T) (fa : Env → Option (Res × Env)) (ρ : Env) : Option (Out × Env) := match fa ρ with
    | none => none
    | some (r, ρ1) => (asgR t r ρ1).map fun ρ2 => (.next, ρ2)
theorem set_stp {A H σ ρ A1 H1 v r ρ1 i ρ'} (ft : Fit A H σ ρ) (s : Stp A H σ ρ A1 H1 σ ρ1) (ok : ResOk A1 H H1 σ ρ1 v r) (e : put i (slotOf r) ρ1 = some ρ') : Stp A H σ ρ A1 H1 (σ.set i (some v)) ρ' := by
  obtain ⟨t, ht, nm, rfl⟩ := put_inv e
  cases r with
  | fr d => exact s.trans (stp_fz s.fit ht nm ok)
  | nw ds =>
    refine stp_own s ht nm (fun es h => ?_) ok
    obtain ⟨_, ds', e2⟩ := s.mus i es h
    rw [ht] at e2; cases e2
    exact nm _ rfl
theorem snd_asgN (C : CtxOk X N q F) {i x px e pos fa} (hN : N[i]? = some x) (hl : locB q x = true) (hs : swapsWith e (some (.Name x px)) pos.line X.env = pure false) (ha : SndE X e fa) : SndS X (.Assign [.Name x px] e pos) (fAsg (.name i) fa) := by
  obtain ⟨t, p, hq⟩ := ha
  obtain ⟨h1, h2⟩ := loc_of C hl
  refine ⟨_, ps_set C.nd (by rw [C.N]; exact hN) h1 p hs h2, fun A H σ ρ o ρ' ft e Dn k => ?_⟩
  unfold fAsg at e
  split at e
  · cases e
  · rename_i r ρ1 e1
    simp only [asgR] at e
    cases e2 : put i (slotOf r) ρ1 with
    | none => rw [e2] at e; cases e
    | some ρ2 =>
      rw [e2] at e
      cases e
      exact hq A H σ ρ r ρ1 ft e1 _ fun A1 H1 v s1 ok => k A1 H1 _ (set_stp ft s1 ok e2)
theorem snd_asgT {tg e pos t fa} (ht : ∀ i, t ≠ .name i) (hs : swapsWithSole [tg] e pos.line X.env = pure false) (hw : swappedStores [tg] e X.env = pure none) (h1 : (assignEach [tg] X.env).map (·.2) = [assign tg X.env])
    (hg : SndG X tg t) (ha : SndE X e fa) : SndS X (.Assign [tg] e pos) (fAsg t fa) := by
  obtain ⟨te, pe, qe⟩ := ha.d
  obtain ⟨g, pg, qg⟩ := hg
  refine ⟨_, ps_asg pe pg hs hw h1, fun A H σ ρ o ρ' ft e Dn k => ?_⟩
  unfold fAsg at e
  split at e
  · cases e
  · rename_i r ρ1 e1
    have e' : (asgT t r.d ρ1).map (fun ρ2 => (Out.next, ρ2)) = some (o, ρ') := by
      cases t with
      | name i => exact absurd rfl (ht i)
      | tup ts => exact e
    cases e2 : asgT t r.d ρ1 with
    | none => rw [e2] at e'; cases e'
    | some ρ2 =>
      rw [e2] at e'
      cases e'
      refine qe A H σ ρ r ρ1 ft e1 _ fun A1 H1 v s1 r1 => ?_
      exact qg A1 H1 σ ρ1 v r.d _ s1.fit r1 e2 _ fun σ' s2 _ => k A1 H1 σ' (s1.trans s2)
def fPar (i j : Nat) (fs : Env → Option (List D × Env)) (ρ : Env) : Option (Out × Env) := match fs ρ with
    | some ([da, db], ρ2) => match put i (.fz da) ρ2 with
        | none => none
        | some ρ3 => (put j (.fz db) ρ3).map fun ρ4 => (.next, ρ4)
    | _ => none
theorem snd_par (C : CtxOk X N q F) {i j : Nat} {x y : Str} {a b : Expr} {px py pt pos : Pos} {kt k2 pt2 fs} (hi : N[i]? = some x) (hj : N[j]? = some y) (hij : i ≠ j) (hx : q.sc.names.lookup x = some .local) (hy : q.sc.names.lookup y = some .local)
    (hw : swappedStores [.Tuple [.Name x px, .Name y py] kt pt] (.Tuple [a, b] k2 pt2) X.env = pure (some [x, y])) (hs : SndA X [a, b] fs) :
    SndS X (.Assign [.Tuple [.Name x px, .Name y py] kt pt] (.Tuple [a, b] k2 pt2) pos) (fPar i j fs) := by
  obtain ⟨ts, ps, qs⟩ := hs
  refine ⟨_, ps_par C.calm C.nd (by rw [C.N]; exact hi) (by rw [C.N]; exact hj) hij (by rw [C.sc]; exact hx) (by rw [C.sc]; exact hy) ps hw, fun A H σ ρ o ρ' ft e Dn k => ?_⟩
  unfold fPar at e
  split at e
  · rename_i da db ρ2 e1
    split at e
    · cases e
    · rename_i ρ3 e2
      cases e3 : put j (.fz db) ρ3 with
      | none => rw [e3] at e; cases e
      | some ρ4 =>
        rw [e3] at e
        cases e
        refine qs A H σ ρ _ ρ2 ft e1 _ fun A1 H1 vs s1 r => ?_
        cases r with
        | cons r1 r2 =>
          cases r2 with
          | cons r2 r3 =>
            cases r3
            obtain ⟨t, ht, nm, rfl⟩ := put_inv e2
            obtain ⟨t', ht', nm', rfl⟩ := put_inv e3
            have s2 := stp_fz s1.fit ht nm r1
            exact ⟨_, _, rfl, k A1 H1 _ ((s1.trans s2).trans (stp_fz s2.fit ht' nm' (Rep.mono s2.ext (s2.keep s1.fit) r2)))⟩
  · cases e
/-- name op= e, of ints -/
def augOp (o : Bop) : Bool := match o with
  | .add | .sub | .mul => true
  | _ => false
theorem snd_iop (o : Bop) (h : augOp o = true) : ∃ r : R2, OpR X (inplaceOp (bop o)) r ∧ ∀ i j d, dBin o (.int i) (.int j) = some (.fr (.int d)) → ∀ H Q, Q (.int d) H → r (.int i) (.int j) H Q := by
  cases o <;> first | (cases h; done) | skip
  · refine ⟨_, iop_add, fun i j d e H Q k => ⟨i, j, rfl, rfl, ?_⟩⟩
    simp only [dBin] at e; cases e; exact k
  · refine ⟨_, iop_sub, fun i j d e H Q k => ⟨i, j, rfl, rfl, ?_⟩⟩
    simp only [dBin] at e; cases e; exact k
  · refine ⟨rI (fun i j => CMul i j ∨ CMulW i j) fun i j => .int (i * j), ?_, fun i j d e H Q k => ?_⟩
    · intro pins s σ H x y v u Q I rx ry h
      obtain ⟨i, j, rfl, rfl, c, q⟩ := h
      obtain ⟨t, rfl⟩ := rx
      obtain ⟨t', rfl⟩ := ry
      exact PyProof.Rows.imul_int ⟨.int _, H, I.tok _, ⟨_, rfl⟩, q⟩ (c.elim CMul.ok CMulW.ok)
    · simp only [dBin] at e
      split at e
      · rename_i hz; cases e; exact ⟨i, j, rfl, rfl, hz, k⟩
      · cases e
def fAug (o : Bop) (i : Nat) (fa : Env → Option (Res × Env)) (ρ : Env) : Option (Out × Env) := match ρ[i]? with
    | some (.fz (.int x)) => match fa ρ with
      | some (.fr (.int y), ρ1) => match dBin o (.int x) (.int y) with
        | some (.fr (.int z)) => (put i (.fz (.int z)) ρ1).map fun ρ2 => (.next, ρ2)
        | _ => none
      | _ => none
    | _ => none
theorem snd_aug (C : CtxOk X N q F) {o : Bop} {i : Nat} {x : Str} {px e pos fa} (ho : augOp o = true) (hN : N[i]? = some x) (hl : locB q x = true) (ha : SndE X e fa) : SndS X (.AugAssign (.Name x px) (bop o) e pos) (fAug o i fa) := by
  obtain ⟨t, p, hq⟩ := ha
  obtain ⟨h1, h2⟩ := loc_of C hl
  obtain ⟨r, pr, qr⟩ := snd_iop (X := X) o ho
  refine ⟨_, ps_aug C.nd (by rw [C.N]; exact hN) h1 p pr h2, fun A H σ ρ o' ρ' ft e Dn k => ?_⟩
  unfold fAug at e
  split at e
  · rename_i z hs
    obtain ⟨ov, e1, w, rfl, rw⟩ := ft.at hs
    cases rw
    refine ⟨_, e1, ?_⟩
    split at e
    · rename_i y ρ1 e2
      split at e
      · rename_i u e3
        cases e4 : put i (.fz (.int u)) ρ1 with
        | none => rw [e4] at e; cases e
        | some ρ2 =>
          rw [e4] at e
          cases e
          refine hq A H σ ρ _ ρ1 ft e2 _ fun A1 H1 v s1 ok => ?_
          cases ok
          refine qr z y u e3 H1 _ ?_
          obtain ⟨t, ht, nm, rfl⟩ := put_inv e4
          exact k A1 H1 _ (s1.trans (stp_fz s1.fit ht nm .int))
      · cases e
    · cases e
  · cases e

/-! ### an item is set -/
theorem Kont.nx {A H σ ρ Dn ρ' A1 H1 σ1} (k : Kont A H σ ρ Dn ρ' .next) (s : Stp A H σ ρ A1 H1 σ1 ρ') : Dn.nx σ1 H1 := k A1 H1 σ1 s
def fSetIx (i : Nat) (fi fa : Env → Option (Res × Env)) (ρ : Env) : Option (Out × Env) := match fa ρ with
    | none => none
    | some (r, ρ1) => match rd ρ1 i with
      | some (.list _) => match fi ρ1 with
        | some (.fr (.int k), ρ2) => match ρ2[i]? with
          | some (.own xs) => (ixN xs.length k).map fun j => (.next, ρ2.set i (.own (xs.set j r.d)))
          | some (.mu xs) => (ixN xs.length k).map fun j => (.next, ρ2.set i (.mu (xs.set j r.d)))
          | _ => none
        | _ => none
      | _ => none
/-- the address of a slot whose list is read -/
theorem rd_at {A H σ} {ρ : Env} {i : Nat} {ds} (f : Fit A H σ ρ) (h : rd ρ i = some (.list ds)) : ∃ a vs, σ[i]? = some (some (.ref a)) ∧ H a = some (.lst vs) ∧ vs.length ≤ sizeLine ∧ RepAll A H vs ds := by
  have hv : ∃ v, σ[i]? = some (some v) := by
    have h' := h
    simp only [rd] at h'
    split at h'
    · rename_i s hs
      obtain ⟨ov, e1, q⟩ := f.at hs
      cases s <;> simp only [Slot.d?, reduceCtorEq] at h'
      · obtain ⟨w, rfl, _⟩ := q; exact ⟨_, e1⟩
      all_goals (obtain ⟨a, vs, rfl, _⟩ := q; exact ⟨_, e1⟩)
    · cases h'
  obtain ⟨v, hv⟩ := hv
  obtain ⟨a, vs, rfl, h1, h2, h3⟩ := (rd_ok f hv h).list
  exact ⟨a, vs, hv, h1, h2, h3⟩
theorem list_len_set {A H vs ds} (h : RepAll A H vs ds) {n : Nat} {v : V} (hl : vs.length ≤ sizeLine) : (vs.set n v).length ≤ sizeLine := by rw [List.length_set]; exact hl
theorem snd_setIx (C : CtxOk X N q F) {i : Nat} {x : Str} {px ix e spos pos fi fa} (h : nameB N q i x = true)
    (hs : swapsWithSole [.Subscript (.Name x px) ix spos] e pos.line X.env = pure false) (hw : swappedStores [.Subscript (.Name x px) ix spos] e X.env = pure none)
    (hx : ∀ v, assign (.Subscript (.Name x px) ix spos) X.env v = (do
      let ov ← holding [v] (eval (.Name x px) X.env)
      let iv ← holding [v, ov] (eval ix X.env)
      standAt spos
      holding [v, ov, iv] (setItem ov iv v)
      release [v, ov, iv] [])) (hi : SndE X ix fi) (ha : SndE X e fa) : SndS X (.Assign [.Subscript (.Name x px) ix spos] e pos) (fSetIx i fi fa) := by
  obtain ⟨te, pe, qe⟩ := ha.d
  obtain ⟨ti, pi, qi⟩ := hi
  refine ⟨_, ps_asg pe (pg_sub (pe_name C h) pi set_list hx) hs hw rfl, fun A H σ ρ o ρ' ft e Dn k => ?_⟩
  unfold fSetIx at e
  split at e
  · cases e
  · rename_i r ρ1 e1
    split at e
    · rename_i ds0 e0
      split at e
      · rename_i kk ρ2 e2
        refine qe A H σ ρ r ρ1 ft e1 _ fun A1 H1 v s1 r1 => ?_
        obtain ⟨a, vs0, hv, _, _, _⟩ := rd_at s1.fit e0
        refine ⟨_, hv, qi A1 H1 σ ρ1 _ ρ2 s1.fit e2 _ fun A2 H2 w s2 ok => ?_⟩
        cases ok
        have go : ∀ s xs, ρ2[i]? = some s → mutL s = true → s.d? = some (.list xs) → (ixN xs.length kk).map (fun j => (Out.next, ρ2.set i (withL s (xs.set j r.d)))) = some (o, ρ') → rSetL (.ref a) (.int kk) v H2 fun H3 => Dn.nx σ H3 := fun s xs hs hm hd e => by
          cases e3 : ixN xs.length kk with
          | none => rw [e3] at e; cases e
          | some j =>
            rw [e3] at e
            cases e
            obtain ⟨a', vs', ds', q1, q2, q3, q4, q5, q6⟩ := s2.fit.mutl hs hm
            rw [hv] at q1; cases q1
            rw [hd] at q3; cases q3
            have r2 := Rep.mono s2.ext (s2.keep s1.fit) r1
            refine ⟨a, vs', kk, j, rfl, rfl, q4, by rw [q6.length]; exact e3, ?_⟩
            exact k.nx ((s1.trans s2).trans (stp_upd s2.fit hs hm hv (list_len_set q6 q5) (RepAll.set r2 j q6)))
        split at e
        · rename_i xs hs; exact go _ xs hs rfl rfl e
        · rename_i xs hs; exact go _ xs hs rfl rfl e
        · cases e
      · cases e
    · cases e
/-- o[i], by values, of a list -/
theorem get_list : PGet X (rIxL X.K) := by
  intro pins s σ H o i ov iv Q I ro ri h
  obtain ⟨p, xs, k, z, rfl, rfl, hq, he, q⟩ := h
  cases ro
  obtain ⟨t, rfl⟩ := ri
  obtain ⟨its, r, pl, hz⟩ := I.list hq
  obtain ⟨j, h1, h2, h3, h4, h5⟩ := atI_get he
  obtain ⟨w, ew, rw'⟩ := r.get h2
  have hl := r.length
  have hn := line63
  have fin : EP X pins σ Q w s := ⟨z, H, I, rw', q⟩
  by_cases h0 : 0 ≤ k
  · have hj : k.toNat = j := by
      rw [seqIndex_of h0 h5] at h1
      exact Option.some.inj h1
    exact wpAny_getItem_list pl.isList h0 (by omega) (by rw [hj]; simpa using ew) fin
  · have hj : (k + (its.toArray.size : Int)).toNat = j := by
      rw [seqIndex_neg (by omega) h4] at h1
      rw [List.size_toArray, ← hl]
      exact Option.some.inj h1
    exact wpAny_getItem_list_neg pl.isList (by omega) (by rw [List.size_toArray] <;> omega) (by omega) (by rw [hj]; simpa using ew) fin
def fAugIx (o : Bop) (i : Nat) (fi fa : Env → Option (Res × Env)) (ρ : Env) : Option (Out × Env) := match rd ρ i with
    | some (.list _) => match fi ρ with
      | some (.fr (.int k), ρ1) => match (match rd ρ1 i with | some (.list us) => atI us k | _ => none) with
        | some (.int x) => match fa ρ1 with
          | some (.fr (.int y), ρ2) => match dBin o (.int x) (.int y) with
            | some (.fr (.int z)) => match ρ2[i]? with
              | some (.own xs) => (ixN xs.length k).map fun j => (.next, ρ2.set i (.own (xs.set j (.int z))))
              | some (.mu xs) => (ixN xs.length k).map fun j => (.next, ρ2.set i (.mu (xs.set j (.int z))))
              | _ => none
            | _ => none
          | _ => none
        | _ => none
      | _ => none
    | _ => none
theorem snd_augIx (C : CtxOk X N q F) {o : Bop} {i : Nat} {x : Str} {px ix e spos pos fi fa} (ho : augOp o = true) (h : nameB N q i x = true)
    (hx : ∀ ov iv new, augStore ix ov iv new = (do holding [new, ov, iv] (setItem ov iv new); release [new, ov, iv] []; pure .next)) (hi : SndE X ix fi) (ha : SndE X e fa) :
    SndS X (.AugAssign (.Subscript (.Name x px) ix spos) (bop o) e pos) (fAugIx o i fi fa) := by
  obtain ⟨te, pe, qe⟩ := ha
  obtain ⟨ti, pi, qi⟩ := hi
  obtain ⟨r, pr, qr⟩ := snd_iop (X := X) o ho
  refine ⟨_, ps_augS (pe_name C h) pi get_list pe pr set_list hx, fun A H σ ρ o' ρ' ft e Dn k => ?_⟩
  unfold fAugIx at e
  split at e
  · rename_i ds0 e0
    obtain ⟨a, vs0, hv, _, _, _⟩ := rd_at ft e0
    split at e
    · rename_i kk ρ1 e1
      refine ⟨_, hv, qi A H σ ρ _ ρ1 ft e1 _ fun A1 H1 w s1 ok => ?_⟩
      cases ok
      split at e
      · rename_i xo ex
        split at ex
        · rename_i ds er
          obtain ⟨a', vs, hv', z1, z2, z3⟩ := rd_at s1.fit er
          rw [hv] at hv'; cases hv'
          obtain ⟨u, u1, u2⟩ := at_rep z3 ex
          cases u2
          refine ⟨a, vs, kk, _, rfl, rfl, SqL.of z1, u1, ?_⟩
          split at e
          · rename_i y ρ2 e2
            refine qe A1 H1 σ ρ1 _ ρ2 s1.fit e2 _ fun A2 H2 w2 s2 ok2 => ?_
            cases ok2
            split at e
            · rename_i zz e3
              refine qr xo y zz e3 H2 _ ?_
              have go : ∀ s xs, ρ2[i]? = some s → mutL s = true → s.d? = some (.list xs) → (ixN xs.length kk).map (fun j => (Out.next, ρ2.set i (withL s (xs.set j (.int zz))))) = some (o', ρ') → rSetL (.ref a) (.int kk) (.int zz) H2 fun H3 => Dn.nx σ H3 := fun s xs hs hm hd e => by
                cases e3 : ixN xs.length kk with
                | none => rw [e3] at e; cases e
                | some j =>
                  rw [e3] at e
                  cases e
                  obtain ⟨a', vs', ds', q1, q2, q3, q4, q5, q6⟩ := s2.fit.mutl hs hm
                  rw [hv] at q1; cases q1
                  rw [hd] at q3; cases q3
                  refine ⟨a, vs', kk, j, rfl, rfl, q4, by rw [q6.length]; exact e3, ?_⟩
                  exact k.nx ((s1.trans s2).trans (stp_upd s2.fit hs hm hv (list_len_set q6 q5) (RepAll.set .int j q6)))
              split at e
              · rename_i xs hs; exact go _ xs hs rfl rfl e
              · rename_i xs hs; exact go _ xs hs rfl rfl e
              · cases e
            · cases e
          · cases e
        · cases ex
      · cases e
    · cases e
  · cases e
end
end Ev

set_option maxRecDepth 100000
/-! Ev13: loops; a block's context. -/
namespace Ev
open PySem L2
variable [TheK]
section
variable {X : Cx} {N : List Str} {q : Sc} {F : FT}
theorem passes (C : CtxOk X N q F) : PassesOwn (model X.prog X.w) X.A X.env X.xe := by rw [C.nox]; exact PassesOwn.never
theorem whileL_out {c b} : ∀ {n} {ρ : Env} {o ρ'}, whileL c b n ρ = some (o, ρ') → o = .next ∨ ∃ r, o = .ret r
  | 0, _, _, _, e => by cases e
  | n + 1, ρ, o, ρ', e => by
    unfold whileL at e
    split at e
    · cases e; exact .inl rfl
    · split at e
      · cases e
      · exact whileL_out e
      · exact whileL_out e
      · cases e; exact .inl rfl
      · cases e; exact .inr ⟨_, rfl⟩
    · cases e
theorem snd_whl (C : CtxOk X N q F) {c b pos fc fb} (n : Nat) (hc : SndT X c fc) (hb : SndSs X b fb) : SndS X (.While c b [] pos) (whileL fc fb n) := by
  obtain ⟨tc, pc, qc⟩ := hc
  obtain ⟨tb, pb, qb⟩ := hb
  refine ⟨_, ps_while (passes C) pc pb, fun A H σ ρ o ρ' ft e Dn k => ?_⟩
  refine ⟨fun m σ H => ∃ A ρ, Fit A H σ ρ ∧ whileL fc fb m ρ = some (o, ρ') ∧ Kont A H σ ρ Dn ρ' o, ⟨n, A, ρ, ft, e, k⟩, ?_⟩
  rintro m σ H ⟨A, ρ, ft, e, k⟩
  cases m with
  | zero => cases e
  | succ m =>
    unfold whileL at e
    split at e
    · rename_i ρ1 e1
      cases e
      refine qc A H σ ρ _ ρ' ft e1 _ fun A1 H1 s1 => ?_
      show if false = true then _ else _
      rw [if_neg Bool.false_ne_true]
      exact k A1 H1 σ s1
    · rename_i ρ1 e1
      refine qc A H σ ρ _ ρ1 ft e1 _ fun A1 H1 s1 => ?_
      show if true = true then _ else _
      rw [if_pos rfl]
      refine ⟨fun σ' H' => ∃ A ρ, Fit A H' σ' ρ ∧ whileL fc fb m ρ = some (o, ρ') ∧ Kont A H' σ' ρ Dn ρ' o, fun σ' H' h => ⟨m, Nat.lt_succ_self m, h⟩, ?_⟩
      split at e
      · cases e
      · rename_i ρ2 e2
        exact qb A1 H1 σ ρ1 .next ρ2 s1.fit e2 _ fun A2 H2 σ2 s2 => ⟨A2, ρ2, s2.fit, e, k.after (s1.trans s2)⟩
      · rename_i ρ2 e2
        exact qb A1 H1 σ ρ1 .cont ρ2 s1.fit e2 _ fun A2 H2 σ2 s2 => ⟨A2, ρ2, s2.fit, e, k.after (s1.trans s2)⟩
      · rename_i ρ2 e2
        cases e
        exact qb A1 H1 σ ρ1 .brk _ s1.fit e2 _ fun A2 H2 σ2 s2 => k A2 H2 σ2 (s1.trans s2)
      · rename_i r ρ2 e2
        cases e
        exact qb A1 H1 σ ρ1 (.ret r) _ s1.fit e2 _ fun A2 H2 σ2 v s2 r2 => k A2 H2 σ2 v (s1.trans s2) (r2.start s1.dom)
    · cases e
def stepF (t : T) (fb : Env → Option (Out × Env)) (d : D) (ρ : Env) : Option (Out × Env) := match asgT t d ρ with
        | none => none
        | some ρa => fb ρa
def fFor (t : T) (fi : Env → Option (List D × Env × List Nat)) (fb : Env → Option (Out × Env)) (ρ : Env) : Option (Out × Env) := match fi ρ with
    | none => none
    | some (ds, ρ1, ls) => match forL (stepF t fb) ds (lendL ls ρ1) with
      | none => none
      | some (o, ρ2) => some (o, unlend ls ρ2)
theorem notSet_ok {iter : Expr} {env x} (h : (match iter with | .Set .. => false | _ => true) = true) : foldedSetIterable iter env x = pure x := by
  cases iter <;> first | rfl | cases h
theorem snd_for (C : CtxOk X N q F) {tg iter b pos t fi fb} (hs : (match iter with | .Set .. => false | _ => true) = true) (hi : SndI X tg iter fi) (hg : SndG X tg t) (hb : SndSs X b fb) : SndS X (.For tg iter b [] pos) (fFor t fi fb) := by
  obtain ⟨wi, pi, qi⟩ := hi
  obtain ⟨g, pg, qg⟩ := hg
  obtain ⟨tb, pb, qb⟩ := hb
  refine ⟨_, ps_for (passes C) C.calm pi pg pb fun x => notSet_ok hs, fun A H σ ρ o ρ' ft e Dn k => ?_⟩
  unfold fFor at e
  split at e
  · cases e
  · rename_i ds ρ0 ls e1
    split at e
    · cases e
    · rename_i o' ρe e2
      cases e
      refine qi A H σ ρ ds ρ0 ls ft e1 _ fun A1 H1 J G s1 io gm lens ow => ?_
      have f1 := s1.fit.lend ls
      obtain ⟨gt, gw⟩ := io
      -- what is wanted, behind the loop with its lists lent
      have kl : Kont A1 H1 σ (lendL ls ρ0) Dn ρe o := by
        cases o with
        | next => exact fun A' H' σ' s' => k A' H' σ' (s1.trans (s'.unlend ow))
        | brk => exact fun A' H' σ' s' => k A' H' σ' (s1.trans (s'.unlend ow))
        | cont => exact fun A' H' σ' s' => k A' H' σ' (s1.trans (s'.unlend ow))
        | ret r =>
          refine fun A' H' σ' v s' r' => k A' H' σ' v (s1.trans (s'.unlend ow)) ?_
          cases r with
          | fr d => exact r'
          | nw es =>
            obtain ⟨a, vs, h1, h2, h3, h4, h5, h6⟩ := r'
            refine ⟨a, vs, h1, h2, h3, h4, h5, h6.imp (s1.dom a) fun ⟨i, z1, z2⟩ => ⟨i, ?_, z2⟩⟩
            rw [unlend_at, z1]
      refine ⟨fun i m σc Hc => m = ds.length - i ∧ i ≤ ds.length ∧ ∃ Ac ρc, Stp A1 H1 σ (lendL ls ρ0) Ac Hc σc ρc ∧ forL (stepF t fb) (ds.drop i) ρc = some (o, ρe), ⟨ds.length, rfl, Nat.zero_le _, A1, _, Stp.refl f1, e2⟩, ?_⟩
      rintro i m σc Hc ⟨rfl, hi, Ac, ρc, sb, ec⟩
      have kc : Keep A1 H1 Hc := sb.keep f1
      have gk : ∀ a o, G a → H1 a = some o → Hc a = some o := fun a o hg z => sb.frame a o z (gm a hg).1 fun m => s1.fit.held_noprv (gm a hg).2 (prv_lend.mp m)
      obtain ⟨g1, g2, g3⟩ := gw Ac Hc sb.ext kc gk i
      by_cases hlt : i < ds.length
      · refine .inr ⟨g1 hlt, ?_⟩
        rw [List.drop_eq_getElem_cons hlt] at ec
        refine ⟨fun σn Hn => ∃ An ρn, Stp A1 H1 σ (lendL ls ρ0) An Hn σn ρn ∧ forL (stepF t fb) (ds.drop (i + 1)) ρn = some (o, ρe), fun σn Hn ⟨An, ρn, z1, z2⟩ => ⟨ds.length - (i + 1), by omega, rfl, hlt, An, ρn, z1, z2⟩, fun x H' y => ?_⟩
        have item : ∃ A', Stp Ac Hc σc ρc A' H' σc ρc ∧ Rep A' H' x ds[i] := by
          rcases g3 x H' ds[i] (List.getElem?_eq_getElem hlt) y with ⟨rfl, rx⟩ | ⟨p, o', hp, rfl, rx⟩
          · exact ⟨Ac, Stp.refl sb.fit, rx⟩
          · exact ⟨_, Stp.frz sb.fit hp, rx⟩
        obtain ⟨A', si, rx⟩ := item
        simp only [forL] at ec
        have ec' := ec
        unfold stepF at ec
        split at ec
        · cases ec
        all_goals (rename_i e3; split at e3)
        all_goals first | (cases e3; done) | skip
        · rename_i ρ2 _x ρa ea
          refine qg A' H' σc ρc x ds[i] ρa si.fit rx ea _ fun σ2 sa _ => ?_
          exact qb A' H' σ2 ρa .next ρ2 sa.fit e3 _ fun A3 H3 σ3 s3 => ⟨A3, ρ2, (sb.trans ((si.trans sa).trans s3)), ec⟩
        · rename_i ρ2 _x ρa ea
          refine qg A' H' σc ρc x ds[i] ρa si.fit rx ea _ fun σ2 sa _ => ?_
          exact qb A' H' σ2 ρa .cont ρ2 sa.fit e3 _ fun A3 H3 σ3 s3 => ⟨A3, ρ2, (sb.trans ((si.trans sa).trans s3)), ec⟩
        · rename_i ρ2 _x ρa ea
          cases ec
          refine qg A' H' σc ρc x ds[i] ρa si.fit rx ea _ fun σ2 sa _ => ?_
          exact qb A' H' σ2 ρa .brk _ sa.fit e3 _ fun A3 H3 σ3 s3 => kl A3 H3 σ3 (sb.trans ((si.trans sa).trans s3))
        · rename_i r ρ2 _x ρa ea
          cases ec
          refine qg A' H' σc ρc x ds[i] ρa si.fit rx ea _ fun σ2 sa _ => ?_
          exact qb A' H' σ2 ρa (.ret r) _ sa.fit e3 _ fun A3 H3 σ3 v s3 r3 => kl A3 H3 σ3 v (sb.trans ((si.trans sa).trans s3)) (r3.start ((sb.trans (si.trans sa))).dom)
      · have ie : i = ds.length := by omega
        subst ie
        rw [List.drop_length] at ec
        simp only [forL] at ec
        cases ec
        exact .inl ⟨g2 (Nat.le_refl _), kl Ac Hc σc sb⟩

/-! ### a comprehension's block -/
def blkSc (q : Sc) (scope : Scope) : Sc := ⟨relS scope q.sc, fun x => scope.names.lookup x == some .cell, q.gcd⟩
theorem CtxOk.blk (C : CtxOk X N q F) (s : Shared) (H : Hp) (scope : Scope) (c : Addr) (cl : List (Str × Addr)) (fp : List Addr) (hk : scope.kind = .function) : CtxOk (X.blk s H scope (compEnvC scope cl c X.env) fp) N (blkSc q scope) F where
  N := C.N
  nd := C.nd
  sc := by show relS scope X.env.scope = relS scope q.sc; rw [C.sc]
  fn := rfl
  calm := C.calm
  nox := rfl
  bl := C.bl
  un := C.un
  kk := C.kk
  kd := hk
  gc := C.gc
  fns := C.fns
end
end Ev

set_option maxRecDepth 100000
set_option maxHeartbeats 2000000
/-! EvS: sets of whole numbers, made by a comprehension, measured or sorted at once. The road of HandS.SetBool (truth values), gone with whole numbers. -/
namespace Ev
open PySem PySem.Spec PyProof.Rows L2
section
variable {X : Cx}
def ins (S : Int → Bool) (k : Int) : Int → Bool := fun j => S j || decide (j = k)
def gro (S : Int → Bool) (n : Nat) (k : Int) : Nat := if S k = true then n else n + 1
theorem add_set {pins : List (Addr × Obj)} {σ : L2.St} {H : Hp} {s : Shared} {E : Value → Shared → Prop} {D : Addr} {S : Int → Bool} {n : Nat} {k : Int} {tk : Tok} {Q : Value → Shared → Prop} (I : Inv X pins σ H s) (hD : H D = some (SetO X.w D S n)) (room : n + 1 < scanBound)
    (h : ∀ s', Inv X pins σ (upd H D (SetO X.w D (ins S k) (gro S n k))) s' → Q .none s') : wpAny (model X.prog X.w) X.A (call (.builtin "set.add") [.ref D, .int k tk]) Q E s := by
  refine setR_add (setO_get I hD) room fun h' sb new => h _ ?_
  have he : ∃ u, h'.get? D = some u := by
    obtain ⟨o, _, _, _, ho, _⟩ := new
    exact ⟨o, ho⟩
  exact I.write (e := D) (t' := s.toks + 1) (by rw [hD]; trivial) (.inl rfl) (fun b u hb hu => (sb.2 b hb).trans hu) he (setO_new new)
/-- the empty set at D -/
def set0 (w : World) (D : Addr) : HO := SetO w D (fun _ => false) 0
/-- {elt for tg in iter if ..}, elt a whole number -/
def tScI (w : World) (wi : TI) (g : TG) (tt : TT) (te : TE) (vs : List Nat) : TE := fun σ H Q => wi σ H fun J H1 => ∀ D, H1 D = none → ∃ W : Nat → Nat → Hp → Prop, (∃ m, W 0 m (upd H1 D (set0 w D))) ∧ ∀ i m H, W i m H →
  (J.stop i H ∧ Q (.ref D) H) ∨ (J.go i H ∧ ∃ Nx : Hp → Prop, (∀ H', Nx H' → ∃ m', m' < m ∧ W (i + 1) m' H') ∧ ∀ x H', J.yld i H x H' → g x (wipe σ vs) H' fun σ2 H2 => wipe σ2 vs = wipe σ vs ∧ tt σ2 H2 fun b H3 =>
    if b = true then te σ2 H3 fun y H4 => ∃ (k : Int) (S : Int → Bool) (n : Nat), y = .int k ∧ H4 D = some (SetO w D S n) ∧ n + 1 < scanBound ∧ Nx (upd H4 D (SetO w D (ins S k) (gro S n k))) else Nx H3)
theorem setc_core {pins : List (Addr × Obj)} {s : Shared} {σ : L2.St} {H : Hp} {Q : VK} {elt tg iter : Expr} {ifs : List Expr} {scope : Scope} {own : List (PySem.Str × Nat)} {pos pos' : Pos} {wi : TI} {g : TG} {tt : TT} {te : TE} {Qf : Value → Shared → Prop}
    (hc : X.calm = true) (hN : X.N.Nodup) (I : Inv X pins σ H s) (hi : PI X tg iter wi) (ok : BlkOk X.N X.env.scope scope own)
    (hg : ∀ (s : Shared) (H : Hp) (C : Addr) (cl : List (PySem.Str × Addr)) (fp : List Addr), PG (X.blk s H scope (compEnvC scope cl C X.env) fp) tg g) (ht : ∀ (s : Shared) (H : Hp) (C : Addr) (cl : List (PySem.Str × Addr)) (fp : List Addr), PTs (X.blk s H scope (compEnvC scope cl C X.env) fp) ifs tt)
    (he : ∀ (s : Shared) (H : Hp) (C : Addr) (cl : List (PySem.Str × Addr)) (fp : List Addr), PE (X.blk s H scope (compEnvC scope cl C X.env) fp) elt te) (hs : ∀ x, foldedSetIterable iter X.env x = pure x)
    (h : tScI X.w wi g tt te (own.map (·.2)) σ H Q)
    (fin : ∀ D C s' m H', Inv X pins σ H' s' → Q (.ref D) H' → s'.heap.Ns C m → FpOk X pins H' C → compPost (model X.prog X.w) X.A X.xe none Qf (.ref D) C (.ok .next) s') :
    wpAny (model X.prog X.w) X.A (comprehension (.SetComp elt [⟨tg, iter, ifs, 0⟩] scope pos) scope X.env pos' (newSet (.type "set")) false (eval iter X.env) none) Qf X.xe s := by
  have caught : ∀ y ∈ scope.names, y.2 = .free → ∃ c, X.env.cells.lookup y.1 = some c := fun y hy e => (ok.free y hy e).elim (fun k => I.ok.has _ (.inl k)) fun k => I.ok.has _ (.inr k)
  refine wpAny_comprehension_free (use := none) rfl hs (closure_ok caught) ok.kind (fun y hy e => by rw [ok.uniq y hy, e])
    (thn (hi.run pins s σ H _ I h) fun xv s1 hx => thn hx fun itv s2 h2 => ?_)
  obtain ⟨it, fp, tn, J, H2, rfl, I2, T, st2, f2, q⟩ := h2
  refine PpSet.newSet_ok (newEnv_comp ?_)
  generalize hD : s2.heap.objs.size = D
  obtain ⟨W, ⟨m0, w0⟩, turn⟩ := q D (I2.hok.fresh (Nat.le_of_eq hD))
  -- the set is laid
  generalize hs3 : ({ s2 with heap := s2.heap.push { cls := .type "set", dict := none, data := .set #[] 0 (.fresh 0 0 (!X.w.params.followText "set-order")) } } : Shared) = s3
  have h3 : s3.heap = s2.heap.push { cls := .type "set", dict := none, data := .set #[] 0 (.fresh 0 0 (!X.w.params.followText "set-order")) } := by rw [← hs3]
  have I3 : Inv X pins σ (upd H2 D (set0 X.w D)) s3 := by
    rw [← hs3]
    refine I2.laid (t' := s2.toks) (fun b o e => Heap.get?_push_of_some _ e) (Nat.le_of_eq hD) ?_
    rw [← hD]
    exact setO_new (setR_fresh X.w)
  have f3 : ∀ b ∈ fp, FpOk X pins (upd H2 D (set0 X.w D)) b ∧ b < s3.heap.objs.size := fun b hb => by
    obtain ⟨o, e, _⟩ := T.obj _ _ st2 b hb
    have hlt := Heap.lt_size e
    refine ⟨⟨?_, (f2 b hb).2⟩, by rw [h3, Heap.size_push]; exact Nat.lt_succ_of_lt hlt⟩
    rw [upd_ne (by rw [← hD]; exact Nat.ne_of_lt hlt)]
    exact (f2 b hb).1
  have st3 : tn 0 s3.heap := T.keep _ _ _ st2 fun b _ o e => by rw [h3]; exact Heap.get?_push_of_some _ e
  have I4 := block_start I3 ok hN f3
  have pg := hg s3 (upd H2 D (set0 X.w D)) s3.heap.objs.size (cellsFrom (s3.heap.objs.size + 1) scope.names (cloFrom X.env.cells scope.names [])) fp
  have pt := ht s3 (upd H2 D (set0 X.w D)) s3.heap.objs.size (cellsFrom (s3.heap.objs.size + 1) scope.names (cloFrom X.env.cells scope.names [])) fp
  have pe := he s3 (upd H2 D (set0 X.w D)) s3.heap.objs.size (cellsFrom (s3.heap.objs.size + 1) scope.names (cloFrom X.env.cells scope.names [])) fp
  have nfp : ∀ b ∈ fp, (upd H2 D (set0 X.w D)) b = none := fun b hb => (f3 b hb).1.1
  show codeAny _ _ (.compStart (.SetComp elt [⟨tg, iter, ifs, 0⟩] scope pos) 0 (.ref it) (.ref D) (compEnvC scope (cellsFrom (s3.heap.objs.size + 1) scope.names (cloFrom X.env.cells scope.names [])) s3.heap.objs.size X.env)) (compPost (model X.prog X.w) X.A X.xe none Qf (.ref D) s3.heap.objs.size) { s3 with heap := pushCells (s3.heap.push { cls := .type "dict", data := .dict #[] }) scope.names }
  generalize hce : compEnvC scope (cellsFrom (s3.heap.objs.size + 1) scope.names (cloFrom X.env.cells scope.names [])) s3.heap.objs.size X.env = ce at I4 pg pt pe ⊢
  have cL : ce.locals = s3.heap.objs.size := by subst hce; rfl
  generalize hH3 : upd H2 D (set0 X.w D) = H3 at I3 I4 pg pt pe w0 nfp f3
  generalize hs4 : ({ s3 with heap := pushCells (s3.heap.push { cls := .type "dict", data := .dict #[] }) scope.names } : Shared) = s4 at I4 ⊢
  have st4 : tn 0 s4.heap := T.keep _ _ _ st3 fun b _ o e => by rw [← hs4]; exact pushCells_keeps _ _ _ _ (Heap.get?_push_of_some _ e)
  have stat : ∀ {σ' : L2.St} {H' : Hp} {s' : Shared}, Inv (X.blk s3 H3 scope ce fp) [] σ' H' s' → (∀ b ∈ fp, H' b = none) → ∀ b ∈ fp, FpOk (X.blk s3 H3 scope ce fp) [] H' b := fun {σ' H' s'} I' hn b hb =>
    ⟨hn b hb, (I'.ok.exf b hb).1, I'.ok.exfs b hb, .inl hb, fun x c e => (I'.ok.exf b hb).2 x c e, fun p hp => absurd (show p ∈ ([] : List (Addr × Obj)) ++ [] from hp) (by simp)⟩
  have loop : codeAny (model X.prog X.w) X.A (.compLoop (.SetComp elt [⟨tg, iter, ifs, 0⟩] scope pos) 0 (.ref it) (.ref D) ce) (compPost (model X.prog X.w) X.A X.xe none Qf (.ref D) s3.heap.objs.size) s4 := by
    refine PpSet.compLoopS_any (fun n s' => ∃ i H', Inv (X.blk s3 H3 scope ce fp) [] (wipe σ (own.map (·.2))) H' s' ∧ tn i s'.heap ∧ (∀ b ∈ fp, H' b = none) ∧ W i n H') ?_ m0 ⟨0, H3, I4, st4, nfp, w0⟩
    rintro n s5 ⟨i, H5, I5, st5, n5, w5⟩
    rcases turn i n H5 w5 with ⟨stop, qq⟩ | ⟨go, Nx, hNx, step⟩
    · refine thnF (T.done (X.blk s3 H3 scope ce fp) rfl rfl rfl hc i [] s5 _ H5 (fun _ _ => False) I5 (stat I5 n5) st5 stop) fun r s6 ⟨hr, I6⟩ => ?_
      subst hr
      have I7 : Inv X pins σ H5 s6 := I3.call' (ch := fp) I6.os I6.base I6.hok I6.bare fun b hb => ⟨(f3 b hb).1.2.2.2.1, (f3 b hb).1.2.1, (f3 b hb).1.2.2.2.2.1, (f3 b hb).1.2.2.2.2.2⟩
      have nC : H5 s3.heap.objs.size = none := by
        have z : H5 ce.locals = none := I6.free
        rwa [cL] at z
      obtain ⟨m, hn, _⟩ := I6.loc
      have hn : s6.heap.Ns ce.locals m := hn
      rw [cL] at hn
      exact fin D s3.heap.objs.size s6 m H5 I7 qq hn (I3.fpOk (Nat.le_refl _) nC)
    · refine thnF (T.item (X.blk s3 H3 scope ce fp) rfl rfl rfl hc i [] s5 _ H5 (fun _ _ => False) I5 (stat I5 n5) st5 go) fun r s6 ⟨u, hr, h6⟩ => ?_
      subst hr
      refine thnF h6 fun _ s7 ⟨x, H7, I7, r7, y7, st7, n7⟩ => ?_
      have I7' := I7.pinned (stat I7 n7) (T.obj _ _ st7)
      refine thnF (pg.run _ s7 _ H7 x u _ I7' r7 (step x H7 y7)) fun _ s8 ⟨σ8, H8, I8, hw8, q8⟩ => ?_
      refine thnF (pt.run _ s8 σ8 H8 _ I8 q8) fun b s9 ⟨H9, I9, q9⟩ => ?_
      have close : ∀ {s' : Shared} {H' : Hp}, Inv (X.blk s3 H3 scope ce fp) ([] ++ pinsAt fp s7.heap) σ8 H' s' → Nx H' → ∃ m, m < n ∧ ∃ i H', Inv (X.blk s3 H3 scope ce fp) [] (wipe σ (own.map (·.2))) H' s' ∧ tn i s'.heap ∧ (∀ b ∈ fp, H' b = none) ∧ W i m H' := fun {s' H'} I' nx => by
        obtain ⟨m', hm, w'⟩ := hNx H' nx
        have pin' : ∀ b ∈ fp, ∀ o, s7.heap.get? b = some o → s'.heap.get? b = some o ∧ H' b = none := fun b hb o e =>
          let z := I'.pin (b, o) (List.mem_append_right _ (List.mem_append_right _ (mem_pinsAt hb e)))
          ⟨z.1, z.2.1⟩
        refine ⟨m', hm, i + 1, H', (I'.unpinned (pins := [])).weak (by rw [← hw8, wipe_length]) (fun j v e => ?_), T.keep _ _ _ st7 fun b hb o e => (pin' b hb o e).1, fun b hb => ?_, w'⟩
        · rw [← hw8] at e
          exact (wipe_some e).1
        · obtain ⟨o, e, _⟩ := T.obj _ _ st7 b hb
          exact (pin' b hb o e).2
      cases b with
      | false =>
        simp only [Bool.false_eq_true, if_false] at q9 ⊢
        exact close I9 q9
      | true =>
        simp only [if_true] at q9 ⊢
        refine thnF (pe.run _ s9 σ8 H9 _ I9 q9) fun z s10 ⟨yv, H10, I10, r10, kz, S0, n0, ey, hD10, hz10, nx⟩ => ?_
        subst ey
        obtain ⟨tk, rfl⟩ : ∃ tk, z = Value.int kz tk := r10
        exact add_set (X := X.blk s3 H3 scope ce fp) I10 hD10 hz10 fun s11 I11 => close I11 nx
  exact PpSet.codeAny_compStart_set loop (T.self X.A 0 _ _ _ st4 loop)
theorem pe_setc {elt tg iter : Expr} {ifs : List Expr} {scope : Scope} {own : List (PySem.Str × Nat)} {pos : Pos} {wi : TI} {g : TG} {tt : TT} {te : TE} (hc : X.calm = true) (hN : X.N.Nodup) (hi : PI X tg iter wi) (ok : BlkOk X.N X.env.scope scope own)
    (hg : ∀ (s : Shared) (H : Hp) (C : Addr) (cl : List (PySem.Str × Addr)) (fp : List Addr), PG (X.blk s H scope (compEnvC scope cl C X.env) fp) tg g) (ht : ∀ (s : Shared) (H : Hp) (C : Addr) (cl : List (PySem.Str × Addr)) (fp : List Addr), PTs (X.blk s H scope (compEnvC scope cl C X.env) fp) ifs tt)
    (he : ∀ (s : Shared) (H : Hp) (C : Addr) (cl : List (PySem.Str × Addr)) (fp : List Addr), PE (X.blk s H scope (compEnvC scope cl C X.env) fp) elt te) (hs : ∀ x, foldedSetIterable iter X.env x = pure x) :
    PE X (.SetComp elt [⟨tg, iter, ifs, 0⟩] scope pos) (tScI X.w wi g tt te (own.map (·.2))) := by
  refine ⟨fun pins s σ H Q I h => ?_⟩
  rw [PpSet.eval_SetComp]
  refine setc_core hc hN I hi ok hg ht he hs h fun D C s' m H' I' q hn f => ⟨m, hn, fun h'' sb => ?_⟩
  obtain ⟨f0, f1, f2, f3, f4, f5⟩ := f
  exact ⟨.ref D, H', I'.turned (t' := s'.toks) (fun b o hb e => (sb.2 b hb).trans e) f0 f1 f3 f4 f5, rfl, q⟩
/-- len of a set of whole numbers -/
theorem cr_lenSet : CallR X (.builtin "len") (fun vs H Q => ∃ (a : Addr) (S : Int → Bool) (n : Nat), vs = [V.ref a] ∧ H a = some (SetO X.w a S n) ∧ Q (.int n) H) := by
  intro pins s σ H vs us Q I r h
  obtain ⟨a, S, n, rfl, ha, q⟩ := h
  have R := setO_get I ha
  rw [Vals.ref1 r]
  obtain ⟨o, es, ep, t, ho, hex, hd, _, _, _, hb, hf, hn, _, _⟩ := R
  have hsb : (scanBound : Nat) = 4096 := rfl
  refine call_len_set ho hex hd hf (by omega) ⟨.int n, H, (I.tok _).tok _, ⟨_, by rw [← hn]⟩, q⟩
end
theorem dd_mem : ∀ (l : List Int) (x : Int), x ∈ dd l ↔ x ∈ l
  | [], x => by simp [dd]
  | y :: r, x => by
    unfold dd
    by_cases h : y ∈ r
    · rw [if_pos h, dd_mem r]
      simp only [List.mem_cons]
      constructor
      · exact .inr
      · rintro (rfl | h'); exact h; exact h'
    · rw [if_neg h]
      simp [dd_mem r]
theorem dd_nodup : ∀ l : List Int, (dd l).Nodup
  | [] => by simp [dd]
  | y :: r => by
    unfold dd
    by_cases h : y ∈ r
    · rw [if_pos h]; exact dd_nodup r
    · rw [if_neg h]; exact List.nodup_cons.mpr ⟨fun z => h ((dd_mem r y).mp z), dd_nodup r⟩
theorem dd_le : ∀ l : List Int, (dd l).length ≤ l.length
  | [] => by simp [dd]
  | y :: r => by
    have := dd_le r
    unfold dd
    by_cases h : y ∈ r
    · rw [if_pos h, List.length_cons]; omega
    · rw [if_neg h, List.length_cons, List.length_cons]; omega
def memB (l : List Int) : Int → Bool := fun j => decide (j ∈ l)
theorem ins_mem (l : List Int) (k : Int) : ins (memB l) k = memB (l ++ [k]) := by
  funext j
  unfold ins memB
  rw [Bool.eq_iff_iff]
  simp
theorem gro_dd (l : List Int) (k : Int) : gro (memB l) (dd l).length k = (dd (l ++ [k])).length := by
  unfold gro memB
  by_cases h : k ∈ l
  · rw [if_pos (by simpa using h)]
    apply List.Perm.length_eq
    rw [List.perm_ext_iff_of_nodup (dd_nodup _) (dd_nodup _)]
    intro a
    rw [dd_mem, dd_mem]
    simp only [List.mem_append, List.mem_singleton]
    constructor
    · exact .inl
    · rintro (h' | rfl); exact h'; exact h
  · rw [if_neg (by simpa using h)]
    have : (k :: dd l).Perm (dd (l ++ [k])) := by
      rw [List.perm_ext_iff_of_nodup (List.nodup_cons.mpr ⟨fun z => h ((dd_mem l k).mp z), dd_nodup l⟩) (dd_nodup _)]
      intro a
      rw [List.mem_cons, dd_mem, dd_mem]
      simp only [List.mem_append, List.mem_singleton]
      constructor
      · rintro (rfl | h'); exact .inr rfl; exact .inl h'
      · rintro (h' | rfl); exact .inr h'; exact .inl rfl
    simpa using this.length_eq
variable [TheK]
theorem set_core {w : World} {wi : TI} {t : T} {vs : List Nat} {fi fc fe} (hts : ∀ i ∈ tslots t, i ∈ vs)
    (qi : ∀ A H σ ρ ds ρ0 ls, Fit A H σ ρ → fi ρ = some (ds, ρ0, ls) → ∀ R : L2.It → Hp → Prop,
      (∀ A' H' J G, Stp A H σ ρ A' H' σ ρ0 → IterOk A' H' G J ds → (∀ a, G a → ¬ Mut σ (lendL ls ρ0) a ∧ Held A' σ ρ0 a) → ds.length ≤ sizeLine → Owns ρ0 ls → R J H') → wi σ H R)
    {A H σ ρ ns ρ'} (ft : Fit A H σ ρ) (e : fComp t vs fi fc fe ρ = some (.nw (ns.map .int), ρ')) (hz : ns.length < 4095) (Q : VK) (k : ∀ A' H' p, Stp A H σ ρ A' H' σ ρ' → H' p = some (SetO w p (memB ns) (dd ns).length) → Q (.ref p) H') :
    tScI w wi (gT t) (tT fc) (tE fe) vs σ H Q := by
  have hsb : (scanBound : Nat) = 4096 := rfl
  unfold fComp at e
  split at e
  · cases e
  · rename_i ds ρ0 ls e1
    split at e
    · cases e
    · rename_i hq
      split at e
      · cases e
      · rename_i rr ρ2 e2
        cases e
        have hq : ∀ i ∈ vs, ∃ s, (lendL ls ρ0)[i]? = some s ∧ quietS s = true := fun i hi => by
          have := (List.all_eq_true.mp ((Bool.not_eq_false _).mp hq)) i hi
          split at this
          · rename_i s hs; exact ⟨s, hs, this⟩
          · cases this
        have nm : ∀ i ∈ vs, ∀ es, (lendL ls ρ0)[i]? = some (.mu es) → False := fun i hi es h => by
          obtain ⟨s, z1, z2⟩ := hq i hi
          rw [h] at z1; cases z1; cases z2
        refine qi A H σ ρ ds ρ0 ls ft e1 _ fun A1 H1 J G s1 io gm lens ow => ?_
        have f1 := s1.fit.lend ls
        obtain ⟨gt, gw⟩ := io
        intro D hD
        have nD : ¬ A1 D := f1.nofrz hD
        have rD : NoRef H1 σ (lendL ls ρ0) D := .new f1 hD
        have b0 : Stp A1 H1 σ (lendL ls ρ0) A1 H1 (L2.wipe σ vs) (wipeE vs (lendL ls ρ0)) := (Stp.refl f1).wipe nm
        have rD0 : NoRef H1 (L2.wipe σ vs) (wipeE vs (lendL ls ρ0)) D := rD.wipe f1 vs
        refine ⟨fun i m Hc => m = ds.length - i ∧ i ≤ ds.length ∧ ∃ (Ac : Addr → Prop) (ρb : Env) (acc : List Int) (rest : List Ev.D), Stp A1 H1 σ (lendL ls ρ0) Ac Hc (L2.wipe σ vs) ρb ∧ Hc D = some (SetO w D (memB acc) (dd acc).length) ∧ ¬ Ac D ∧
          NoRef Hc (L2.wipe σ vs) ρb D ∧ compL (stepC t vs fc fe) (ds.drop i) ρb = some (rest, ρ2) ∧ acc.map .int ++ rest = ns.map .int,
          ⟨ds.length, rfl, Nat.zero_le _, A1, _, [], ns.map .int, b0.other hD nD rD0 (fun o u z => by rw [hD] at z; cases z), upd_same, nD, rD0.upd b0.fit nD, e2, rfl⟩, ?_⟩
        rintro i m Hc ⟨rfl, hi, Ac, ρb, acc, rest, sb, hDc, nDc, rDc, ec, er⟩
        have kc : Keep A1 H1 Hc := sb.keep f1
        have gk : ∀ a o, G a → H1 a = some o → Hc a = some o := fun a o hg z => sb.frame a o z (gm a hg).1 fun m => s1.fit.held_noprv (gm a hg).2 (prv_lend.mp m)
        obtain ⟨g1, g2, g3⟩ := gw Ac Hc sb.ext kc gk i
        by_cases hlt : i < ds.length
        · refine .inr ⟨g1 hlt, ?_⟩
          rw [List.drop_eq_getElem_cons hlt] at ec
          simp only [compL] at ec
          split at ec
          · cases ec
          · rename_i o ρ3 e3
            split at ec
            · cases ec
            · rename_i r2 ρ4 e4
              cases ec
              refine ⟨fun Hn => ∃ (An : Addr → Prop) (an : List Int), Stp A1 H1 σ (lendL ls ρ0) An Hn (L2.wipe σ vs) ρ3 ∧ Hn D = some (SetO w D (memB an) (dd an).length) ∧ ¬ An D ∧ NoRef Hn (L2.wipe σ vs) ρ3 D ∧ an.map .int ++ r2 = ns.map .int, fun Hn hn => ?_, fun x H' y => ?_⟩
              · obtain ⟨An, an, z1, z2, z5, z6, z7⟩ := hn
                exact ⟨ds.length - (i + 1), by omega, rfl, hlt, An, ρ3, an, r2, z1, z2, z5, z6, e4, z7⟩
              · have item : ∃ A', Stp Ac Hc (L2.wipe σ vs) ρb A' H' (L2.wipe σ vs) ρb ∧ Rep A' H' x ds[i] := by
                  rcases g3 x H' ds[i] (List.getElem?_eq_getElem hlt) y with ⟨rfl, rx⟩ | ⟨p, o', hp, rfl, rx⟩
                  · exact ⟨Ac, Stp.refl sb.fit, rx⟩
                  · exact ⟨_, Stp.frz sb.fit hp, rx⟩
                obtain ⟨A', si, rx⟩ := item
                unfold stepC at e3
                split at e3
                · cases e3
                · rename_i ρa ea
                  refine ⟨A', ρb, ds[i], ρa, si.fit, rx, ea, fun σ' sa oa => ?_⟩
                  have wv : L2.wipe σ' vs = L2.wipe σ vs := by rw [wipe_only (oa.mono hts), wipe_wipe]
                  refine ⟨wv, ?_⟩
                  split at e3
                  · cases e3
                  · rename_i ρb' ec'
                    cases e3
                    refine ⟨A', ρa, false, ρb', sa.fit, ec', fun A2 H2 s2 => ?_⟩
                    show if false = true then _ else _
                    rw [if_neg Bool.false_ne_true]
                    have tot := (si.trans sa).trans s2
                    have all := (sb.trans tot).wipe nm
                    rw [wv] at all
                    have rn := rDc.stp tot hDc
                    refine ⟨A2, acc, all, tot.frame D _ hDc rDc.nomut rDc.2, nofrz_stp nDc rDc tot hDc, by rw [← wv]; exact rn.wipe tot.fit vs, er⟩
                  · rename_i ρb' ec'
                    split at e3
                    · cases e3
                    · rename_i re ρc ee
                      cases e3
                      refine ⟨A', ρa, true, ρb', sa.fit, ec', fun A2 H2 s2 => ?_⟩
                      show if true = true then _ else _
                      rw [if_pos rfl]
                      refine ⟨A2, ρb', re, ρc, s2.fit, ee, fun A3 H3 y3 s3 r3 => ?_⟩
                      have tot := ((si.trans sa).trans s2).trans s3
                      have all := (sb.trans tot).wipe nm
                      rw [wv] at all
                      have rn := rDc.stp tot hDc
                      have hD3 := tot.frame D _ hDc rDc.nomut rDc.2
                      have na3 := nofrz_stp nDc rDc tot hDc
                      have rn3 : NoRef H3 (L2.wipe σ vs) (wipeE vs ρc) D := by rw [← wv]; exact rn.wipe tot.fit vs
                      -- the item is a whole number
                      have hk : ∃ kz : Int, re.d = .int kz := by
                        have hm : re.d ∈ ns.map (PyData.int) := by rw [← er]; simp
                        obtain ⟨kz, _, e⟩ := List.mem_map.mp hm
                        exact ⟨kz, e.symm⟩
                      obtain ⟨kz, hk⟩ := hk
                      rw [hk] at r3 er
                      cases r3
                      have hlen : acc.length < ns.length := by
                        have := congrArg List.length er
                        simp only [List.length_append, List.length_map, List.length_cons] at this
                        omega
                      have hdd := dd_le acc
                      refine ⟨kz, memB acc, (dd acc).length, rfl, hD3, by omega, A3, acc ++ [kz], all.other hD na3 rn3 (fun o u z => by rw [hD3] at z; cases z), ?_, na3, rn3.upd all.fit na3, ?_⟩
                      · rw [upd_same, ins_mem, gro_dd]
                      · rw [List.map_append, List.append_assoc]; exact er
        · have ie : i = ds.length := by omega
          subst ie
          refine .inl ⟨g2 (Nat.le_refl _), ?_⟩
          rw [List.drop_length] at ec
          simp only [compL] at ec
          cases ec
          rw [List.append_nil] at er
          have ea : acc = ns := by
            have inj : ∀ a b : List Int, a.map PyData.int = b.map PyData.int → a = b := by
              intro a
              induction a with
              | nil => intro b h; cases b with | nil => rfl | cons _ _ => simp at h
              | cons x a ih =>
                intro b h
                cases b with
                | nil => simp at h
                | cons y b =>
                  simp only [List.map_cons, List.cons.injEq, PyData.int.injEq] at h
                  rw [h.1, ih b h.2]
            exact inj _ _ er
          subst ea
          exact k Ac Hc D (s1.trans (Stp.unlend ow (Stp.back f1 sb hq))) hDc
theorem ints_of_all : ∀ {rr : List Ev.D} {ns : List Int}, allInts rr = some ns → rr = ns.map .int
  | [], ns, h => by cases h; rfl
  | d :: l, ns, h => by
    cases d <;> simp only [allInts, reduceCtorEq] at h
    cases h' : allInts l with
    | none => rw [h'] at h; cases h
    | some ms => rw [h'] at h; cases h; rw [List.map_cons, ints_of_all h']
theorem fSetc_inv {srt t vs fi fc fe ρ r ρ'} (e : fSetc srt t vs fi fc fe ρ = some (r, ρ')) : ∃ ns : List Int, fComp t vs fi fc fe ρ = some (.nw (ns.map .int), ρ') ∧ ns.length < 4095 ∧ ((srt = true ∧ (dd ns).length < 64 ∧ r = .nw ((sortI (dd ns)).map .int)) ∨ (srt = false ∧ r = .fr (.int ((dd ns).length : Nat)))) := by
  rw [fSetc_eq] at e
  split at e
  · rename_i rr ρ1 h1
    cases hs : setR srt rr with
    | none => rw [hs] at e; cases e
    | some x =>
      rw [hs] at e
      cases e
      unfold setR at hs
      split at hs
      · cases hs
      · rename_i ns ha
        rw [ints_of_all ha] at h1
        split at hs
        · rename_i hz
          refine ⟨ns, h1, hz, ?_⟩
          cases srt with
          | true =>
            simp only at hs
            split at hs
            · rename_i h64; cases hs; exact .inl ⟨rfl, h64, rfl⟩
            · cases hs
          | false => simp only at hs; cases hs; exact .inr ⟨rfl, rfl⟩
        · cases hs
  · cases e
/-- len({..}), sorted({..}) -/
theorem snd_setc {X : Cx} {N : List Str} {q : Sc} {F : FT} (C : CtxOk X N q F) {srt : Bool} {tg iter elt : Expr} {ifs : List Expr} {scope : Scope} {pos p pc : Pos} {t : T} {vs : List Nat} {wi : TI} {fi fc fe} {own : List (Str × Nat)}
    (hg : glB q.sc (Str.ofString (if srt then "sorted" else "len")) = true) (hts : ∀ i ∈ tslots t, i ∈ vs) (hv : own.map (·.2) = vs)
    (qi : ∀ A H σ ρ ds ρ0 ls, Fit A H σ ρ → fi ρ = some (ds, ρ0, ls) → ∀ R : L2.It → Hp → Prop,
      (∀ A' H' J G, Stp A H σ ρ A' H' σ ρ0 → IterOk A' H' G J ds → (∀ a, G a → ¬ Mut σ (lendL ls ρ0) a ∧ Held A' σ ρ0 a) → ds.length ≤ sizeLine → Owns ρ0 ls → R J H') → wi σ H R)
    (pi : PI X tg iter wi) (bo : BlkOk X.N X.env.scope scope own)
    (pg : ∀ (s : Shared) (H : Hp) (a : Addr) (cl : List (Str × Addr)) (fp : List Addr), PG (X.blk s H scope (compEnvC scope cl a X.env) fp) tg (gT t))
    (pt : ∀ (s : Shared) (H : Hp) (a : Addr) (cl : List (Str × Addr)) (fp : List Addr), PTs (X.blk s H scope (compEnvC scope cl a X.env) fp) ifs (tT fc))
    (pe : ∀ (s : Shared) (H : Hp) (a : Addr) (cl : List (Str × Addr)) (fp : List Addr), PE (X.blk s H scope (compEnvC scope cl a X.env) fp) elt (tE fe))
    (hs : ∀ x, foldedSetIterable iter X.env x = pure x) :
    SndE X (.Call (.Name (Str.ofString (if srt then "sorted" else "len")) p) [.SetComp elt [⟨tg, iter, ifs, 0⟩] scope pc] [] pos) (fSetc srt t vs fi fc fe) := by
  have ps := pe_setc (pos := pc) C.calm C.nd pi bo pg pt pe hs
  rw [hv] at ps
  cases srt with
  | false =>
    refine ⟨_, pe_callB cr_lenSet (gl_of C hg) (C.bl "len" (by decide)) PySem.boot_len (pa_cons ps pa_nil (star_cons rfl)) (by decide) (by decide) (star_cons rfl) rfl, fun A H σ ρ r ρ' ft e Q k => ?_⟩
    obtain ⟨ns, e1, hz, ⟨h, _⟩ | ⟨_, rfl⟩⟩ := fSetc_inv e
    · cases h
    · delta tCB tCons tNil
      dsimp only
      refine set_core (w := X.w) hts qi ft e1 hz _ fun A' H' a s1 ha => ?_
      exact ⟨a, _, _, rfl, ha, k A' H' _ s1 .int⟩
  | true =>
    refine ⟨_, pe_callB (cr_sortedSet C.calm) (gl_of C hg) (C.bl "sorted" (by decide)) PyProof.Rows.boot_sorted (pa_cons ps pa_nil (star_cons rfl)) (by decide) (by decide) (star_cons rfl) rfl, fun A H σ ρ r ρ' ft e Q k => ?_⟩
    obtain ⟨ns, e1, hz, ⟨_, h64, rfl⟩ | ⟨h, _⟩⟩ := fSetc_inv e
    · delta tCB tCons tNil
      dsimp only
      refine set_core (w := X.w) hts qi ft e1 hz _ fun A' H' a s1 ha => ?_
      refine ⟨a, _, _, rfl, ha, h64, fun ns' p hs1 hs2 hl hp => ?_⟩
      have en : ns' = sortI (dd ns) := by
        refine sort_uniq ?_ (hs1.imp fun h => by omega) (sortI_sorted _)
        refine List.Perm.trans ?_ (sortI_perm (dd ns)).symm
        rw [List.perm_ext_iff_of_nodup (hs1.imp fun h => by omega) (dd_nodup ns)]
        intro x
        rw [hs2, dd_mem]
        simp [memB]
      subst en
      have hlen : ((sortI (dd ns)).map V.int).length ≤ sizeLine := by
        rw [List.length_map, hl]
        have : (64 : Nat) ≤ sizeLine := by decide
        omega
      exact k _ _ _ (s1.trans (Stp.grow s1.fit (upd_grow hp))) (ResOk.start (res_new s1.fit hp hlen (rep_ints _)) s1.dom)
    · cases h
end Ev

set_option maxRecDepth 100000
/-! EvD: a dict of one's own, by ints. -/
namespace Ev
open PySem L2
variable [TheK]
theorem kv_get {A H} : ∀ {ws : List (Key × V)} {kvs : List (Int × D)} (k : Int), KvRep A H ws kvs → (kvGet kvs k = none ∧ valV ws (.inl k) = none) ∨ ∃ d v, kvGet kvs k = some d ∧ valV ws (.inl k) = some v ∧ Rep A H v d
  | [], [], k, _ => .inl ⟨rfl, rfl⟩
  | [], _ :: _, _, h => by have := h.1; simp at this
  | _ :: _, [], _, h => by have := h.1; simp at this
  | (k1, v) :: ws, (k2, d) :: kvs, k, h => by
    obtain ⟨h1, h2⟩ := h
    simp only [List.map_cons, List.cons.injEq] at h1
    obtain ⟨rfl, h1⟩ := h1
    cases h2 with
    | cons r1 r2 =>
      by_cases e : k2 = k
      · subst e
        exact .inr ⟨d, v, by simp [kvGet], by rw [valV_pos rfl], r1⟩
      · have e' : ¬ ((Sum.inl k2 : Key) = Sum.inl k) := fun z => e (Sum.inl.inj z)
        rw [valV_neg (p := ((Sum.inl k2 : Key), v)) e']
        have : kvGet ((k2, d) :: kvs) k = kvGet kvs k := by simp [kvGet, List.find?_cons, e]
        rw [this]
        exact kv_get k ⟨h1, r2⟩
theorem kv_any {A H} : ∀ {ws : List (Key × V)} {kvs : List (Int × D)} (k : Int), KvRep A H ws kvs → (ws.any fun p => decide (p.1 = (Sum.inl k : Key))) = kvs.any fun p => decide (p.1 = k)
  | [], [], k, _ => rfl
  | [], _ :: _, _, h => by have := h.1; simp at this
  | _ :: _, [], _, h => by have := h.1; simp at this
  | (k1, v) :: ws, (k2, d) :: kvs, k, h => by
    obtain ⟨h1, h2⟩ := h
    simp only [List.map_cons, List.cons.injEq] at h1
    obtain ⟨rfl, h1⟩ := h1
    cases h2 with
    | cons r1 r2 =>
      rw [List.any_cons, List.any_cons, kv_any k ⟨h1, r2⟩]
      congr 1
      by_cases e : k2 = k <;> simp [e]
theorem kv_map {A H v d} (r : Rep A H v d) : ∀ {ws : List (Key × V)} {kvs : List (Int × D)} (k : Int), KvRep A H ws kvs → KvRep A H (ws.map fun p => if p.1 = (Sum.inl k : Key) then (p.1, v) else p) (kvs.map fun p => if p.1 = k then (p.1, d) else p)
  | [], [], k, _ => ⟨rfl, .nil⟩
  | [], _ :: _, _, h => by have := h.1; simp at this
  | _ :: _, [], _, h => by have := h.1; simp at this
  | (k1, w) :: ws, (k2, e) :: kvs, k, h => by
    obtain ⟨h1, h2⟩ := h
    simp only [List.map_cons, List.cons.injEq] at h1
    obtain ⟨rfl, h1⟩ := h1
    cases h2 with
    | cons r1 r2 =>
      obtain ⟨g1, g2⟩ := kv_map r k (ws := ws) (kvs := kvs) ⟨h1, r2⟩
      by_cases e : k2 = k
      · subst e
        refine ⟨?_, ?_⟩
        · simp only [List.map_cons, if_true, List.cons.injEq, true_and]; exact g1
        · simp only [List.map_cons, if_true]; exact .cons r g2
      · have e' : ¬ ((Sum.inl k2 : Key) = Sum.inl k) := fun z => e (Sum.inl.inj z)
        refine ⟨?_, ?_⟩
        · simp only [List.map_cons, if_neg e, if_neg e', List.cons.injEq, true_and]; exact g1
        · simp only [List.map_cons, if_neg e, if_neg e']; exact .cons r1 g2
theorem kv_put {A H v d} {ws : List (Key × V)} {kvs : List (Int × D)} (k : Int) (h : KvRep A H ws kvs) (r : Rep A H v d) : KvRep A H (putK ws (Sum.inl k) v) (kvPut kvs k d) := by
  unfold putK kvPut
  rw [kv_any k h]
  split
  · exact kv_map r k h
  · refine ⟨?_, ?_⟩
    · simp only [List.map_append, List.map_cons, List.map_nil]; rw [h.1]
    · simp only [List.map_append, List.map_cons, List.map_nil]; exact h.2.append (.cons r .nil)
theorem kv_len {A H ws kvs} (h : KvRep A H ws kvs) : ws.length = kvs.length := by
  have := congrArg List.length h.1
  simpa using this
theorem dct_at {A H σ} {ρ : Env} {i : Nat} {kvs} (f : Fit A H σ ρ) (h : ρ[i]? = some (.dct kvs)) : ∃ a ws, σ[i]? = some (some (.ref a)) ∧ H a = some (.dK ws) ∧ ws.length ≤ sizeLine ∧ KvRep A H ws kvs ∧ ¬ A a := by
  obtain ⟨ov, e1, a, ws, rfl, h1, h2, h3, h4⟩ := f.at h
  exact ⟨a, ws, e1, h1, h2, h3, h4⟩
theorem dctB_at {A H σ} {ρ : Env} {i : Nat} (f : Fit A H σ ρ) (h : dctB ρ i = true) : ∃ a, σ[i]? = some (some (.ref a)) := by
  unfold dctB at h
  split at h
  · rename_i kvs hs
    obtain ⟨a, ws, h1, _⟩ := dct_at f hs
    exact ⟨a, h1⟩
  · cases h
/-- a dict is changed -/
theorem stp_dct {A H σ} {ρ : Env} {i : Nat} {a : Addr} {kvs kvs' : List (Int × D)} {ws : List (Key × V)} (f : Fit A H σ ρ) (hs : ρ[i]? = some (.dct kvs)) (ha : σ[i]? = some (some (.ref a))) (hl : ws.length ≤ sizeLine) (r : KvRep A H ws kvs') :
    Stp A H σ ρ A (upd H a (.dK ws)) σ (ρ.set i (.dct kvs')) := by
  have m : Mut σ ρ a := ⟨i, _, hs, rfl, ha⟩
  have na : ¬ A a := fun z => f.nomut z m
  have k : Keep A H (upd H a (.dK ws)) := fun b o hb e => by
    have : b ≠ a := fun z => na (z ▸ hb)
    rw [upd_ne this]; exact e
  have mt : ∀ b, Mut σ (ρ.set i (.dct kvs')) b → Mut σ ρ b := fun b ⟨j, t, h1, h2, h3⟩ => by
    rcases get_set h1 with ⟨rfl, rfl⟩ | ⟨_, h1⟩
    · exact ⟨i, _, hs, rfl, h3⟩
    · exact ⟨j, t, h1, h2, h3⟩
  obtain ⟨oa, hoa⟩ := f.mut_at m
  have hd : ∀ (j : Nat) kk d, (ρ.set i (.dct kvs'))[j]? = some (.dp kk d) → ρ[j]? = some (.dp kk d) ∧ σ[j]? = σ[j]? := fun j kk d h => by
    rcases get_set h with ⟨_, z⟩ | ⟨_, z⟩
    · cases z
    · exact ⟨z, rfl⟩
  have kl : ∀ b o, Prv H σ ρ b → H b = some o → upd H a (.dK ws) b = some o := fun b o hb e => by
    have : b ≠ a := fun z => f.mut_prv m (z ▸ hb)
    rw [upd_ne this]; exact e
  refine ⟨fun _ h => h, fun b o h n _ => ?_, fun b h => ?_, fun b m => .inl (mt b m), fun j es h => ⟨rfl, ?_⟩, fun b hb => .inl hb, fun j es h o => ?_, fun b h => .inr (.inl (f.prv_back hd k kl b h)), ⟨by rw [List.length_set]; exact f.len, fun j t ov h1 h2 => ?_, fun j l t u b hjl h1 h2 h3 h4 h5 h6 => ?_, fun b hb => ?_, f.prv_go hd k kl fun j t b h1 h2 h3 => ?_⟩⟩
  · have : b ≠ a := fun z => n (z ▸ m)
    rw [upd_ne this]; exact h
  · by_cases e : b = a
    · subst e; rw [upd_same] at h; cases h
    · rw [upd_ne e] at h; exact h
  · by_cases hj : i = j
    · subst hj; rw [hs] at h; cases h
    · exact ⟨es, by rw [List.getElem?_set_ne hj]; exact h⟩
  · rcases get_set h with ⟨rfl, h8⟩ | ⟨_, h⟩
    · subst h8; cases o
    · exact ⟨h, rfl⟩
  · rcases get_set h1 with ⟨rfl, rfl⟩ | ⟨hj, h1⟩
    · rw [ha] at h2; cases h2
      exact ⟨a, ws, rfl, upd_same, hl, KvRep.mono (fun _ z => z) k r, na⟩
    · have ok := f.slot j t _ h1 h2
      refine ok.go (fun _ z => z) k (fun b o hb z e => ?_) (fun b lt z => by subst z; exact ok.nofz lt) (fun b o u e => ?_) (fun kk d v b o e1 e2 l e3 => by subst e1 e2; exact kl b o ⟨j, kk, d, v, h1, h2, l⟩ e3) (fun kk d v b e1 e2 l => by subst e1 e2; exact (f.lr h1 h2 l).1)
      · subst z
        have : b ≠ a := fun z => by subst z; exact f.apart i j _ t _ hj hs h1 rfl hb ha h2
        rw [upd_ne this]; exact e
      · have : b ≠ a := fun z => by
          subst z
          exact f.mut_nofrz m _ _ e
        rw [upd_ne this]; exact e
  · rcases get_set h1 with ⟨rfl, rfl⟩ | ⟨n1, h1⟩
    · rcases get_set h2 with ⟨rfl, rfl⟩ | ⟨_, h2⟩
      · exact hjl rfl
      · exact f.apart i l _ u b hjl hs h2 rfl h4 h5 h6
    · rcases get_set h2 with ⟨rfl, rfl⟩ | ⟨_, h2⟩
      · exact f.apart j i t _ b hjl h1 hs h3 rfl h5 h6
      · exact f.apart j l t u b hjl h1 h2 h3 h4 h5 h6
  · obtain ⟨o, e⟩ := f.trk b hb
    exact ⟨o, k b o hb e⟩
  · rcases get_set h1 with ⟨rfl, rfl⟩ | ⟨_, h1⟩
    · exact .inl ⟨i, _, hs, rfl, h3⟩
    · exact .inl ⟨j, t, h1, h2, h3⟩
/-- a new dict gets a name -/
theorem stp_dnew {A0 H0 σ0 ρ0 A H σ p ws kvs} {ρ : Env} {i : Nat} {t : Slot} (s : Stp A0 H0 σ0 ρ0 A H σ ρ) (ht : ρ[i]? = some t) (nm : ∀ es, t ≠ .mu es) (h0 : ∀ es, ρ0[i]? = some (.mu es) → False)
    (r1 : H p = some (.dK ws)) (r2 : ws.length ≤ sizeLine) (r3 : KvRep A H ws kvs) (r4 : ¬ A p) (r5 : H0 p = none) (r6 : NoRef H σ ρ p) : Stp A0 H0 σ0 ρ0 A H (σ.set i (some (.ref p))) (ρ.set i (.dct kvs)) := by
  have other : ∀ (j : Nat) (s : Slot), (ρ.set i (.dct kvs))[j]? = some s → (i = j ∧ s = .dct kvs ∧ (σ.set i (some (.ref p)))[j]? = some (some (.ref p))) ∨ (i ≠ j ∧ ρ[j]? = some s ∧ (σ.set i (some (.ref p)))[j]? = σ[j]?) := fun j u h => by
    rcases get_set h with ⟨e, z⟩ | ⟨e, z⟩
    · subst e
      exact .inl ⟨rfl, z, List.getElem?_set_self (by rw [s.fit.len]; exact (List.getElem?_eq_some_iff.mp ht).1)⟩
    · exact .inr ⟨e, z, List.getElem?_set_ne e⟩
  refine ⟨s.ext, s.frame, s.dom, fun a ⟨j, u, h1, h2, h3⟩ => ?_, fun j es h => ?_, s.news, fun j u h o => ?_, fun a h => s.prv a (s.fit.prv_back (set_dp (fun _ _ e => by cases e)) (fun _ _ _ h => h) (fun _ _ _ h => h) a h), ⟨by rw [List.length_set, List.length_set]; exact s.fit.len, fun j u ov h1 h2 => ?_, fun j l u w a jl h1 h2 h3 h4 h5 h6 => ?_, s.fit.trk, ?_⟩⟩
  · rcases other j u h1 with ⟨_, rfl, e⟩ | ⟨_, z, e⟩
    · rw [e] at h3; cases h3; exact .inr (.inr r5)
    · rw [e] at h3; exact s.sub a ⟨j, u, z, h2, h3⟩
  · have ij : i ≠ j := fun e => by subst e; exact h0 es h
    obtain ⟨e1, es', e2⟩ := s.mus j es h
    exact ⟨by rw [List.getElem?_set_ne ij]; exact e1, es', by rw [List.getElem?_set_ne ij]; exact e2⟩
  · rcases other j u h with ⟨_, rfl, _⟩ | ⟨_, z, e⟩
    · cases o
    · rw [e]; exact s.lents j u z o
  · rcases other j u h1 with ⟨rfl, rfl, e⟩ | ⟨_, z, e⟩
    · rw [e] at h2; cases h2; exact ⟨p, ws, rfl, r1, r2, r3, r4⟩
    · rw [e] at h2; exact s.fit.slot j u ov z h2
  · rcases other j u h1 with ⟨rfl, rfl, e⟩ | ⟨_, z, e⟩
    · rw [e] at h5; cases h5
      rcases other l w h2 with ⟨rfl, _, _⟩ | ⟨_, z', e'⟩
      · exact jl rfl
      · rw [e'] at h6; exact r6.1 l w z' h4 h6
    · rcases other l w h2 with ⟨rfl, rfl, e'⟩ | ⟨_, z', e'⟩
      · rw [e'] at h6; cases h6
        rw [e] at h5; exact r6.1 j u z (liveB_of h3) h5
      · rw [e] at h5; rw [e'] at h6
        exact s.fit.apart j l u w a jl z z' h3 h4 h5 h6
  · intro j k d v a h1 h2 l
    obtain ⟨z, e⟩ := set_dp (σ := σ) (v := some (.ref p)) (fun _ _ e => by cases e) j k d h1
    rw [e] at h2
    obtain ⟨q1, q2⟩ := s.fit.prv j k d v a z h2 l
    refine ⟨fun l' w e1 e2 e3 => ?_, fun l' k' d' v' hj e1 e2 => ?_⟩
    · rcases other l' w e1 with ⟨rfl, rfl, e'⟩ | ⟨_, z', e'⟩
      · rw [e'] at e3; cases e3
        exact r6.2 ⟨j, k, d, v, z, h2, l⟩
      · rw [e'] at e3; exact q1 l' w z' e2 e3
    · obtain ⟨z', e'⟩ := set_dp (σ := σ) (v := some (.ref p)) (fun _ _ e => by cases e) l' k' d' e1
      rw [e'] at e2
      exact q2 l' k' d' v' hj z' e2
section
variable {X : Cx} {N : List Str} {q : Sc} {F : FT}
def fDget (i : Nat) (fk : Env → Option (Res × Env)) (ρ : Env) : Option (Res × Env) := match dctB ρ i with
    | false => none
    | true => match fk ρ with
      | some (.fr (.int j), ρ1) => (dGetS ρ1 i j).map fun d => (.fr d, ρ1)
      | _ => none
theorem snd_dget (C : CtxOk X N q F) {i : Nat} {x : Str} {px k pos fk} (h : nameB N q i x = true) (hs : NoSl k) (hk : SndE X k fk) : SndE X (.Subscript (.Name x px) k pos) (fDget i fk) := by
  obtain ⟨t, p, hq⟩ := hk
  have hu := C.un
  refine ⟨_, pe_dget (by omega) (pe_name C h) p hs, fun A H σ ρ r ρ' ft e Q kk => ?_⟩
  unfold fDget at e
  split at e
  · cases e
  · rename_i hb
    obtain ⟨a, ha⟩ := dctB_at ft hb
    split at e
    · rename_i j ρ1 e1
      cases e2 : dGetS ρ1 i j with
      | none => rw [e2] at e; cases e
      | some d =>
        rw [e2] at e
        cases e
        refine ⟨_, ha, hq A H σ ρ _ ρ' ft e1 _ fun A1 H1 v s1 ok => ?_⟩
        cases ok
        unfold dGetS at e2
        split at e2
        · rename_i kvs hs1
          obtain ⟨a', ws, g1, g2, g3, g4, g5⟩ := dct_at s1.fit hs1
          rw [ha] at g1; cases g1
          rcases kv_get j g4 with ⟨z, _⟩ | ⟨d', w, z1, z2, z3⟩
          · rw [z] at e2; cases e2
          · rw [z1] at e2; cases e2
            refine ⟨a, w, rfl, ?_, kk A1 H1 w s1 z3⟩
            have := DGet.k (k := (Sum.inl j : Key)) g2
            rw [z2] at this
            exact this
        · cases e2
    · cases e
def fDin (neg : Bool) (i : Nat) (fk : Env → Option (Res × Env)) (ρ : Env) : Option (Res × Env) := match fk ρ with
    | some (.fr (.int j), ρ1) => (dInS ρ1 i j).map fun b => (.fr (.bool (neg != b)), ρ1)
    | _ => none
theorem din_core {A H σ ρ r ρ' neg i fk} {t : TE} (hq : ∀ A H σ ρ r ρ', Fit A H σ ρ → fk ρ = some (r, ρ') → ∀ Q : VK, (∀ A' H' v, Stp A H σ ρ A' H' σ ρ' → ResOk A' H H' σ ρ' v r → Q v H') → t σ H Q) (ft : Fit A H σ ρ) (e : fDin neg i fk ρ = some (r, ρ')) (Q : VK)
    (k : ∀ A' H' (a : Addr) (y : V) (o : Option V) (b : Bool), Stp A H σ ρ A' H' σ ρ' → σ[i]? = some (some (.ref a)) → DGet H' a y o → o.isSome = b → r = .fr (.bool (neg != b)) → Q y H') : t σ H Q := by
  unfold fDin at e
  split at e
  · rename_i j ρ1 e1
    cases e2 : dInS ρ1 i j with
    | none => rw [e2] at e; cases e
    | some b =>
      rw [e2] at e
      cases e
      refine hq A H σ ρ _ ρ' ft e1 _ fun A1 H1 v s1 ok => ?_
      cases ok
      unfold dInS at e2
      split at e2
      · rename_i kvs hs1
        cases e2
        obtain ⟨a', ws, g1, g2, g3, g4, g5⟩ := dct_at s1.fit hs1
        have g := DGet.k (k := (Sum.inl j : Key)) g2
        refine k A1 H1 a' _ _ (kvGet kvs j).isSome s1 g1 g ?_ rfl
        rcases kv_get j g4 with ⟨z1, z2⟩ | ⟨d', w, z1, z2, z3⟩
        · rw [z1, z2]; rfl
        · rw [z1, z2]; rfl
      · cases e2
  · cases e
def dop (neg : Bool) : CmpOp := if neg then .NotIn else .In
theorem pc_dn (C : CtxOk X N q F) (neg : Bool) {i : Nat} {x : Str} {px k} (h : nameB N q i x = true) {t : TE} (p : PE X k t) : ∃ t' : TE, PC X (dop neg) k (.Name x px) t' ∧
    ∀ σ H (Q : VK), (t σ H fun y H1 => ∃ w, σ[i]? = some (some w) ∧ ∃ a o, w = .ref a ∧ DGet H1 a y o ∧ Q (.bl (neg != o.isSome)) H1) → t' σ H Q := by
  have hu := C.un
  cases neg with
  | false =>
    refine ⟨_, pc_din (by omega) p (pe_name C h), fun σ H Q z => ?_⟩
    have e : ∀ b : Bool, (false != b) = b := fun b => by cases b <;> rfl
    simp only [e] at z
    exact z
  | true =>
    refine ⟨_, pc_dnotin (by omega) p (pe_name C h), fun σ H Q z => ?_⟩
    have e : ∀ b : Bool, (true != b) = !b := fun b => by cases b <;> rfl
    simp only [e] at z
    exact z
theorem snd_din (C : CtxOk X N q F) (neg : Bool) {i : Nat} {x : Str} {px k pos fk} (h : nameB N q i x = true) (hm : behindInMarks (dop neg) (.Name x px) = false) (hk : SndE X k fk) : SndE X (.Compare k [dop neg] [.Name x px] pos) (fDin neg i fk) ∧ SndT X (.Compare k [dop neg] [.Name x px] pos) (fDin neg i fk) := by
  obtain ⟨t, p, hq⟩ := hk
  obtain ⟨t', pc, g⟩ := pc_dn C neg (px := px) h p
  constructor
  · refine ⟨_, pe_cmp pc hm, fun A H σ ρ r ρ' ft e Q kk => g σ H Q (din_core hq ft e _ fun A' H' a y o b s ha hg hb er => ?_)⟩
    exact ⟨_, ha, a, o, rfl, hg, kk A' H' _ s (by rw [er, hb]; exact .bool)⟩
  · refine ⟨_, pt_cmp pc hm, fun A H σ ρ r ρ' ft e Q kk => g σ H _ (din_core hq ft e _ fun A' H' a y o b s ha hg hb er => ?_)⟩
    exact ⟨_, ha, a, o, rfl, hg, _, rfl, by cases er; rw [hb]; exact kk A' H' s⟩
def fDput (i : Nat) (fk fv : Env → Option (Res × Env)) (ρ : Env) : Option (Out × Env) := match fv ρ with
    | some (r, ρ1) => match dctB ρ1 i with
      | false => none
      | true => match fk ρ1 with
        | some (.fr (.int j), ρ2) => (dPutS ρ2 i j r.d).map fun ρ3 => (.next, ρ3)
        | _ => none
    | none => none
theorem snd_dput (C : CtxOk X N q F) {i : Nat} {x : Str} {px k v spos pos fk fv} (h : nameB N q i x = true) (hs : swapsWith v (some (.Subscript (.Name x px) k spos)) pos.line X.env = pure false) (hk : SndE X k fk) (hv : SndE X v fv) :
    SndS X (.Assign [.Subscript (.Name x px) k spos] v pos) (fDput i fk fv) := by
  obtain ⟨tv, pv, qv⟩ := hv.d
  obtain ⟨tk, pk, qk⟩ := hk
  have hu := C.un
  refine ⟨_, ps_dput (by omega) (pe_name C h) pk pv hs, fun A H σ ρ o ρ' ft e Dn kk => ?_⟩
  unfold fDput at e
  split at e
  · rename_i r ρ1 e1
    split at e
    · cases e
    · rename_i hb
      split at e
      · rename_i j ρ2 e2
        cases e3 : dPutS ρ2 i j r.d with
        | none => rw [e3] at e; cases e
        | some ρ3 =>
          rw [e3] at e
          cases e
          refine qv A H σ ρ r ρ1 ft e1 _ fun A1 H1 v s1 r1 => ?_
          obtain ⟨a, ha⟩ := dctB_at s1.fit hb
          refine ⟨_, ha, qk A1 H1 σ ρ1 _ ρ2 s1.fit e2 _ fun A2 H2 w s2 ok => ?_⟩
          cases ok
          unfold dPutS at e3
          split at e3
          · rename_i kvs hs1
            split at e3
            · rename_i hlen
              cases e3
              obtain ⟨a', ws, g1, g2, g3, g4, g5⟩ := dct_at s2.fit hs1
              rw [ha] at g1; cases g1
              have hl : ws.length < sizeLine := by rw [kv_len g4]; exact hlen
              have r2 := Rep.mono s2.ext (s2.keep s1.fit) r1
              refine ⟨a, _, rfl, DPut.k (k := (Sum.inl j : Key)) g2 hl, ?_⟩
              have hl2 : (putK ws (Sum.inl j : Key) v).length ≤ sizeLine := by have := length_putK ws (Sum.inl j : Key) v; omega
              exact kk.nx ((s1.trans s2).trans (stp_dct s2.fit hs1 ha hl2 (kv_put j g4 r2)))
            · cases e3
          · cases e3
      · cases e
  · cases e
def fDnew (i : Nat) (fk fv : Env → Option (Res × Env)) (ρ : Env) : Option (Out × Env) := match fk ρ with
    | some (.fr (.int j), ρ1) => match fv ρ1 with
      | some (r, ρ2) => (put i (.dct [(j, r.d)]) ρ2).map fun ρ3 => (.next, ρ3)
      | none => none
    | _ => none
theorem snd_dnew (C : CtxOk X N q F) {i x px k v dpos pos fk fv} (hN : N[i]? = some x) (hl : locB q x = true) (hk : SndE X k fk) (hv : SndE X v fv) : SndS X (.Assign [.Name x px] (.Dict [some k] [v] dpos) pos) (fDnew i fk fv) := by
  obtain ⟨tk, pk, qk⟩ := hk
  obtain ⟨tv, pv, qv⟩ := hv.d
  obtain ⟨h1, h2⟩ := loc_of C hl
  refine ⟨_, ps_set C.nd (by rw [C.N]; exact hN) h1 (pe_disp (pps_cons pk pv pps_nil) rfl rfl (by simp) (by simp)) rfl h2, fun A H σ ρ o ρ' ft e Dn kk => ?_⟩
  unfold fDnew at e
  split at e
  · rename_i j ρ1 e1
    split at e
    · rename_i r ρ2 e2
      cases e3 : put i (.dct [(j, r.d)]) ρ2 with
      | none => rw [e3] at e; cases e
      | some ρ3 =>
        rw [e3] at e
        cases e
        intro p hp
        have s0 := Stp.grow ft (upd_grow (o := .dK []) hp)
        refine qk A _ σ ρ _ ρ1 s0.fit e1 _ fun A1 H1 w s1 ok => ?_
        cases ok
        refine qv A1 H1 σ ρ1 r ρ2 s1.fit e2 _ fun A2 H2 v s2 r2 => ?_
        have s12 := s1.trans s2
        have n1 : NoRef (upd H p (.dK [])) σ ρ p := (NoRef.new ft hp).upd ft (ft.nofrz hp)
        have n2 : NoRef H2 σ ρ2 p := n1.stp s12 upd_same
        have hp2 : H2 p = some (.dK []) := s12.frame p _ upd_same n1.nomut n1.2
        refine ⟨hp2, [((Sum.inl j : Key), v)], rfl, by simp, ?_⟩
        have na : ¬ A2 p := nofrz_stp (ft.nofrz hp) n1 s12 upd_same
        have k3 : Keep A2 H2 (upd H2 p (.dK [((Sum.inl j : Key), v)])) := keep_other (fun a h => upd_ne h) na
        obtain ⟨t, ht, nm, rfl⟩ := put_inv e3
        have s3 : Stp A H σ ρ A2 (upd H2 p (.dK [((Sum.inl j : Key), v)])) σ ρ2 := (s0.trans s12).other hp na n2 (fun o u z => by rw [hp2] at z; cases z)
        have eq1 : mergeK [] [((Sum.inl j : Key), v)] = [((Sum.inl j : Key), v)] := rfl
        rw [eq1]
        refine kk.nx (stp_dnew s3 ht nm (fun es z => ?_) upd_same (by simp [sizeLine]) ⟨rfl, .cons (Rep.mono (fun _ z => z) k3 r2) .nil⟩ na hp (n2.upd s2.fit na))
        obtain ⟨_, ds', z2⟩ := s3.mus i es z
        rw [ht] at z2; cases z2
        exact nm _ rfl
    · cases e
  · cases e
/-! ### methods that change nothing -/
def mthName : Mth → String
  | .count => "count"
  | .index => "index"
def MthSnd (X : Cx) (id : String) (m : Mth) : Prop := ∃ r : V → List V → Hp → VK → Prop, MtR X id r ∧
  ∀ A H a vs ds y d res, H a = some (.lst vs) → vs.length ≤ sizeLine → RepAll A H vs ds → Rep A H y d → dMth m (.list ds) d = some res → ∀ Q : VK, (∀ w, Rep A H w res → Q w H) → r (.ref a) [y] H Q
theorem mth_count : MthSnd X "list.count" .count := by
  refine ⟨_, mt_lcount, fun A H a vs ds y d res h1 h2 h3 h4 e Q k => ?_⟩
  cases d <;> simp only [dMth, reduceCtorEq] at e
  rename_i i
  cases h4
  cases e1 : allInts ds with
  | none => rw [e1] at e; cases e
  | some ns =>
    rw [e1] at e
    cases e
    obtain ⟨rfl, _⟩ := rep_of_ints h3 e1
    exact ⟨a, ns, i, rfl, rfl, SqL.of h1, k _ .int⟩
theorem indexD_at (d : D) : ∀ {ds : List D} {n : Nat}, indexD d ds = some n → ∃ z, ds[n]? = some z ∧ PyData.eqv z d = true ∧ ∀ (m : Nat) (z' : D), m < n → ds[m]? = some z' → PyData.eqv z' d = false
  | [], n, h => by cases h
  | x :: r, n, h => by
    unfold indexD at h
    by_cases hx : PyData.eqv x d = true
    · rw [if_pos hx] at h; cases h
      exact ⟨x, rfl, hx, fun m z' hm _ => by omega⟩
    · rw [if_neg hx] at h
      cases e : indexD d r with
      | none => rw [e] at h; cases h
      | some j =>
        rw [e] at h; cases h
        obtain ⟨z, h1, h2, h3⟩ := indexD_at d e
        refine ⟨z, h1, h2, fun m z' hm hz => ?_⟩
        cases m with
        | zero => cases hz; simpa using hx
        | succ m =>
          have hm' : m + 1 < j + 1 := hm
          exact h3 m z' (by omega) hz
theorem mth_index (hu : X.A.units + 65 < cLine) : MthSnd X "list.index" .index := by
  refine ⟨_, mt_indexD hu, fun A H a vs ds y d res h1 h2 h3 h4 e Q k => ?_⟩
  simp only [dMth] at e
  split at e
  · rename_i hs
    rw [Bool.and_eq_true] at hs
    cases e1 : indexD d ds with
    | none => rw [e1] at e; cases e
    | some n =>
      rw [e1] at e
      cases e
      obtain ⟨z, g1, g2, g3⟩ := indexD_at d e1
      exact ⟨a, y, d, ds, n, z, rfl, rfl, .lst (SqL.of h1) (RepAll.dp h3), Rep.dp h4, hs.2, hs.1, g1, g2, g3, k _ .int⟩
  · cases e
def fMth (m : Mth) (fo : Env → Option (Opd × Env)) (fa : Env → Option (Res × Env)) (ρ : Env) : Option (Res × Env) := match fo ρ with
    | none => none
    | some (oo, ρ1) => match isLB (oo.get ρ1) with
      | false => none
      | true => match fa ρ1 with
        | none => none
        | some (ra, ρ2) => match oo.get ρ2 with
          | none => none
          | some d => (dMth m d ra.d).map fun r => (.fr r, ρ2)
theorem snd_mth {m : Mth} {id : String} {o : Expr} {e apos cpos fo fa} (hc : MthSnd X id m) (slot : PySem.Slot "list" (Str.ofString (mthName m)) id) (hty : typeOf (.builtin id) = pure (.type "method_descriptor"))
    (hb : attributeBase o (Str.ofString (mthName m)) X.env (eval o X.env) = eval o X.env) (st : notStar e = true) (hl : (apos.endLine == cpos.line) = true) (ho : SndO X o fo) (ha : SndE X e fa) :
    SndE X (.Call (.Attribute o (Str.ofString (mthName m)) apos) [e] [] cpos) (fMth m fo fa) := by
  obtain ⟨r, pr, qr⟩ := hc
  obtain ⟨to, po, qo⟩ := ho
  obtain ⟨ta, pa, qa⟩ := ha.d
  refine ⟨_, pe_bm PySem.F.plainAttrs_list slot hty pr po (pa_cons pa pa_nil (star_cons st)) hb (few_ok (by simp [st]) (by simp)) hl (star_cons st) (star_any rfl), fun A H σ ρ res ρ' ft e Q k => ?_⟩
  unfold fMth at e
  split at e
  · cases e
  · rename_i oo ρ1 e1
    split at e
    · cases e
    · rename_i hb1
      split at e
      · cases e
      · rename_i ra ρ2 e2
        split at e
        · cases e
        · rename_i d e3
          cases e4 : dMth m d ra.d with
          | none => rw [e4] at e; cases e
          | some z =>
            rw [e4] at e
            cases e
            refine qo A H σ ρ oo ρ1 ft e1 _ fun A1 H1 v s1 k1 => ?_
            have hl1 : ∃ ds1, oo.get ρ1 = some (.list ds1) := by
              unfold isLB at hb1
              split at hb1
              · rename_i ds1 hg; exact ⟨ds1, hg⟩
              · cases hb1
            obtain ⟨ds1, hg⟩ := hl1
            obtain ⟨a, vs, rfl, g1, g2, g3⟩ := (Opd.ok s1.fit k1 hg).list
            refine ⟨.inl ⟨rfl, vs, SqL.of g1⟩, qa A1 H1 σ ρ1 ra ρ' s1.fit e2 _ fun A2 H2 w s2 r2 => ?_⟩
            have k2 := k1.mono s2.ext (s2.keep s1.fit)
            have w2 := Opd.ok s2.fit k2 e3
            have hd : ∃ ds, d = .list ds := by
              cases m <;> cases d <;> first | exact ⟨_, rfl⟩ | (simp [dMth] at e4; done)
            obtain ⟨ds, rfl⟩ := hd
            obtain ⟨a', vs', ea, q1, q2, q3⟩ := w2.list
            cases ea
            exact qr A2 H2 a vs' ds w ra.d z q1 q2 q3 r2 e4 Q fun u ru => k A2 H2 u (s1.trans s2) ru
theorem snd_rse {e c pos} : SndS X (.Raise e c pos) (fun _ => none) := ⟨fun _ _ _ => False, ⟨fun _ _ _ _ _ _ h => h.elim⟩, fun A H σ ρ o ρ' ft e Dn k => by cases e⟩
end
end Ev


set_option maxRecDepth 100000
/-! EvP: a list of different lists of one's own. -/
namespace Ev
open PySem L2
variable [TheK]
mutual
theorem DpR.repN {A H} : ∀ {v d}, DpR A H v d → noL d = true → Rep A H v d
  | _, _, .leaf h _, _ => h
  | _, _, .lst .., n => by cases n
  | _, _, .tup h1 h2 h3 h4, n => .tup h1 h2 h3 (DpRs.repN h4 (by simpa [noL] using n))
theorem DpRs.repN {A H} : ∀ {vs ds}, DpRs A H vs ds → noLs ds = true → RepAll A H vs ds
  | _, _, .nil, _ => .nil
  | _, _, .cons h1 h2, n => by
    rw [noLs, Bool.and_eq_true] at n
    exact .cons (DpR.repN h1 n.1) (DpRs.repN h2 n.2)
end
theorem DpRs.of {A H} : ∀ {vs ds}, RepAll A H vs ds → noLs ds = true → DpRs A H vs ds
  | _, _, .nil, _ => .nil
  | _, _, .cons h1 h2, n => by
    rw [noLs, Bool.and_eq_true] at n
    exact .cons (.leaf h1 n.1) (DpRs.of h2 n.2)
theorem DpRs.get {A H} : ∀ {vs ds} (n : Nat) {d}, DpRs A H vs ds → ds[n]? = some d → ∃ v, vs[n]? = some v ∧ DpR A H v d
  | _, _, n, d, .nil, e => by simp at e
  | _, _, 0, d, .cons h1 h2, e => by simp at e; subst e; exact ⟨_, rfl, h1⟩
  | _, _, n + 1, d, .cons h1 h2, e => by simpa using DpRs.get n h2 (by simpa using e)
theorem DpRs.length {A H} : ∀ {vs ds}, DpRs A H vs ds → vs.length = ds.length
  | _, _, .nil => rfl
  | _, _, .cons _ h => by simp [DpRs.length h]
theorem DpRs.set {A H v d} (h : DpR A H v d) : ∀ {vs ds} (n : Nat), DpRs A H vs ds → DpRs A H (vs.set n v) (ds.set n d)
  | _, _, _, .nil => .nil
  | _, _, 0, .cons _ h2 => .cons h h2
  | _, _, n + 1, .cons h1 h2 => .cons h1 (DpRs.set h n h2)
theorem noLs_get : ∀ {ds : List D} {n : Nat} {d}, noLs ds = true → ds[n]? = some d → noL d = true
  | [], n, d, _, e => by simp at e
  | x :: r, 0, d, h, e => by rw [noLs, Bool.and_eq_true] at h; simp at e; subst e; exact h.1
  | x :: r, n + 1, d, h, e => by rw [noLs, Bool.and_eq_true] at h; exact noLs_get h.2 (by simpa using e)
theorem noLs_set : ∀ {ds : List D} {n : Nat} {d}, noLs ds = true → noL d = true → noLs (ds.set n d) = true
  | [], n, d, _, e => rfl
  | x :: r, 0, d, h, e => by rw [noLs, Bool.and_eq_true] at h; simp [noLs, e, h.2]
  | x :: r, n + 1, d, h, e => by rw [noLs, Bool.and_eq_true] at h; simp [noLs, h.1, noLs_set h.2 e]
/-- the slot, its list and the rows -/
structure TreeAt (A : Addr → Prop) (H : Hp) (σ : St) (ρ : Env) (i : Nat) (ds : List D) (a : Addr) (bs : List Addr) : Prop where
  slot : ρ[i]? = some (.dp .tree (.list ds))
  at_ : σ[i]? = some (some (.ref a))
  h : H a = some (.lst (bs.map V.ref))
  len : (bs.map V.ref).length ≤ sizeLine
  na : ¬ A a
  nd : (a :: bs).Nodup
  rs : DpRs A H (bs.map V.ref) ds
  ok : ds.all rowB = true
theorem treeAt_inv {ρ : Env} {i ds} (h : treeAt ρ i = some ds) : ρ[i]? = some (.dp .tree (.list ds)) := by
  unfold treeAt at h
  split at h
  · cases h; assumption
  · cases h
theorem tree_at {A H σ} {ρ : Env} {i ds} (f : Fit A H σ ρ) (h : treeAt ρ i = some ds) : ∃ a bs, TreeAt A H σ ρ i ds a bs := by
  have hs := treeAt_inv h
  obtain ⟨ov, e1, v, d', rfl, r, h2, h3, _⟩ := f.at hs
  cases h2 (by decide)
  obtain ⟨a, bs, ds', rfl, g1, g2, g3, g4⟩ := h3 rfl
  cases g3
  cases r with
  | leaf _ n => cases n
  | lst k1 k2 k3 k4 =>
    rw [g1] at k1; cases k1
    exact ⟨a, bs, hs, e1, g1, k2, k3, g2, k4, g4⟩
theorem TreeAt.row {A H σ ρ i a bs} {n : Nat} {ds es : List D} (t : TreeAt A H σ ρ i ds a bs) (h : ds[n]? = some (.list es)) : ∃ b ws, bs[n]? = some b ∧ H b = some (.lst ws) ∧ ws.length ≤ sizeLine ∧ ¬ A b ∧ RepAll A H ws es ∧ noLs es = true := by
  obtain ⟨v, e1, r⟩ := t.rs.get n h
  have hn : noLs es = true := List.all_eq_true.mp t.ok _ (List.mem_of_getElem? h)
  rw [List.getElem?_map] at e1
  cases e2 : bs[n]? with
  | none => rw [e2] at e1; cases e1
  | some b =>
    rw [e2] at e1; cases e1
    cases r with
    | leaf _ n => cases n
    | lst k1 k2 k3 k4 => exact ⟨b, _, rfl, k1, k2, k3, k4.repN hn, hn⟩
theorem rowAt_inv {ds : List D} {k : Option Int} {n es} (h : rowAt ds k = some (n, es)) : ∃ i, k = some i ∧ ixN ds.length i = some n ∧ ds[n]? = some (.list es) := by
  unfold rowAt at h
  split at h
  · cases h
  · rename_i i
    split at h
    · cases h
    · rename_i m e1
      split at h
      · rename_i e2; cases h; exact ⟨i, rfl, e1, e2⟩
      · cases h
theorem cellAt_inv {ds : List D} {k : Option Int} {n d} (h : cellAt ds k = some (n, d)) : ∃ i, k = some i ∧ ixN ds.length i = some n ∧ ds[n]? = some d := by
  unfold cellAt at h
  split at h
  · cases h
  · rename_i i
    split at h
    · cases h
    · rename_i m e1
      split at h
      · rename_i e2; cases h; exact ⟨i, rfl, e1, e2⟩
      · cases h
theorem atI_ix {α : Type} {xs : List α} {i : Int} {n : Nat} {v : α} (h : ixN xs.length i = some n) (e : xs[n]? = some v) : atI xs i = some v := by
  unfold atI; rw [h]; exact e

/-! ### indices -/
def SndX (X : Cx) (ex : Expr) (e : E) : Prop := ∃ t : TE, PE X ex t ∧ ∀ A H σ ρ k, Fit A H σ ρ → pix ρ e = some k → ∀ Q : VK, Q (.int k) H → t σ H Q
theorem pixV_at {A H σ} {ρ : Env} {j k} (f : Fit A H σ ρ) (h : pixV ρ j = some k) : σ[j]? = some (some (.int k)) := by
  unfold pixV at h
  split at h
  · rename_i hs
    cases h
    obtain ⟨ov, e1, v, rfl, r⟩ := f.at hs
    cases r
    exact e1
  · cases h
section
variable {X : Cx} {N : List Str} {q : Sc} {F : FT}
theorem sndX_var (C : CtxOk X N q F) {i x pos} (h : nameB N q i x = true) : SndX X (.Name x pos) (.var i) :=
  ⟨_, pe_name C h, fun A H σ ρ k ft e Q z => ⟨_, pixV_at ft e, z⟩⟩
theorem sndX_int {n j pos} : SndX X (.Constant (.int n) j pos) (.int n) :=
  ⟨_, pe_int, fun A H σ ρ k ft e Q z => by cases e; exact z⟩
theorem sndX_idx (C : CtxOk X N q F) {i x px n j pc pos} (h : nameB N q i x = true) : SndX X (.Subscript (.Name x px) (.Constant (.int n) j pc) pos) (.idx (.var i) (.int n)) := by
  refine ⟨_, pe_ix ix_list (pe_name C h) pe_int (fun _ _ => rfl), fun A H σ ρ k ft e Q z => ?_⟩
  simp only [pix] at e
  split at e
  · rename_i ds e1
    split at e
    · rename_i kk e2
      cases e
      obtain ⟨a, vs, g1, g2, g3, g4⟩ := rd_at ft e1
      obtain ⟨m, m1, m2, m3, _⟩ := atI_get e2
      obtain ⟨v, v1, v2⟩ := g4.get m m2
      cases v2
      refine ⟨_, g1, a, vs, n, .int k, rfl, rfl, SqL.of g2, ?_, z⟩
      unfold atI at e2 ⊢
      rw [g4.length]
      cases e3 : ixN ds.length n with
      | none => rw [e3] at e2; cases e2
      | some m' =>
        rw [e3] at e2
        obtain ⟨w, w1, w2⟩ := g4.get m' e2
        cases w2
        exact w1
    · cases e
  · cases e
theorem sndX_bin (C : CtxOk X N q F) {o : Bop} (ho : o = .add ∨ o = .sub) {i x px n j pc pos} (h : nameB N q i x = true) : SndX X (.BinOp (.Name x px) (bop o) (.Constant (.int n) j pc) pos) (.bin o (.var i) (.int n)) := by
  rcases ho with rfl | rfl
  · refine ⟨_, pe_op op_add (pe_name C h) pe_int, fun A H σ ρ k ft e Q z => ?_⟩
    simp only [pix] at e
    split at e
    · rename_i kk e1
      cases e
      exact ⟨_, pixV_at ft e1, _, _, rfl, rfl, z⟩
    · cases e
  · refine ⟨_, pe_op op_sub (pe_name C h) pe_int, fun A H σ ρ k ft e Q z => ?_⟩
    simp only [pix] at e
    split at e
    · rename_i kk e1
      cases e
      exact ⟨_, pixV_at ft e1, _, _, rfl, rfl, z⟩
    · cases e

/-! ### reading -/
def fDix (i : Nat) (a b : E) (ρ : Env) : Option (Res × Env) := match dixG ρ i a b with
    | some d => some (.fr d, ρ)
    | none => none
theorem snd_dix (C : CtxOk X N q F) {i : Nat} {x : Str} {px ea eb p1 p2 a b} (h : nameB N q i x = true) (ha : SndX X ea a) (hb : SndX X eb b) (na : PlainIx ea) (nb : PlainIx eb) :
    SndE X (.Subscript (.Subscript (.Name x px) ea p1) eb p2) (fDix i a b) := by
  obtain ⟨ta, pa, qa⟩ := ha
  obtain ⟨tb, pb, qb⟩ := hb
  refine ⟨_, pe_ix ix_list (pe_ix ix_list (pe_name C h) pa na) pb nb, fun A H σ ρ r ρ' ft e Q k => ?_⟩
  unfold fDix dixG at e
  cases e1 : treeAt ρ i with
  | none => simp [e1] at e
  | some ds =>
    cases e2 : rowAt ds (pix ρ a) with
    | none => simp [e1, e2] at e
    | some p =>
      obtain ⟨n, es⟩ := p
      cases e3 : cellAt es (pix ρ b) with
      | none => simp [e1, e2, e3] at e
      | some p =>
        obtain ⟨m, d⟩ := p
        simp [e1, e2, e3] at e
        obtain ⟨rfl, rfl⟩ := e
        obtain ⟨ad, bs, t⟩ := tree_at ft e1
        obtain ⟨ia, z1, z2, z3⟩ := rowAt_inv e2
        obtain ⟨ib, y1, y2, y3⟩ := cellAt_inv e3
        obtain ⟨bd, ws, w1, w2, w3, w4, w5, w6⟩ := t.row z3
        obtain ⟨v, v1, v2⟩ := w5.get m y3
        have hl := t.rs.length
        refine ⟨_, t.at_, qa A H σ ρ _ ft z1 _ ⟨ad, _, ia, .ref bd, rfl, rfl, SqL.of t.h, atI_ix (by rw [hl]; exact z2) (by rw [List.getElem?_map, w1]; rfl), ?_⟩⟩
        exact qb A H σ ρ _ ft y1 _ ⟨bd, ws, ib, v, rfl, rfl, SqL.of w2, atI_ix (by rw [w5.length]; exact y2) v1, k A H v (Stp.refl ft) v2⟩
def fDlen (i : Nat) (ρ : Env) : Option (Res × Env) := match dlenG ρ i with
    | some d => some (.fr d, ρ)
    | none => none
theorem snd_dlen (C : CtxOk X N q F) {i : Nat} {x : Str} {px p pos} (hg : glB q.sc (Str.ofString "len") = true) (h : nameB N q i x = true) : SndE X (.Call (.Name (Str.ofString "len") p) [.Name x px] [] pos) (fDlen i) := by
  refine ⟨_, pe_callB call_len_seq (gl_of C hg) (C.bl "len" (by decide)) PySem.boot_len (pa_cons (pe_name C h) pa_nil (star_cons rfl)) (by decide) (by decide) (star_cons rfl) rfl, fun A H σ ρ r ρ' ft e Q k => ?_⟩
  unfold fDlen dlenG at e
  cases e1 : treeAt ρ i with
  | none => simp [e1] at e
  | some ds =>
    simp [e1] at e
    obtain ⟨rfl, rfl⟩ := e
    obtain ⟨ad, bs, t⟩ := tree_at ft e1
    have hl := t.rs.length
    have k' : Q (.int ((bs.map V.ref).length : Nat)) H := by rw [hl]; exact k A H _ (Stp.refl ft) .int
    exact ⟨_, t.at_, ad, _, rfl, .inl (SqL.of t.h), k'⟩
end

/-! ### writing -/
def RowsG (A : Addr → Prop) (H : Hp) (bs : List Addr) (ds : List D) : Prop := bs.length = ds.length ∧ ∀ (m : Nat) (b : Addr), bs[m]? = some b → ∃ (ws : List V) (es : List D), ds[m]? = some (PyData.list es) ∧ H b = some (HO.lst ws) ∧ ws.length ≤ sizeLine ∧ ¬ A b ∧ RepAll A H ws es ∧ noLs es = true
theorem DpRs.mk' {A H} : ∀ {vs : List V} {ds : List D}, vs.length = ds.length → (∀ (m : Nat) v d, vs[m]? = some v → ds[m]? = some d → DpR A H v d) → DpRs A H vs ds
  | [], [], _, _ => .nil
  | [], _ :: _, e, _ => by cases e
  | _ :: _, [], e, _ => by cases e
  | v :: vs, d :: ds, e, h => .cons (h 0 v d rfl rfl) (DpRs.mk' (by simpa using e) fun m v d h1 h2 => h (m + 1) v d (by simpa using h1) (by simpa using h2))
theorem RowsG.dp {A H bs ds} (r : RowsG A H bs ds) : DpRs A H (bs.map V.ref) ds := by
  refine .mk' (by rw [List.length_map]; exact r.1) fun m v d h1 h2 => ?_
  rw [List.getElem?_map] at h1
  cases e : bs[m]? with
  | none => rw [e] at h1; cases h1
  | some b =>
    rw [e] at h1; cases h1
    obtain ⟨ws, es, g1, g2, g3, g4, g5, g6⟩ := r.2 m b e
    rw [g1] at h2; cases h2
    exact .lst g2 g3 g4 (.of g5 g6)
theorem RowsG.all {A H bs ds} (r : RowsG A H bs ds) : ds.all rowB = true := by
  rw [List.all_eq_true]
  intro d hd
  obtain ⟨m, hm⟩ := List.getElem?_of_mem hd
  have hb : m < bs.length := by rw [r.1]; exact (List.getElem?_eq_some_iff.mp hm).1
  obtain ⟨ws, es, g1, g2, g3, g4, g5, g6⟩ := r.2 m bs[m] (List.getElem?_eq_getElem hb)
  rw [g1] at hm; cases hm
  exact g6
theorem RowsG.lr {A H bs ds a} (r : RowsG A H bs ds) (h : H a = some (.lst (bs.map V.ref))) {c : Addr} (l : LR H (.ref a) c) : c = a ∨ c ∈ bs := by
  cases l with
  | here e => exact .inl rfl
  | lst e hm hr =>
    rw [h] at e; cases e
    obtain ⟨b, hb, rfl⟩ := List.mem_map.mp hm
    obtain ⟨m, hm⟩ := List.getElem?_of_mem hb
    obtain ⟨ws, es, g1, g2, g3, g4, g5, g6⟩ := r.2 m b hm
    cases hr with
    | here _ => exact .inr hb
    | lst e hm hr => rw [g2] at e; cases e; exact absurd hr (RepAll.noLR g5 g6 _ hm _)
    | tup e _ _ => rw [g2] at e; cases e
  | tup e _ _ => rw [h] at e; cases e
theorem TreeAt.rows {A H σ ρ i ds a bs} (t : TreeAt A H σ ρ i ds a bs) : RowsG A H bs ds := by
  have hl := t.rs.length
  rw [List.length_map] at hl
  refine ⟨hl, fun m b hb => ?_⟩
  have hm : m < ds.length := by rw [← hl]; exact (List.getElem?_eq_some_iff.mp hb).1
  have hr := List.all_eq_true.mp t.ok ds[m] (List.getElem_mem hm)
  cases e : ds[m] with
  | list es =>
    have e' : ds[m]? = some (.list es) := by rw [List.getElem?_eq_getElem hm, e]
    obtain ⟨b', ws, g1, g2, g3, g4, g5, g6⟩ := t.row e'
    rw [hb] at g1; cases g1
    exact ⟨ws, es, e', g2, g3, g4, g5, g6⟩
  | _ => rw [e] at hr; cases hr
theorem TreeAt.lr {A H σ ρ i ds a bs} (t : TreeAt A H σ ρ i ds a bs) {c : Addr} (h : c = a ∨ c ∈ bs) : LR H (.ref a) c := by
  rcases h with rfl | h
  · exact .here t.h
  · obtain ⟨m, hm⟩ := List.getElem?_of_mem h
    obtain ⟨ws, es, g1, g2, _⟩ := t.rows.2 m c hm
    exact .lst t.h (List.mem_map.mpr ⟨c, h, rfl⟩) (.here g2)
/-- a tree is changed -/
theorem stp_tree {A H σ} {ρ : Env} {i : Nat} {ds ds' : List D} {a : Addr} {bs bs' : List Addr} {H' : Hp} (f : Fit A H σ ρ) (t : TreeAt A H σ ρ i ds a bs) (hk : ∀ c, c ≠ a → c ∉ bs → H' c = H c)
    (dom : ∀ c, H' c = none → H c = none) (h' : H' a = some (.lst (bs'.map V.ref))) (hs : ∀ b ∈ bs', b ∈ bs) (nd : (a :: bs').Nodup) (len : (bs'.map V.ref).length ≤ sizeLine) (r' : RowsG A H' bs' ds') :
    Stp A H σ ρ A H' σ (ρ.set i (.dp .tree (.list ds'))) := by
  have hp : ∀ c, c = a ∨ c ∈ bs → Prv H σ ρ c := fun c h => ⟨i, _, _, _, t.slot, t.at_, t.lr h⟩
  have kp : ∀ c o, ¬ Prv H σ ρ c → H c = some o → H' c = some o := fun c o n e => by rw [hk c (fun z => n (hp c (.inl z))) (fun z => n (hp c (.inr z)))]; exact e
  have k : Keep A H H' := fun c o hc e => kp c o (f.noprv hc) e
  have inv : ∀ (j : Nat) (s : Slot), (ρ.set i (.dp .tree (.list ds')))[j]? = some s → (i = j ∧ s = .dp .tree (.list ds')) ∨ (i ≠ j ∧ ρ[j]? = some s) := fun j s h => get_set h
  have oth : ∀ (j : Nat) kk d v, i ≠ j → ρ[j]? = some (.dp kk d) → σ[j]? = some (some v) → ∀ c o, LR H v c → H c = some o → H' c = some o := fun j kk d v ij h1 h2 c o l e => by
    have q := (f.prv j kk d v c h1 h2 l).2 i _ _ _ ij t.slot t.at_
    rw [hk c (fun z => q (t.lr (.inl z))) (fun z => q (t.lr (.inr z)))]; exact e
  have bk : ∀ (j : Nat) kk d v, i ≠ j → ρ[j]? = some (.dp kk d) → σ[j]? = some (some v) → ∀ c, LR H' v c → LR H v c := fun j kk d v ij h1 h2 c l => by
    obtain ⟨d', r⟩ := f.dpr h1 h2
    exact r.back k (fun c o l e => oth j kk d v ij h1 h2 c o l e) c l
  have li : ∀ c, LR H' (.ref a) c → c = a ∨ c ∈ bs := fun c l => (r'.lr h' l).imp id (hs c)
  refine ⟨fun _ h => h, fun c o h _ n => kp c o n h, dom, fun c ⟨j, s, h1, h2, h3⟩ => ?_, fun j es h => ⟨rfl, ?_⟩, fun _ h => .inl h, fun j s h o => ?_, fun c ⟨j, kk, d, v, h1, h2, l⟩ => ?_, ⟨by rw [List.length_set]; exact f.len, fun j s ov h1 h2 => ?_, fun j l s u c jl h1 h2 h3 h4 h5 h6 => ?_, fun c hc => ?_, fun j kk d v c h1 h2 l => ?_⟩⟩
  · rcases inv j s h1 with ⟨_, rfl⟩ | ⟨_, z⟩
    · cases h2
    · exact .inl ⟨j, s, z, h2, h3⟩
  · have ij : i ≠ j := fun e => by subst e; rw [t.slot] at h; cases h
    exact ⟨es, by rw [List.getElem?_set_ne ij]; exact h⟩
  · rcases inv j s h with ⟨_, rfl⟩ | ⟨_, z⟩
    · cases o
    · exact ⟨z, rfl⟩
  · rcases inv j _ h1 with ⟨rfl, _⟩ | ⟨ij, z⟩
    · rw [t.at_] at h2; cases h2
      exact .inr (.inl (hp c (li c l)))
    · exact .inr (.inl ⟨j, kk, d, v, z, h2, bk j kk d v ij z h2 c l⟩)
  · rcases inv j s h1 with ⟨rfl, rfl⟩ | ⟨ij, z⟩
    · rw [t.at_] at h2; cases h2
      exact ⟨_, _, rfl, .lst h' len t.na r'.dp, fun _ => rfl, fun _ => ⟨a, bs', ds', rfl, h', nd, rfl, r'.all⟩, rfl⟩
    · have ok := f.slot j s ov z h2
      refine ok.go (fun _ z => z) k (fun c o lb e1 e2 => ?_) (fun c lv e1 => by subst e1; exact ok.nofz lv) (fun c o u e => ?_) (fun kk d v c o e1 e2 l e3 => ?_) (fun kk d v c e1 e2 l => ?_)
      · subst e1
        refine kp c o (fun ⟨l, kk, d, v, g1, g2, g3⟩ => (f.prv l kk d v c g1 g2 g3).1 j s z lb h2) e2
      · refine kp c _ (fun ⟨l, kk, d, v, g1, g2, g3⟩ => ?_) e
        obtain ⟨_, vs, g4⟩ := f.lr g1 g2 g3
        rw [e] at g4; cases g4
      · subst e1 e2
        exact oth j kk d v ij z h2 c o l e3
      · subst e1 e2
        exact (f.lr z h2 l).1
  · rcases inv j s h1 with ⟨_, rfl⟩ | ⟨_, z⟩
    · cases h3
    · rcases inv l u h2 with ⟨_, rfl⟩ | ⟨_, z'⟩
      · cases h4
      · exact f.apart j l s u c jl z z' h3 h4 h5 h6
  · obtain ⟨o, e⟩ := f.trk c hc
    exact ⟨o, k c o hc e⟩
  · have main : ∀ (j : Nat) kk d v, ρ[j]? = some (.dp kk d) → σ[j]? = some (some v) → LR H v c → (∀ (l : Nat) s, (ρ.set i (.dp .tree (.list ds')))[l]? = some s → liveB s = true → σ[l]? ≠ some (some (.ref c))) ∧ ∀ (l : Nat) kk' d' v', l ≠ j → (ρ.set i (.dp .tree (.list ds')))[l]? = some (.dp kk' d') → σ[l]? = some (some v') → ¬ LR H' v' c := fun j kk d v h1 h2 l => by
      obtain ⟨q1, q2⟩ := f.prv j kk d v c h1 h2 l
      refine ⟨fun l s g1 g2 => ?_, fun l kk' d' v' lj g1 g2 g3 => ?_⟩
      · rcases inv l s g1 with ⟨_, rfl⟩ | ⟨_, z⟩
        · cases g2
        · exact q1 l s z g2
      · rcases inv l _ g1 with ⟨rfl, _⟩ | ⟨il, z⟩
        · rw [t.at_] at g2; cases g2
          exact q2 i _ _ _ lj t.slot t.at_ (t.lr (li c g3))
        · exact q2 l _ _ _ lj z g2 (bk l _ _ _ il z g2 c g3)
    rcases inv j _ h1 with ⟨rfl, _⟩ | ⟨ij, z⟩
    · rw [t.at_] at h2; cases h2
      exact main i _ _ _ t.slot t.at_ (t.lr (li c l))
    · exact main j _ _ _ z h2 (bk j _ _ _ ij z h2 c l)
theorem rows_upd {A H bs ds n b} {es' : List D} {ws' : List V} (r : RowsG A H bs ds) (nd : bs.Nodup) (hb : bs[n]? = some b) (na : ¬ A b) (hl : ws'.length ≤ sizeLine) (rr : RepAll A H ws' es') (hn : noLs es' = true) : RowsG A (upd H b (.lst ws')) bs (ds.set n (.list es')) := by
  have k : Keep A H (upd H b (.lst ws')) := fun c o hc e => by
    have : c ≠ b := fun z => na (z ▸ hc)
    rw [upd_ne this]; exact e
  refine ⟨by rw [List.length_set]; exact r.1, fun m c hc => ?_⟩
  obtain ⟨ws, es, g1, g2, g3, g4, g5, g6⟩ := r.2 m c hc
  by_cases e : n = m
  · subst e
    rw [hb] at hc; cases hc
    exact ⟨ws', es', List.getElem?_set_self (List.getElem?_eq_some_iff.mp g1).1, upd_same, hl, na, RepAll.mono (fun _ z => z) k rr, hn⟩
  · have ne : c ≠ b := fun z => by
      subst z
      have hm := (List.getElem?_eq_some_iff.mp hc).1
      exact e ((List.getElem?_inj hm nd).mp (hc.trans hb.symm)).symm
    exact ⟨ws, es, by rw [List.getElem?_set_ne e]; exact g1, by rw [upd_ne ne]; exact g2, g3, g4, RepAll.mono (fun _ z => z) k g5, g6⟩
section
variable {X : Cx} {N : List Str} {q : Sc} {F : FT}
def fDset (i : Nat) (a b : E) (fe : Env → Option (Res × Env)) (ρ : Env) : Option (Out × Env) := match fe ρ with
    | none => none
    | some (r, ρ1) => match dsetG ρ1 i a b r.d with
      | some ρ2 => some (.next, ρ2)
      | none => none
theorem snd_dset (C : CtxOk X N q F) {i : Nat} {x : Str} {px ea eb e p1 p2 pos a b fe} (h : nameB N q i x = true) (ha : SndX X ea a) (hb : SndX X eb b) (na : PlainIx ea)
    (hs : swapsWithSole [.Subscript (.Subscript (.Name x px) ea p1) eb p2] e pos.line X.env = pure false) (hw : swappedStores [.Subscript (.Subscript (.Name x px) ea p1) eb p2] e X.env = pure none)
    (hx : ∀ v, assign (.Subscript (.Subscript (.Name x px) ea p1) eb p2) X.env v = (do
      let ov ← holding [v] (eval (.Subscript (.Name x px) ea p1) X.env)
      let iv ← holding [v, ov] (eval eb X.env)
      standAt p2
      holding [v, ov, iv] (setItem ov iv v)
      release [v, ov, iv] [])) (he : SndE X e fe) : SndS X (.Assign [.Subscript (.Subscript (.Name x px) ea p1) eb p2] e pos) (fDset i a b fe) := by
  obtain ⟨te, pe, qe⟩ := he.d
  obtain ⟨ta, pa, qa⟩ := ha
  obtain ⟨tb, pb, qb⟩ := hb
  refine ⟨_, ps_asg pe (pg_sub (pe_ix ix_list (pe_name C h) pa na) pb set_list hx) hs hw rfl, fun A H σ ρ o ρ' ft e Dn k => ?_⟩
  unfold fDset at e
  split at e
  · cases e
  · rename_i r ρ1 e0
    split at e
    · rename_i ρ2 e'
      cases e
      refine qe A H σ ρ r ρ1 ft e0 _ fun A1 H1 v s1 r1 => ?_
      unfold dsetG at e'
      cases e1 : treeAt ρ1 i with
      | none => simp [e1] at e'
      | some ds =>
        cases e2 : rowAt ds (pix ρ1 a) with
        | none => simp [e1, e2] at e'
        | some p =>
          obtain ⟨n, es⟩ := p
          cases e3 : cellAt es (pix ρ1 b) with
          | none => simp [e1, e2, e3] at e'
          | some p =>
            obtain ⟨m, d⟩ := p
            simp only [e1, e2, e3] at e'
            split at e'
            · rename_i hn
              cases e'
              obtain ⟨ad, bs, t⟩ := tree_at s1.fit e1
              obtain ⟨ia, z1, z2, z3⟩ := rowAt_inv e2
              obtain ⟨ib, y1, y2, y3⟩ := cellAt_inv e3
              obtain ⟨bd, ws, w1, w2, w3, w4, w5, w6⟩ := t.row z3
              have hl := t.rs.length
              have hnd := List.nodup_cons.mp t.nd
              have hmem : bd ∈ bs := List.mem_of_getElem? w1
              have ne : ad ≠ bd := fun z => hnd.1 (z ▸ hmem)
              refine ⟨_, t.at_, qa A1 H1 σ ρ1 _ s1.fit z1 _ ⟨ad, _, ia, .ref bd, rfl, rfl, SqL.of t.h, atI_ix (by rw [hl]; exact z2) (by rw [List.getElem?_map, w1]; rfl), ?_⟩⟩
              refine qb A1 H1 σ ρ1 _ s1.fit y1 _ ⟨bd, ws, ib, m, rfl, rfl, w2, by rw [w5.length]; exact y2, ?_⟩
              have st := stp_tree s1.fit t (H' := upd H1 bd (.lst (ws.set m v))) (bs' := bs) (ds' := ds.set n (.list (es.set m r.d))) (fun c h1 h2 => upd_ne fun z => h2 (z ▸ hmem)) (fun c hc => by
                by_cases z : c = bd
                · subst z; rw [upd_same] at hc; cases hc
                · rw [upd_ne z] at hc; exact hc) (by rw [upd_ne ne]; exact t.h) (fun _ z => z) t.nd t.len (rows_upd t.rows hnd.2 w1 w4 (by rw [List.length_set]; exact w3) (w5.set r1 m) (noLs_set w6 hn))
              exact k.nx (s1.trans st)
            · cases e'
    · cases e
theorem Fit.hide {A H σ} {ρ : Env} (f : Fit A H σ ρ) (i : Nat) : Fit A H σ (ρ.set i .un) := by
  have inv : ∀ (j : Nat) (s : Slot), (ρ.set i .un)[j]? = some s → s = .un ∨ ρ[j]? = some s := fun j s h => (get_set h).imp (·.2) (·.2)
  refine ⟨by rw [List.length_set]; exact f.len, fun j s ov h1 h2 => ?_, fun j l s u c jl h1 h2 h3 h4 h5 h6 => ?_, f.trk, fun j kk d v c h1 h2 l => ?_⟩
  · rcases inv j s h1 with rfl | z
    · trivial
    · exact f.slot j s ov z h2
  · rcases inv j s h1 with rfl | z
    · cases h3
    · rcases inv l u h2 with rfl | z'
      · cases h4
      · exact f.apart j l s u c jl z z' h3 h4 h5 h6
  · rcases inv j _ h1 with e | z
    · cases e
    · obtain ⟨q1, q2⟩ := f.prv j kk d v c z h2 l
      refine ⟨fun l s g1 g2 => ?_, fun l kk' d' v' lj g1 g2 => ?_⟩
      · rcases inv l s g1 with rfl | z
        · cases g2
        · exact q1 l s z g2
      · rcases inv l _ g1 with e | z
        · cases e
        · exact q2 l _ _ _ lj z g2
/-- fits that hang on the heap's other objects alone -/
theorem Fit.away {A H σ} {ρ : Env} {i : Nat} {ds : List D} {a : Addr} {bs : List Addr} {l : List V} (f : Fit A H σ ρ) (t : TreeAt A H σ ρ i ds a bs) : Fit A (upd H a (.lst l)) σ (ρ.set i .un) := by
  have f0 := f.hide i
  have n0 : NoRef H σ (ρ.set i .un) a := by
    obtain ⟨q1, q2⟩ := f.prv i _ _ _ a t.slot t.at_ (.here t.h)
    refine ⟨fun j s h1 h2 => ?_, fun ⟨j, kk, d, v, h1, h2, l⟩ => ?_⟩
    · rcases get_set h1 with ⟨_, rfl⟩ | ⟨_, z⟩
      · cases h2
      · exact q1 j s z h2
    · rcases get_set h1 with ⟨_, e⟩ | ⟨ij, z⟩
      · cases e
      · exact q2 j _ _ _ (Ne.symm ij) z h2 l
  have hg : ∀ c, c ≠ a → upd H a (.lst l) c = H c := fun c h => upd_ne h
  have k : Keep A H (upd H a (.lst l)) := keep_other hg t.na
  refine ⟨f0.len, fun j s ov h1 h2 => ?_, f0.apart, fun c hc => let ⟨u, e⟩ := f0.trk c hc; ⟨u, k c u hc e⟩, f0.prv_go (fun _ _ _ z => ⟨z, rfl⟩) k (prv_other hg n0.2) fun j s c h1 h2 h3 => .inl ⟨j, s, h1, h2, h3⟩⟩
  exact (f0.slot j s ov h1 h2).go (fun _ z => z) k (fun c u lb e z => by
      subst e
      have : c ≠ a := fun y => by subst y; exact n0.1 j s h1 lb h2
      rw [hg c this]; exact z) (fun c lv e => by subst e; exact (f0.slot j s _ h1 h2).nofz lv) (fun c o u e => (by
      have : c ≠ a := fun y => by subst y; rw [t.h] at e; cases e
      rw [hg c this]; exact e)) (fun kk d v c o e1 e2 l e3 => by
      subst e1 e2
      exact prv_other hg n0.2 c o ⟨j, kk, d, v, h1, h2, l⟩ e3) (fun kk d v c e1 e2 l => by
      subst e1 e2
      exact (f0.lr h1 h2 l).1)
theorem swap_perm {α : Type} {xs : List α} {n m : Nat} {x y : α} (hn : xs[n]? = some x) (hm : xs[m]? = some y) : ((xs.set n y).set m x).Perm xs := by
  obtain ⟨h1, rfl⟩ := List.getElem?_eq_some_iff.mp hn
  obtain ⟨h2, rfl⟩ := List.getElem?_eq_some_iff.mp hm
  exact List.set_set_perm h1 h2
def fDswp (i : Nat) (a b : E) (ρ : Env) : Option (Out × Env) := match dswpG ρ i a b with
    | some ρ1 => some (.next, ρ1)
    | none => none
/-- a row's word -/
def RowW (A : Addr → Prop) (H : Hp) (b : Addr) (d : D) : Prop := ∃ (ws : List V) (es : List D), d = PyData.list es ∧ H b = some (HO.lst ws) ∧ ws.length ≤ sizeLine ∧ ¬ A b ∧ RepAll A H ws es ∧ noLs es = true
theorem RowsG.at_ {A H bs ds} {m : Nat} {b d} (r : RowsG A H bs ds) (h : bs[m]? = some b) (hd : ds[m]? = some d) : RowW A H b d := by
  obtain ⟨ws, es, g1, g⟩ := r.2 m b h
  rw [hd] at g1; cases g1
  exact ⟨ws, es, rfl, g⟩
theorem RowsG.set {A H bs ds b d} (r : RowsG A H bs ds) (h : RowW A H b d) (n : Nat) : RowsG A H (bs.set n b) (ds.set n d) := by
  obtain ⟨ws, es, rfl, g⟩ := h
  refine ⟨by rw [List.length_set, List.length_set]; exact r.1, fun m c hc => ?_⟩
  rcases get_set hc with ⟨rfl, rfl⟩ | ⟨e, z⟩
  · have hm := (List.getElem?_eq_some_iff.mp hc).1
    rw [List.length_set, r.1] at hm
    exact ⟨ws, es, List.getElem?_set_self hm, g⟩
  · obtain ⟨ws', es', g1, g'⟩ := r.2 m c z
    exact ⟨ws', es', by rw [List.getElem?_set_ne e]; exact g1, g'⟩
theorem RowsG.heap {A H H' bs ds} (r : RowsG A H bs ds) (h : ∀ b ∈ bs, H' b = H b) (k : Keep A H H') : RowsG A H' bs ds := ⟨r.1, fun m c hc => by
  obtain ⟨ws, es, g1, g2, g3, g4, g5, g6⟩ := r.2 m c hc
  exact ⟨ws, es, g1, by rw [h c (List.mem_of_getElem? hc)]; exact g2, g3, g4, RepAll.mono (fun _ z => z) k g5, g6⟩⟩
theorem refs_inj : ∀ {bs cs : List Addr}, bs.map V.ref = cs.map V.ref → bs = cs
  | [], [], _ => rfl
  | [], _ :: _, h => by cases h
  | _ :: _, [], h => by cases h
  | b :: bs, c :: cs, h => by
    simp only [List.map_cons, List.cons.injEq, V.ref.injEq] at h
    rw [h.1, refs_inj h.2]
def subA (ix : Expr) (o : Expr) (p : Pos) (env : PySem.Env) : Prop := ∀ v, assign (.Subscript o ix p) env v = (do
      let ov ← holding [v] (eval o env)
      let iv ← holding [v, ov] (eval ix env)
      standAt p
      holding [v, ov, iv] (setItem ov iv v)
      release [v, ov, iv] [])
theorem snd_dswp (C : CtxOk X N q F) {i : Nat} {x : Str} {px px1 px2 px3 ea eb ea' eb' p1 p2 p3 p4 pos a b} {k1 k2 : Nat} {pt pt2 : Pos} (h : nameB N q i x = true) (ha : SndX X ea a) (hb : SndX X eb b) (ha' : SndX X ea' a) (hb' : SndX X eb' b) (na : PlainIx ea') (nb : PlainIx eb')
    (hs : swapsWithSole [.Tuple [.Subscript (.Name x px) ea p1, .Subscript (.Name x px1) eb p2] k1 pt] (.Tuple [.Subscript (.Name x px2) eb' p3, .Subscript (.Name x px3) ea' p4] k2 pt2) pos.line X.env = pure false)
    (hw : swappedStores [.Tuple [.Subscript (.Name x px) ea p1, .Subscript (.Name x px1) eb p2] k1 pt] (.Tuple [.Subscript (.Name x px2) eb' p3, .Subscript (.Name x px3) ea' p4] k2 pt2) X.env = pure none)
    (hx : subA ea (.Name x px) p1 X.env) (hy : subA eb (.Name x px1) p2 X.env) : SndS X (.Assign [.Tuple [.Subscript (.Name x px) ea p1, .Subscript (.Name x px1) eb p2] k1 pt] (.Tuple [.Subscript (.Name x px2) eb' p3, .Subscript (.Name x px3) ea' p4] k2 pt2) pos) (fDswp i a b) := by
  obtain ⟨ta, pa, qa⟩ := ha
  obtain ⟨tb, pb, qb⟩ := hb
  obtain ⟨ta', pa', qa'⟩ := ha'
  obtain ⟨tb', pb', qb'⟩ := hb'
  refine ⟨_, ps_asg (pe_tup (pa_cons (pe_ix ix_list (pe_name C h) pb' nb) (pa_cons (pe_ix ix_list (pe_name C h) pa' na) pa_nil (star_cons rfl)) (star_cons rfl)))
    (pg_tup C.calm (pgs_cons (pg_sub (pe_name C h) pa set_list hx) (pgs_cons (pg_sub (pe_name C h) pb set_list hy) pgs_nil rfl) rfl) rfl rfl) hs hw rfl, fun A H σ ρ o ρ' ft e Dn k => ?_⟩
  unfold fDswp at e
  split at e
  · rename_i ρ2 e'
    cases e
    unfold dswpG at e'
    cases e1 : treeAt ρ i with
    | none => simp [e1] at e'
    | some ds =>
      cases e2 : cellAt ds (pix (ρ.set i .un) a) with
      | none => simp [e1, e2] at e'
      | some p =>
        obtain ⟨n, d⟩ := p
        cases e3 : cellAt ds (pix (ρ.set i .un) b) with
        | none => simp [e1, e2, e3] at e'
        | some p =>
          obtain ⟨m, e⟩ := p
          simp only [e1, e2, e3, Option.some.injEq] at e'
          subst e'
          obtain ⟨ad, bs, t⟩ := tree_at ft e1
          obtain ⟨ia, z1, z2, z3⟩ := cellAt_inv e2
          obtain ⟨ib, y1, y2, y3⟩ := cellAt_inv e3
          have hl := t.rows.1
          have hl' : (bs.map V.ref).length = ds.length := by rw [List.length_map]; exact hl
          have hn : n < bs.length := by rw [hl]; exact (List.getElem?_eq_some_iff.mp z3).1
          have hm : m < bs.length := by rw [hl]; exact (List.getElem?_eq_some_iff.mp y3).1
          obtain ⟨bn, hbn⟩ : ∃ bn, bs[n]? = some bn := ⟨_, List.getElem?_eq_getElem hn⟩
          obtain ⟨bm, hbm⟩ : ∃ bm, bs[m]? = some bm := ⟨_, List.getElem?_eq_getElem hm⟩
          have fh := ft.hide i
          refine ⟨_, t.at_, qb' A H σ _ _ fh y1 _ ⟨ad, _, ib, .ref bm, rfl, rfl, SqL.of t.h, atI_ix (by rw [hl']; exact y2) (by rw [List.getElem?_map, hbm]; rfl), ?_⟩⟩
          refine ⟨_, t.at_, qa' A H σ _ _ fh z1 _ ⟨ad, _, ia, .ref bn, rfl, rfl, SqL.of t.h, atI_ix (by rw [hl']; exact z2) (by rw [List.getElem?_map, hbn]; rfl), ?_⟩⟩
          refine ⟨by simp [sizeLine], fun p hp => ?_⟩
          have s0 := Stp.grow ft (upd_grow (o := .tup [.ref bm, .ref bn]) hp)
          obtain ⟨ad2, bs2, t2⟩ := tree_at s0.fit e1
          have ea2 : ad2 = ad := by have := t2.at_; rw [t.at_] at this; cases this; rfl
          subst ea2
          have eb2 : bs2 = bs := by
            have h1 := t2.h
            rw [upd_grow hp _ _ t.h] at h1
            injection h1 with h1
            injection h1 with h1
            exact refs_inj h1.symm
          subst eb2
          refine ⟨p, _, rfl, SqT.of upd_same, rfl, _, _, rfl, _, t.at_, ?_⟩
          have f1 := s0.fit.hide i
          refine qa A _ σ _ _ f1 z1 _ ⟨ad2, _, ia, n, rfl, rfl, t2.h, by rw [hl']; exact z2, ?_⟩
          have f2 := s0.fit.away (l := (bs2.map V.ref).set n (.ref bm)) t2
          refine ⟨_, _, rfl, _, t.at_, qb A _ σ _ _ f2 y1 _ ⟨ad2, _, ib, m, rfl, rfl, upd_same, by rw [List.length_set, hl']; exact y2, rfl, ?_⟩⟩
          have pm := swap_perm hbn hbm
          have hnd := List.nodup_cons.mp t2.nd
          refine k.nx (s0.trans (stp_tree s0.fit t2 (bs' := (bs2.set n bm).set m bn) (fun c h1 h2 => by rw [upd_ne h1, upd_ne h1]) (fun c hc => ?_) (by rw [upd_same, List.map_set, List.map_set]) (fun b hb => pm.mem_iff.mp hb) (List.nodup_cons.mpr ⟨fun z => hnd.1 (pm.mem_iff.mp z), pm.nodup_iff.mpr hnd.2⟩) (by rw [List.length_map, List.length_set, List.length_set]; have := t2.len; rwa [List.length_map] at this) ?_))
          · by_cases z : c = ad2
            · subst z; rw [upd_same] at hc; cases hc
            · rw [upd_ne z, upd_ne z] at hc; exact hc
          · have r1 := (t2.rows.set (t2.rows.at_ hbm y3) n).set (t2.rows.at_ hbn z3) m
            refine r1.heap (fun b hb => ?_) ?_
            · have : b ≠ ad2 := fun z => hnd.1 (pm.mem_iff.mp (z ▸ hb))
              rw [upd_ne this, upd_ne this]
            · intro c o hc hh
              have : c ≠ ad2 := fun z => t2.na (z ▸ hc)
              rw [upd_ne this, upd_ne this]; exact hh
  · cases e
end
end Ev

set_option maxRecDepth 100000
/-! EvQ: a comprehension of new lists gets a name. -/
namespace Ev
open PySem L2
variable [TheK]
def tEn (f : Env → Option (Res × Env)) : TE := fun σ H Q => ∃ A ρ r ρ', Fit A H σ ρ ∧ f ρ = some (r, ρ') ∧ ∀ A' H' v, Stp A H σ ρ A' H' σ ρ' → ResOk A' H H' σ ρ' v r → Q v H'
theorem SndE.pn {X : Cx} {e f} (h : SndE X e f) : PE X e (tEn f) := by
  obtain ⟨t, p, hq⟩ := h
  exact ⟨fun pins s σ H Q I ⟨A, ρ, r, ρ', ft, e, k⟩ => p.run pins s σ H Q I (hq A H σ ρ r ρ' ft e Q k)⟩
theorem NoRef.back {H σ ρ0 ρ vs D} (n : NoRef H (L2.wipe σ vs) ρ D) (hl : ρ0.length = ρ.length) (hq : ∀ i ∈ vs, ∃ t, ρ0[i]? = some t ∧ quietS t = true) : NoRef H σ (backE vs ρ0 ρ) D := by
  have inv : ∀ (j : Nat) (u : Slot), (backE vs ρ0 ρ)[j]? = some u → quietS u = true ∨ (j ∉ vs ∧ ρ[j]? = some u) := fun j u h => by
    rw [backE_at vs ρ0 ρ j hl] at h
    split at h
    · rename_i hj
      obtain ⟨t, z1, z2⟩ := hq j hj
      rw [h] at z1; cases z1; exact .inl z2
    · rename_i hj; exact .inr ⟨hj, h⟩
  refine ⟨fun j u hu lu h3 => ?_, fun ⟨j, k, d, v, h1, h2, l⟩ => ?_⟩
  · rcases inv j u hu with z | ⟨hj, z⟩
    · cases u <;> first | (cases lu; done) | (cases z; done)
    · exact n.1 j u z lu (by rw [wipe_at_not hj]; exact h3)
  · rcases inv j _ h1 with z | ⟨hj, z⟩
    · cases z
    · exact n.2 ⟨j, k, d, v, z, by rw [wipe_at_not hj]; exact h2, l⟩
theorem NoRef.unlend {H σ ρ ls D} (n : NoRef H σ ρ D) : NoRef H σ (Ev.unlend ls ρ) D := ⟨fun j s h1 h2 => by
  rcases unlend_inv h1 with ⟨z, _⟩ | ⟨es, rfl, z, _⟩
  · exact n.1 j s z h2
  · exact n.1 j _ z rfl, fun h => n.2 (prv_unlend h)⟩
theorem RowsG.go {A A' H H' bs ds} (r : RowsG A H bs ds) (e : ∀ a, A a → A' a) (k : Keep A H H') (h : ∀ b ∈ bs, ∀ o, H b = some o → H' b = some o) (na : ∀ b ∈ bs, ¬ A' b) : RowsG A' H' bs ds := ⟨r.1, fun m c hc => by
  obtain ⟨ws, es, g1, g2, g3, g4, g5, g6⟩ := r.2 m c hc
  have hm := List.mem_of_getElem? hc
  exact ⟨ws, es, g1, h c hm _ g2, g3, na c hm, RepAll.mono e k g5, g6⟩⟩
theorem RowsG.some {A H bs ds b} (r : RowsG A H bs ds) (h : b ∈ bs) : ∃ ws, H b = some (.lst ws) := by
  obtain ⟨m, hm⟩ := List.getElem?_of_mem h
  obtain ⟨ws, es, g1, g2, _⟩ := r.2 m b hm
  exact ⟨ws, g2⟩
theorem RowsG.snoc {A H bs ds b d} (r : RowsG A H bs ds) (h : RowW A H b d) : RowsG A H (bs ++ [b]) (ds ++ [d]) := by
  refine ⟨by simp [r.1], fun m c hc => ?_⟩
  by_cases hm : m < bs.length
  · rw [List.getElem?_append_left hm] at hc
    obtain ⟨ws, es, g1, g⟩ := r.2 m c hc
    exact ⟨ws, es, by rw [List.getElem?_append_left (by rw [← r.1]; exact hm)]; exact g1, g⟩
  · rw [List.getElem?_append_right (by omega)] at hc
    obtain ⟨ws, es, rfl, g⟩ := h
    have h0 : m - bs.length = 0 := by
      cases e : m - bs.length with
      | zero => rfl
      | succ n => rw [e] at hc; simp at hc
    rw [h0] at hc
    simp at hc
    subst hc
    exact ⟨ws, es, by rw [List.getElem?_append_right (by rw [← r.1]; omega), ← r.1, h0]; rfl, g⟩
/-- a new tree gets a name -/
theorem stp_tnew {A0 H0 σ0 ρ0 A H σ} {ρ : Env} {i : Nat} {t : Slot} {a : Addr} {bs : List Addr} {ds : List D} (s : Stp A0 H0 σ0 ρ0 A H σ ρ) (ht : ρ[i]? = some t) (h0 : ∀ es, ρ0[i]? = some (.mu es) → False)
    (r1 : H a = some (.lst (bs.map V.ref))) (len : (bs.map V.ref).length ≤ sizeLine) (na : ¬ A a) (nd : (a :: bs).Nodup) (r : RowsG A H bs ds) (fr : ∀ c, c = a ∨ c ∈ bs → H0 c = none ∧ NoRef H σ ρ c) :
    Stp A0 H0 σ0 ρ0 A H (σ.set i (some (.ref a))) (ρ.set i (.dp .tree (.list ds))) := by
  have other : ∀ (j : Nat) (u : Slot), (ρ.set i (.dp .tree (.list ds)))[j]? = some u → (i = j ∧ u = .dp .tree (.list ds) ∧ (σ.set i (some (.ref a)))[j]? = some (some (.ref a))) ∨ (i ≠ j ∧ ρ[j]? = some u ∧ (σ.set i (some (.ref a)))[j]? = σ[j]?) := fun j u h => by
    rcases get_set h with ⟨e, z⟩ | ⟨e, z⟩
    · subst e
      exact .inl ⟨rfl, z, List.getElem?_set_self (by rw [s.fit.len]; exact (List.getElem?_eq_some_iff.mp ht).1)⟩
    · exact .inr ⟨e, z, List.getElem?_set_ne e⟩
  refine ⟨s.ext, s.frame, s.dom, fun c ⟨j, u, h1, h2, h3⟩ => ?_, fun j es h => ?_, s.news, fun j u h o => ?_, fun c ⟨j, kk, d, v, h1, h2, l⟩ => ?_, ⟨by rw [List.length_set, List.length_set]; exact s.fit.len, fun j u ov h1 h2 => ?_, fun j l u w c jl h1 h2 h3 h4 h5 h6 => ?_, s.fit.trk, fun j kk d v c h1 h2 l => ?_⟩⟩
  · rcases other j u h1 with ⟨_, rfl, e⟩ | ⟨_, z, e⟩
    · cases h2
    · rw [e] at h3; exact s.sub c ⟨j, u, z, h2, h3⟩
  · have ij : i ≠ j := fun e => by subst e; exact h0 es h
    obtain ⟨e1, es', e2⟩ := s.mus j es h
    exact ⟨by rw [List.getElem?_set_ne ij]; exact e1, es', by rw [List.getElem?_set_ne ij]; exact e2⟩
  · rcases other j u h with ⟨_, rfl, _⟩ | ⟨_, z, e⟩
    · cases o
    · rw [e]; exact s.lents j u z o
  · rcases other j _ h1 with ⟨_, _, e⟩ | ⟨_, z, e⟩
    · rw [e] at h2; cases h2
      exact .inr (.inr (fr c (r.lr r1 l)).1)
    · rw [e] at h2; exact s.prv c ⟨j, kk, d, v, z, h2, l⟩
  · rcases other j u h1 with ⟨rfl, rfl, e⟩ | ⟨_, z, e⟩
    · rw [e] at h2; cases h2
      exact ⟨_, _, rfl, .lst r1 len na r.dp, fun _ => rfl, fun _ => ⟨a, bs, ds, rfl, r1, nd, rfl, r.all⟩, rfl⟩
    · rw [e] at h2; exact s.fit.slot j u ov z h2
  · rcases other j u h1 with ⟨_, rfl, e⟩ | ⟨_, z, e⟩
    · cases h3
    · rcases other l w h2 with ⟨_, rfl, _⟩ | ⟨_, z', e'⟩
      · cases h4
      · rw [e] at h5; rw [e'] at h6
        exact s.fit.apart j l u w c jl z z' h3 h4 h5 h6
  · rcases other j _ h1 with ⟨ij, _, e⟩ | ⟨_, z, e⟩
    · rw [e] at h2; cases h2
      obtain ⟨_, n1, n2⟩ := fr c (r.lr r1 l)
      refine ⟨fun l w g1 g2 => ?_, fun l kk' d' v' lj g1 g2 g3 => ?_⟩
      · rcases other l w g1 with ⟨_, rfl, _⟩ | ⟨_, z', e'⟩
        · cases g2
        · rw [e']; exact n1 l w z' g2
      · rcases other l _ g1 with ⟨il, _, _⟩ | ⟨_, z', e'⟩
        · exact lj (il.symm.trans ij)
        · rw [e'] at g2; exact n2 ⟨l, kk', d', v', z', g2, g3⟩
    · rw [e] at h2
      obtain ⟨q1, q2⟩ := s.fit.prv j kk d v c z h2 l
      refine ⟨fun l' w g1 g2 => ?_, fun l' kk' d' v' lj g1 g2 g3 => ?_⟩
      · rcases other l' w g1 with ⟨_, rfl, _⟩ | ⟨_, z', e'⟩
        · cases g2
        · rw [e']; exact q1 l' w z' g2
      · rcases other l' _ g1 with ⟨_, _, e'⟩ | ⟨_, z', e'⟩
        · rw [e'] at g2; cases g2
          exact (fr c (r.lr r1 g3)).2.2 ⟨j, kk, d, v, z, h2, l⟩
        · rw [e'] at g2; exact q2 l' _ _ _ lj z' g2 g3
def stepN (t : T) (vs : List Nat) (fc : Env → Option (Bool × Env)) (fe : Env → Option (Res × Env)) (d : D) (ρ : Env) : Option (Option D × Env) := match asgT t d ρ with
        | none => none
        | some ρa => match fc ρa with
          | none => none
          | some (false, ρb) => some (none, wipeE vs ρb)
          | some (true, ρb) => match fe ρb with
            | some (.nw es, ρc) => if noLs es = true then some (some (.list es), wipeE vs ρc) else none
            | _ => none
def fDcomp (i : Nat) (t : T) (vs : List Nat) (fi : Env → Option (List D × Env × List Nat)) (fc : Env → Option (Bool × Env)) (fe : Env → Option (Res × Env)) (ρ : Env) : Option (Out × Env) := match fi ρ with
    | none => none
    | some (ds, ρ0, ls) => if (vs.all fun v => match (lendL ls ρ0)[v]? with | some s => quietS s | none => false) = false then none else
      match compL (stepN t vs fc fe) ds (wipeE vs (lendL ls ρ0)) with
      | none => none
      | some (r, ρ2) => (put i (.dp .tree (.list r)) (unlend ls (backE vs (lendL ls ρ0) ρ2))).map fun ρ3 => (.next, ρ3)
theorem dcomp_core {wi : TI} {i0 : Nat} {t : T} {vs : List Nat} {fi fc fe} (hts : ∀ i ∈ tslots t, i ∈ vs)
    (qi : ∀ A H σ ρ ds ρ0 ls, Fit A H σ ρ → fi ρ = some (ds, ρ0, ls) → ∀ R : L2.It → Hp → Prop,
      (∀ A' H' J G, Stp A H σ ρ A' H' σ ρ0 → IterOk A' H' G J ds → (∀ a, G a → ¬ Mut σ (lendL ls ρ0) a ∧ Held A' σ ρ0 a) → ds.length ≤ sizeLine → Owns ρ0 ls → R J H') → wi σ H R)
    {A H σ ρ o ρ'} (ft : Fit A H σ ρ) (e : fDcomp i0 t vs fi fc fe ρ = some (o, ρ')) (Q : VK) (k : ∀ A' H' v, o = .next → Stp A H σ ρ A' H' (σ.set i0 (some v)) ρ' → Q v H') :
    tLc wi (gT t) (tT fc) (tEn fe) vs σ H Q := by
  unfold fDcomp at e
  split at e
  · cases e
  · rename_i ds ρ0 ls e1
    split at e
    · cases e
    · rename_i hq
      split at e
      · cases e
      · rename_i rr ρ2 e2
        cases e9 : put i0 (.dp .tree (.list rr)) (unlend ls (backE vs (lendL ls ρ0) ρ2)) with
        | none => rw [e9] at e; cases e
        | some ρ9 =>
        rw [e9] at e
        cases e
        have hq : ∀ i ∈ vs, ∃ s, (lendL ls ρ0)[i]? = some s ∧ quietS s = true := fun i hi => by
          have := (List.all_eq_true.mp (by simpa using hq : (vs.all fun v => match (lendL ls ρ0)[v]? with | some s => quietS s | none => false) = true)) i hi
          split at this
          · rename_i s hs; exact ⟨s, hs, this⟩
          · cases this
        have nm : ∀ i ∈ vs, ∀ es, (lendL ls ρ0)[i]? = some (.mu es) → False := fun i hi es h => by
          obtain ⟨s, z1, z2⟩ := hq i hi
          rw [h] at z1; cases z1; cases z2
        refine qi A H σ ρ ds ρ0 ls ft e1 _ fun A1 H1 J G s1 io gm lens ow => ?_
        have f1 := s1.fit.lend ls
        obtain ⟨gt, gw⟩ := io
        intro D hD
        have nD : ¬ A1 D := f1.nofrz hD
        have rD : NoRef H1 σ (lendL ls ρ0) D := .new f1 hD
        have b0 : Stp A1 H1 σ (lendL ls ρ0) A1 H1 (L2.wipe σ vs) (wipeE vs (lendL ls ρ0)) := (Stp.refl f1).wipe nm
        have rD0 : NoRef H1 (L2.wipe σ vs) (wipeE vs (lendL ls ρ0)) D := rD.wipe f1 vs
        refine ⟨fun i m Hc => m = ds.length - i ∧ i ≤ ds.length ∧ ∃ (Ac : Addr → Prop) (ρb : Env) (bs : List Addr) (dacc rest : List Ev.D), Stp A1 H1 σ (lendL ls ρ0) Ac Hc (L2.wipe σ vs) ρb ∧ Hc D = some (.lst (bs.map V.ref)) ∧ bs.length ≤ i ∧ RowsG Ac Hc bs dacc ∧ ¬ Ac D ∧ (D :: bs).Nodup ∧
          (∀ c, c = D ∨ c ∈ bs → H1 c = none ∧ NoRef Hc (L2.wipe σ vs) ρb c) ∧ compL (stepN t vs fc fe) (ds.drop i) ρb = some (rest, ρ2) ∧ dacc ++ rest = rr,
          ⟨ds.length, rfl, Nat.zero_le _, A1, _, [], [], rr, b0.other hD nD rD0 (fun o u z => by rw [hD] at z; cases z), upd_same, Nat.le_refl _, ⟨rfl, fun m b h => by simp at h⟩, nD, by simp, (fun c hc => by
            rcases hc with rfl | hc
            · exact ⟨hD, rD0.upd b0.fit nD⟩
            · cases hc), e2, rfl⟩, ?_⟩
        rintro i m Hc ⟨rfl, hi, Ac, ρb, bs, dacc, rest, sb, hDc, hl, ra, nDc, hnd, rDc, ec, er⟩
        have kc : Keep A1 H1 Hc := sb.keep f1
        have gk : ∀ a o, G a → H1 a = some o → Hc a = some o := fun a o hg z => sb.frame a o z (gm a hg).1 fun m => s1.fit.held_noprv (gm a hg).2 (prv_lend.mp m)
        obtain ⟨g1, g2, g3⟩ := gw Ac Hc sb.ext kc gk i
        have hsome : ∀ c, c = D ∨ c ∈ bs → ∃ o, Hc c = some o := fun c hc => by
          rcases hc with rfl | hc
          · exact ⟨_, hDc⟩
          · obtain ⟨ws, h⟩ := ra.some hc; exact ⟨_, h⟩
        -- what a way on does to the lists
        have way : ∀ {A' H' σ' ρ'}, Stp Ac Hc (L2.wipe σ vs) ρb A' H' σ' ρ' → H' D = some (.lst (bs.map V.ref)) ∧ RowsG A' H' bs dacc ∧ ¬ A' D ∧ ∀ c, c = D ∨ c ∈ bs → NoRef H' σ' ρ' c := fun {A' H' σ' ρ'} tot => by
          have nn : ∀ c, c = D ∨ c ∈ bs → NoRef H' σ' ρ' c := fun c hc => by
            obtain ⟨o, ho⟩ := hsome c hc
            exact (rDc c hc).2.stp tot ho
          have na : ∀ c, c = D ∨ c ∈ bs → ¬ Ac c → ¬ A' c := fun c hc n => by
            obtain ⟨o, ho⟩ := hsome c hc
            exact nofrz_stp n (rDc c hc).2 tot ho
          have rowna : ∀ b ∈ bs, ¬ Ac b := fun b hb => by
            obtain ⟨m, hm⟩ := List.getElem?_of_mem hb
            obtain ⟨ws, es, _, _, _, g4, _⟩ := ra.2 m b hm
            exact g4
          refine ⟨tot.frame D _ hDc (rDc D (.inl rfl)).2.nomut (rDc D (.inl rfl)).2.2, ra.go tot.ext (tot.keep sb.fit) (fun b hb o h => tot.frame b o h (rDc b (.inr hb)).2.nomut (rDc b (.inr hb)).2.2) (fun b hb => na b (.inr hb) (rowna b hb)), na D (.inl rfl) nDc, nn⟩
        by_cases hlt : i < ds.length
        · refine .inr ⟨g1 hlt, ?_⟩
          rw [List.drop_eq_getElem_cons hlt] at ec
          simp only [compL] at ec
          split at ec
          · cases ec
          · rename_i o ρ3 e3
            split at ec
            · cases ec
            · rename_i r2 ρ4 e4
              cases ec
              refine ⟨fun Hn => ∃ (An : Addr → Prop) (bn : List Addr) (dn : List Ev.D), Stp A1 H1 σ (lendL ls ρ0) An Hn (L2.wipe σ vs) ρ3 ∧ Hn D = some (.lst (bn.map V.ref)) ∧ bn.length ≤ i + 1 ∧ RowsG An Hn bn dn ∧ ¬ An D ∧ (D :: bn).Nodup ∧ (∀ c, c = D ∨ c ∈ bn → H1 c = none ∧ NoRef Hn (L2.wipe σ vs) ρ3 c) ∧ dn ++ r2 = rr, fun Hn hn => ?_, fun x H' y => ?_⟩
              · obtain ⟨An, bn, dn, z1, z2, z3, z4, z5, z6, z7, z8⟩ := hn
                exact ⟨ds.length - (i + 1), by omega, rfl, hlt, An, ρ3, bn, dn, r2, z1, z2, z3, z4, z5, z6, z7, e4, z8⟩
              · have item : ∃ A', Stp Ac Hc (L2.wipe σ vs) ρb A' H' (L2.wipe σ vs) ρb ∧ Rep A' H' x ds[i] := by
                  rcases g3 x H' ds[i] (List.getElem?_eq_getElem hlt) y with ⟨rfl, rx⟩ | ⟨p, o', hp, rfl, rx⟩
                  · exact ⟨Ac, Stp.refl sb.fit, rx⟩
                  · exact ⟨_, Stp.frz sb.fit hp, rx⟩
                obtain ⟨A', si, rx⟩ := item
                unfold stepN at e3
                split at e3
                · cases e3
                · rename_i ρa ea
                  refine ⟨A', ρb, ds[i], ρa, si.fit, rx, ea, fun σ' sa oa => ?_⟩
                  have wv : L2.wipe σ' vs = L2.wipe σ vs := by rw [wipe_only (oa.mono hts), wipe_wipe]
                  refine ⟨wv, ?_⟩
                  split at e3
                  · cases e3
                  · rename_i ρb' ec'
                    cases e3
                    refine ⟨A', ρa, false, ρb', sa.fit, ec', fun A2 H2 s2 => ?_⟩
                    show if false = true then _ else _
                    rw [if_neg Bool.false_ne_true]
                    have tot := (si.trans sa).trans s2
                    have all := (sb.trans tot).wipe nm
                    rw [wv] at all
                    obtain ⟨w1, w2, w3, w4⟩ := way tot
                    exact ⟨A2, bs, dacc, all, w1, Nat.le_succ_of_le hl, w2, w3, hnd, fun c hc => ⟨(rDc c hc).1, by rw [← wv]; exact (w4 c hc).wipe tot.fit vs⟩, er⟩
                  · rename_i ρb' ec'
                    split at e3
                    · rename_i re ρc ee
                      split at e3
                      · rename_i hnl
                        cases e3
                        refine ⟨A', ρa, true, ρb', sa.fit, ec', fun A2 H2 s2 => ?_⟩
                        show if true = true then _ else _
                        rw [if_pos rfl]
                        refine ⟨A2, ρb', .nw re, ρc, s2.fit, ee, fun A3 H3 y3 s3 r3 => ?_⟩
                        have tot2 := (si.trans sa).trans s2
                        have tot := tot2.trans s3
                        have all := (sb.trans tot).wipe nm
                        rw [wv] at all
                        obtain ⟨w1, w2, w3, w4⟩ := way tot
                        obtain ⟨b, ws, rfl, h1, h2, h3, h4, h5, h6, h7⟩ := r3
                        have hb1 : H1 b = none := (sb.trans tot2).dom b h5
                        have nb : ¬ (b = D ∨ b ∈ bs) := fun hc => by
                          obtain ⟨o, ho⟩ := hsome b hc
                          have := tot2.dom b h5
                          rw [ho] at this; cases this
                        have nw4 : ∀ c, c = D ∨ c ∈ bs ++ [b] → H1 c = none ∧ NoRef H3 (L2.wipe σ vs) (wipeE vs ρc) c := fun c hc => by
                          have h8 : (c = D ∨ c ∈ bs) ∨ c = b := by
                            rcases hc with h | h
                            · exact .inl (.inl h)
                            · rcases List.mem_append.mp h with h | h
                              · exact .inl (.inr h)
                              · exact .inr (by simpa using h)
                          rcases h8 with h8 | rfl
                          · exact ⟨(rDc c h8).1, by rw [← wv]; exact (w4 c h8).wipe tot.fit vs⟩
                          · refine ⟨hb1, ?_⟩
                            have n0 : NoRef H3 σ' ρc c := ⟨h6, h7⟩
                            rw [← wv]; exact n0.wipe tot.fit vs
                        have nD3 := (nw4 D (.inl rfl)).2
                        have hg : ∀ c, c ≠ D → upd H3 D (.lst ((bs ++ [b]).map V.ref)) c = H3 c := fun c h => upd_ne h
                        have k3 : Keep A3 H3 (upd H3 D (.lst ((bs ++ [b]).map V.ref))) := keep_other hg w3
                        have hnd' := List.nodup_cons.mp hnd
                        have nbD : b ≠ D := fun z => nb (.inl z)
                        have nbb : b ∉ bs := fun z => nb (.inr z)
                        have happ : bs.map V.ref ++ [V.ref b] = (bs ++ [b]).map V.ref := by simp
                        have ws' := all.other (o := .lst ((bs ++ [b]).map V.ref)) hD w3 nD3 (fun o u z => by rw [w1] at z; cases z)
                        refine ⟨bs.map V.ref, w1, by rw [List.length_map]; omega, A3, bs ++ [b], dacc ++ [.list re], by rw [happ]; exact ws', by rw [happ]; exact upd_same, by rw [List.length_append, List.length_singleton]; omega, ?_, w3, ?_, fun c hc => ?_, by rw [List.append_assoc]; exact er⟩
                        · rw [happ]
                          refine (w2.go (fun _ z => z) k3 (fun c hc o ho => ?_) (fun c hc => ?_)).snoc ⟨ws, re, rfl, by rw [hg b nbD]; exact h1, h2, h4, RepAll.mono (fun _ z => z) k3 h3, hnl⟩
                          · rw [hg c (fun z => hnd'.1 (z ▸ hc))]; exact ho
                          · obtain ⟨m, hm⟩ := List.getElem?_of_mem hc
                            obtain ⟨_, _, _, _, _, g4, _⟩ := w2.2 m c hm
                            exact g4
                        · rw [List.nodup_cons, List.nodup_append]
                          refine ⟨fun z => ?_, hnd'.2, by simp, fun x hx y hy => ?_⟩
                          · rcases List.mem_append.mp z with z | z
                            · exact hnd'.1 z
                            · exact nbD (List.mem_singleton.mp z).symm
                          · intro xy
                            rw [List.mem_singleton] at hy
                            rw [xy, hy] at hx
                            exact nbb hx
                        · obtain ⟨z1, z2⟩ := nw4 c hc
                          rw [happ]
                          exact ⟨z1, z2.1, fun z => z2.2 (nD3.go_back all.fit hg w3 c z)⟩
                      · cases e3
                    · cases e3
        · have ie : i = ds.length := by omega
          subst ie
          refine .inl ⟨g2 (Nat.le_refl _), ?_⟩
          rw [List.drop_length] at ec
          simp only [compL] at ec
          cases ec
          rw [List.append_nil] at er
          subst er
          have sk := Stp.back f1 sb hq
          have su := s1.trans (Stp.unlend ow sk)
          have hl2 : (lendL ls ρ0).length = ρ2.length := by rw [← f1.len, ← sb.fit.len, wipe_length]
          obtain ⟨t9, ht9, nm9, rfl⟩ := put_inv e9
          refine k Ac Hc (.ref D) rfl (stp_tnew (a := D) (bs := bs) (i := i0) su ht9 (fun es z => ?_) hDc (by rw [List.length_map]; omega) nDc hnd ra fun c hc => ⟨s1.dom c (rDc c hc).1, ((rDc c hc).2.back hl2 hq).unlend⟩)
          obtain ⟨_, ds', z2⟩ := su.mus i0 es z
          rw [ht9] at z2; cases z2
          exact nm9 _ rfl
end Ev

set_option maxRecDepth 100000
/-! Ev14: the checker: an IR against the syntax. -/
namespace Ev
open PySem L2
variable [TheK]

def bltName : Blt → String
  | .abs => "abs" | .int => "int" | .str => "str" | .repr => "repr" | .sum => "sum" | .max => "max" | .min => "min" | .max2 => "max" | .min2 => "min"
  | .all => "all" | .any => "any" | .sorted => "sorted" | .list => "list" | .tuple => "tuple" | .gcd => "gcd"
def ownOf (N : List Str) (vs : List Nat) : List (Str × Nat) := vs.filterMap fun v => (N[v]?).map fun x => (x, v)
def notSet : Expr → Bool
  | .Set .. => false
  | _ => true
def notTup : Expr → Bool
  | .Tuple .. => false
  | _ => true
def notSlice : Expr → Bool
  | .Slice .. => false
  | _ => true
mutual
def chkT (N : List Str) (q : Sc) : T → Expr → Bool
  | .name i, ex => (match ex with
    | .Name x _ => decide (N[i]? = some x) && locB q x
    | _ => false)
  | .tup ts, ex => (match ex with
    | .Tuple es _ _ => es.all notStar && chkTs N q ts es
    | _ => false)
def chkTs (N : List Str) (q : Sc) : Ts → List Expr → Bool
  | .nil, es => (match es with
    | [] => true
    | _ => false)
  | .cons t ts, es => (match es with
    | e :: r => chkT N q t e && chkTs N q ts r
    | _ => false)
end
mutual
def chkE (N : List Str) (q : Sc) : E → Expr → Bool
  | .var i, ex => (match ex with
    | .Name x _ => nameB N q i x
    | _ => false)
  | .int n, ex => (match ex with
    | .Constant (.int m) _ _ => decide (m = n)
    | _ => false)
  | .bl b, ex => (match ex with
    | .Constant (.bool m) _ _ => decide (m = b)
    | _ => false)
  | .non, ex => (match ex with
    | .Constant .none _ _ => true
    | _ => false)
  | .str s, ex => (match ex with
    | .Constant (.str m) _ _ => decide (m = Str.ofString s)
    | _ => false)
  | .bin o a b, ex => (match ex with
    | .BinOp l op r _ => decide (op = bop o) && chkE N q a l && chkE N q b r
    | _ => false)
  | .neg a, ex => (match ex with
    | .UnaryOp op x _ => decide (op = .USub) && chkE N q a x
    | _ => false)
  | .no a, ex => (match ex with
    | .UnaryOp op x _ => decide (op = .Not) && chkE N q a x
    | _ => false)
  | .cmp o a b, ex => (match ex with
    | .Compare l [op] [r] _ => decide (op = cop o) && !behindInMarks op r && chkE N q a l && chkE N q b r
    | _ => false)
  | .cmp2 o p a b c, ex => (match ex with
    | .Compare l [op, op'] [r, r'] _ => decide (op = cop o) && decide (op' = cop p) && !lastMarks [op, op'] [r, r'] && chkE N q a l && chkE N q b r && chkE N q c r'
    | _ => false)
  | .and a b, ex => (match ex with
    | .BoolOp op (x :: y :: rest) pos => decide (op = .And) && chkE N q a x && (match rest with
      | [] => chkE N q b y
      | _ :: _ => chkE N q b (.BoolOp .And (y :: rest) pos))
    | _ => false)
  | .or a b, ex => (match ex with
    | .BoolOp op (x :: y :: rest) pos => decide (op = .Or) && chkE N q a x && (match rest with
      | [] => chkE N q b y
      | _ :: _ => chkE N q b (.BoolOp .Or (y :: rest) pos))
    | _ => false)
  | .ite c a b, ex => (match ex with
    | .IfExp c' a' b' _ => chkE N q c c' && chkE N q a a' && chkE N q b b'
    | _ => false)
  | .idx a i, ex => (match ex with
    | .Subscript e s _ => notSlice s && chkE N q a e && chkE N q i s
    | _ => false)
  | .slc a lo hi, ex => (match ex with
    | .Subscript e (.Slice l h none _) _ => chkE N q a e && chkO N q lo l && chkO N q hi h
    | _ => false)
  | .rvs a, ex => (match ex with
    | .Subscript e (.Slice none none (some (.UnaryOp .USub (.Constant (.int 1) _ _) _)) _) _ => chkE N q a e
    | _ => false)
  | .dix i a b, ex => (match ex with
    | .Subscript (.Subscript (.Name x _) s _) s' _ => notSlice s && notSlice s' && nameB N q i x && pxB a && pxB b && chkE N q a s && chkE N q b s'
    | _ => false)
  | .dlen i, ex => (match ex with
    | .Call (.Name x _) [.Name y _] [] _ => decide (x = Str.ofString "len") && glB q.sc x && nameB N q i y
    | _ => false)
  | .dget i k, ex => (match ex with
    | .Subscript (.Name x _) s _ => notSlice s && nameB N q i x && chkE N q k s
    | _ => false)
  | .din neg i k, ex => (match ex with
    | .Compare l [op] [.Name x px] _ => decide (op = dop neg) && nameB N q i x && !behindInMarks op (.Name x px) && chkE N q k l
    | _ => false)
  | .tup es, ex => (match ex with
    | .Tuple xs _ _ => xs.all notStar && chkEs N q es xs
    | _ => false)
  | .lst es, ex => (match ex with
    | .List xs _ => xs.all notStar && chkEs N q es xs
    | _ => false)
  | .comp elt t it c vs, ex => (match ex with
    | .ListComp e [⟨tg, iter, ifs, z⟩] scope _ => decide (z = 0) && notSet iter && decide ((ownOf N vs).map (·.2) = vs) && blkC N q.sc scope (ownOf N vs) && (tslots t).all (fun i => decide (i ∈ vs)) &&
        chkI N q it tg iter && chkT N (blkSc q scope) t tg && chkC N (blkSc q scope) c ifs && chkE N (blkSc q scope) elt e
    | _ => false)
  | .comp2 elt t it c0 t1 it1 c vs vs1, ex => (match ex with
    | .ListComp e [⟨tg, iter, ifs, z⟩, ⟨tg1, iter1, ifs1, z1⟩] scope _ => decide (z = 0) && decide (z1 = 0) && notSet iter && notSet iter1 && decide ((ownOf N vs).map (·.2) = vs) && blkC N q.sc scope (ownOf N vs) && (tslots t).all (fun i => decide (i ∈ vs)) && (tslots t1).all (fun i => decide (i ∈ vs1)) && vs1.all (fun i => decide (i ∈ vs)) &&
        chkI N q it tg iter && chkT N (blkSc q scope) t tg && chkC N (blkSc q scope) c0 ifs && chkI N (blkSc q scope) it1 tg1 iter1 && chkT N (blkSc q scope) t1 tg1 && chkC N (blkSc q scope) c ifs1 && chkE N (blkSc q scope) elt e
    | _ => false)
  | .setc srt elt t it c vs, ex => (match ex with
    | .Call (.Name x _) [.SetComp e [⟨tg, iter, ifs, z⟩] scope _] [] _ => decide (x = Str.ofString (if srt then "sorted" else "len")) && glB q.sc x && decide (z = 0) && notSet iter && decide ((ownOf N vs).map (·.2) = vs) && blkC N q.sc scope (ownOf N vs) && (tslots t).all (fun i => decide (i ∈ vs)) &&
        chkI N q it tg iter && chkT N (blkSc q scope) t tg && chkC N (blkSc q scope) c ifs && chkE N (blkSc q scope) elt e
    | _ => false)
  | .call f es, ex => (match ex with
    | .Call (.Name x _) xs [] _ => decide (x = Str.ofString f) && glB q.sc x && !(x == ("__debug__" : Str)) && xs.all notStar && chkEs N q es xs
    | _ => false)
  | .pcall f es, ex => (match ex with
    | .Call (.Name x _) (y :: ys) [] _ => decide (x = Str.ofString f) && glB q.sc x && !(x == ("__debug__" : Str)) && (y :: ys).all notStar && chkPks N q es (y :: ys)
    | _ => false)
  | .blt b es, ex => (match ex with
    | .Call (.Name x _) (y :: ys) [] _ => decide (x = Str.ofString (bltName b)) && glB q.sc x && (!decide (b = .gcd) || q.gcd) && (y :: ys).all notStar && chkEs N q es (y :: ys)
    | _ => false)
  | .isi a t, ex => (match ex with
    | .Call (.Name x _) [e, .Name y _] [] _ => decide (x = Str.ofString "isinstance") && decide (y = Str.ofString (tyName t)) && glB q.sc x && glB q.sc y && notStar e && chkE N q a e
    | _ => false)
  | .len a, ex => (match ex with
    | .Call (.Name x _) [e] [] _ => decide (x = Str.ofString "len") && glB q.sc x && notStar e && chkE N q a e
    | _ => false)
  | .rngs t it, ex => (match ex with
    | .Call (.Name x _) [e] [] _ => decide (x = Str.ofString (if t then "tuple" else "list")) && glB q.sc x && notStar e && (match it with
      | .rng1 .. => true
      | .rng2 .. => true
      | _ => false) && chkI N q it e e
    | _ => false)
  | .meth m o a, ex => (match ex with
    | .Call (.Attribute (.Name x px) nm apos) [e] [] cpos => (match o with
      | .var _ => true
      | _ => false) && decide (nm = Str.ofString (mthName m)) && notStar e && (apos.endLine == cpos.line) && chkE N q o (.Name x px) && chkE N q a e
    | _ => false)
  | .chg m i es, ex => (match ex with
    | .Call (.Attribute (.Name x _) nm apos) xs [] cpos => nameB N q i x && decide (nm = Str.ofString (cthName m)) && (apos.endLine == cpos.line) && xs.all notStar && decide (xs.length < 29) &&
        (match m with
        | .append => !xs.isEmpty
        | .insert => !xs.isEmpty
        | .extend => !xs.isEmpty
        | .remove => !xs.isEmpty
        | .popAt => !xs.isEmpty
        | .pop => xs.isEmpty
        | .reverse => xs.isEmpty) && chkEs N q es xs
    | _ => false)
def chkO (N : List Str) (q : Sc) : OE → Option Expr → Bool
  | .none, ex => (match ex with
    | none => true
    | _ => false)
  | .some e, ex => (match ex with
    | some x => chkE N q e x
    | _ => false)
def chkC (N : List Str) (q : Sc) : OE → List Expr → Bool
  | .none, ex => (match ex with
    | [] => true
    | _ => false)
  | .some e, ex => (match ex with
    | [x] => chkE N q e x
    | _ => false)
def chkI (N : List Str) (q : Sc) : Wk → Expr → Expr → Bool
  | .seq a, _, ex => chkE N q a ex
  | .rng1 a, _, ex => (match ex with
    | .Call (.Name x _) [e] [] _ => decide (x = Str.ofString "range") && glB q.sc x && notStar e && chkE N q a e
    | _ => false)
  | .rng2 a b, _, ex => (match ex with
    | .Call (.Name x _) [e, e'] [] _ => decide (x = Str.ofString "range") && glB q.sc x && notStar e && notStar e' && chkE N q a e && chkE N q b e'
    | _ => false)
  | .enm a, tg, ex => !notTup tg && (match ex with
    | .Call (.Name x _) [e] [] _ => decide (x = Str.ofString "enumerate") && glB q.sc x && notStar e && chkE N q a e
    | _ => false)
  | .zip a b, tg, ex => !notTup tg && (match ex with
    | .Call (.Name x _) [e, e'] [] _ => decide (x = Str.ofString "zip") && glB q.sc x && notStar e && notStar e' && chkE N q a e && chkE N q b e'
    | _ => false)
  | .rev a, _, ex => (match ex with
    | .Call (.Name x _) [e] [] _ => decide (x = Str.ofString "reversed") && glB q.sc x && notStar e && chkE N q a e
    | _ => false)
  | .rrng1 a, _, ex => (match ex with
    | .Call (.Name y _) [.Call (.Name x _) [e] [] _] [] _ => decide (y = Str.ofString "reversed") && decide (x = Str.ofString "range") && glB q.sc y && glB q.sc x && notStar e && chkE N q a e
    | _ => false)
  | .rrng2 a b, _, ex => (match ex with
    | .Call (.Name y _) [.Call (.Name x _) [e, e'] [] _] [] _ => decide (y = Str.ofString "reversed") && decide (x = Str.ofString "range") && glB q.sc y && glB q.sc x && notStar e && notStar e' && chkE N q a e && chkE N q b e'
    | _ => false)
  | .dwn a b, _, ex => (match ex with
    | .Call (.Name x _) [e, e', .UnaryOp .USub (.Constant (.int 1) _ _) _] [] _ => decide (x = Str.ofString "range") && glB q.sc x && notStar e && notStar e' && chkE N q a e && chkE N q b e'
    | _ => false)
def chkEs (N : List Str) (q : Sc) : Es → List Expr → Bool
  | .nil, es => (match es with
    | [] => true
    | _ => false)
  | .cons e es, xs => (match xs with
    | x :: r => chkE N q e x && chkEs N q es r
    | _ => false)
end
/-- a comprehension's list is stored from within its frame -/
def swB (q : Sc) (x : Str) (px : Pos) : Expr → Bool
  | .ListComp _ _ scope pos => (match q.sc.names.lookup x with
    | some .local => true
    | _ => false) && px.line == pos.line && !(scope.names.any fun (n, k) => n == x && (k == .local || k == .cell))
  | _ => false
def cellB (q : Sc) (x : Str) : Bool := match q.sc.names.lookup x with
  | some .cell => true
  | _ => false
/-- two names, one of them a cell's, set to two values: a tuple that is taken apart -/
def cellTup (q : Sc) : Expr → Expr → Bool
  | .Tuple [.Name x _, .Name y _] _ _, .Tuple [a, b] _ _ => cellB q x || cellB q y
  | _, _ => false
def parB (q : Sc) (x y : Str) (px py : Pos) (a b : Expr) : Bool :=
  (match q.sc.names.lookup x with
    | some .local => true
    | _ => false) && (match q.sc.names.lookup y with
    | some .local => true
    | _ => false) && px.line == py.line && !(x == y) && notStar a && notStar b && !([a, b].all (foldedForSure 8)) && !([a, b].all (constantsAlone 8))
mutual
def chkS (N : List Str) (q : Sc) : S → Stmt → Bool
  | .asg t e, st => (match st with
    | .Assign [tg] v pos => (match t with
      | .name i => (match tg with
        | .Name x px => decide (N[i]? = some x) && locB q x && chkE N q e v && (!isComp v || swB q x px v || cellB q x)
        | _ => false)
      | .tup _ => (notTup v || cellTup q tg v) && (match tg with
        | .Tuple .. => true
        | _ => false) && chkT N q t tg && chkE N q e v)
    | _ => false)
  | .par i j a b, st => (match st with
    | .Assign [.Tuple [.Name x px, .Name y py] _ _] (.Tuple [a', b'] _ _) _ => decide (N[i]? = some x) && decide (N[j]? = some y) && decide (i ≠ j) && parB q x y px py a' b' && chkE N q a a' && chkE N q b b'
    | _ => false)
  | .aug o i e, st => (match st with
    | .AugAssign (.Name x _) op v _ => decide (op = bop o) && augOp o && decide (N[i]? = some x) && locB q x && chkE N q e v
    | _ => false)
  | .dset i a b e, st => (match st with
    | .Assign [.Subscript (.Subscript (.Name x _) s _) s' _] v _ => notSlice s && notSlice s' && nameB N q i x && pxB a && pxB b && chkE N q a s && chkE N q b s' && chkE N q e v
    | _ => false)
  | .dswp i a b, st => (match st with
    | .Assign [.Tuple [.Subscript (.Name x _) s _, .Subscript (.Name x1 _) s' _] _ _] (.Tuple [.Subscript (.Name x2 _) t' _, .Subscript (.Name x3 _) t _] _ _) _ =>
      decide (x1 = x) && decide (x2 = x) && decide (x3 = x) && nameB N q i x && notSlice s && notSlice s' && notSlice t && notSlice t' && pxB a && pxB b && chkE N q a s && chkE N q b s' && chkE N q a t && chkE N q b t'
    | _ => false)
  | .dcomp i elt t it c vs, st => (match st with
    | .Assign [.Name x px] (.ListComp e [⟨tg, iter, ifs, z⟩] scope p) _ => decide (N[i]? = some x) && locB q x && (swB q x px (.ListComp e [⟨tg, iter, ifs, z⟩] scope p) || cellB q x) && decide (z = 0) && notSet iter && decide ((ownOf N vs).map (·.2) = vs) && blkC N q.sc scope (ownOf N vs) && (tslots t).all (fun i => decide (i ∈ vs)) &&
        chkI N q it tg iter && chkT N (blkSc q scope) t tg && chkC N (blkSc q scope) c ifs && chkE N (blkSc q scope) elt e
    | _ => false)
  | .dnew i k v, st => (match st with
    | .Assign [.Name x _] (.Dict [some k'] [v'] _) _ => decide (N[i]? = some x) && locB q x && chkE N q k k' && chkE N q v v'
    | _ => false)
  | .dput i k v, st => (match st with
    | .Assign [.Subscript (.Name x _) k' _] v' _ => nameB N q i x && !isComp v' && chkE N q k k' && chkE N q v v'
    | _ => false)
  | .rse, st => (match st with
    | .Raise _ _ _ => true
    | _ => false)
  | .setIx i ix e, st => (match st with
    | .Assign [.Subscript (.Name x _) ix' _] v _ => nameB N q i x && notSlice ix' && chkE N q ix ix' && chkE N q e v
    | _ => false)
  | .augIx o i ix e, st => (match st with
    | .AugAssign (.Subscript (.Name x _) ix' _) op v _ => decide (op = bop o) && augOp o && nameB N q i x && notSlice ix' && chkE N q ix ix' && chkE N q e v
    | _ => false)
  | .ex e, st => (match st with
    | .Expr v _ => !isComp v && chkE N q e v
    | _ => false)
  | .ret e, st => (match st with
    | .Return (some v) _ => chkE N q e v
    | _ => false)
  | .retN, st => (match st with
    | .Return none _ => true
    | _ => false)
  | .brk, st => (match st with
    | .Break _ => true
    | _ => false)
  | .cont, st => (match st with
    | .Continue _ => true
    | _ => false)
  | .pass, st => (match st with
    | .Pass _ => true
    | _ => false)
  | .ife c a b, st => (match st with
    | .If c' a' b' _ => chkE N q c c' && chkSs N q a a' && chkSs N q b b'
    | _ => false)
  | .whl _ c b, st => (match st with
    | .While c' b' [] _ => chkE N q c c' && chkSs N q b b'
    | _ => false)
  | .forr t it b, st => (match st with
    | .For tg iter b' [] _ => notSet iter && chkI N q it tg iter && chkT N q t tg && chkSs N q b b'
    | _ => false)
def chkSs (N : List Str) (q : Sc) : Ss → List Stmt → Bool
  | .nil, st => (match st with
    | [] => true
    | _ => false)
  | .cons s ss, st => (match st with
    | x :: r => chkS N q s x && chkSs N q ss r
    | _ => false)
end
end Ev


set_option maxRecDepth 100000
/-! Ev15: soundness of the evaluator. -/
namespace Ev
open PySem L2
variable [TheK]
section
variable {N : List Str} {F : FT}
theorem plain_of {b : Expr} (h : notSlice b = true) : PlainIx b := by
  intro o i
  cases b <;> first | rfl | cases h
def plainT : Expr → Bool
  | .UnaryOp .Not _ _ => false
  | .BoolOp .. => false
  | .IfExp .. => false
  | .Compare .. => false
  | _ => true
theorem plainT_ok {e : Expr} {env : PySem.Env} (h : plainT e = true) (whole : Sem Value) : isTrue e env whole = (do let v ← whole; standAt e.pos; holding [v] (truthy v)) := by
  cases e <;> first | rfl | (cases h; done) | (rename_i op x pos; cases op <;> first | rfl | cases h)
theorem fold_of {iter : Expr} {env x} (h : notSet iter = true) : foldedSetIterable iter env x = pure x := by
  cases iter <;> first | rfl | cases h
theorem snd_px {X q} (C : CtxOk X N q F) (e : E) {ex : Expr} (hp : pxB e = true) (h : chkE N q e ex = true) : SndX X ex e := by
  have cint : ∀ {n : Int} {x : Expr}, chkE N q (.int n) x = true → ∃ j p, x = .Constant (.int n) j p := fun {n x} h => by
    unfold chkE at h
    split at h
    · simp only [decide_eq_true_eq] at h
      subst h
      exact ⟨_, _, rfl⟩
    · cases h
  have cvar : ∀ {n : Nat} {x : Expr}, chkE N q (.var n) x = true → ∃ y p, x = .Name y p ∧ nameB N q n y = true := fun {n x} h => by
    unfold chkE at h
    split at h
    · exact ⟨_, _, rfl, h⟩
    · cases h
  unfold pxB at hp
  split at hp
  · obtain ⟨j, p, rfl⟩ := cint h
    exact sndX_int
  · obtain ⟨y, p, rfl, h1⟩ := cvar h
    exact sndX_var C h1
  · unfold chkE at h
    split at h
    · simp only [Bool.and_eq_true] at h
      obtain ⟨⟨h0, h1⟩, h2⟩ := h
      obtain ⟨y, p, rfl, h3⟩ := cvar h1
      obtain ⟨j, p', rfl⟩ := cint h2
      exact sndX_idx C h3
    · cases h
  · unfold chkE at h
    split at h
    · simp only [Bool.and_eq_true, decide_eq_true_eq] at h
      obtain ⟨⟨rfl, h1⟩, h2⟩ := h
      obtain ⟨y, p, rfl, h3⟩ := cvar h1
      obtain ⟨j, p', rfl⟩ := cint h2
      exact sndX_bin C (.inl rfl) h3
    · cases h
  · unfold chkE at h
    split at h
    · simp only [Bool.and_eq_true, decide_eq_true_eq] at h
      obtain ⟨⟨rfl, h1⟩, h2⟩ := h
      obtain ⟨y, p, rfl, h3⟩ := cvar h1
      obtain ⟨j, p', rfl⟩ := cint h2
      exact sndX_bin C (.inr rfl) h3
    · cases h
  · cases hp
def isBO : Expr → Bool
  | .BoolOp .. => true
  | _ => false
def P (X : Cx) (F : FT) (e : E) (ex : Expr) : Prop := SndE X ex (ev F e) ∧ SndT X ex (ev F e) ∧ (isBO ex = true → SndW X ex (ev F e))
theorem P.of {X e ex} (h : SndE X ex (ev F e)) (pl : plainT ex = true) : P X F e ex := ⟨h, h.t (plainT_ok pl), fun z => by cases ex <;> first | (cases z; done) | (cases pl; done)⟩
theorem blt_ok {X q} (C : CtxOk X N q F) (b : Blt) (hb : b ≠ .gcd) {es : List Expr} {e : Expr} {p pos fs} (hg : glB q.sc (Str.ofString (bltName b)) = true) (st : (e :: es).all notStar = true) (hs : SndP X (e :: es) fs) :
    SndE X (.Call (.Name (Str.ofString (bltName b)) p) (e :: es) [] pos) (fBlt (dBlt b) fs) := by
  cases b with
  | abs => exact snd_bltB C cs_abs (name := "abs") (by decide) hg (by decide +kernel) (by decide) (by decide) st hs
  | int => exact snd_bltT C cs_int (name := "int") (by decide) hg (by decide +kernel) (by decide) (by decide) st hs
  | str => exact snd_bltT C cs_str (name := "str") (by decide) hg (by decide +kernel) (by decide) (by decide) st hs
  | repr => exact snd_bltB C cs_repr (name := "repr") (by decide) hg (by decide +kernel) (by decide) (by decide) st hs
  | sum => exact snd_bltB C (cs_sum C.calm) (name := "sum") (by decide) hg (by decide +kernel) (by decide) (by decide) st hs
  | max => exact snd_bltB C (cs_max C.calm C.un) (name := "max") (by decide) hg (by decide +kernel) (by decide) (by decide) st hs
  | min => exact snd_bltB C (cs_min C.calm C.un) (name := "min") (by decide) hg (by decide +kernel) (by decide) (by decide) st hs
  | max2 => exact snd_bltB C (cs_max2 C.calm) (name := "max") (by decide) hg (by decide +kernel) (by decide) (by decide) st hs
  | min2 => exact snd_bltB C (cs_min2 C.calm) (name := "min") (by decide) hg (by decide +kernel) (by decide) (by decide) st hs
  | all => exact snd_bltB C (cs_all C.calm) (name := "all") (by decide) hg (by decide +kernel) (by decide) (by decide) st hs
  | any => exact snd_bltB C (cs_any C.calm) (name := "any") (by decide) hg (by decide +kernel) (by decide) (by decide) st hs
  | sorted => exact snd_bltB C (cs_sorted C.un) (name := "sorted") (by decide) hg (by decide +kernel) (by decide) (by decide) st hs
  | list => exact snd_bltT C cs_list (name := "list") (by decide) hg (by decide +kernel) (by decide) (by decide) st hs
  | tuple => exact snd_bltT C cs_tuple (name := "tuple") (by decide) hg (by decide +kernel) (by decide) (by decide) st hs
  | gcd => exact absurd rfl hb
theorem snd_gcd {X q} (C : CtxOk X N q F) (hq : q.gcd = true) {es : List Expr} {e : Expr} {p pos fs} (hg : glB q.sc (Str.ofString "gcd") = true) (st : (e :: es).all notStar = true) (hs : SndP X (e :: es) fs) :
    SndE X (.Call (.Name (Str.ofString "gcd") p) (e :: es) [] pos) (fBlt (dBlt .gcd) fs) := by
  obtain ⟨r, pr, qr⟩ := cs_gcd (X := X)
  obtain ⟨ts, ps, qs⟩ := hs
  rw [List.all_cons, Bool.and_eq_true] at st
  exact ⟨_, pe_callBfun pr (gl_of C hg) (C.gc hq) ps (by decide) (star_cons st.1) (star_any st.2), fun A H σ ρ r ρ' ft e Q k => blt_core qs qr ft e k⟩
/-- list(range ..), tuple(range ..) -/
theorem prg_res {X e} {te : St → Hp → (Int → Int → Hp → Prop) → Prop} {f : Env → Option (List D × Env × List Nat)} {t : Bool} {name : String} {p pos q} (C : CtxOk X N q F) (hname : name = (if t then "tuple" else "list")) (hg : glB q.sc (Str.ofString name) = true) (hn : notStar e = true)
    (pe : PRg X e te) (qe : ∀ A H σ ρ ds ρ' ls, Fit A H σ ρ → f ρ = some (ds, ρ', ls) → ∀ Q : Int → Int → Hp → Prop, (∀ A' H' a b, Stp A H σ ρ A' H' σ ρ' → ds = rngD a b → RgOk a b → Q a b H') → te σ H Q) :
    SndE X (.Call (.Name (Str.ofString name) p) [e] [] pos) (fun ρ => match f ρ with | some (ds, ρ1, _) => some (if t then .fr (.tuple ds) else .nw ds, ρ1) | none => none) := by
  have rep : ∀ {A H} (a b : Int), RepAll A H (rgV a b) (rngD a b) := fun {A H} a b => by
    have : ∀ l : List Nat, RepAll A H (l.map fun i => V.int (a + (i : Nat))) (l.map fun (i : Nat) => .int (a + i)) := fun l => by
      induction l with
      | nil => exact .nil
      | cons x r ih => exact .cons .int ih
    exact this _
  cases t with
  | true =>
    subst hname
    refine ⟨_, pe_tupRg C.calm (gl_of C hg) (C.bl "tuple" (by decide)) pe (star_cons hn), fun A H σ ρ r ρ' ft e Q k => ?_⟩
    simp only at e
    split at e
    · rename_i ds ρ1 ls e1
      cases e
      refine qe A H σ ρ ds ρ' ls ft e1 _ fun A1 H1 a b s1 hd ok => ⟨ok, fun p hp => ?_⟩
      subst hd
      have hl : (rgV a b).length ≤ sizeLine := by rw [rgV_length]; exact ok.2.2.2.2
      exact k _ _ _ (s1.trans (Stp.frz s1.fit hp)) (rep_newT hp hl (rep a b))
    · cases e
  | false =>
    subst hname
    refine ⟨_, pe_listRg C.calm (gl_of C hg) (C.bl "list" (by decide)) pe (star_cons hn), fun A H σ ρ r ρ' ft e Q k => ?_⟩
    simp only at e
    split at e
    · rename_i ds ρ1 ls e1
      cases e
      refine qe A H σ ρ ds ρ' ls ft e1 _ fun A1 H1 a b s1 hd ok => ⟨ok, fun p hp => ?_⟩
      subst hd
      have hl : (rgV a b).length ≤ sizeLine := by rw [rgV_length]; exact ok.2.2.2.2
      exact k _ _ _ (s1.trans (Stp.grow s1.fit (upd_grow hp))) ((res_new s1.fit hp hl (rep a b)).start s1.dom)
    · cases e
theorem snd_rngs1 {X q} (C : CtxOk X N q F) {e p pos p' pos' fa} (t : Bool) {name : String} (hname : name = (if t then "tuple" else "list")) (hg : glB q.sc (Str.ofString name) = true) (hg2 : glB q.sc (Str.ofString "range") = true) (hn : notStar e = true) (ha : SndE X e fa) :
    SndE X (.Call (.Name (Str.ofString name) p) [.Call (.Name (Str.ofString "range") p') [e] [] pos'] [] pos) (fun ρ => match fRng1 fa ρ with | some (ds, ρ1, _) => some (if t then .fr (.tuple ds) else .nw ds, ρ1) | none => none) := by
  obtain ⟨ta, pa, qa⟩ := ha
  refine prg_res C hname hg rfl (prg_1 (gl_of C hg2) (C.bl "range" (by decide)) pa (star_cons hn)) fun A H σ ρ ds ρ' ls ft e Q k => ?_
  unfold fRng1 at e
  split at e
  · rename_i i ρ1 e1
    split at e
    · rename_i hz
      cases e
      refine qa A H σ ρ _ ρ' ft e1 _ fun A1 H1 v s1 ok => ?_
      cases ok
      have hs : (sizeLine : Int) = 2 ^ 24 := by decide
      exact ⟨i, rfl, k A1 H1 0 i s1 rfl ⟨by omega, by omega, by omega, by omega, by omega⟩⟩
    · cases e
  · cases e
theorem snd_rngs2 {X q} (C : CtxOk X N q F) {e e' p pos p' pos' fa fb} (t : Bool) {name : String} (hname : name = (if t then "tuple" else "list")) (hg : glB q.sc (Str.ofString name) = true) (hg2 : glB q.sc (Str.ofString "range") = true) (hn : notStar e = true) (hn' : notStar e' = true) (ha : SndE X e fa) (hb : SndE X e' fb) :
    SndE X (.Call (.Name (Str.ofString name) p) [.Call (.Name (Str.ofString "range") p') [e, e'] [] pos'] [] pos) (fun ρ => match fRng2 fa fb ρ with | some (ds, ρ1, _) => some (if t then .fr (.tuple ds) else .nw ds, ρ1) | none => none) := by
  obtain ⟨ta, pa, qa⟩ := ha
  obtain ⟨tb, pb, qb⟩ := hb
  refine prg_res C hname hg rfl (prg_2 (gl_of C hg2) (C.bl "range" (by decide)) pa pb (by rw [star_cons hn]) (star_cons hn') (star_any (by simp [hn']))) fun A H σ ρ ds ρ' ls ft e Q k => ?_
  unfold fRng2 at e
  split at e
  · rename_i i ρ1 e1
    split at e
    · rename_i j ρ2 e2
      split at e
      · rename_i hz
        cases e
        refine qa A H σ ρ _ ρ1 ft e1 _ fun A1 H1 v s1 ok => ?_
        cases ok
        refine qb A1 H1 σ ρ1 _ ρ' s1.fit e2 _ fun A2 H2 v s2 ok => ?_
        cases ok
        have hs : (sizeLine : Int) = 2 ^ 24 := by decide
        exact ⟨i, j, rfl, rfl, k A2 H2 i j (s1.trans s2) rfl ⟨by omega, by omega, by omega, by omega, by omega⟩⟩
      · cases e
    · cases e
  · cases e
theorem opd_eq {a : E} {f : Env → Option (Res × Env)} : True := trivial
/-- an operand -/
theorem P.o {X q e ex} (C : CtxOk X N q F) (h : P X F e ex) (hc : chkE N q e ex = true) : SndO X ex (opd e (ev F e)) := by
  cases e with
  | var i =>
    unfold chkE at hc
    split at hc
    · exact sndO_var C hc
    · cases hc
  | _ => exact h.1.o (fun i z => by cases z)

theorem ownOf_names {N : List Str} {vs : List Nat} {p : Str × Nat} (h : p ∈ ownOf N vs) : N[p.2]? = some p.1 := by
  unfold ownOf at h
  obtain ⟨v, _, hv⟩ := List.mem_filterMap.mp h
  cases e : N[v]? with
  | none => rw [e] at hv; cases hv
  | some x => rw [e] at hv; cases hv; exact e
mutual
theorem snd_T : ∀ (t : T) {X : Cx} {q : Sc} {ex : Expr}, CtxOk X N q F → chkT N q t ex = true → SndG X ex t
  | .name i, X, q, ex, C, h => by
    unfold chkT at h
    split at h
    · simp only [Bool.and_eq_true, decide_eq_true_eq] at h
      exact sndG_name C h.1 h.2
    · cases h
  | .tup ts, X, q, ex, C, h => by
    unfold chkT at h
    split at h
    · rw [Bool.and_eq_true] at h
      obtain ⟨h1, h2⟩ := snd_Ts ts C h.2 h.1
      exact sndG_tup C h2 h.1 h1
    · cases h
theorem snd_Ts : ∀ (ts : Ts) {X : Cx} {q : Sc} {es : List Expr}, CtxOk X N q F → chkTs N q ts es = true → es.all notStar = true → SndGs X es ts ∧ es.length = tsLen ts
  | .nil, X, q, es, C, h, st => by
    unfold chkTs at h
    split at h
    · exact ⟨sndGs_nil, rfl⟩
    · cases h
  | .cons t ts, X, q, es, C, h, st => by
    unfold chkTs at h
    split at h
    · rw [Bool.and_eq_true] at h
      rw [List.all_cons, Bool.and_eq_true] at st
      obtain ⟨h1, h2⟩ := snd_Ts ts C h.2 st.2
      exact ⟨sndGs_cons st.1 (snd_T t C h.1) h1, by simp [tsLen, h2]⟩
    · cases h
end
/-- what a comprehension's parts do, anywhere -/
theorem comp_parts {elt : E} {t : T} {it : Wk} {c : OE} {vs : List Nat} {X : Cx} {q : Sc} {e tg iter : Expr} {ifs : List Expr} {scope : Scope} (C : CtxOk X N q F)
    (h0 : notSet iter = true) (h1 : (ownOf N vs).map (·.2) = vs) (h2 : blkC N q.sc scope (ownOf N vs) = true) (h3 : ((tslots t).all fun i => decide (i ∈ vs)) = true)
    (hi : SndI X tg iter (evI F it)) (hg : ∀ {X' : Cx}, CtxOk X' N (blkSc q scope) F → SndG X' tg t) (hc : ∀ {X' : Cx}, CtxOk X' N (blkSc q scope) F → SndC X' ifs (evC F c)) (he : ∀ {X' : Cx}, CtxOk X' N (blkSc q scope) F → SndE X' e (ev F elt)) :
    ∃ wi : TI, PI X tg iter wi ∧ BlkOk X.N X.env.scope scope (ownOf N vs) ∧
      (∀ (s : Shared) (H : Hp) (a : Addr) (cl : List (Str × Addr)) (fp : List Addr), PG (X.blk s H scope (compEnvC scope cl a X.env) fp) tg (gT t)) ∧
      (∀ (s : Shared) (H : Hp) (a : Addr) (cl : List (Str × Addr)) (fp : List Addr), PTs (X.blk s H scope (compEnvC scope cl a X.env) fp) ifs (tT (evC F c))) ∧
      (∀ (s : Shared) (H : Hp) (a : Addr) (cl : List (Str × Addr)) (fp : List Addr), PE (X.blk s H scope (compEnvC scope cl a X.env) fp) e (tE (ev F elt))) ∧
      ∀ A H σ ρ r ρ', Fit A H σ ρ → fComp t vs (evI F it) (evC F c) (ev F elt) ρ = some (r, ρ') → ∀ Q : VK, (∀ A' H' v, Stp A H σ ρ A' H' σ ρ' → ResOk A' H H' σ ρ' v r → Q v H') → tLc wi (gT t) (tT (evC F c)) (tE (ev F elt)) ((ownOf N vs).map (·.2)) σ H Q := by
  obtain ⟨wi, pi, qi⟩ := hi
  have bo : BlkOk N q.sc scope (ownOf N vs) := blkOk_by h2
  have cb : ∀ (s : Shared) (H : Hp) (a : Addr) (cl : List (Str × Addr)) (fp : List Addr), CtxOk (X.blk s H scope (compEnvC scope cl a X.env) fp) N (blkSc q scope) F := fun s H a cl fp => C.blk s H scope a cl fp bo.kind
  refine ⟨wi, pi, by rw [C.N, C.sc]; exact bo, fun s H a cl fp => (hg (cb s H a cl fp)).pg, fun s H a cl fp => (hc (cb s H a cl fp)).pts, fun s H a cl fp => (he (cb s H a cl fp)).pe, fun A H σ ρ r ρ' ft e Q k => ?_⟩
  rw [h1]
  exact comp_core (fun i hi => by have := List.all_eq_true.mp h3 i hi; simpa using this) qi ft e Q k
theorem dcomp_parts {i : Nat} {elt : E} {t : T} {it : Wk} {c : OE} {vs : List Nat} {X : Cx} {q : Sc} {e tg iter : Expr} {ifs : List Expr} {scope : Scope} (C : CtxOk X N q F)
    (h0 : notSet iter = true) (h1 : (ownOf N vs).map (·.2) = vs) (h2 : blkC N q.sc scope (ownOf N vs) = true) (h3 : ((tslots t).all fun i => decide (i ∈ vs)) = true)
    (hi : SndI X tg iter (evI F it)) (hg : ∀ {X' : Cx}, CtxOk X' N (blkSc q scope) F → SndG X' tg t) (hc : ∀ {X' : Cx}, CtxOk X' N (blkSc q scope) F → SndC X' ifs (evC F c)) (he : ∀ {X' : Cx}, CtxOk X' N (blkSc q scope) F → SndE X' e (ev F elt)) :
    ∃ wi : TI, PI X tg iter wi ∧ BlkOk X.N X.env.scope scope (ownOf N vs) ∧
      (∀ (s : Shared) (H : Hp) (a : Addr) (cl : List (Str × Addr)) (fp : List Addr), PG (X.blk s H scope (compEnvC scope cl a X.env) fp) tg (gT t)) ∧
      (∀ (s : Shared) (H : Hp) (a : Addr) (cl : List (Str × Addr)) (fp : List Addr), PTs (X.blk s H scope (compEnvC scope cl a X.env) fp) ifs (tT (evC F c))) ∧
      (∀ (s : Shared) (H : Hp) (a : Addr) (cl : List (Str × Addr)) (fp : List Addr), PE (X.blk s H scope (compEnvC scope cl a X.env) fp) e (tEn (ev F elt))) ∧
      ∀ A H σ ρ o ρ', Fit A H σ ρ → fDcomp i t vs (evI F it) (evC F c) (ev F elt) ρ = some (o, ρ') → ∀ Q : VK, (∀ A' H' v, o = .next → Stp A H σ ρ A' H' (σ.set i (some v)) ρ' → Q v H') → tLc wi (gT t) (tT (evC F c)) (tEn (ev F elt)) ((ownOf N vs).map (·.2)) σ H Q := by
  obtain ⟨wi, pi, qi⟩ := hi
  have bo : BlkOk N q.sc scope (ownOf N vs) := blkOk_by h2
  have cb : ∀ (s : Shared) (H : Hp) (a : Addr) (cl : List (Str × Addr)) (fp : List Addr), CtxOk (X.blk s H scope (compEnvC scope cl a X.env) fp) N (blkSc q scope) F := fun s H a cl fp => C.blk s H scope a cl fp bo.kind
  refine ⟨wi, pi, by rw [C.N, C.sc]; exact bo, fun s H a cl fp => (hg (cb s H a cl fp)).pg, fun s H a cl fp => (hc (cb s H a cl fp)).pts, fun s H a cl fp => (he (cb s H a cl fp)).pn, fun A H σ ρ o ρ' ft e Q k => ?_⟩
  rw [h1]
  exact dcomp_core (fun i hi => by have := List.all_eq_true.mp h3 i hi; simpa using this) qi ft e Q k
theorem comp2_parts {elt : E} {t t1 : T} {it it1 : Wk} {c0 c : OE} {vs vs1 : List Nat} {X : Cx} {q : Sc} {e tg iter tg1 iter1 : Expr} {ifs ifs1 : List Expr} {scope : Scope} (C : CtxOk X N q F)
    (h0 : notSet iter = true) (h1 : (ownOf N vs).map (·.2) = vs) (h2 : blkC N q.sc scope (ownOf N vs) = true) (h3 : ((tslots t).all fun i => decide (i ∈ vs)) = true) (h4 : ((tslots t1).all fun i => decide (i ∈ vs1)) = true) (h5 : (vs1.all fun i => decide (i ∈ vs)) = true)
    (hi : SndI X tg iter (evI F it)) (hg : ∀ {X' : Cx}, CtxOk X' N (blkSc q scope) F → SndG X' tg t) (hc0 : ∀ {X' : Cx}, CtxOk X' N (blkSc q scope) F → SndC X' ifs (evC F c0))
    (hi1 : ∀ {X' : Cx}, CtxOk X' N (blkSc q scope) F → SndI X' tg1 iter1 (evI F it1)) (hg1 : ∀ {X' : Cx}, CtxOk X' N (blkSc q scope) F → SndG X' tg1 t1) (hc : ∀ {X' : Cx}, CtxOk X' N (blkSc q scope) F → SndC X' ifs1 (evC F c)) (he : ∀ {X' : Cx}, CtxOk X' N (blkSc q scope) F → SndE X' e (ev F elt)) :
    ∃ wi : TI, PI X tg iter wi ∧ BlkOk X.N X.env.scope scope (ownOf N vs) ∧ (∀ i ∈ vs1, i ∈ (ownOf N vs).map (·.2)) ∧
      (∀ (s : Shared) (H : Hp) (a : Addr) (cl : List (Str × Addr)) (fp : List Addr), PG (X.blk s H scope (compEnvC scope cl a X.env) fp) tg (gT t)) ∧
      (∀ (s : Shared) (H : Hp) (a : Addr) (cl : List (Str × Addr)) (fp : List Addr), PTs (X.blk s H scope (compEnvC scope cl a X.env) fp) ifs (tT (evC F c0))) ∧
      (∀ (s : Shared) (H : Hp) (a : Addr) (cl : List (Str × Addr)) (fp : List Addr), PI (X.blk s H scope (compEnvC scope cl a X.env) fp) tg1 iter1 (tI (evI F it1))) ∧
      (∀ (s : Shared) (H : Hp) (a : Addr) (cl : List (Str × Addr)) (fp : List Addr), PG (X.blk s H scope (compEnvC scope cl a X.env) fp) tg1 (gT t1)) ∧
      (∀ (s : Shared) (H : Hp) (a : Addr) (cl : List (Str × Addr)) (fp : List Addr), PTs (X.blk s H scope (compEnvC scope cl a X.env) fp) ifs1 (tT (evC F c))) ∧
      (∀ (s : Shared) (H : Hp) (a : Addr) (cl : List (Str × Addr)) (fp : List Addr), PE (X.blk s H scope (compEnvC scope cl a X.env) fp) e (tE (ev F elt))) ∧
      ∀ A H σ ρ r ρ', Fit A H σ ρ → fComp2 t vs (evI F it) (evC F c0) (evI F it1) t1 vs1 (evC F c) (ev F elt) ρ = some (r, ρ') → ∀ Q : VK, (∀ A' H' v, Stp A H σ ρ A' H' σ ρ' → ResOk A' H H' σ ρ' v r → Q v H') →
        tLc2 wi (gT t) (tT (evC F c0)) (tI (evI F it1)) (gT t1) (tT (evC F c)) (tE (ev F elt)) ((ownOf N vs).map (·.2)) vs1 σ H Q := by
  obtain ⟨wi, pi, qi⟩ := hi
  have bo : BlkOk N q.sc scope (ownOf N vs) := blkOk_by h2
  have cb : ∀ (s : Shared) (H : Hp) (a : Addr) (cl : List (Str × Addr)) (fp : List Addr), CtxOk (X.blk s H scope (compEnvC scope cl a X.env) fp) N (blkSc q scope) F := fun s H a cl fp => C.blk s H scope a cl fp bo.kind
  have v1 : ∀ i ∈ vs1, i ∈ vs := fun i hi => by have := List.all_eq_true.mp h5 i hi; simpa using this
  refine ⟨wi, pi, by rw [C.N, C.sc]; exact bo, by rw [h1]; exact v1, fun s H a cl fp => (hg (cb s H a cl fp)).pg, fun s H a cl fp => (hc0 (cb s H a cl fp)).pts, fun s H a cl fp => (hi1 (cb s H a cl fp)).pi, fun s H a cl fp => (hg1 (cb s H a cl fp)).pg, fun s H a cl fp => (hc (cb s H a cl fp)).pts, fun s H a cl fp => (he (cb s H a cl fp)).pe, fun A H σ ρ r ρ' ft e Q k => ?_⟩
  rw [h1]
  exact comp2_core (fun i hi => by have := List.all_eq_true.mp h3 i hi; simpa using this) (fun i hi => by have := List.all_eq_true.mp h4 i hi; simpa using this) v1 qi ft e Q k
mutual
theorem snd_E : ∀ (e : E) {X : Cx} {q : Sc} {ex : Expr}, CtxOk X N q F → chkE N q e ex = true → P X F e ex
  | .var i, X, q, ex, C, h => by
    unfold chkE at h
    split at h
    · exact .of (snd_var C h) rfl
    · cases h
  | .int n, X, q, ex, C, h => by
    unfold chkE at h
    split at h
    · simp only [decide_eq_true_eq] at h; subst h
      exact .of (snd_flat pe_int (fun _ _ => .int) fun ρ => rfl) rfl
    · cases h
  | .bl b, X, q, ex, C, h => by
    unfold chkE at h
    split at h
    · simp only [decide_eq_true_eq] at h; subst h
      exact .of (snd_flat pe_bl (fun _ _ => .bool) fun ρ => rfl) rfl
    · cases h
  | .non, X, q, ex, C, h => by
    unfold chkE at h
    split at h
    · exact .of (snd_flat pe_non (fun _ _ => .none) fun ρ => rfl) rfl
    · cases h
  | .str s, X, q, ex, C, h => by
    unfold chkE at h
    split at h
    · simp only [decide_eq_true_eq] at h; subst h
      exact .of (snd_flat pe_str (fun _ _ => .str) fun ρ => rfl) rfl
    · cases h
  | .bin o a b, X, q, ex, C, h => by
    unfold chkE at h
    split at h
    · simp only [Bool.and_eq_true, decide_eq_true_eq] at h
      obtain ⟨⟨rfl, h1⟩, h2⟩ := h
      exact .of (snd_bin o ((snd_E a C h1).o C h1) ((snd_E b C h2).o C h2)) rfl
    · cases h
  | .neg a, X, q, ex, C, h => by
    unfold chkE at h
    split at h
    · simp only [Bool.and_eq_true, decide_eq_true_eq] at h
      obtain ⟨rfl, h1⟩ := h
      exact .of (snd_neg (snd_E a C h1).1) rfl
    · cases h
  | .no a, X, q, ex, C, h => by
    unfold chkE at h
    split at h
    · simp only [Bool.and_eq_true, decide_eq_true_eq] at h
      obtain ⟨rfl, h1⟩ := h
      have ih := snd_E a C h1
      exact ⟨snd_no ih.1, sndT_no ih.2.1, fun z => by cases z⟩
    · cases h
  | .cmp o a b, X, q, ex, C, h => by
    unfold chkE at h
    split at h
    · simp only [Bool.and_eq_true, decide_eq_true_eq, Bool.not_eq_true'] at h
      obtain ⟨⟨⟨rfl, hm⟩, h1⟩, h2⟩ := h
      have ia := (snd_E a C h1).o C h1
      have ib := (snd_E b C h2).o C h2
      exact ⟨snd_cmp C o hm ia ib, sndT_cmp C o hm ia ib, fun z => by cases z⟩
    · cases h
  | .cmp2 o p a b c, X, q, ex, C, h => by
    unfold chkE at h
    split at h
    · simp only [Bool.and_eq_true, decide_eq_true_eq, Bool.not_eq_true'] at h
      obtain ⟨⟨⟨⟨⟨rfl, rfl⟩, hm⟩, h1⟩, h2⟩, h3⟩ := h
      have ia := snd_E a C h1
      have ib := snd_E b C h2
      have ic := snd_E c C h3
      exact ⟨snd_cmp2 C o p hm ia.1 ib.1 ic.1, sndT_cmp2 C o p hm ia.1 ib.1 ic.1, fun z => by cases z⟩
    · cases h
  | .and a b, X, q, ex, C, h => by
    unfold chkE at h
    split at h
    · simp only [Bool.and_eq_true, decide_eq_true_eq] at h
      obtain ⟨⟨rfl, h1⟩, h2⟩ := h
      have ia := snd_E a C h1
      split at h2
      · have ib := snd_E b C h2
        have w := sndW_and ia.2.1 (sndW_and1 (pos := by assumption) ib.2.1)
        exact ⟨snd_and ia.1 (snd_one ib.1), w.t, fun _ => w⟩
      · have ib := snd_E b C h2
        have w := sndW_and ia.2.1 (ib.2.2 rfl)
        exact ⟨snd_and ia.1 ib.1, w.t, fun _ => w⟩
    · cases h
  | .or a b, X, q, ex, C, h => by
    unfold chkE at h
    split at h
    · simp only [Bool.and_eq_true, decide_eq_true_eq] at h
      obtain ⟨⟨rfl, h1⟩, h2⟩ := h
      have ia := snd_E a C h1
      split at h2
      · have ib := snd_E b C h2
        have w := sndW_or ia.2.1 (sndW_or1 (pos := by assumption) ib.2.1)
        exact ⟨snd_or ia.1 (snd_one ib.1), w.t, fun _ => w⟩
      · have ib := snd_E b C h2
        have w := sndW_or ia.2.1 (ib.2.2 rfl)
        exact ⟨snd_or ia.1 ib.1, w.t, fun _ => w⟩
    · cases h
  | .ite c a b, X, q, ex, C, h => by
    unfold chkE at h
    split at h
    · simp only [Bool.and_eq_true] at h
      obtain ⟨⟨h0, h1⟩, h2⟩ := h
      have ic := snd_E c C h0
      have ia := snd_E a C h1
      have ib := snd_E b C h2
      exact ⟨snd_if ic.2.1 ia.1 ib.1, sndT_if ic.2.1 ia.2.1 ib.2.1, fun z => by cases z⟩
    · cases h
  | .idx a i, X, q, ex, C, h => by
    unfold chkE at h
    split at h
    · simp only [Bool.and_eq_true] at h
      obtain ⟨⟨h0, h1⟩, h2⟩ := h
      exact .of (snd_idx C (plain_of h0) ((snd_E a C h1).o C h1) (snd_E i C h2).1) rfl
    · cases h
  | .slc a lo hi, X, q, ex, C, h => by
    unfold chkE at h
    split at h
    · simp only [Bool.and_eq_true] at h
      obtain ⟨⟨h0, h1⟩, h2⟩ := h
      exact .of (snd_slc ((snd_E a C h0).o C h0) (snd_O lo C h1) (snd_O hi C h2)) rfl
    · cases h
  | .rvs a, X, q, ex, C, h => by
    unfold chkE at h
    split at h
    · exact .of (snd_rvs ((snd_E a C h).o C h)) rfl
    · cases h
  | .dix i a b, X, q, ex, C, h => by
    unfold chkE at h
    split at h
    · simp only [Bool.and_eq_true] at h
      obtain ⟨⟨⟨⟨⟨⟨h0, h1⟩, h2⟩, h3⟩, h4⟩, h5⟩, h6⟩ := h
      exact .of (snd_dix C h2 (snd_px C a h3 h5) (snd_px C b h4 h6) (plain_of h0) (plain_of h1)) rfl
    · cases h
  | .dlen i, X, q, ex, C, h => by
    unfold chkE at h
    split at h
    · simp only [Bool.and_eq_true, decide_eq_true_eq] at h
      obtain ⟨⟨rfl, h1⟩, h2⟩ := h
      exact .of (snd_dlen C h1 h2) rfl
    · cases h
  | .dget i k, X, q, ex, C, h => by
    unfold chkE at h
    split at h
    · rename_i x px s pos
      simp only [Bool.and_eq_true] at h
      obtain ⟨⟨h0, h1⟩, h2⟩ := h
      have hn : NoSl s := by
        intro o i
        cases s <;> first | rfl | cases h0
      exact .of (snd_dget C h1 hn (snd_E k C h2).1) rfl
    · cases h
  | .din neg i k, X, q, ex, C, h => by
    unfold chkE at h
    split at h
    · simp only [Bool.and_eq_true, decide_eq_true_eq, Bool.not_eq_true'] at h
      obtain ⟨⟨⟨rfl, h1⟩, h2⟩, h3⟩ := h
      have g := fun pos => snd_din (pos := pos) C neg h1 h2 (snd_E k C h3).1
      exact ⟨(g _).1, (g _).2, fun z => by cases z⟩
    · cases h
  | .tup es, X, q, ex, C, h => by
    unfold chkE at h
    split at h
    · simp only [Bool.and_eq_true] at h
      exact .of (snd_tup (snd_Es es C h.2 h.1).1) rfl
    · cases h
  | .lst es, X, q, ex, C, h => by
    unfold chkE at h
    split at h
    · simp only [Bool.and_eq_true] at h
      exact .of (snd_lst (snd_Es es C h.2 h.1).1) rfl
    · cases h
  | .comp elt t it c vs, X, q, ex, C, h => by
    unfold chkE at h
    split at h
    · simp only [Bool.and_eq_true, decide_eq_true_eq] at h
      obtain ⟨⟨⟨⟨⟨⟨⟨⟨rfl, h1⟩, h2⟩, h3⟩, h4⟩, h5⟩, h6⟩, h7⟩, h8⟩ := h
      obtain ⟨wi, pi, bo, pg, pt, pe, qc⟩ := comp_parts C h1 h2 h3 h4 (snd_I it C h5) (fun C' => snd_T t C' h6) (fun C' => snd_C c C' h7) (fun C' => (snd_E elt C' h8).1)
      exact .of ⟨_, pe_lc C.calm C.nd pi bo pg pt pe (fun x => fold_of h1), qc⟩ rfl
    · cases h
  | .comp2 elt t it c0 t1 it1 c vs vs1, X, q, ex, C, h => by
    unfold chkE at h
    split at h
    · simp only [Bool.and_eq_true, decide_eq_true_eq] at h
      obtain ⟨⟨⟨⟨⟨⟨⟨⟨⟨⟨⟨⟨⟨⟨⟨rfl, rfl⟩, h1⟩, h1'⟩, h2⟩, h3⟩, h4⟩, h5⟩, h6⟩, k1⟩, k2⟩, k3⟩, k4⟩, k5⟩, k6⟩, k7⟩ := h
      obtain ⟨wi, pi, bo, hv, pg, pt, pi1, pg1, pt1, pe, qc⟩ := comp2_parts C h1 h2 h3 h4 h5 h6 (snd_I it C k1) (fun C' => snd_T t C' k2) (fun C' => snd_C c0 C' k3) (fun C' => snd_I it1 C' k4) (fun C' => snd_T t1 C' k5) (fun C' => snd_C c C' k6) (fun C' => (snd_E elt C' k7).1)
      exact .of ⟨_, pe_lc2 C.calm C.nd pi bo hv pg pt pi1 pg1 pt1 pe (fun x => fold_of h1) (fun env x => fold_of h1'), qc⟩ rfl
    · cases h
  | .setc srt elt t it c vs, X, q, ex, C, h => by
    unfold chkE at h
    split at h
    · simp only [Bool.and_eq_true, decide_eq_true_eq] at h
      obtain ⟨⟨⟨⟨⟨⟨⟨⟨⟨⟨rfl, hg⟩, rfl⟩, h1⟩, h2⟩, h3⟩, h4⟩, h5⟩, h6⟩, h7⟩, h8⟩ := h
      have hi := snd_I it C h5
      have bo : BlkOk N q.sc _ (ownOf N vs) := blkOk_by h3
      have cb : ∀ (s : Shared) (H : Hp) (a : Addr) (cl : List (Str × Addr)) (fp : List Addr), CtxOk (X.blk s H _ (compEnvC _ cl a X.env) fp) N (blkSc q _) F := fun s H a cl fp => C.blk s H _ a cl fp bo.kind
      obtain ⟨wi, pi, qi⟩ := hi
      refine .of (snd_setc C hg (fun i hi => by have := List.all_eq_true.mp h4 i hi; simpa using this) h2 qi pi (by rw [C.N, C.sc]; exact bo) (fun s H a cl fp => (snd_T t (cb s H a cl fp) h6).pg) (fun s H a cl fp => (snd_C c (cb s H a cl fp) h7).pts) (fun s H a cl fp => (snd_E elt (cb s H a cl fp) h8).1.pe) (fun x => fold_of h1)) rfl
    · cases h
  | .call f es, X, q, ex, C, h => by
    unfold chkE at h
    split at h
    · simp only [Bool.and_eq_true, decide_eq_true_eq, Bool.not_eq_true'] at h
      obtain ⟨⟨⟨⟨rfl, h1⟩, h2⟩, h3⟩, h4⟩ := h
      rename_i xs _
      have ih := snd_Es es C h4 h3
      cases xs with
      | nil =>
        have he : es = .nil := by
          cases es with
          | nil => rfl
          | cons _ _ => unfold chkEs at h4; cases h4
        subst he
        refine .of (snd_call0 C h1 h2 fun ks ρ os ρ' e => ?_) rfl
        cases ks with
        | nil => simp only [evA, Option.some.injEq, Prod.mk.injEq] at e; exact ⟨e.1.symm, e.2.symm⟩
        | cons k ks => cases k <;> simp [evA] at e
      | cons x r => exact .of (snd_call C h1 h2 h3 ih.2.2) rfl
    · cases h
  | .pcall f es, X, q, ex, C, h => by
    unfold chkE at h
    split at h
    · simp only [Bool.and_eq_true, decide_eq_true_eq, Bool.not_eq_true'] at h
      obtain ⟨⟨⟨⟨rfl, h1⟩, h2⟩, h3⟩, h4⟩ := h
      exact .of (snd_pcall C h1 h2 h3 (snd_pks es C h4 h3)) rfl
    · cases h
  | .blt b es, X, q, ex, C, h => by
    unfold chkE at h
    split at h
    · simp only [Bool.and_eq_true, decide_eq_true_eq, Bool.or_eq_true, Bool.not_eq_true', decide_eq_false_iff_not] at h
      obtain ⟨⟨⟨⟨rfl, h1⟩, h2⟩, h3⟩, h4⟩ := h
      have ih := (snd_Es es C h4 h3).2.1
      by_cases hb : b = .gcd
      · subst hb
        exact .of (snd_gcd C (h2.resolve_left fun z => z rfl) h1 h3 ih) rfl
      · exact .of (blt_ok C b hb h1 h3 ih) rfl
    · cases h
  | .isi a t, X, q, ex, C, h => by
    unfold chkE at h
    split at h
    · simp only [Bool.and_eq_true, decide_eq_true_eq] at h
      obtain ⟨⟨⟨⟨⟨rfl, rfl⟩, h1⟩, h2⟩, h3⟩, h4⟩ := h
      exact .of (snd_isi C t h1 h2 h3 ((snd_E a C h4).o C h4)) rfl
    · cases h
  | .len a, X, q, ex, C, h => by
    unfold chkE at h
    split at h
    · simp only [Bool.and_eq_true, decide_eq_true_eq] at h
      obtain ⟨⟨⟨rfl, h1⟩, h2⟩, h3⟩ := h
      exact .of (snd_len C h1 h2 ((snd_E a C h3).o C h3)) rfl
    · cases h
  | .rngs t it, X, q, ex, C, h => by
    unfold chkE at h
    split at h
    · simp only [Bool.and_eq_true, decide_eq_true_eq] at h
      obtain ⟨⟨⟨⟨rfl, h1⟩, h2⟩, h3⟩, h4⟩ := h
      cases it with
      | rng1 a =>
        unfold chkI at h4
        split at h4
        · simp only [Bool.and_eq_true, decide_eq_true_eq] at h4
          obtain ⟨⟨⟨rfl, z1⟩, z2⟩, z3⟩ := h4
          exact .of (snd_rngs1 C t rfl h1 z1 z2 (snd_E a C z3).1) rfl
        · cases h4
      | rng2 a b =>
        unfold chkI at h4
        split at h4
        · simp only [Bool.and_eq_true, decide_eq_true_eq] at h4
          obtain ⟨⟨⟨⟨⟨rfl, z1⟩, z2⟩, z3⟩, z4⟩, z5⟩ := h4
          exact .of (snd_rngs2 C t rfl h1 z1 z2 z3 (snd_E a C z4).1 (snd_E b C z5).1) rfl
        · cases h4
      | _ => cases h3
    · cases h
  | .meth m o a, X, q, ex, C, h => by
    unfold chkE at h
    split at h
    · simp only [Bool.and_eq_true, decide_eq_true_eq] at h
      obtain ⟨⟨⟨⟨⟨h1, rfl⟩, h2⟩, h3⟩, h4⟩, h5⟩ := h
      have ia := (snd_E a C h5).1
      cases o with
      | var i =>
        unfold chkE at h4
        have io := fun pos => sndO_var (pos := pos) (g := ev F (.var i)) C h4
        cases m with
        | count => exact .of (snd_mth mth_count PySem.F.slot_list_count PySem.F.type_list_count rfl h2 h3 (io _) ia) rfl
        | index => exact .of (snd_mth (mth_index C.un) PySem.F.slot_list_index PySem.F.type_list_index rfl h2 h3 (io _) ia) rfl
      | _ => cases h1
    · cases h
  | .chg m i es, X, q, ex, C, h => by
    unfold chkE at h
    split at h
    · simp only [Bool.and_eq_true, decide_eq_true_eq] at h
      obtain ⟨⟨⟨⟨⟨⟨h1, rfl⟩, h2⟩, h3⟩, h4⟩, h5⟩, h6⟩ := h
      rename_i xs _
      have ih := (snd_Es es C h6 h3).1
      have hn : i < N.length := by
        unfold nameB at h1
        simp only [Bool.and_eq_true, decide_eq_true_eq] at h1
        exact (List.getElem?_eq_some_iff.mp h1.1.1).1
      have nil_of : xs = [] → es = .nil := fun z => by
        subst z
        cases es with
        | nil => rfl
        | cons _ _ => unfold chkEs at h6; cases h6
      cases m with
      | append =>
        cases xs with
        | nil => cases h5
        | cons x r => exact .of (snd_chg C chg_append PySem.F.slot_list_append PySem.F.type_list_append h1 hn h3 h4 h2 ih) rfl
      | popAt =>
        cases xs with
        | nil => cases h5
        | cons x r => exact .of (snd_chg C chg_popAt PySem.F.slot_list_pop PySem.F.type_list_pop h1 hn h3 h4 h2 ih) rfl
      | pop =>
        cases xs with
        | nil =>
          cases nil_of rfl
          exact .of (snd_chg0 C chg_pop PySem.F.slot_list_pop PySem.F.type_list_pop h1 h2) rfl
        | cons x r => cases h5
      | reverse =>
        cases xs with
        | nil =>
          cases nil_of rfl
          exact .of (snd_chg0 C chg_reverse PySem.F.slot_list_reverse PySem.F.type_list_reverse h1 h2) rfl
        | cons x r => cases h5
      | insert =>
        cases xs with
        | nil => cases h5
        | cons x r => exact .of (snd_chg C chg_insert PySem.F.slot_list_insert PySem.F.type_list_insert h1 hn h3 h4 h2 ih) rfl
      | extend =>
        cases xs with
        | nil => cases h5
        | cons x r => exact .of (snd_chg C chg_extend PySem.F.slot_list_extend PySem.F.type_list_extend h1 hn h3 h4 h2 ih) rfl
      | remove =>
        cases xs with
        | nil => cases h5
        | cons x r => exact .of (snd_chg C (chg_remove C.un) PySem.F.slot_list_remove PySem.F.type_list_remove h1 hn h3 h4 h2 ih) rfl
    · cases h
theorem snd_O : ∀ (o : OE) {X : Cx} {q : Sc} {ex : Option Expr}, CtxOk X N q F → chkO N q o ex = true → SndPart X ex (evO F o)
  | .none, X, q, ex, C, h => by
    unfold chkO at h
    split at h
    · exact sndPart_none
    · cases h
  | .some e, X, q, ex, C, h => by
    unfold chkO at h
    split at h
    · exact sndPart_some (snd_E e C h).1
    · cases h
theorem snd_C : ∀ (o : OE) {X : Cx} {q : Sc} {ifs : List Expr}, CtxOk X N q F → chkC N q o ifs = true → SndC X ifs (evC F o)
  | .none, X, q, ex, C, h => by
    unfold chkC at h
    split at h
    · exact sndC_nil
    · cases h
  | .some e, X, q, ex, C, h => by
    unfold chkC at h
    split at h
    · exact sndC_one (snd_E e C h).2.1
    · cases h
theorem snd_I : ∀ (w : Wk) {X : Cx} {q : Sc} {tg ex : Expr}, CtxOk X N q F → chkI N q w tg ex = true → SndI X tg ex (evI F w)
  | .seq a, X, q, tg, ex, C, h => by
    unfold chkI at h
    exact sndI_seq ((snd_E a C h).o C h)
  | .rng1 a, X, q, tg, ex, C, h => by
    unfold chkI at h
    split at h
    · simp only [Bool.and_eq_true, decide_eq_true_eq] at h
      obtain ⟨⟨⟨rfl, h1⟩, h2⟩, h3⟩ := h
      exact sndI_rng1 C h1 h2 (snd_E a C h3).1
    · cases h
  | .rng2 a b, X, q, tg, ex, C, h => by
    unfold chkI at h
    split at h
    · simp only [Bool.and_eq_true, decide_eq_true_eq] at h
      obtain ⟨⟨⟨⟨⟨rfl, h1⟩, h2⟩, h3⟩, h4⟩, h5⟩ := h
      exact sndI_rng2 C h1 h2 h3 (snd_E a C h4).1 (snd_E b C h5).1
    · cases h
  | .enm a, X, q, tg, ex, C, h => by
    unfold chkI at h
    rw [Bool.and_eq_true] at h
    obtain ⟨ht, h⟩ := h
    cases tg <;> first
      | (cases ht; done)
      | (split at h
         · simp only [Bool.and_eq_true, decide_eq_true_eq] at h
           obtain ⟨⟨⟨rfl, h1⟩, h2⟩, h3⟩ := h
           exact sndI_enm C h1 h2 ((snd_E a C h3).o C h3)
         · cases h)
  | .zip a b, X, q, tg, ex, C, h => by
    unfold chkI at h
    rw [Bool.and_eq_true] at h
    obtain ⟨ht, h⟩ := h
    cases tg <;> first
      | (cases ht; done)
      | (split at h
         · simp only [Bool.and_eq_true, decide_eq_true_eq] at h
           obtain ⟨⟨⟨⟨⟨rfl, h1⟩, h2⟩, h3⟩, h4⟩, h5⟩ := h
           exact sndI_zip C h1 h2 h3 ((snd_E a C h4).o C h4) ((snd_E b C h5).o C h5)
         · cases h)
  | .rev a, X, q, tg, ex, C, h => by
    unfold chkI at h
    split at h
    · simp only [Bool.and_eq_true, decide_eq_true_eq] at h
      obtain ⟨⟨⟨rfl, h1⟩, h2⟩, h3⟩ := h
      exact sndI_rev C h1 h2 ((snd_E a C h3).o C h3)
    · cases h
  | .rrng1 a, X, q, tg, ex, C, h => by
    unfold chkI at h
    split at h
    · simp only [Bool.and_eq_true, decide_eq_true_eq] at h
      obtain ⟨⟨⟨⟨⟨rfl, rfl⟩, h0⟩, h1⟩, h2⟩, h3⟩ := h
      exact sndI_rrng1 C h0 h1 h2 (snd_E a C h3).1
    · cases h
  | .rrng2 a b, X, q, tg, ex, C, h => by
    unfold chkI at h
    split at h
    · simp only [Bool.and_eq_true, decide_eq_true_eq] at h
      obtain ⟨⟨⟨⟨⟨⟨⟨rfl, rfl⟩, h0⟩, h1⟩, h2⟩, h3⟩, h4⟩, h5⟩ := h
      exact sndI_rrng2 C h0 h1 h2 h3 (snd_E a C h4).1 (snd_E b C h5).1
    · cases h
  | .dwn a b, X, q, tg, ex, C, h => by
    unfold chkI at h
    split at h
    · simp only [Bool.and_eq_true, decide_eq_true_eq] at h
      obtain ⟨⟨⟨⟨⟨rfl, h1⟩, h2⟩, h3⟩, h4⟩, h5⟩ := h
      exact sndI_dwn C h1 h2 h3 (snd_E a C h4).1 (snd_E b C h5).1
    · cases h
theorem snd_Es : ∀ (es : Es) {X : Cx} {q : Sc} {xs : List Expr}, CtxOk X N q F → chkEs N q es xs = true → xs.all notStar = true → SndA X xs (evs F es) ∧ SndP X xs (evP F es) ∧ ∀ ks, SndP X xs (evA F ks es)
  | .nil, X, q, xs, C, h, st => by
    unfold chkEs at h
    split at h
    · refine ⟨sndA_nil, sndP_nil, fun ks => ?_⟩
      cases ks with
      | nil => exact sndP_nil
      | cons k ks =>
        refine ⟨_, pa_nil, fun A H σ ρ r ρ' ft e Q kk => ?_⟩
        cases k <;> simp [evA] at e
    · cases h
  | .cons e es, X, q, xs, C, h, st => by
    unfold chkEs at h
    split at h
    · rename_i x r
      rw [Bool.and_eq_true] at h
      rw [List.all_cons, Bool.and_eq_true] at st
      have ie := snd_E e C h.1
      have io := ie.o C h.1
      obtain ⟨i1, i2, i3⟩ := snd_Es es C h.2 st.2
      refine ⟨sndA_cons st.1 ie.1 i1, sndP_cons st.1 io i2, fun ks => ?_⟩
      cases ks with
      | nil =>
        obtain ⟨t, p, _⟩ := sndP_cons st.1 io i2
        refine ⟨t, p, fun A H σ ρ r ρ' ft e Q k => ?_⟩
        simp [evA] at e
      | cons k ks =>
        cases k with
        | B => exact sndP_cons st.1 io (i3 ks)
        | M => exact sndP_cons st.1 io (i3 ks)
        | I =>
          have := sndP_cons st.1 ie.1.ov (i3 ks)
          have e' : evA F (.I :: ks) (.cons e es) = fConsP (fun ρ => match ev F e ρ with | none => none | some (r, ρ1) => some (.v r.d, ρ1)) (evA F ks es) := by
            funext ρ
            simp only [evA, fConsP]
            cases ev F e ρ <;> rfl
          rw [e']
          exact this
    · cases h
end
end
end Ev


set_option maxRecDepth 100000
/-! Ev16: soundness of statements. -/
namespace Ev
open PySem L2
variable [TheK]
section
variable {N : List Str} {F : FT}
theorem cell_of {q : Sc} {x} (h : cellB q x = true) : q.sc.names.lookup x = some .cell := by
  unfold cellB at h
  split at h
  · assumption
  · cases h
theorem swaps_cell {X : Cx} {q : Sc} (C : CtxOk X N q F) {e : Expr} {x px l} (h : cellB q x = true) : swapsWith e (some (.Name x px)) l X.env = pure false := by
  have hk : X.env.kindOf x = some .cell := by
    show X.env.scope.names.lookup x = some .cell
    rw [C.sc]; exact cell_of h
  cases e <;> first | rfl | (unfold swapsWith; simp [hk, show (NameKind.cell == NameKind.local) = false from rfl])
theorem swaps_sub {e : Expr} {o i p l env} : swapsWithSole [.Subscript o i p] e l env = pure false := by cases e <;> rfl
theorem swaps_tup {e : Expr} {es k p l env} : swapsWithSole [.Tuple es k p] e l env = pure false := by cases e <;> rfl
theorem stores_sub {e : Expr} {o i p env} : swappedStores [.Subscript o i p] e env = pure none := by cases e <;> rfl
theorem stores_tup {e : Expr} {es k p env} (h : notTup e = true) : swappedStores [.Tuple es k p] e env = pure none := by
  cases e <;> first | rfl | cases h
theorem assign_sub {o ix : Expr} {spos env} (h : notSlice ix = true) : ∀ v, assign (.Subscript o ix spos) env v = (do
      let ov ← holding [v] (eval o env)
      let iv ← holding [v, ov] (eval ix env)
      standAt spos
      holding [v, ov, iv] (setItem ov iv v)
      release [v, ov, iv] []) := by
  intro v
  cases ix <;> first | rfl | cases h
theorem aug_sub {ix : Expr} (h : notSlice ix = true) : ∀ ov iv new, augStore ix ov iv new = (do holding [new, ov, iv] (setItem ov iv new); release [new, ov, iv] []; pure .next) := by
  intro ov iv new
  cases ix <;> first | rfl | cases h
theorem star_match : ∀ (e : Expr), notStar e = true → (match e with | .Starred .. => true | _ => false) = false := fun e h => by cases e <;> first | rfl | cases h
theorem stores_par {X : Cx} {q : Sc} (C : CtxOk X N q F) {x y : Str} {px py pt pt2 : Pos} {kt k2 : Nat} {a b : Expr} (h : parB q x y px py a b = true) :
    q.sc.names.lookup x = some .local ∧ q.sc.names.lookup y = some .local ∧ swappedStores [.Tuple [.Name x px, .Name y py] kt pt] (.Tuple [a, b] k2 pt2) X.env = pure (some [x, y]) := by
  unfold parB at h
  simp only [Bool.and_eq_true, Bool.not_eq_true'] at h
  obtain ⟨⟨⟨⟨⟨⟨⟨h1, h2⟩, h3⟩, h4⟩, h5⟩, h6⟩, h7⟩, h8⟩ := h
  have l1 : q.sc.names.lookup x = some .local := by
    split at h1
    · assumption
    · cases h1
  have l2 : q.sc.names.lookup y = some .local := by
    split at h2
    · assumption
    · cases h2
  refine ⟨l1, l2, ?_⟩
  have k1 : X.env.kindOf x = some .local := by show X.env.scope.names.lookup x = some .local; rw [C.sc]; exact l1
  have k2 : X.env.kindOf y = some .local := by show X.env.scope.names.lookup y = some .local; rw [C.sc]; exact l2
  have bk : X.env.blockKind = .function := by unfold PySem.Env.blockKind; rw [C.kd]; rfl
  have pl : py.line = px.line := (eq_of_beq h3).symm
  have ne : ¬ x = y := fun z => by subst z; simp at h4
  have ne2 : ¬ y = x := fun z => ne z.symm
  have sa := star_match a h5
  have sb := star_match b h6
  unfold swappedStores
  simp only [List.length_cons, List.length_nil, bk, List.any_cons, List.any_nil, sa, sb, List.filterMap_cons, List.filterMap_nil, k1, k2, Expr.pos, pl, h7, h8]
  have ne3 : (y == x) = false := by simp [ne2]
  simp [k1, k2, pl, ne3, List.eraseDups, List.eraseDupsBy, List.eraseDupsBy.loop, Expr.pos]
  intro h
  exfalso
  rcases h with h | h
  · exact absurd (h.symm.trans sa) (by decide)
  · exact absurd (h.symm.trans sb) (by decide)
theorem stores_cell {X : Cx} {q : Sc} (C : CtxOk X N q F) {es : List Expr} {v : Expr} {k : _} {p : Pos} (h : cellTup q (.Tuple es k p) v = true) : swappedStores [.Tuple es k p] v X.env = pure none := by
  unfold cellTup at h
  split at h
  · rename_i x px y py kt pt a b k2 pt2 heq
    cases heq
    have bk : X.env.blockKind = .function := by unfold PySem.Env.blockKind; rw [C.kd]; rfl
    have hc : ∀ z, cellB q z = true → (X.env.kindOf z == some .local) = false := fun z hz => by
      unfold cellB at hz
      split at hz
      · rename_i hz'
        have : X.env.kindOf z = some .cell := by show X.env.scope.names.lookup z = some .cell; rw [C.sc]; exact hz'
        rw [this]; rfl
      · cases hz
    unfold swappedStores
    simp only [List.length_cons, List.length_nil, bk, List.any_cons, List.any_nil, List.filterMap_cons, List.filterMap_nil, Expr.pos]
    rcases Bool.or_eq_true_iff.mp h with h | h
    · have := hc _ h
      simp [this]
      split
      · simp
      · simp
        intro _ h2
        exfalso
        revert h2
        split <;> simp
    · have := hc _ h
      simp [this]
      split
      · simp
      · simp
        intro _ h2
        exfalso
        revert h2
        split <;> simp
  · cases h
theorem stores_two {o i p o' i' p' k pt v env} : swappedStores [.Tuple [.Subscript o i p, .Subscript o' i' p'] k pt] v env = pure none := by
  cases v <;> first | rfl | skip
  rename_i vs k2 p2
  unfold swappedStores
  simp
mutual
theorem snd_S : ∀ (s : S) {X : Cx} {q : Sc} {st : Stmt}, CtxOk X N q F → chkS N q s st = true → SndS X st (ex F s)
  | .asg t e, X, q, st, C, h => by
    unfold chkS at h
    split at h
    · rename_i tg v pos
      cases t with
      | name i =>
        simp only at h
        split at h
        · rename_i x px
          simp only [Bool.and_eq_true, decide_eq_true_eq, Bool.or_eq_true, Bool.not_eq_true'] at h
          obtain ⟨⟨⟨h1, h2⟩, h3⟩, h4⟩ := h
          rcases h4 with (h4 | h4) | h4
          · exact snd_asgN C h1 h2 (swaps_no h4) (snd_E e C h3).1
          · -- a comprehension, stored from within its frame
            cases v with
            | ListComp elt' gens scope pos' =>
              cases e with
              | comp elt t it c vs =>
                unfold chkE at h3
                split at h3
                · rename_i e' tg iter ifs z scope' pos'' heq
                  cases heq
                  simp only [Bool.and_eq_true, decide_eq_true_eq] at h3
                  obtain ⟨⟨⟨⟨⟨⟨⟨⟨rfl, g1⟩, g2⟩, g3⟩, g4⟩, g5⟩, g6⟩, g7⟩, g8⟩ := h3
                  unfold swB at h4
                  simp only [Bool.and_eq_true, Bool.not_eq_true'] at h4
                  obtain ⟨⟨m1, m2⟩, m3⟩ := h4
                  have ll : q.sc.names.lookup x = some .local := by
                    split at m1
                    · assumption
                    · cases m1
                  have ll' : X.env.scope.names.lookup x = some .local := by rw [C.sc]; exact ll
                  obtain ⟨wi, pi, bo, pg, pt, pe, qc⟩ := comp_parts C g1 g2 g3 g4 (snd_I it C g5) (fun C' => snd_T t C' g6) (fun C' => snd_C c C' g7) (fun C' => (snd_E elt C' g8).1)
                  refine ⟨_, ps_setLc C.calm C.nd (by rw [C.N]; exact h1) ll' (sw_true C.kd ll' m2 m3) pi bo pg pt pe (fun x => fold_of g1), fun A H σ ρ o ρ' ft e Dn k => ?_⟩
                  have e' : fAsg (.name i) (fComp t vs (evI F it) (evC F c) (ev F elt)) ρ = some (o, ρ') := e
                  unfold fAsg at e'
                  split at e'
                  · cases e'
                  · rename_i r ρ1 e1
                    simp only [asgR] at e'
                    cases e2 : put i (slotOf r) ρ1 with
                    | none => rw [e2] at e'; cases e'
                    | some ρ2 =>
                      rw [e2] at e'
                      cases e'
                      exact qc A H σ ρ r ρ1 ft e1 _ fun A1 H1 v s1 ok => k A1 H1 _ (set_stp ft s1 ok e2)
                · cases h3
              | comp2 elt t it c0 t1 it1 c vs vs1 =>
                unfold chkE at h3
                split at h3
                · rename_i e' tg iter ifs z tg1 iter1 ifs1 z1 scope' pos'' heq
                  cases heq
                  simp only [Bool.and_eq_true, decide_eq_true_eq] at h3
                  obtain ⟨⟨⟨⟨⟨⟨⟨⟨⟨⟨⟨⟨⟨⟨⟨rfl, rfl⟩, g1⟩, g1'⟩, g2⟩, g3⟩, g4⟩, g5⟩, g6⟩, k1⟩, k2⟩, k3⟩, k4⟩, k5⟩, k6⟩, k7⟩ := h3
                  unfold swB at h4
                  simp only [Bool.and_eq_true, Bool.not_eq_true'] at h4
                  obtain ⟨⟨m1, m2⟩, m3⟩ := h4
                  have ll : q.sc.names.lookup x = some .local := by
                    split at m1
                    · assumption
                    · cases m1
                  have ll' : X.env.scope.names.lookup x = some .local := by rw [C.sc]; exact ll
                  obtain ⟨wi, pi, bo, hv, pg, pt, pi1, pg1, pt1, pe, qc⟩ := comp2_parts C g1 g2 g3 g4 g5 g6 (snd_I it C k1) (fun C' => snd_T t C' k2) (fun C' => snd_C c0 C' k3) (fun C' => snd_I it1 C' k4) (fun C' => snd_T t1 C' k5) (fun C' => snd_C c C' k6) (fun C' => (snd_E elt C' k7).1)
                  refine ⟨_, ps_setLc2 C.calm C.nd (by rw [C.N]; exact h1) ll' (sw_true C.kd ll' m2 m3) pi bo hv pg pt pi1 pg1 pt1 pe (fun x => fold_of g1) (fun env x => fold_of g1'), fun A H σ ρ o ρ' ft e Dn k => ?_⟩
                  have e' : fAsg (.name i) (fComp2 t vs (evI F it) (evC F c0) (evI F it1) t1 vs1 (evC F c) (ev F elt)) ρ = some (o, ρ') := e
                  unfold fAsg at e'
                  split at e'
                  · cases e'
                  · rename_i r ρ1 e1
                    simp only [asgR] at e'
                    cases e2 : put i (slotOf r) ρ1 with
                    | none => rw [e2] at e'; cases e'
                    | some ρ2 =>
                      rw [e2] at e'
                      cases e'
                      exact qc A H σ ρ r ρ1 ft e1 _ fun A1 H1 v s1 ok => k A1 H1 _ (set_stp ft s1 ok e2)
                · cases h3
              | _ =>
                exfalso
                unfold chkE at h3
                first | (cases h3; done) | (split at h3 <;> rename_i heq <;> cases heq)
            | _ => cases h4
          · exact snd_asgN C h1 h2 (swaps_cell C h4) (snd_E e C h3).1
        · cases h
      | tup ts =>
        simp only [Bool.and_eq_true] at h
        obtain ⟨⟨⟨h1, h2⟩, h3⟩, h4⟩ := h
        have ig := snd_T (.tup ts) C h3
        split at h2
        · refine snd_asgT (fun i z => by cases z) swaps_tup ?_ rfl ig (snd_E e C h4).1
          rcases Bool.or_eq_true_iff.mp h1 with h1 | h1
          · exact stores_tup h1
          · exact stores_cell C h1
        · cases h2
    · cases h
  | .par i j a b, X, q, st, C, h => by
    unfold chkS at h
    split at h
    · simp only [Bool.and_eq_true, decide_eq_true_eq] at h
      obtain ⟨⟨⟨⟨⟨h1, h2⟩, h3⟩, h4⟩, h5⟩, h6⟩ := h
      obtain ⟨l1, l2, l3⟩ := stores_par C h4
      have n1 : notStar _ = true := (by
        unfold parB at h4
        simp only [Bool.and_eq_true] at h4
        exact h4.1.1.1.2)
      have n2 : notStar _ = true := (by
        unfold parB at h4
        simp only [Bool.and_eq_true] at h4
        exact h4.1.1.2)
      have hs := sndA_cons n1 (snd_E a C h5).1 (sndA_cons n2 (snd_E b C h6).1 sndA_nil)
      obtain ⟨t, p, hq⟩ := snd_par C h1 h2 h3 l1 l2 l3 hs
      refine ⟨t, p, fun A H σ ρ o ρ' ft e Dn k => hq A H σ ρ o ρ' ft ?_ Dn k⟩
      rw [← e]
      simp only [ex, fPar, fCons]
      cases ev F a ρ with
      | none => rfl
      | some p1 =>
        simp only
        cases ev F b p1.2 with
        | none => rfl
        | some p2 => rfl
    · cases h
  | .aug o i e, X, q, st, C, h => by
    unfold chkS at h
    split at h
    · simp only [Bool.and_eq_true, decide_eq_true_eq] at h
      obtain ⟨⟨⟨⟨rfl, h1⟩, h2⟩, h3⟩, h4⟩ := h
      exact snd_aug C h1 h2 h3 (snd_E e C h4).1
    · cases h
  | .dset i a b e, X, q, st, C, h => by
    unfold chkS at h
    split at h
    · simp only [Bool.and_eq_true] at h
      obtain ⟨⟨⟨⟨⟨⟨⟨h0, h1⟩, h2⟩, h3⟩, h4⟩, h5⟩, h6⟩, h7⟩ := h
      exact snd_dset C h2 (snd_px C a h3 h5) (snd_px C b h4 h6) (plain_of h0) swaps_sub stores_sub (assign_sub h1) (snd_E e C h7).1
    · cases h
  | .dswp i a b, X, q, st, C, h => by
    unfold chkS at h
    split at h
    · simp only [Bool.and_eq_true, decide_eq_true_eq] at h
      obtain ⟨⟨⟨⟨⟨⟨⟨⟨⟨⟨⟨⟨⟨rfl, rfl⟩, rfl⟩, h1⟩, h2⟩, h3⟩, h4⟩, h5⟩, h6⟩, h7⟩, h8⟩, h9⟩, h10⟩, h11⟩ := h
      exact snd_dswp C h1 (snd_px C a h6 h8) (snd_px C b h7 h9) (snd_px C a h6 h10) (snd_px C b h7 h11) (plain_of h4) (plain_of h5) swaps_tup stores_two (assign_sub h2) (assign_sub h3)
    · cases h
  | .dcomp i elt t it c vs, X, q, st, C, h => by
    unfold chkS at h
    split at h
    · rename_i x0 px0 e0 tg0 iter0 ifs0 z0 scope0 p0 pos0
      simp only [Bool.and_eq_true, decide_eq_true_eq, Bool.or_eq_true] at h
      obtain ⟨⟨⟨⟨⟨⟨⟨⟨⟨⟨⟨h1, h2⟩, h4⟩, rfl⟩, g1⟩, g2⟩, g3⟩, g4⟩, g5⟩, g6⟩, g7⟩, g8⟩ := h
      obtain ⟨l1, l2⟩ := loc_of C h2
      obtain ⟨wi, pi, bo, pg, pt, pe, qc⟩ := dcomp_parts (i := i) C g1 g2 g3 g4 (snd_I it C g5) (fun C' => snd_T t C' g6) (fun C' => snd_C c C' g7) (fun C' => (snd_E elt C' g8).1)
      rcases h4 with h4 | h4
      · unfold swB at h4
        simp only [Bool.and_eq_true, Bool.not_eq_true'] at h4
        obtain ⟨⟨m1, m2⟩, m3⟩ := h4
        have ll : q.sc.names.lookup x0 = some .local := by
          split at m1
          · assumption
          · cases m1
        have ll' : X.env.scope.names.lookup x0 = some .local := by rw [C.sc]; exact ll
        refine ⟨_, ps_setLc C.calm C.nd (by rw [C.N]; exact h1) ll' (sw_true C.kd ll' m2 m3) pi bo pg pt pe (fun x => fold_of g1), fun A H σ ρ o ρ' ft e Dn k => ?_⟩
        refine qc A H σ ρ o ρ' ft e _ fun A1 H1 v eo s1 => ?_
        subst eo
        exact k A1 H1 _ s1
      · refine ⟨_, ps_set C.nd (by rw [C.N]; exact h1) l1 (pe_lc C.calm C.nd pi bo pg pt pe (fun x => fold_of g1)) (swaps_cell C h4) l2, fun A H σ ρ o ρ' ft e Dn k => ?_⟩
        refine qc A H σ ρ o ρ' ft e _ fun A1 H1 v eo s1 => ?_
        subst eo
        exact k A1 H1 _ s1
    · cases h
  | .dnew i k v, X, q, st, C, h => by
    unfold chkS at h
    split at h
    · simp only [Bool.and_eq_true, decide_eq_true_eq] at h
      obtain ⟨⟨⟨h1, h2⟩, h3⟩, h4⟩ := h
      exact snd_dnew C h1 h2 (snd_E k C h3).1 (snd_E v C h4).1
    · cases h
  | .dput i k v, X, q, st, C, h => by
    unfold chkS at h
    split at h
    · simp only [Bool.and_eq_true, Bool.not_eq_true'] at h
      obtain ⟨⟨⟨h1, h2⟩, h3⟩, h4⟩ := h
      exact snd_dput C h1 (swaps_no h2) (snd_E k C h3).1 (snd_E v C h4).1
    · cases h
  | .rse, X, q, st, C, h => by
    unfold chkS at h
    split at h
    · exact snd_rse
    · cases h
  | .setIx i ix e, X, q, st, C, h => by
    unfold chkS at h
    split at h
    · simp only [Bool.and_eq_true] at h
      obtain ⟨⟨⟨h1, h2⟩, h3⟩, h4⟩ := h
      exact snd_setIx C h1 swaps_sub stores_sub (assign_sub h2) (snd_E ix C h3).1 (snd_E e C h4).1
    · cases h
  | .augIx o i ix e, X, q, st, C, h => by
    unfold chkS at h
    split at h
    · simp only [Bool.and_eq_true, decide_eq_true_eq] at h
      obtain ⟨⟨⟨⟨⟨rfl, h1⟩, h2⟩, h3⟩, h4⟩, h5⟩ := h
      exact snd_augIx C h1 h2 (aug_sub h3) (snd_E ix C h4).1 (snd_E e C h5).1
    · cases h
  | .ex e, X, q, st, C, h => by
    unfold chkS at h
    split at h
    · simp only [Bool.and_eq_true, Bool.not_eq_true'] at h
      exact snd_ex h.1 (snd_E e C h.2).1
    · cases h
  | .ret e, X, q, st, C, h => by
    unfold chkS at h
    split at h
    · rename_i v pos
      cases e with
      | var i =>
        unfold chkE at h
        split at h
        · exact snd_retV C h
        · cases h
      | _ => exact snd_ret (snd_E _ C h).1
    · cases h
  | .retN, X, q, st, C, h => by
    unfold chkS at h
    split at h
    · exact snd_retN
    · cases h
  | .brk, X, q, st, C, h => by
    unfold chkS at h
    split at h
    · exact snd_brk
    · cases h
  | .cont, X, q, st, C, h => by
    unfold chkS at h
    split at h
    · exact snd_cont
    · cases h
  | .pass, X, q, st, C, h => by
    unfold chkS at h
    split at h
    · exact snd_pass
    · cases h
  | .ife c a b, X, q, st, C, h => by
    unfold chkS at h
    split at h
    · simp only [Bool.and_eq_true] at h
      obtain ⟨⟨h1, h2⟩, h3⟩ := h
      exact snd_ife (snd_E c C h1).2.1 (snd_Ss a C h2) (snd_Ss b C h3)
    · cases h
  | .whl n c b, X, q, st, C, h => by
    unfold chkS at h
    split at h
    · simp only [Bool.and_eq_true] at h
      exact snd_whl C n (snd_E c C h.1).2.1 (snd_Ss b C h.2)
    · cases h
  | .forr t it b, X, q, st, C, h => by
    unfold chkS at h
    split at h
    · simp only [Bool.and_eq_true] at h
      obtain ⟨⟨⟨h1, h2⟩, h3⟩, h4⟩ := h
      rename_i tg iter b' pos
      exact snd_for C (by cases iter <;> first | rfl | cases h1) (snd_I it C h2) (snd_T t C h3) (snd_Ss b C h4)
    · cases h
theorem snd_Ss : ∀ (s : Ss) {X : Cx} {q : Sc} {st : List Stmt}, CtxOk X N q F → chkSs N q s st = true → SndSs X st (exs F s)
  | .nil, X, q, st, C, h => by
    unfold chkSs at h
    split at h
    · exact sndSs_nil
    · cases h
  | .cons s ss, X, q, st, C, h => by
    unfold chkSs at h
    split at h
    · rw [Bool.and_eq_true] at h
      exact sndSs_cons (snd_S s C h.1) (snd_Ss ss C h.2)
    · cases h
end
end
end Ev

set_option maxRecDepth 100000
/-! Ev17: defs by level. -/
namespace Ev
open PySem L2
variable [TheK]
theorem kinds_at : ∀ {ks args} {i : Nat} {s : Slot}, kindsB ks args = true → args[i]? = some s → (mutS s = true → ks[i]? = some .M ∧ ∃ ds, s = .mu ds) ∧ s ≠ .un ∧ (∀ ds, s ≠ .lent ds) ∧ (ks[i]? = some .M → ∃ ds, s = .mu ds)
  | [], [], i, s, _, h => by simp at h
  | [], _ :: _, i, s, hk, h => by cases hk
  | k :: ks, [], i, s, hk, h => by cases k <;> cases hk
  | k :: ks, t :: args, 0, s, hk, h => by
    simp at h; subst h
    cases k <;> cases t <;> first | (cases hk; done) | (simp [mutS])
  | k :: ks, t :: args, i + 1, s, hk, h => by
    have hk' : kindsB ks args = true := by cases k <;> cases t <;> first | (cases hk; done) | exact hk
    simpa using kinds_at hk' (by simpa using h)
theorem kinds_nodp : ∀ {ks args} {i : Nat} {k d}, kindsB ks args = true → args[i]? = some (Slot.dp k d) → False
  | [], [], i, _, _, _, h => by simp at h
  | [], _ :: _, i, _, _, hk, h => by cases hk
  | k :: ks, [], i, _, _, hk, h => by cases k <;> cases hk
  | k :: ks, t :: args, 0, _, _, hk, h => by
    simp at h; subst h
    cases k <;> cases hk
  | k :: ks, t :: args, i + 1, _, _, hk, h => by
    have hk' : kindsB ks args = true := by cases k <;> cases t <;> first | (cases hk; done) | exact hk
    exact kinds_nodp hk' (by simpa using h)
theorem kinds_len : ∀ {ks args}, kindsB ks args = true → args.length = ks.length
  | [], [], _ => rfl
  | [], _ :: _, hk => by cases hk
  | k :: ks, [], hk => by cases k <;> cases hk
  | k :: ks, t :: args, hk => by
    have hk' : kindsB ks args = true := by cases k <;> cases t <;> first | (cases hk; done) | exact hk
    simp [kinds_len hk']
/-- the frame at its entry -/
theorem fit_start {A H} {N : List Str} {vs : List V} {args : List Slot} (f : Fit A H (vs.map some) args) (hN : args.length ≤ N.length) : Fit A H (start N vs) (args ++ List.replicate (N.length - args.length) .un) := by
  have hl : vs.length = args.length := by have := f.len; rwa [List.length_map] at this
  have inv : ∀ (i : Nat) (s : Slot), (args ++ List.replicate (N.length - args.length) .un)[i]? = some s → s = .un ∨ (args[i]? = some s ∧ (start N vs)[i]? = (vs.map some)[i]?) := fun i s h => by
    by_cases hi : i < args.length
    · rw [List.getElem?_append_left hi] at h
      refine .inr ⟨h, ?_⟩
      unfold L2.start
      rw [List.getElem?_append_left (by rw [List.length_map, hl]; exact hi)]
    · rw [List.getElem?_append_right (by omega)] at h
      exact .inl (List.eq_of_mem_replicate (List.mem_of_getElem? h))
  refine ⟨?_, fun i s ov h1 h2 => ?_, fun i j s t a ij h1 h2 h3 h4 h5 h6 => ?_, f.trk, f.prv_go (fun i k d h => ?_) (fun _ _ _ z => z) (fun _ _ _ z => z) fun j s a h1 h2 h3 => ?_⟩
  · unfold L2.start
    rw [List.length_append, List.length_map, List.length_replicate, List.length_append, List.length_replicate, hl]
  · rcases inv i s h1 with rfl | ⟨z, e⟩
    · trivial
    · rw [e] at h2; exact f.slot i s ov z h2
  · rcases inv i s h1 with rfl | ⟨z, e⟩
    · cases h3
    · rcases inv j t h2 with rfl | ⟨z', e'⟩
      · cases h4
      · rw [e] at h5; rw [e'] at h6
        exact f.apart i j s t a ij z z' h3 h4 h5 h6
  · rcases inv i _ h with e | z
    · cases e
    · exact z
  · rcases inv j s h1 with rfl | ⟨z, e⟩
    · cases h2
    · rw [e] at h3; exact .inl ⟨j, s, z, h2, h3⟩
theorem mut_start {N : List Str} {vs : List V} {args : List Slot} {a : Addr} (hl : vs.length = args.length) (m : Mut (start N vs) (args ++ List.replicate (N.length - args.length) .un) a) : Mut (vs.map some) args a := by
  obtain ⟨i, s, h1, h2, h3⟩ := m
  by_cases hi : i < args.length
  · rw [List.getElem?_append_left hi] at h1
    unfold L2.start at h3
    rw [List.getElem?_append_left (by rw [List.length_map, hl]; exact hi)] at h3
    exact ⟨i, s, h1, h2, h3⟩
  · rw [List.getElem?_append_right (by omega)] at h1
    cases List.eq_of_mem_replicate (List.mem_of_getElem? h1)
    cases h2
theorem start_at {N : List Str} {vs : List V} {i : Nat} {v : V} (h : vs[i]? = some v) : (start N vs)[i]? = some (some v) := by
  unfold L2.start
  have hi := (List.getElem?_eq_some_iff.mp h).1
  rw [List.getElem?_append_left (by rw [List.length_map]; exact hi), List.getElem?_map, h]
  rfl
/-- the lists behind the def's run -/
theorem outs_ok {A H} : ∀ {ks : List PK} {vs : List V} {σ : St} {ρ : Env} {outs}, outsOf ks ρ = some outs → vs.length = ks.length →
    (∀ (i : Nat) (v : V) (ds : List D), vs[i]? = some v → ks[i]? = some .M → ρ[i]? = some (.mu ds) → ∃ a ws, v = .ref a ∧ H a = some (.lst ws) ∧ ws.length ≤ sizeLine ∧ RepAll A H ws ds ∧ ¬ A a) → OutsOk A H ks vs outs
  | [], [], _, _, outs, e, _, _ => by simp [outsOf] at e; subst e; trivial
  | [], _ :: _, _, _, outs, e, hl, _ => by simp at hl
  | k :: ks, [], _, _, outs, e, hl, _ => by simp at hl
  | k :: ks, v :: vs, σ, ρ, outs, e, hl, h => by
    have hl' : vs.length = ks.length := by simpa using hl
    cases ρ with
    | nil => cases k <;> simp [outsOf] at e
    | cons s ρ =>
      have ih := fun outs e => outs_ok (σ := σ) (ks := ks) (vs := vs) (ρ := ρ) (outs := outs) e hl' fun i w ds h1 h2 h3 => h (i + 1) w ds (by simpa using h1) (by simpa using h2) (by simpa using h3)
      cases k with
      | B => exact ih outs (by cases s <;> exact e)
      | I => exact ih outs (by cases s <;> exact e)
      | M =>
        cases s with
        | mu ds =>
          simp only [outsOf] at e
          cases e1 : outsOf ks ρ with
          | none => rw [e1] at e; cases e
          | some r =>
            rw [e1] at e
            cases e
            exact ⟨h 0 v ds rfl rfl rfl, ih r e1⟩
        | _ => simp [outsOf] at e
theorem run_fin {A H N D0} {vs : List V} {args : List Slot} {r outs} {F : FT} {Q : VK} (f : Fit A H (vs.map some) args) (hN : args.length ≤ N.length) (hn : N.length = (D0 : Def).N.length) (e : runD F D0 args = some (r, outs))
    (k : ∀ (A' : Addr → Prop) (H' : Hp) (v : V), (∀ a, A a → A' a) → (∀ a o, H a = some o → ¬ Mut (vs.map some) args a → H' a = some o) → (∀ a, H' a = none → H a = none) →
      (∀ a, A' a → A a ∨ H a = none) → (∀ a, A' a → ∃ o, H' a = some o) → RetOk A' H H' v r → OutsOk A' H' D0.ks vs outs → Q v H') :
    ∃ o ρ', exs F D0.body (args ++ List.replicate (N.length - args.length) .un) = some (o, ρ') ∧ Kont A H (start N vs) (args ++ List.replicate (N.length - args.length) .un) { nx := fun _ H' => Q .non H', rt := Q } ρ' o := by
  have hl : vs.length = args.length := by have := f.len; rwa [List.length_map] at this
  unfold runD at e
  split at e
  · cases e
  · rename_i hk
    have hk : kindsB D0.ks args = true := by simpa using hk
    have hlk := kinds_len hk
    have np : ∀ a, ¬ Prv H (start N vs) (args ++ List.replicate (N.length - args.length) .un) a := fun a ⟨i, kk, d, v, h1, _, _⟩ => by
      by_cases hi : i < args.length
      · rw [List.getElem?_append_left hi] at h1
        exact kinds_nodp hk h1
      · rw [List.getElem?_append_right (by omega)] at h1
        cases List.eq_of_mem_replicate (List.mem_of_getElem? h1)
    rw [← hn] at e
    have go : ∀ (A' : Addr → Prop) (H' : Hp) (σ' : St) (ρ' : Env) (v : V) (r' : Res), Stp A H (start N vs) (args ++ List.replicate (N.length - args.length) .un) A' H' σ' ρ' → RtOk A' H H' σ' ρ' v r' → r' = r → outsOf D0.ks ρ' = some outs → Q v H' := fun A' H' σ' ρ' v r' s rt er eo => by
      subst er
      have at_args : ∀ (i : Nat) (t : Slot), args[i]? = some t → (args ++ List.replicate (N.length - args.length) .un)[i]? = some t := fun i t h => by
        rw [List.getElem?_append_left (List.getElem?_eq_some_iff.mp h).1]; exact h
      -- what is Mut at the entry is a parameter's list, and stays that
      have mutP : ∀ a, Mut (start N vs) (args ++ List.replicate (N.length - args.length) .un) a → ∃ (i : Nat) (ds' : List D), ρ'[i]? = some (.mu ds') ∧ σ'[i]? = some (some (.ref a)) := fun a m => by
        obtain ⟨i, t, h1, h2, h3⟩ := mut_start hl m
        obtain ⟨_, ds, rfl⟩ := (kinds_at hk h1).1 h2
        obtain ⟨e1, ds', e2⟩ := s.mus i ds (at_args i _ h1)
        have : vs[i]? = some (.ref a) := by
          rw [List.getElem?_map] at h3
          cases q : vs[i]? with
          | none => rw [q] at h3; cases h3
          | some v => rw [q] at h3; cases h3; rfl
        exact ⟨i, ds', e2, by rw [e1]; exact start_at this⟩
      refine k A' H' v s.ext (fun a o h n => s.frame a o h (fun m => n (mut_start hl m)) (np a)) s.dom (fun a h => ?_) s.fit.trk ?_ ?_
      · rcases s.news a h with z | z | z | z | ⟨i, ds, z1, z2⟩
        · exact .inl z
        · exact .inr z
        · obtain ⟨i, ds', z1, z2⟩ := mutP a z
          exact absurd h ((s.fit.slot i _ _ z1 z2).nofz rfl)
        · exact absurd z (np a)
        · by_cases hi : i < args.length
          · rw [List.getElem?_append_left hi] at z1
            exact absurd rfl ((kinds_at hk z1).2.2.1 ds)
          · rw [List.getElem?_append_right (by omega)] at z1
            cases List.eq_of_mem_replicate (List.mem_of_getElem? z1)
      · cases r' with
        | fr d => exact rt
        | nw ds =>
          obtain ⟨a, ws, h1, h2, h3, h4, h5, h6⟩ := rt
          refine ⟨a, ws, h1, h2, h3, h4, h5, ?_⟩
          rcases h6 with z | ⟨i, z1, z2⟩
          · exact z
          · rcases s.sub a ⟨i, _, z1, rfl, z2⟩ with m | m | m
            · obtain ⟨j, ds', y1, y2⟩ := mutP a m
              have ij : i ≠ j := fun z => by subst z; rw [z1] at y1; cases y1
              exact (s.fit.apart i j _ _ a ij z1 y1 rfl rfl z2 y2).elim
            · exact absurd m (np a)
            · exact m
      · refine outs_ok (σ := σ') eo (by rw [hl, hlk]) fun i v ds h1 h2 h3 => ?_
        have hi : i < args.length := by rw [← hl]; exact (List.getElem?_eq_some_iff.mp h1).1
        obtain ⟨ds0, h4⟩ := (kinds_at hk (List.getElem?_eq_getElem hi)).2.2.2 h2
        obtain ⟨e1, _⟩ := s.mus i ds0 (at_args i _ (by rw [List.getElem?_eq_getElem hi, h4]))
        rw [start_at h1] at e1
        obtain ⟨a, ws, z1, z2⟩ := s.fit.slot i _ _ h3 e1
        cases z1
        exact ⟨a, ws, rfl, z2⟩
    split at e
    · rename_i r' ρ' e1
      cases e2 : outsOf D0.ks ρ' with
      | none => rw [e2] at e; cases e
      | some o =>
        rw [e2] at e
        cases e
        exact ⟨_, ρ', e1, fun A' H' σ' v s rt => go A' H' σ' ρ' v r s rt rfl e2⟩
    · rename_i ρ' e1
      cases e2 : outsOf D0.ks ρ' with
      | none => rw [e2] at e; cases e
      | some o =>
        rw [e2] at e
        cases e
        exact ⟨_, ρ', e1, fun A' H' σ' s => go A' H' σ' ρ' .non (.fr .none) s .none rfl e2⟩
    · cases e

/-! ### the table -/
def namesOf (l : List String) : List Str := l.map Str.ofString
/-- a def of the table stands in the module as the syntax st -/
structure DefOk (K : PySem.W.Frag) (mg : Str → Option Value) (gcd : Bool) (d : Def) (st : Stmt) (ps : List Str) (f : Addr) (fd : FuncData) : Prop where
  at_ : mg (Str.ofString d.name) = some (.ref f)
  fn : FunD K (Str.ofString d.name) (Str.ofString d.name) (defArgs st) (defBody st) (defScope st) [] [] f fd
  bnd : Binds K fd ps []
  sc : FnScope (namesOf d.N) ps (defScope st)
  len : ps.length = d.ks.length
  lenN : d.ks.length ≤ d.N.length
  chk : chkSs (namesOf d.N) ⟨defScope st, fun _ => true, gcd⟩ d.body (defBody st) = true
def TabOk (K : PySem.W.Frag) (mg : Str → Option Value) (gcd : Bool) (T : Tab) : Prop := ∀ d ∈ T, ∃ st ps f fd, DefOk K mg gcd d st ps f fd
structure ModOk (K : PySem.W.Frag) (mg : Str → Option Value) (gcd : Bool) : Prop where
  kk : TheK.K = K
  bl : ∀ x, x ∈ bltNames → mg (Str.ofString x) = none
  gc : gcd = true → mg (Str.ofString "gcd") = some (.builtin "math.gcd")
section
variable {P : Program} {w : World} {K : PySem.W.Frag} {mg : Str → Option Value} {base : Heap} {gcd : Bool}
theorem def_ok {T : Tab} {d : Def} {st ps f fd} {k : Nat} (M : ModOk K mg gcd) (h : DefOk K mg gcd d st ps f fd)
    (ih : ∀ g ks fn, callF T k g = some (ks, fn) → ∃ (fa : Addr) (fd : FuncData) (ps : List Str), mg (Str.ofString g) = some (.ref fa) ∧ PySem.W.keepIn K (.ref fa) = true ∧ Binds K fd ps [] ∧ FnOk P w K mg base CX0 k fa fd ps (spOf ks fn)) :
    FnOk P w K mg base CX0 (k + 1) f fd ps (spOf d.ks (runD (callF T k) d)) := by
  refine h.fn.ok h.sc (fun vs H Q E hs => by rw [h.len]; exact hs.1) fun cdv A outer s H vs Q E hr hs => ?_
  obtain ⟨hl, Az, args, r, outs, ft, e, kk⟩ := hs
  have C : CtxOk (cxOf CX0 P w K mg base (namesOf d.N) (Str.ofString d.name) (defScope st) f cdv A outer s H E).nox (namesOf d.N) ⟨defScope st, fun _ => true, gcd⟩ (callF T k) :=
    { N := rfl, nd := h.sc.nd, sc := rfl, fn := rfl, calm := rfl, nox := rfl, bl := M.bl, un := (by
        have := hr.un
        show (A.deeper (PyProof.Rows.envOfC (Str.ofString d.name) (defScope st) s.heap.objs.size f cdv)).units + 65 < cLine
        omega), kk := M.kk, kd := h.sc.kind, gc := M.gc
      fns := fun g ks fn hg => by
        obtain ⟨fa, fd', ps', z1, z2, z3, z4⟩ := ih g ks fn hg
        exact ⟨fa, fd', ps', k, z1, z2, z3, hr, z4⟩ }
  obtain ⟨t, pt, qt⟩ := snd_Ss d.body C h.chk
  have hal : args.length = vs.length := by have := ft.len; rw [List.length_map] at this; exact this.symm
  have hN : args.length ≤ (namesOf d.N).length := by
    rw [hal, hl]; unfold namesOf; rw [List.length_map]; exact h.lenN
  obtain ⟨o, ρ', e1, k1⟩ := run_fin ft hN (by unfold namesOf; rw [List.length_map]) e kk
  exact ⟨t, pt.nox, qt Az H _ _ o ρ' (fit_start ft hN) e1 _ k1⟩
theorem tab_ok {T : Tab} (M : ModOk K mg gcd) (h : TabOk K mg gcd T) : ∀ k g ks fn, callF T k g = some (ks, fn) → ∃ (fa : Addr) (fd : FuncData) (ps : List Str), mg (Str.ofString g) = some (.ref fa) ∧ PySem.W.keepIn K (.ref fa) = true ∧ Binds K fd ps [] ∧ FnOk P w K mg base CX0 k fa fd ps (spOf ks fn)
  | 0, g, ks, fn, e => by simp [callF] at e
  | k + 1, g, ks, fn, e => by
    simp only [callF] at e
    split at e
    · cases e
    · rename_i d hd
      cases e
      have hm : d ∈ T := List.mem_of_find?_eq_some hd
      have hn : d.name = g := by have := List.find?_some hd; simpa using this
      obtain ⟨st, ps, f, fd, ok⟩ := h d hm
      subst hn
      exact ⟨f, fd, ps, ok.at_, ok.fn.kp, ok.bnd, def_ok M ok fun g' ks' fn' e' => tab_ok M h k g' ks' fn' e'⟩
/-- the law's call, of a script -/
theorem law_sp {fn : Fn} {H : Hp} {a : Addr} {ns : List Int} {K : PySem.W.Frag} (kk : TheK.K = K) (hl : ns.length ≤ sizeLine) (hO : Only H) (hS : SqL K H a (ns.map V.int)) (e : fn [.ro (ns.map .int)] = some (.fr (.bool true), [])) :
    spOf [.B] fn [.ref a] H (fun v _ => v = .bl true) fun _ _ _ => False := by
  refine ⟨rfl, fun _ => False, [.ro (ns.map .int)], .fr (.bool true), [], ⟨rfl, fun i s ov h1 h2 => ?_, fun i j s t b ij h1 h2 h3 => ?_, fun _ z => z.elim, fun i k d v a h1 => ?_⟩, e, fun A' H' v _ _ _ _ _ r _ => by cases r; rfl⟩
  · cases i with
    | zero =>
      simp at h1 h2
      subst h1 h2
      refine ⟨a, ns.map V.int, rfl, ?_, by rw [List.length_map]; exact hl, rep_ints ns⟩
      rcases hS with (hS | ⟨o, hS⟩) | hS
      · rcases hO a with z | ⟨o, xs, z⟩
        · rw [hS] at z; cases z
        · rw [hS] at z; cases z
      · exact .inl ⟨o, hS⟩
      · exact .inr (by rw [kk]; exact hS)
    | succ i => simp at h1
  · cases i with
    | zero => simp at h1; subst h1; cases h3
    | succ i => simp at h1
  · cases i with
    | zero => simp at h1
    | succ i => simp at h1
end
end Ev

set_option maxRecDepth 100000
/-! Ev18: the head's facts for a table of defs. -/
namespace Ev
open PySem L2
def gcdB (K : PySem.W.Frag) : Bool := He.eqO (PySem.W.nsIn K mainGlobals (Str.ofString "gcd")) (some (some (.builtin "math.gcd")))
abbrev AlG : Type := He.AlD × Bool
def obsGG (n : Nat) (fa : List He.Fa) (fn : List He.DefD) (g : Bool) (h : Addr → Option Obj) : AlG := (He.obsDG n fa fn h, !g || gcdB (He.frG h (He.asD h n)))
def SaysG (fa : List He.Fa) (fn : List He.DefD) (g : Bool) (K : PySem.W.Frag) : Prop := He.SaysD fa fn K ∧ (!g || gcdB K) = true
def hookG (n : Nat) (fa : List He.Fa) (fn : List He.DefD) (g : Bool) : PySem.W.Hook where
  α := AlG
  obs := fun s => obsGG n fa fn g s.heap.get?
  val := fun _ => (He.valD fn, true)
  says := fun _ h => ∃ K : PySem.W.Frag, K.In h ∧ SaysG fa fn g K
  of := fun _ _ e => ⟨_, He.frG_in, congrArg (fun z : AlG => z.1) e, congrArg (fun z : AlG => z.2) e⟩
  keeps := fun _ _ _ ⟨K, hK, c⟩ k => ⟨K, PySem.W.Frag.In.keeps hK k, c⟩
theorem obsGG_eq {n : Nat} {fa : List He.Fa} {fn : List He.DefD} {g : Bool} {h : Addr → Option Obj} {s : Shared} (e : ∀ a, h a = s.heap.get? a) : obsGG n fa fn g h = (hookG n fa fn g).obs s := by
  have e : h = s.heap.get? := funext e
  rw [e] <;> rfl
section
variable [TheK] {P : Program} {w : World} {K : PySem.W.Frag} {h : Heap} {mg : Str → Option Value} {base : Heap} {g : Bool}
theorem mod_ok {fa : List He.Fa} {fn : List He.DefD} (kk : TheK.K = K) (X : K.In h) (G : h.Ns mainGlobals mg) (c : SaysG fa fn g K) (hb : ∀ x, x ∈ bltNames → ∃ i : Nat, fa[i]? = some (He.Fa.free (Str.ofString x))) : ModOk K mg g where
  kk := kk
  bl := fun x hx => by
    obtain ⟨i, hi⟩ := hb x hx
    exact He.free_ok X G (c.1.fact i hi)
  gc := fun hg => by
    have := c.2
    rw [hg] at this
    exact PySem.W.mg_of X G (He.eqO_ok this)
theorem law_fn {T : Tab} {d : Def} {st ps f fd} {k : Nat} (M : ModOk K mg g) (TB : TabOk K mg g T) (h : DefOk K mg g d st ps f fd) : FnOk P w K mg base CX0 (k + 1) f fd ps (spOf d.ks (runD (callF T k) d)) :=
  def_ok M h (tab_ok M TB k)
end
end Ev

set_option maxRecDepth 100000
/-! Lw: the evaluator's equations as simp rules that go step by step: what comes behind a step is not looked at before the step has its value. -/
namespace Ev
open PySem L2
/-! ### combinators: what comes behind stands in an instance, at which simp does not look -/
class Kt (α β : Type) where
  f : α → Option β
class K2 (β : Type) where
  a : Option β
  b : Option β
def bd {α β : Type} (x : Option α) [k : Kt α β] : Option β := match x with
  | none => none
  | some a => k.f a
@[simp] theorem bd_some {α β : Type} (a : α) [k : Kt α β] : bd (some a) (k := k) = k.f a := id rfl
@[simp] theorem bd_none {α β : Type} [k : Kt α β] : bd none (k := k) = none := id rfl
open Classical in
noncomputable def gd {β : Type} (c : Prop) (x : Option β) : Option β := if c then x else none
theorem if_gd {β : Type} (c : Prop) [Decidable c] (x : Option β) : (if c then x else none) = gd c x := by
  unfold gd; by_cases h : c <;> simp [h]
@[simp] theorem gd_pos {β : Type} {c : Prop} {x : Option β} (h : c) : gd c x = x := if_pos h
def brB {β : Type} (t : Bool) [k : K2 β] : Option β := match t with
  | true => k.a
  | false => k.b
@[simp] theorem brB_true {β : Type} [k : K2 β] : brB true (k := k) = k.a := id rfl
@[simp] theorem brB_false {β : Type} [k : K2 β] : brB false (k := k) = k.b := id rfl
def iteR (t : Bool) [k : K2 (Res × Env)] : Option (Res × Env) := brB t
@[simp] theorem iteR_true [k : K2 (Res × Env)] : iteR true (k := k) = k.a := id rfl
@[simp] theorem iteR_false [k : K2 (Res × Env)] : iteR false (k := k) = k.b := id rfl
def andR (t : Bool) (A : Option (Res × Env)) (ρ : Env) : Option (Res × Env) := match t with
  | true => A
  | false => some (.fr (.bool false), ρ)
@[simp] theorem andR_true (A ρ) : andR true A ρ = A := id rfl
@[simp] theorem andR_false (A ρ) : andR false A ρ = some (.fr (.bool false), ρ) := id rfl
@[simp] theorem andR_some (t u ρ) : andR t (some (.fr (.bool u), ρ)) ρ = some (.fr (.bool (t && u)), ρ) := by cases t <;> rfl
def orR (t : Bool) (A : Option (Res × Env)) (ρ : Env) : Option (Res × Env) := match t with
  | true => some (.fr (.bool true), ρ)
  | false => A
@[simp] theorem orR_true (A ρ) : orR true A ρ = some (.fr (.bool true), ρ) := id rfl
@[simp] theorem orR_false (A ρ) : orR false A ρ = A := id rfl
@[simp] theorem orR_some (t u ρ) : orR t (some (.fr (.bool u), ρ)) ρ = some (.fr (.bool (t || u)), ρ) := by cases t <;> rfl
def intR : Res → Option Int
  | .fr (.int i) => some i
  | _ => none
@[simp] theorem intR_int (i) : intR (.fr (.int i)) = some i := id rfl
def boolR : Res → Option Bool
  | .fr (.bool i) => some i
  | _ => none
@[simp] theorem boolR_bool (i) : boolR (.fr (.bool i)) = some i := id rfl
def sq (x : Option (Out × Env)) [k : Kt Env (Out × Env)] : Option (Out × Env) := match x with
  | some (.next, ρ) => k.f ρ
  | x => x
@[simp] theorem sq_next (ρ) [k : Kt Env (Out × Env)] : sq (some (.next, ρ)) (k := k) = k.f ρ := id rfl
@[simp] theorem sq_ret (r ρ) [k : Kt Env (Out × Env)] : sq (some (.ret r, ρ)) (k := k) = some (.ret r, ρ) := id rfl
@[simp] theorem sq_brk (ρ) [k : Kt Env (Out × Env)] : sq (some (.brk, ρ)) (k := k) = some (.brk, ρ) := id rfl
@[simp] theorem sq_cont (ρ) [k : Kt Env (Out × Env)] : sq (some (.cont, ρ)) (k := k) = some (.cont, ρ) := id rfl
/-- behind a loop's turn -/
def fq (x : Option (Out × Env)) [k : Kt Env (Out × Env)] : Option (Out × Env) := match x with
  | none => none
  | some (.next, ρ) => k.f ρ
  | some (.cont, ρ) => k.f ρ
  | some (.brk, ρ) => some (.next, ρ)
  | some (.ret r, ρ) => some (.ret r, ρ)
@[simp] theorem fq_next (ρ) [k : Kt Env (Out × Env)] : fq (some (.next, ρ)) (k := k) = k.f ρ := id rfl
@[simp] theorem fq_cont (ρ) [k : Kt Env (Out × Env)] : fq (some (.cont, ρ)) (k := k) = k.f ρ := id rfl
@[simp] theorem fq_brk (ρ) [k : Kt Env (Out × Env)] : fq (some (.brk, ρ)) (k := k) = some (.next, ρ) := id rfl
@[simp] theorem fq_ret (r ρ) [k : Kt Env (Out × Env)] : fq (some (.ret r, ρ)) (k := k) = some (.ret r, ρ) := id rfl
@[simp] theorem forL_nil (b ρ) : forL b [] ρ = some (.next, ρ) := id rfl
@[simp] theorem forL_cons (b d ds ρ) : forL b (d :: ds) ρ = fq (b d ρ) (k := ⟨fun ρ2 => forL b ds ρ2⟩) := by
  rw [forL]; rcases b d ρ with _ | ⟨o, ρ2⟩
  · rfl
  · cases o <;> rfl
def getAll (ρ : Env) : List Opd → Option (List D)
  | [] => some []
  | o :: os => bd (o.get ρ) (k := ⟨fun d => bd (getAll ρ os) (k := ⟨fun ds => some (d :: ds)⟩)⟩)
theorem mapM_get (ρ : Env) : ∀ l : List Opd, l.mapM (Opd.get ρ) = getAll ρ l
  | [] => rfl
  | o :: l => by
    rw [List.mapM_cons, mapM_get ρ l, getAll]
    cases Opd.get ρ o <;> cases getAll ρ l <;> rfl
@[simp] theorem getAll_nil (ρ) : getAll ρ [] = some [] := id rfl
@[simp] theorem getAll_cons (ρ o l) : getAll ρ (o :: l) = bd (o.get ρ) (k := ⟨fun d => bd (getAll ρ l) (k := ⟨fun ds => some (d :: ds)⟩)⟩) := id rfl
theorem map_bd {α β : Type} (x : Option α) (f : α → β) : x.map f = bd x (k := ⟨fun a => some (f a)⟩) := by cases x <;> rfl
theorem bind_bd {α β : Type} (x : Option α) (f : α → Option β) : x.bind f = bd x (k := ⟨f⟩) := by cases x <;> rfl
@[simp] theorem sizeLine_eq : sizeLine = 16777216 := by decide

/-! ### expressions -/
section
variable {F : FT} {ρ : Env}
@[simp] theorem ev_var (i) : ev F (.var i) ρ = freeze i ρ := by simp only [ev]
@[simp] theorem ev_int (n) : ev F (.int n) ρ = some (.fr (.int n), ρ) := by simp only [ev]
@[simp] theorem ev_bl (b) : ev F (.bl b) ρ = some (.fr (.bool b), ρ) := by simp only [ev]
@[simp] theorem ev_non : ev F .non ρ = some (.fr .none, ρ) := by simp only [ev]
@[simp] theorem ev_str (s) : ev F (.str s) ρ = some (.fr (.str (Str.ofString s)), ρ) := by simp only [ev]
@[simp] theorem ev_bin (o a b) : ev F (.bin o a b) ρ = bd (opd a (ev F a) ρ) (k := ⟨fun p => bd (opd b (ev F b) p.2) (k := ⟨fun q => bd (p.1.get q.2) (k := ⟨fun da => bd (q.1.get q.2) (k := ⟨fun db => bd (dBin o da db) (k := ⟨fun r => some (r, q.2)⟩)⟩)⟩)⟩)⟩) := by
  simp only [ev]
  rcases opd a (ev F a) ρ with _ | ⟨oa, ρ1⟩
  · rfl
  · simp only [bd_some]
    rcases opd b (ev F b) ρ1 with _ | ⟨ob, ρ2⟩
    · rfl
    · simp only [bd_some]
      cases Opd.get ρ2 oa <;> cases Opd.get ρ2 ob <;> simp [map_bd]
@[simp] theorem ev_cmp (o a b) : ev F (.cmp o a b) ρ = bd (opd a (ev F a) ρ) (k := ⟨fun p => bd (opd b (ev F b) p.2) (k := ⟨fun q => bd (p.1.get q.2) (k := ⟨fun da => bd (q.1.get q.2) (k := ⟨fun db => bd (dCmp o da db) (k := ⟨fun r => some (.fr (.bool r), q.2)⟩)⟩)⟩)⟩)⟩) := by
  simp only [ev]
  rcases opd a (ev F a) ρ with _ | ⟨oa, ρ1⟩
  · rfl
  · simp only [bd_some]
    rcases opd b (ev F b) ρ1 with _ | ⟨ob, ρ2⟩
    · rfl
    · simp only [bd_some]
      cases Opd.get ρ2 oa <;> cases Opd.get ρ2 ob <;> simp [map_bd]
@[simp] theorem ev_neg (a) : ev F (.neg a) ρ = bd (ev F a ρ) (k := ⟨fun p => bd (intR p.1) (k := ⟨fun i => some (.fr (.int (-i)), p.2)⟩)⟩) := by
  simp only [ev]
  rcases ev F a ρ with _ | ⟨r, ρ1⟩
  · rfl
  · rcases r with d | d
    · cases d <;> rfl
    · rfl
@[simp] theorem ev_no (a) : ev F (.no a) ρ = bd (ev F a ρ) (k := ⟨fun p => bd (boolR p.1) (k := ⟨fun i => some (.fr (.bool (!i)), p.2)⟩)⟩) := by
  simp only [ev]
  rcases ev F a ρ with _ | ⟨r, ρ1⟩
  · rfl
  · rcases r with d | d
    · cases d <;> rfl
    · rfl
@[simp] theorem ev_cmp2 (o p a b c) : ev F (.cmp2 o p a b c) ρ = bd (ev F a ρ) (k := ⟨fun x => bd (ev F b x.2) (k := ⟨fun y => bd (dCmp o x.1.d y.1.d) (k := ⟨fun t => andR t (bd (ev F c y.2) (k := ⟨fun z => bd (dCmp p y.1.d z.1.d) (k := ⟨fun r => some (.fr (.bool r), z.2)⟩)⟩)) y.2⟩)⟩)⟩) := by
  simp only [ev]
  rcases ev F a ρ with _ | ⟨ra, ρ1⟩
  · rfl
  · simp only [bd_some]
    rcases ev F b ρ1 with _ | ⟨rb, ρ2⟩
    · rfl
    · simp only [bd_some]
      rcases dCmp o ra.d rb.d with _ | t
      · rfl
      · cases t
        · rfl
        · simp only [bd_some, andR_true]
          rcases ev F c ρ2 with _ | ⟨rc, ρ3⟩
          · rfl
          · simp only [bd_some, map_bd]
@[simp] theorem ev_and (a b) : ev F (.and a b) ρ = bd (ev F a ρ) (k := ⟨fun p => bd (boolR p.1) (k := ⟨fun t => andR t (ev F b p.2) p.2⟩)⟩) := by
  simp only [ev]
  rcases ev F a ρ with _ | ⟨r, ρ1⟩
  · rfl
  · rcases r with d | d
    · cases d with
      | bool t => cases t <;> rfl
      | _ => rfl
    · rfl
@[simp] theorem ev_or (a b) : ev F (.or a b) ρ = bd (ev F a ρ) (k := ⟨fun p => bd (boolR p.1) (k := ⟨fun t => orR t (ev F b p.2) p.2⟩)⟩) := by
  simp only [ev]
  rcases ev F a ρ with _ | ⟨r, ρ1⟩
  · rfl
  · rcases r with d | d
    · cases d with
      | bool t => cases t <;> rfl
      | _ => rfl
    · rfl
@[simp] theorem ev_ite (c a b) : ev F (.ite c a b) ρ = bd (ev F c ρ) (k := ⟨fun p => bd (boolR p.1) (k := ⟨fun t => iteR t (k := ⟨(ev F a p.2), (ev F b p.2)⟩)⟩)⟩) := by
  simp only [ev]
  rcases ev F c ρ with _ | ⟨r, ρ1⟩
  · rfl
  · rcases r with d | d
    · cases d with
      | bool t => cases t <;> rfl
      | _ => rfl
    · rfl
@[simp] theorem ev_idx (a i) : ev F (.idx a i) ρ = bd (opd a (ev F a) ρ) (k := ⟨fun p => bd (ev F i p.2) (k := ⟨fun q => bd (p.1.getR q.2) (k := ⟨fun da => bd (dIdx da q.1.d) (k := ⟨fun d => some (.fr d, q.2)⟩)⟩)⟩)⟩) := by
  simp only [ev]
  rcases opd a (ev F a) ρ with _ | ⟨oa, ρ1⟩
  · rfl
  · simp only [bd_some]
    rcases ev F i ρ1 with _ | ⟨ob, ρ2⟩
    · rfl
    · simp only [bd_some]
      cases Opd.getR ρ2 oa <;> simp [map_bd]
@[simp] theorem ev_slc (a lo hi) : ev F (.slc a lo hi) ρ = bd (opd a (ev F a) ρ) (k := ⟨fun p => bd (evO F lo p.2) (k := ⟨fun l => bd (evO F hi l.2) (k := ⟨fun h => bd (p.1.get h.2) (k := ⟨fun da => bd (dSlc da l.1 h.1) (k := ⟨fun r => some (r, h.2)⟩)⟩)⟩)⟩)⟩) := by
  simp only [ev]
  rcases opd a (ev F a) ρ with _ | ⟨oa, ρ1⟩
  · rfl
  · simp only [bd_some]
    rcases evO F lo ρ1 with _ | ⟨l, ρ2⟩
    · rfl
    · simp only [bd_some]
      rcases evO F hi ρ2 with _ | ⟨h, ρ3⟩
      · rfl
      · simp only [bd_some]
        cases Opd.get ρ3 oa <;> simp [map_bd]
def dctR (s : Option Slot) : Option (List (Int × D)) := match s with
  | some (.dct kvs) => some kvs
  | _ => none
@[simp] theorem dctR_some (kvs) : dctR (some (.dct kvs)) = some kvs := id rfl
theorem dctB_of {ρ : Env} {i : Nat} : dctB ρ i = (dctR ρ[i]?).isSome := by
  unfold dctB
  rcases ρ[i]? with _ | s
  · rfl
  · cases s <;> rfl
theorem dGetS_of {ρ : Env} {i : Nat} {k} : dGetS ρ i k = bd (dctR ρ[i]?) (k := ⟨fun kvs => kvGet kvs k⟩) := by
  unfold dGetS
  rcases ρ[i]? with _ | s
  · rfl
  · cases s <;> rfl
theorem dInS_of {ρ : Env} {i : Nat} {k} : dInS ρ i k = bd (dctR ρ[i]?) (k := ⟨fun kvs => some (kvGet kvs k).isSome⟩) := by
  unfold dInS
  rcases ρ[i]? with _ | s
  · rfl
  · cases s <;> rfl
theorem dPutS_of {ρ : Env} {i : Nat} {k d} : dPutS ρ i k d = bd (dctR ρ[i]?) (k := ⟨fun kvs => gd (kvs.length < sizeLine) (some (ρ.set i (.dct (kvPut kvs k d))))⟩) := by
  unfold dPutS
  rcases h : ρ[i]? with _ | s
  · rfl
  · cases s <;> first | rfl | exact if_gd _ _
@[simp] theorem ev_dget (i k) : ev F (.dget i k) ρ = bd (dctR ρ[i]?) (k := ⟨fun _ => bd (ev F k ρ) (k := ⟨fun p => bd (intR p.1) (k := ⟨fun j => bd (dctR p.2[i]?) (k := ⟨fun kvs => bd (kvGet kvs j) (k := ⟨fun d => some (.fr d, p.2)⟩)⟩)⟩)⟩)⟩) := by
  simp only [ev, dctB_of]
  cases h : dctR ρ[i]? with
  | none => rfl
  | some kvs =>
    simp only [Option.isSome_some, bd_some]
    rcases ev F k ρ with _ | ⟨r, ρ1⟩
    · rfl
    · simp only [bd_some]
      cases r with
      | nw _ => rfl
      | fr d =>
        cases d <;> first | rfl | skip
        simp only [intR_int, bd_some, dGetS_of, map_bd]
        cases dctR ρ1[i]? with
        | none => rfl
        | some kvs' => simp only [bd_some]
@[simp] theorem ev_din (b i k) : ev F (.din b i k) ρ = bd (ev F k ρ) (k := ⟨fun p => bd (intR p.1) (k := ⟨fun j => bd (dctR p.2[i]?) (k := ⟨fun kvs => some (.fr (.bool (b != (kvGet kvs j).isSome)), p.2)⟩)⟩)⟩) := by
  simp only [ev]
  rcases ev F k ρ with _ | ⟨r, ρ1⟩
  · rfl
  · simp only [bd_some]
    cases r with
    | nw _ => rfl
    | fr d =>
      cases d <;> first | rfl | skip
      simp only [intR_int, bd_some, dInS_of]
      cases dctR ρ1[i]? <;> rfl
@[simp] theorem ev_rvs (a) : ev F (.rvs a) ρ = bd (opd a (ev F a) ρ) (k := ⟨fun p => bd (p.1.get p.2) (k := ⟨fun d => bd (dRev d) (k := ⟨fun r => some (r, p.2)⟩)⟩)⟩) := by
  simp only [ev]
  rcases opd a (ev F a) ρ with _ | ⟨oa, ρ1⟩
  · rfl
  · simp only [bd_some]
    cases Opd.get ρ1 oa <;> simp [map_bd]
@[simp] theorem dRev_list (xs) : dRev (.list xs) = some (.nw xs.reverse) := id rfl
@[simp] theorem dRev_tuple (xs) : dRev (.tuple xs) = some (.fr (.tuple xs.reverse)) := id rfl
@[simp] theorem ev_tup (es) : ev F (.tup es) ρ = bd (evs F es ρ) (k := ⟨fun p => gd (p.1.length ≤ sizeLine) (some (.fr (.tuple p.1), p.2))⟩) := by
  simp only [ev]
  rcases evs F es ρ with _ | ⟨ds, ρ1⟩
  · rfl
  · exact if_gd _ _
@[simp] theorem ev_lst (es) : ev F (.lst es) ρ = bd (evs F es ρ) (k := ⟨fun p => gd (p.1.length ≤ sizeLine) (some (.nw p.1, p.2))⟩) := by
  simp only [ev]
  rcases evs F es ρ with _ | ⟨ds, ρ1⟩
  · rfl
  · exact if_gd _ _
/-- one turn of a comprehension -/
def cstep (F : FT) (t : T) (c : OE) (elt : E) (vs : List Nat) (d : D) (ρ : Env) : Option (Option D × Env) :=
  bd (asgT t d ρ) (k := ⟨fun ρa => bd (evC F c ρa) (k := ⟨fun q => brB q.1 (k := ⟨(bd (ev F elt q.2) (k := ⟨fun r => some (some r.1.d, wipeE vs r.2)⟩)), (some (none, wipeE vs q.2))⟩)⟩)⟩)
@[simp] theorem ev_comp (elt t it c vs) : ev F (.comp elt t it c vs) ρ = bd (evI F it ρ) (k := ⟨fun p => gd ((vs.all fun v => match (lendL p.2.2 p.2.1)[v]? with | some s => quietS s | none => false) = true)
    (bd (compL (cstep F t c elt vs) p.1 (wipeE vs (lendL p.2.2 p.2.1))) (k := ⟨fun q => some (.nw q.1, unlend p.2.2 (backE vs (lendL p.2.2 p.2.1) q.2))⟩))⟩) := by
  simp only [ev]
  rcases evI F it ρ with _ | ⟨ds, ρ0, ls⟩
  · rfl
  · simp only [bd_some]
    have e : (fun d ρ => match asgT t d ρ with
        | none => none
        | some ρa => match evC F c ρa with
          | none => none
          | some (false, ρb) => some (none, wipeE vs ρb)
          | some (true, ρb) => match ev F elt ρb with
            | none => none
            | some (r, ρc) => some (some r.d, wipeE vs ρc)) = cstep F t c elt vs := by
      funext d ρ
      unfold cstep
      rcases asgT t d ρ with _ | ρa
      · rfl
      · simp only [bd_some]
        rcases evC F c ρa with _ | ⟨b, ρb⟩
        · rfl
        · cases b
          · rfl
          · simp only [bd_some, brB_true]
            rcases ev F elt ρb with _ | ⟨r, ρc⟩ <;> rfl
    unfold gd
    cases hq : (vs.all fun v => match (lendL ls ρ0)[v]? with | some s => quietS s | none => false)
    · simp
    · simp only [Bool.true_eq_false, ↓reduceIte]
      rw [← e]
      rcases compL _ ds (wipeE vs (lendL ls ρ0)) with _ | ⟨r, ρ2⟩ <;> rfl
/-- one turn of the first of two clauses -/
noncomputable def cstep2 (F : FT) (t : T) (c0 : OE) (it1 : Wk) (t1 : T) (c : OE) (elt : E) (vs vs1 : List Nat) (d : D) (ρ : Env) : Option (List D × Env) :=
  bd (asgT t d ρ) (k := ⟨fun ρa => bd (evC F c0 ρa) (k := ⟨fun q => brB q.1 (k := ⟨(bd (evI F it1 q.2) (k := ⟨fun p => gd (p.2.2 = []) (gd ((vs1.all fun v => match p.2.1[v]? with | some s => quietS s | none => false) = true)
    (bd (compL (cstep F t1 c elt vs1) p.1 (wipeE vs1 p.2.1)) (k := ⟨fun u => some (u.1, wipeE vs u.2)⟩)))⟩)), (some ([], wipeE vs q.2))⟩)⟩)⟩)
theorem cstep_eq (F : FT) (t : T) (c : OE) (elt : E) (vs : List Nat) : (fun d ρ => match asgT t d ρ with
        | none => none
        | some ρa => match evC F c ρa with
          | none => none
          | some (false, ρb) => some (none, wipeE vs ρb)
          | some (true, ρb) => match ev F elt ρb with
            | none => none
            | some (r, ρc) => some (some r.d, wipeE vs ρc)) = cstep F t c elt vs := by
  funext d ρ
  unfold cstep
  rcases asgT t d ρ with _ | ρa
  · rfl
  · simp only [bd_some]
    rcases evC F c ρa with _ | ⟨b, ρb⟩
    · rfl
    · cases b
      · rfl
      · simp only [bd_some, brB_true]
        rcases ev F elt ρb with _ | ⟨r, ρc⟩ <;> rfl
@[simp] theorem ev_comp2 (elt t it c0 t1 it1 c vs vs1) : ev F (.comp2 elt t it c0 t1 it1 c vs vs1) ρ = bd (evI F it ρ) (k := ⟨fun p => gd ((vs.all fun v => match (lendL p.2.2 p.2.1)[v]? with | some s => quietS s | none => false) = true)
    (bd (compL2 (cstep2 F t c0 it1 t1 c elt vs vs1) p.1 (wipeE vs (lendL p.2.2 p.2.1))) (k := ⟨fun q => gd (q.1.length ≤ sizeLine) (some (.nw q.1, unlend p.2.2 (backE vs (lendL p.2.2 p.2.1) q.2)))⟩))⟩) := by
  simp only [ev]
  rcases evI F it ρ with _ | ⟨ds, ρ0, ls⟩
  · rfl
  · simp only [bd_some]
    have e : (fun d ρ => match asgT t d ρ with
        | none => none
        | some ρa => match evC F c0 ρa with
          | none => none
          | some (false, ρb) => some ([], wipeE vs ρb)
          | some (true, ρb) => match evI F it1 ρb with
            | some (ds1, ρ1, []) => if (vs1.all fun v => match ρ1[v]? with | some s => quietS s | none => false) = false then none else
              match compL (fun d ρ => match asgT t1 d ρ with
                | none => none
                | some ρa => match evC F c ρa with
                  | none => none
                  | some (false, ρb) => some (none, wipeE vs1 ρb)
                  | some (true, ρb) => match ev F elt ρb with
                    | none => none
                    | some (r, ρc) => some (some r.d, wipeE vs1 ρc)) ds1 (wipeE vs1 ρ1) with
              | none => none
              | some (r, ρ2) => some (r, wipeE vs ρ2)
            | _ => none) = cstep2 F t c0 it1 t1 c elt vs vs1 := by
      funext d ρ
      unfold cstep2
      rw [← cstep_eq]
      rcases asgT t d ρ with _ | ρa
      · rfl
      · simp only [bd_some]
        rcases evC F c0 ρa with _ | ⟨b, ρb⟩
        · rfl
        · cases b
          · rfl
          · simp only [bd_some, brB_true]
            rcases evI F it1 ρb with _ | ⟨ds1, ρ1, ls1⟩
            · rfl
            · simp only [bd_some]
              cases ls1 with
              | cons x l => unfold gd; simp
              | nil =>
                unfold gd
                simp only [if_true]
                cases hq : (vs1.all fun v => match ρ1[v]? with | some s => quietS s | none => false)
                · simp
                · simp only [Bool.true_eq_false, ↓reduceIte]
                  rcases compL _ ds1 (wipeE vs1 ρ1) with _ | ⟨r, ρ2⟩ <;> rfl
    unfold gd
    cases hq : (vs.all fun v => match (lendL ls ρ0)[v]? with | some s => quietS s | none => false)
    · simp
    · simp only [Bool.true_eq_false, ↓reduceIte]
      rw [← e]
      rcases compL2 _ ds (wipeE vs (lendL ls ρ0)) with _ | ⟨r, ρ2⟩
      · rfl
      · simp only [bd_some]
noncomputable def setK : Bool → List Int → Option Res
  | true, ns => gd ((dd ns).length < 64) (some (.nw ((sortI (dd ns)).map .int)))
  | false, ns => some (.fr (.int ((dd ns).length : Nat)))
theorem setR_eq (srt r) : setR srt r = bd (allInts r) (k := ⟨fun ns => gd (ns.length < 4095) (setK srt ns)⟩) := by
  unfold setR
  cases allInts r with
  | none => rfl
  | some ns =>
    simp only [bd_some]
    cases srt
    · exact if_gd _ _
    · show (if ns.length < 4095 then (if (dd ns).length < 64 then _ else none) else none) = _
      rw [if_gd]; congr 1; exact if_gd _ _
@[simp] theorem setK_true (ns) : setK true ns = gd ((dd ns).length < 64) (some (.nw ((sortI (dd ns)).map .int))) := id rfl
@[simp] theorem setK_false (ns) : setK false ns = some (.fr (.int ((dd ns).length : Nat))) := id rfl
@[simp] theorem ev_setc (srt elt t it c vs) : ev F (.setc srt elt t it c vs) ρ = bd (evI F it ρ) (k := ⟨fun p => gd ((vs.all fun v => match (lendL p.2.2 p.2.1)[v]? with | some s => quietS s | none => false) = true)
    (bd (compL (cstep F t c elt vs) p.1 (wipeE vs (lendL p.2.2 p.2.1))) (k := ⟨fun q => bd (bd (allInts q.1) (k := ⟨fun ns => gd (ns.length < 4095) (setK srt ns)⟩)) (k := ⟨fun r => some (r, unlend p.2.2 (backE vs (lendL p.2.2 p.2.1) q.2))⟩)⟩))⟩) := by
  simp only [ev]
  rcases evI F it ρ with _ | ⟨ds, ρ0, ls⟩
  · rfl
  · simp only [bd_some]
    rw [← cstep_eq]
    unfold gd
    cases hq : (vs.all fun v => match (lendL ls ρ0)[v]? with | some s => quietS s | none => false)
    · simp
    · simp only [Bool.true_eq_false, ↓reduceIte]
      rcases compL _ ds (wipeE vs (lendL ls ρ0)) with _ | ⟨r, ρ2⟩
      · rfl
      · simp only [bd_some, map_bd, setR_eq]
        rfl
@[simp] theorem ev_call (f es) : ev F (.call f es) ρ = bd (F f) (k := ⟨fun kf => bd (evA F kf.1 es ρ) (k := ⟨fun p => gd (apartB kf.1 p.1 = true) (bd (argsOf p.2 kf.1 p.1) (k := ⟨fun ss => bd (kf.2 ss) (k := ⟨fun r => bd (outsIn (muts kf.1 p.1) r.2 p.2) (k := ⟨fun ρ2 => some (r.1, ρ2)⟩)⟩)⟩))⟩)⟩) := by
  simp only [ev]
  rcases F f with _ | ⟨ks, fn⟩
  · rfl
  · simp only [bd_some]
    rcases evA F ks es ρ with _ | ⟨oo, ρ1⟩
    · rfl
    · simp only [bd_some]
      unfold gd
      cases apartB ks oo
      · simp
      · simp only [Bool.true_eq_false, ↓reduceIte]
        rcases argsOf ρ1 ks oo with _ | ss
        · rfl
        · simp only [bd_some]
          rcases fn ss with _ | ⟨r, outs⟩
          · rfl
          · simp only [bd_some]
            rcases outsIn (muts ks oo) outs ρ1 with _ | ρ2 <;> rfl
@[simp] theorem pks_nil : pks ρ .nil = some [] := by simp only [pks]
@[simp] theorem pks_cons (e es) : pks ρ (.cons e es) = bd (pk ρ e) (k := ⟨fun d => bd (pks ρ es) (k := ⟨fun ds => some (d :: ds)⟩)⟩) := by
  simp only [pks]
  cases pk ρ e with
  | none => rfl
  | some d => cases pks ρ es <;> rfl
@[simp] theorem pk_var (i) : pk ρ (.var i) = rd ρ i := by simp only [pk]
@[simp] theorem pk_int (n) : pk ρ (.int n) = some (.int n) := by simp only [pk]
@[simp] theorem pk_tup (es) : pk ρ (.tup es) = bd (pks ρ es) (k := ⟨fun ds => gd (ds.length ≤ sizeLine) (some (.tuple ds))⟩) := by
  simp only [pk]
  cases pks ρ es with
  | none => rfl
  | some ds => exact if_gd _ _
@[simp] theorem flatO_some (d) : flatO ρ (some (.fr d, [])) = gd (isFlat d = true) (some (.fr d, ρ)) := if_gd _ _
@[simp] theorem notM_B : notM .B = true := id rfl
@[simp] theorem notM_I : notM .I = true := id rfl
@[simp] theorem ev_pcall (f es) : ev F (.pcall f es) ρ = bd (F f) (k := ⟨fun kf => bd (pks ρ es) (k := ⟨fun ds => gd ((kf.1.all notM && decide (ds.length = kf.1.length)) = true) (flatO ρ (kf.2 (ds.map .fz)))⟩)⟩) := by
  simp only [ev]
  cases F f with
  | none => rfl
  | some kf =>
    obtain ⟨ks, fn⟩ := kf
    simp only [bd_some]
    cases pks ρ es with
    | none => rfl
    | some ds => exact if_gd _ _
@[simp] theorem ev_blt (b es) : ev F (.blt b es) ρ = bd (evP F es ρ) (k := ⟨fun p => bd (getAll p.2 p.1) (k := ⟨fun ds => bd (dBlt b ds) (k := ⟨fun r => some (r, p.2)⟩)⟩)⟩) := by
  simp only [ev, mapM_get]
  rcases evP F es ρ with _ | ⟨oo, ρ1⟩
  · rfl
  · simp only [bd_some]
    rcases getAll ρ1 oo with _ | ds
    · rfl
    · simp only [bd_some, map_bd]
@[simp] theorem ev_isi (a t) : ev F (.isi a t) ρ = bd (opd a (ev F a) ρ) (k := ⟨fun p => bd (p.1.get p.2) (k := ⟨fun d => some (.fr (.bool (tyIs t d)), p.2)⟩)⟩) := by
  simp only [ev]
  rcases opd a (ev F a) ρ with _ | ⟨oa, ρ1⟩
  · rfl
  · simp only [bd_some, map_bd]
@[simp] theorem ev_len (a) : ev F (.len a) ρ = bd (opd a (ev F a) ρ) (k := ⟨fun p => bd (p.1.getR p.2) (k := ⟨fun d => bd (dLen d) (k := ⟨fun r => some (.fr r, p.2)⟩)⟩)⟩) := by
  simp only [ev]
  rcases opd a (ev F a) ρ with _ | ⟨oa, ρ1⟩
  · rfl
  · simp only [bd_some, map_bd]
    cases Opd.getR ρ1 oa <;> rfl
@[simp] theorem ev_rngs (t it) : ev F (.rngs t it) ρ = bd (evI F it ρ) (k := ⟨fun p => some (if t then .fr (.tuple p.1) else .nw p.1, p.2.1)⟩) := by
  simp only [ev]
  rcases evI F it ρ with _ | ⟨ds, ρ1, ls⟩ <;> rfl
def isL : D → Option Unit
  | .list _ => some ()
  | _ => none
@[simp] theorem isL_list (ds) : isL (.list ds) = some () := id rfl
theorem isLB_of (x : Option D) : isLB x = (bd x (k := ⟨isL⟩)).isSome := by
  cases x with
  | none => rfl
  | some d => cases d <;> rfl
@[simp] theorem ev_meth (m o a) : ev F (.meth m o a) ρ = bd (opd o (ev F o) ρ) (k := ⟨fun p => bd (bd (p.1.get p.2) (k := ⟨isL⟩)) (k := ⟨fun _ => bd (ev F a p.2) (k := ⟨fun q => bd (p.1.get q.2) (k := ⟨fun d => bd (dMth m d q.1.d) (k := ⟨fun r => some (.fr r, q.2)⟩)⟩)⟩)⟩)⟩) := by
  simp only [ev]
  rcases opd o (ev F o) ρ with _ | ⟨oa, ρ1⟩
  · rfl
  · simp only [bd_some, isLB_of]
    cases h : bd (Opd.get ρ1 oa) (k := ⟨isL⟩) with
    | none => rfl
    | some _ =>
      simp only [Option.isSome_some, bd_some]
      rcases ev F a ρ1 with _ | ⟨ob, ρ2⟩
      · rfl
      · simp only [bd_some]
        cases Opd.get ρ2 oa <;> simp [map_bd]
/-- a changed list goes back to its slot -/
def chgS (m : Cth) (i : Nat) (s : Option Slot) (ds : List D) (ρ : Env) : Option (Res × Env) := match s with
  | some (.own xs) => bd (dChg m xs ds) (k := ⟨fun p => some (.fr p.2, ρ.set i (.own p.1))⟩)
  | some (.mu xs) => bd (dChg m xs ds) (k := ⟨fun p => some (.fr p.2, ρ.set i (.mu p.1))⟩)
  | _ => none
@[simp] theorem chgS_own (m i xs ds) : chgS m i (some (.own xs)) ds ρ = bd (dChg m xs ds) (k := ⟨fun p => some (.fr p.2, ρ.set i (.own p.1))⟩) := id rfl
@[simp] theorem chgS_mu (m i xs ds) : chgS m i (some (.mu xs)) ds ρ = bd (dChg m xs ds) (k := ⟨fun p => some (.fr p.2, ρ.set i (.mu p.1))⟩) := id rfl
@[simp] theorem ev_chg (m i es) : ev F (.chg m i es) ρ = bd (bd (rd ρ i) (k := ⟨isL⟩)) (k := ⟨fun _ => bd (evs F es ρ) (k := ⟨fun p => chgS m i p.2[i]? p.1 p.2⟩)⟩) := by
  simp only [ev]
  cases rd ρ i with
  | none => rfl
  | some d =>
    cases d <;> first
      | rfl
      | (simp only [bd_some, isL_list]
         rcases evs F es ρ with _ | ⟨ds, ρ1⟩
         · rfl
         · simp only [bd_some]
           rcases ρ1[i]? with _ | s
           · rfl
           · cases s <;> first | rfl | (simp only [chgS, map_bd]))
@[simp] theorem evO_none : evO F .none ρ = some (none, ρ) := by simp only [evO]
@[simp] theorem evO_some (e) : evO F (.some e) ρ = bd (ev F e ρ) (k := ⟨fun p => bd (intR p.1) (k := ⟨fun i => some (some i, p.2)⟩)⟩) := by
  simp only [evO]
  rcases ev F e ρ with _ | ⟨r, ρ1⟩
  · rfl
  · rcases r with d | d
    · cases d <;> rfl
    · rfl
@[simp] theorem evC_none : evC F .none ρ = some (true, ρ) := by simp only [evC]
@[simp] theorem evC_some (e) : evC F (.some e) ρ = bd (ev F e ρ) (k := ⟨fun p => bd (boolR p.1) (k := ⟨fun i => some (i, p.2)⟩)⟩) := by
  simp only [evC]
  rcases ev F e ρ with _ | ⟨r, ρ1⟩
  · rfl
  · rcases r with d | d
    · cases d <;> rfl
    · rfl
@[simp] theorem evI_seq (a) : evI F (.seq a) ρ = bd (opd a (ev F a) ρ) (k := ⟨fun p => gd (noMu p.1 p.2 = true) (bd (p.1.get p.2) (k := ⟨fun d => bd (seqOf d) (k := ⟨fun ds => some (ds, p.2, lends p.1 p.2)⟩)⟩))⟩) := by
  simp only [evI]
  rcases opd a (ev F a) ρ with _ | ⟨oa, ρ1⟩
  · rfl
  · simp only [bd_some]
    unfold gd
    cases noMu oa ρ1
    · simp
    · simp only [Bool.true_eq_false, ↓reduceIte]
      rcases Opd.get ρ1 oa with _ | d
      · rfl
      · simp only [bd_some, Option.bind_some]
        cases seqOf d <;> rfl
@[simp] theorem evI_rev (a) : evI F (.rev a) ρ = bd (opd a (ev F a) ρ) (k := ⟨fun p => gd (noMu p.1 p.2 = true) (bd (p.1.get p.2) (k := ⟨fun d => bd (seqOf d) (k := ⟨fun ds => some (ds.reverse, p.2, lends p.1 p.2)⟩)⟩))⟩) := by
  simp only [evI]
  rcases opd a (ev F a) ρ with _ | ⟨oa, ρ1⟩
  · rfl
  · simp only [bd_some]
    unfold gd
    cases noMu oa ρ1
    · simp
    · simp only [Bool.true_eq_false, ↓reduceIte]
      rcases Opd.get ρ1 oa with _ | d
      · rfl
      · simp only [bd_some, Option.bind_some]
        cases seqOf d <;> rfl
@[simp] theorem evI_enm (a) : evI F (.enm a) ρ = bd (opd a (ev F a) ρ) (k := ⟨fun p => gd (noMu p.1 p.2 = true) (bd (p.1.get p.2) (k := ⟨fun d => bd (seqOf d) (k := ⟨fun ds => some (enumD ds, p.2, lends p.1 p.2)⟩)⟩))⟩) := by
  simp only [evI]
  rcases opd a (ev F a) ρ with _ | ⟨oa, ρ1⟩
  · rfl
  · simp only [bd_some]
    unfold gd
    cases noMu oa ρ1
    · simp
    · simp only [Bool.true_eq_false, ↓reduceIte]
      rcases Opd.get ρ1 oa with _ | d
      · rfl
      · simp only [bd_some, Option.bind_some]
        cases seqOf d <;> rfl
def zipOf : D → D → Option (List D)
  | .list xs, .list ys => some (pairD xs ys)
  | .tuple xs, .tuple ys => some (pairD xs ys)
  | _, _ => none
@[simp] theorem zipOf_list (xs ys) : zipOf (.list xs) (.list ys) = some (pairD xs ys) := id rfl
@[simp] theorem zipOf_tuple (xs ys) : zipOf (.tuple xs) (.tuple ys) = some (pairD xs ys) := id rfl
@[simp] theorem evI_zip (a b) : evI F (.zip a b) ρ = bd (opd a (ev F a) ρ) (k := ⟨fun p => bd (opd b (ev F b) p.2) (k := ⟨fun q => gd (noMu p.1 q.2 = true) (gd (noMu q.1 q.2 = true)
    (bd (p.1.get q.2) (k := ⟨fun d => bd (q.1.get q.2) (k := ⟨fun e => bd (zipOf d e) (k := ⟨fun ds => some (ds, q.2, lends p.1 q.2 ++ lends q.1 q.2)⟩)⟩)⟩)))⟩)⟩) := by
  simp only [evI]
  rcases opd a (ev F a) ρ with _ | ⟨oa, ρ1⟩
  · rfl
  · simp only [bd_some]
    rcases opd b (ev F b) ρ1 with _ | ⟨ob, ρ2⟩
    · rfl
    · simp only [bd_some]
      unfold gd
      cases noMu oa ρ2
      · simp
      · simp only [Bool.true_eq_false, ↓reduceIte]
        cases noMu ob ρ2
        · simp
        · simp only [Bool.true_eq_false, ↓reduceIte]
          rcases Opd.get ρ2 oa with _ | d
          · rfl
          · simp only [bd_some]
            cases Opd.get ρ2 ob with
            | none => cases d <;> rfl
            | some e => cases d <;> cases e <;> rfl
@[simp] theorem evI_rng1 (a) : evI F (.rng1 a) ρ = bd (ev F a ρ) (k := ⟨fun p => bd (intR p.1) (k := ⟨fun i => gd (-(2 ^ 62) ≤ i ∧ i ≤ (sizeLine : Int)) (some (rngD 0 i, p.2, []))⟩)⟩) := by
  simp only [evI]
  rcases ev F a ρ with _ | ⟨r, ρ1⟩
  · rfl
  · rcases r with d | d
    · cases d <;> first | rfl | exact if_gd _ _
    · rfl
@[simp] theorem evI_rrng1 (a) : evI F (.rrng1 a) ρ = bd (ev F a ρ) (k := ⟨fun p => bd (intR p.1) (k := ⟨fun i => gd (-(2 ^ 62) ≤ i ∧ i ≤ (sizeLine : Int)) (some ((rngD 0 i).reverse, p.2, []))⟩)⟩) := by
  simp only [evI]
  rcases ev F a ρ with _ | ⟨r, ρ1⟩
  · rfl
  · rcases r with d | d
    · cases d <;> first | rfl | exact if_gd _ _
    · rfl
@[simp] theorem evI_rrng2 (a b) : evI F (.rrng2 a b) ρ = bd (ev F a ρ) (k := ⟨fun p => bd (intR p.1) (k := ⟨fun i => bd (ev F b p.2) (k := ⟨fun q => bd (intR q.1) (k := ⟨fun j => gd (-(2 ^ 62) ≤ i ∧ i < 2 ^ 62 ∧ j < 2 ^ 62 ∧ -(2 ^ 62) ≤ j ∧ j - i ≤ (sizeLine : Int)) (some ((rngD i j).reverse, q.2, []))⟩)⟩)⟩)⟩) := by
  simp only [evI]
  rcases ev F a ρ with _ | ⟨r, ρ1⟩
  · rfl
  · rcases r with d | d
    · cases d <;> first
        | rfl
        | (simp only [bd_some, intR_int]
           rcases ev F b ρ1 with _ | ⟨r, ρ2⟩
           · rfl
           · rcases r with d | d
             · cases d <;> first | rfl | exact if_gd _ _
             · rfl)
    · rfl
@[simp] theorem evI_dwn (a b) : evI F (.dwn a b) ρ = bd (ev F a ρ) (k := ⟨fun p => bd (intR p.1) (k := ⟨fun i => bd (ev F b p.2) (k := ⟨fun q => bd (intR q.1) (k := ⟨fun j => gd (-(2 ^ 62) ≤ i ∧ i < 2 ^ 62 ∧ j < 2 ^ 62 ∧ -(2 ^ 62) ≤ j ∧ i - j ≤ (sizeLine : Int)) (some (dwnD i j, q.2, []))⟩)⟩)⟩)⟩) := by
  simp only [evI]
  rcases ev F a ρ with _ | ⟨r, ρ1⟩
  · rfl
  · rcases r with d | d
    · cases d <;> first
        | rfl
        | (simp only [bd_some, intR_int]
           rcases ev F b ρ1 with _ | ⟨r, ρ2⟩
           · rfl
           · rcases r with d | d
             · cases d <;> first | rfl | exact if_gd _ _
             · rfl)
    · rfl
@[simp] theorem evI_rng2 (a b) : evI F (.rng2 a b) ρ = bd (ev F a ρ) (k := ⟨fun p => bd (intR p.1) (k := ⟨fun i => bd (ev F b p.2) (k := ⟨fun q => bd (intR q.1) (k := ⟨fun j => gd (-(2 ^ 62) ≤ i ∧ i < 2 ^ 62 ∧ j < 2 ^ 62 ∧ -(2 ^ 62) ≤ j ∧ j - i ≤ (sizeLine : Int)) (some (rngD i j, q.2, []))⟩)⟩)⟩)⟩) := by
  simp only [evI]
  rcases ev F a ρ with _ | ⟨r, ρ1⟩
  · rfl
  · rcases r with d | d
    · cases d <;> first
        | rfl
        | (simp only [bd_some, intR_int]
           rcases ev F b ρ1 with _ | ⟨r, ρ2⟩
           · rfl
           · rcases r with d | d
             · cases d <;> first | rfl | exact if_gd _ _
             · rfl)
    · rfl
@[simp] theorem evs_nil : evs F .nil ρ = some ([], ρ) := by simp only [evs]
@[simp] theorem evs_cons (e es) : evs F (.cons e es) ρ = bd (ev F e ρ) (k := ⟨fun p => bd (evs F es p.2) (k := ⟨fun q => some (p.1.d :: q.1, q.2)⟩)⟩) := by
  simp only [evs]
  rcases ev F e ρ with _ | ⟨r, ρ1⟩
  · rfl
  · simp only [bd_some]
    rcases evs F es ρ1 with _ | ⟨ds, ρ2⟩ <;> rfl
@[simp] theorem evP_nil : evP F .nil ρ = some ([], ρ) := by simp only [evP]
@[simp] theorem evP_cons (e es) : evP F (.cons e es) ρ = bd (opd e (ev F e) ρ) (k := ⟨fun p => bd (evP F es p.2) (k := ⟨fun q => some (p.1 :: q.1, q.2)⟩)⟩) := by
  simp only [evP]
  rcases opd e (ev F e) ρ with _ | ⟨r, ρ1⟩
  · rfl
  · simp only [bd_some]
    rcases evP F es ρ1 with _ | ⟨ds, ρ2⟩ <;> rfl
@[simp] theorem evA_nil : evA F [] .nil ρ = some ([], ρ) := by simp only [evA]
@[simp] theorem evA_I (ks e es) : evA F (.I :: ks) (.cons e es) ρ = bd (ev F e ρ) (k := ⟨fun p => bd (evA F ks es p.2) (k := ⟨fun q => some (.v p.1.d :: q.1, q.2)⟩)⟩) := by
  simp only [evA]
  rcases ev F e ρ with _ | ⟨r, ρ1⟩
  · rfl
  · simp only [bd_some]
    rcases evA F ks es ρ1 with _ | ⟨ds, ρ2⟩ <;> rfl
@[simp] theorem evA_B (ks e es) : evA F (.B :: ks) (.cons e es) ρ = bd (opd e (ev F e) ρ) (k := ⟨fun p => bd (evA F ks es p.2) (k := ⟨fun q => some (p.1 :: q.1, q.2)⟩)⟩) := by
  simp only [evA]
  rcases opd e (ev F e) ρ with _ | ⟨r, ρ1⟩
  · rfl
  · simp only [bd_some]
    rcases evA F ks es ρ1 with _ | ⟨ds, ρ2⟩ <;> rfl
@[simp] theorem evA_M (ks e es) : evA F (.M :: ks) (.cons e es) ρ = bd (opd e (ev F e) ρ) (k := ⟨fun p => bd (evA F ks es p.2) (k := ⟨fun q => some (p.1 :: q.1, q.2)⟩)⟩) := by
  simp only [evA]
  rcases opd e (ev F e) ρ with _ | ⟨r, ρ1⟩
  · rfl
  · simp only [bd_some]
    rcases evA F ks es ρ1 with _ | ⟨ds, ρ2⟩ <;> rfl

/-! ### statements -/
@[simp] theorem exs_nil : exs F .nil ρ = some (.next, ρ) := by simp only [exs]
@[simp] theorem exs_cons (s ss) : exs F (.cons s ss) ρ = sq (ex F s ρ) (k := ⟨fun ρ1 => exs F ss ρ1⟩) := by
  simp only [exs]
  rcases ex F s ρ with _ | ⟨o, ρ1⟩
  · rfl
  · cases o <;> rfl
@[simp] theorem ex_asg (t e) : ex F (.asg t e) ρ = bd (ev F e ρ) (k := ⟨fun p => bd (asgR t p.1 p.2) (k := ⟨fun ρ2 => some (.next, ρ2)⟩)⟩) := by
  simp only [ex]
  rcases ev F e ρ with _ | ⟨r, ρ1⟩
  · rfl
  · simp only [bd_some, map_bd]
@[simp] theorem ex_par (i j a b) : ex F (.par i j a b) ρ = bd (ev F a ρ) (k := ⟨fun p => bd (ev F b p.2) (k := ⟨fun q => bd (put i (.fz p.1.d) q.2) (k := ⟨fun ρ3 => bd (put j (.fz q.1.d) ρ3) (k := ⟨fun ρ4 => some (.next, ρ4)⟩)⟩)⟩)⟩) := by
  simp only [ex]
  rcases ev F a ρ with _ | ⟨r, ρ1⟩
  · rfl
  · simp only [bd_some]
    rcases ev F b ρ1 with _ | ⟨r2, ρ2⟩
    · rfl
    · simp only [bd_some]
      rcases put i (.fz r.d) ρ2 with _ | ρ3
      · rfl
      · simp only [bd_some, map_bd]
def fzI : Option Slot → Option Int
  | some (.fz (.int x)) => some x
  | _ => none
@[simp] theorem fzI_int (x) : fzI (some (.fz (.int x))) = some x := id rfl
@[simp] theorem ex_aug (o i e) : ex F (.aug o i e) ρ = bd (fzI ρ[i]?) (k := ⟨fun x => bd (ev F e ρ) (k := ⟨fun p => bd (intR p.1) (k := ⟨fun y => bd (dBin o (.int x) (.int y)) (k := ⟨fun r => bd (intR r) (k := ⟨fun z => bd (put i (.fz (.int z)) p.2) (k := ⟨fun ρ2 => some (.next, ρ2)⟩)⟩)⟩)⟩)⟩)⟩) := by
  simp only [ex]
  rcases ρ[i]? with _ | s
  · rfl
  · cases s <;> first
      | rfl
      | (rename_i d
         cases d <;> first
          | rfl
          | (simp only [fzI_int, bd_some]
             rcases ev F e ρ with _ | ⟨r, ρ1⟩
             · rfl
             · simp only [bd_some]
               rcases r with d | d
               · cases d <;> first
                  | rfl
                  | (simp only [intR_int, bd_some]
                     rcases dBin o _ _ with _ | r
                     · rfl
                     · rcases r with d | d
                       · cases d <;> first
                          | rfl
                          | (simp only [intR_int, bd_some, map_bd])
                       · rfl)
               · rfl))
/-! ### lists under lists -/
def treeR : Option Slot → Option (List D)
  | some (.dp .tree (.list ds)) => some ds
  | _ => none
@[simp] theorem treeR_some (ds) : treeR (some (.dp .tree (.list ds))) = some ds := id rfl
theorem treeAt_of {ρ : Env} {i : Nat} : treeAt ρ i = treeR ρ[i]? := by
  unfold treeAt treeR
  rfl
def lsO : Option D → Option (List D)
  | some (.list ds) => some ds
  | _ => none
@[simp] theorem lsO_some (ds) : lsO (some (.list ds)) = some ds := id rfl
@[simp] theorem pix_int (n) : pix ρ (.int n) = some n := by simp only [pix]
@[simp] theorem pix_var (j) : pix ρ (.var j) = fzI ρ[j]? := by
  simp only [pix]
  unfold pixV fzI
  rfl
@[simp] theorem pix_idx (j n) : pix ρ (.idx (.var j) (.int n)) = bd (lsO (rd ρ j)) (k := ⟨fun ds => bd (atI ds n) (k := ⟨fun d => intR (.fr d)⟩)⟩) := by
  simp only [pix]
  rcases rd ρ j with _ | d
  · rfl
  · cases d <;> try rfl
    simp only [lsO_some, bd_some]
    rcases atI _ n with _ | d
    · rfl
    · cases d <;> rfl
theorem pixV_of {j : Nat} : pixV ρ j = fzI ρ[j]? := by unfold pixV fzI; rfl
@[simp] theorem pix_add (j n) : pix ρ (.bin .add (.var j) (.int n)) = bd (fzI ρ[j]?) (k := ⟨fun k => some (k + n)⟩) := by
  simp only [pix, pixV_of]
  rcases fzI ρ[j]? with _ | d <;> rfl
@[simp] theorem pix_sub (j n) : pix ρ (.bin .sub (.var j) (.int n)) = bd (fzI ρ[j]?) (k := ⟨fun k => some (k - n)⟩) := by
  simp only [pix, pixV_of]
  rcases fzI ρ[j]? with _ | d <;> rfl
def rowI (ds : List D) (k : Int) : Option (Nat × List D) := rowAt ds (some k)
def cellI (ds : List D) (k : Int) : Option (Nat × D) := cellAt ds (some k)
theorem rowAt_of (ds k) : rowAt ds k = bd k (k := ⟨rowI ds⟩) := by cases k <;> rfl
theorem cellAt_of (ds k) : cellAt ds k = bd k (k := ⟨cellI ds⟩) := by cases k <;> rfl
theorem rowI_of {ds : List D} {k : Int} {n es} (h : ixN ds.length k = some n) (e : ds[n]? = some (.list es)) : rowI ds k = some (n, es) := by
  unfold rowI rowAt
  simp only [h, e]
theorem cellI_of {ds : List D} {k : Int} {n d} (h : ixN ds.length k = some n) (e : ds[n]? = some d) : cellI ds k = some (n, d) := by
  unfold cellI cellAt
  simp only [h, e]
@[simp] theorem ev_dix (i a b) : ev F (.dix i a b) ρ = bd (treeR ρ[i]?) (k := ⟨fun ds => bd (pix ρ a) (k := ⟨fun k => bd (rowI ds k) (k := ⟨fun p => bd (pix ρ b) (k := ⟨fun m => bd (cellI p.2 m) (k := ⟨fun z => some (.fr z.2, ρ)⟩)⟩)⟩)⟩)⟩) := by
  simp only [ev, dixG, treeAt_of, rowAt_of, cellAt_of]
  rcases treeR ρ[i]? with _ | ds
  · rfl
  · rcases pix ρ a with _ | k
    · rfl
    · simp only [bd_some]
      rcases rowI ds k with _ | ⟨n, es⟩
      · rfl
      · rcases pix ρ b with _ | m
        · rfl
        · simp only [bd_some]
          rcases cellI es m with _ | ⟨z, d⟩ <;> rfl
@[simp] theorem ev_dlen (i) : ev F (.dlen i) ρ = bd (treeR ρ[i]?) (k := ⟨fun ds => some (.fr (.int ds.length), ρ)⟩) := by
  simp only [ev, dlenG, treeAt_of]
  rcases treeR ρ[i]? with _ | ds <;> rfl
@[simp] theorem ex_dset (i a b e) : ex F (.dset i a b e) ρ = bd (ev F e ρ) (k := ⟨fun p => bd (treeR p.2[i]?) (k := ⟨fun ds => bd (pix p.2 a) (k := ⟨fun k => bd (rowI ds k) (k := ⟨fun q => bd (pix p.2 b) (k := ⟨fun m => bd (cellI q.2 m) (k := ⟨fun z =>
    gd (noL p.1.d = true) (some (.next, p.2.set i (.dp .tree (.list (ds.set q.1 (.list (q.2.set z.1 p.1.d)))))))⟩)⟩)⟩)⟩)⟩)⟩) := by
  simp only [ex, dsetG, treeAt_of, rowAt_of, cellAt_of]
  rcases ev F e ρ with _ | ⟨r, ρ1⟩
  · rfl
  · simp only [bd_some]
    rcases treeR ρ1[i]? with _ | ds
    · rfl
    · rcases pix ρ1 a with _ | k
      · rfl
      · simp only [bd_some]
        rcases rowI ds k with _ | ⟨n, es⟩
        · rfl
        · rcases pix ρ1 b with _ | m
          · rfl
          · simp only [bd_some]
            rcases cellI es m with _ | ⟨z, d⟩
            · rfl
            · simp only [bd_some]
              by_cases hn : noL r.d = true
              · rw [if_pos hn, gd_pos hn]
              · rw [if_neg hn]; unfold gd; rw [if_neg hn]
@[simp] theorem ex_dswp (i a b) : ex F (.dswp i a b) ρ = bd (treeR ρ[i]?) (k := ⟨fun ds => bd (pix (ρ.set i .un) a) (k := ⟨fun k => bd (cellI ds k) (k := ⟨fun q => bd (pix (ρ.set i .un) b) (k := ⟨fun m => bd (cellI ds m) (k := ⟨fun z =>
    some (.next, ρ.set i (.dp .tree (.list ((ds.set q.1 z.2).set z.1 q.2))))⟩)⟩)⟩)⟩)⟩) := by
  simp only [ex, dswpG, treeAt_of, cellAt_of]
  rcases treeR ρ[i]? with _ | ds
  · rfl
  · rcases pix (ρ.set i .un) a with _ | k
    · rfl
    · simp only [bd_some]
      rcases cellI ds k with _ | ⟨n, es⟩
      · rfl
      · rcases pix (ρ.set i .un) b with _ | m
        · rfl
        · simp only [bd_some]
          rcases cellI ds m with _ | ⟨z, d⟩ <;> rfl
/-- a new flat list -/
noncomputable def nwL : Res → Option (List D)
  | .nw es => gd (noLs es = true) (some es)
  | _ => none
@[simp] theorem nwL_nw (es) : nwL (.nw es) = gd (noLs es = true) (some es) := id rfl
/-- one turn of a comprehension of new lists -/
noncomputable def dstep (F : FT) (t : T) (c : OE) (elt : E) (vs : List Nat) (d : D) (ρ : Env) : Option (Option D × Env) :=
  bd (asgT t d ρ) (k := ⟨fun ρa => bd (evC F c ρa) (k := ⟨fun q => brB q.1 (k := ⟨(bd (ev F elt q.2) (k := ⟨fun r => bd (nwL r.1) (k := ⟨fun es => some (some (.list es), wipeE vs r.2)⟩)⟩)), (some (none, wipeE vs q.2))⟩)⟩)⟩)
@[simp] theorem ex_dcomp (i elt t it c vs) : ex F (.dcomp i elt t it c vs) ρ = bd (evI F it ρ) (k := ⟨fun p => gd ((vs.all fun v => match (lendL p.2.2 p.2.1)[v]? with | some s => quietS s | none => false) = true)
    (bd (compL (dstep F t c elt vs) p.1 (wipeE vs (lendL p.2.2 p.2.1))) (k := ⟨fun q => bd (put i (.dp .tree (.list q.1)) (unlend p.2.2 (backE vs (lendL p.2.2 p.2.1) q.2))) (k := ⟨fun ρ3 => some (.next, ρ3)⟩)⟩))⟩) := by
  simp only [ex]
  rcases evI F it ρ with _ | ⟨ds, ρ0, ls⟩
  · rfl
  · simp only [bd_some]
    have e : (fun d ρ => match asgT t d ρ with
        | none => none
        | some ρa => match evC F c ρa with
          | none => none
          | some (false, ρb) => some (none, wipeE vs ρb)
          | some (true, ρb) => match ev F elt ρb with
            | some (.nw es, ρc) => if noLs es = true then some (some (.list es), wipeE vs ρc) else none
            | _ => none) = dstep F t c elt vs := by
      funext d ρ
      unfold dstep
      rcases asgT t d ρ with _ | ρa
      · rfl
      · simp only [bd_some]
        rcases evC F c ρa with _ | ⟨b, ρb⟩
        · rfl
        · cases b
          · rfl
          · simp only [bd_some, brB_true]
            rcases ev F elt ρb with _ | ⟨r, ρc⟩
            · rfl
            · cases r with
              | fr d => rfl
              | nw es =>
                simp only [bd_some, nwL_nw]
                by_cases hn : noLs es = true
                · rw [if_pos hn, gd_pos hn]; rfl
                · rw [if_neg hn]; unfold gd; rw [if_neg hn]; rfl
    unfold gd
    cases hq : (vs.all fun v => match (lendL ls ρ0)[v]? with | some s => quietS s | none => false)
    · simp
    · simp only [Bool.true_eq_false, ↓reduceIte]
      rw [← e]
      rcases compL _ ds (wipeE vs (lendL ls ρ0)) with _ | ⟨r, ρ2⟩
      · rfl
      · simp only [bd_some, map_bd]
/-- an item put into a slot's list -/
def setS (i : Nat) (s : Option Slot) (k : Int) (d : D) (ρ : Env) : Option (Out × Env) := match s with
  | some (.own xs) => bd (ixN xs.length k) (k := ⟨fun j => some (.next, ρ.set i (.own (xs.set j d)))⟩)
  | some (.mu xs) => bd (ixN xs.length k) (k := ⟨fun j => some (.next, ρ.set i (.mu (xs.set j d)))⟩)
  | _ => none
@[simp] theorem setS_own (i xs k d) : setS i (some (.own xs)) k d ρ = bd (ixN xs.length k) (k := ⟨fun j => some (.next, ρ.set i (.own (xs.set j d)))⟩) := id rfl
@[simp] theorem setS_mu (i xs k d) : setS i (some (.mu xs)) k d ρ = bd (ixN xs.length k) (k := ⟨fun j => some (.next, ρ.set i (.mu (xs.set j d)))⟩) := id rfl
@[simp] theorem ex_dput (i k v) : ex F (.dput i k v) ρ = bd (ev F v ρ) (k := ⟨fun p => bd (dctR p.2[i]?) (k := ⟨fun _ => bd (ev F k p.2) (k := ⟨fun q => bd (intR q.1) (k := ⟨fun j => bd (dctR q.2[i]?) (k := ⟨fun kvs => gd (kvs.length < sizeLine) (some (.next, q.2.set i (.dct (kvPut kvs j p.1.d))))⟩)⟩)⟩)⟩)⟩) := by
  simp only [ex]
  rcases ev F v ρ with _ | ⟨r, ρ1⟩
  · rfl
  · simp only [bd_some, dctB_of]
    cases h : dctR ρ1[i]? with
    | none => rfl
    | some kvs =>
      simp only [Option.isSome_some, bd_some]
      rcases ev F k ρ1 with _ | ⟨r', ρ2⟩
      · rfl
      · simp only [bd_some]
        cases r' with
        | nw _ => rfl
        | fr d =>
          cases d <;> first | rfl | skip
          simp only [intR_int, bd_some, dPutS_of]
          cases dctR ρ2[i]? with
          | none => rfl
          | some kvs' =>
            simp only [bd_some, ← if_gd]
            split <;> rfl
@[simp] theorem ex_dnew (i k v) : ex F (.dnew i k v) ρ = bd (ev F k ρ) (k := ⟨fun p => bd (intR p.1) (k := ⟨fun j => bd (ev F v p.2) (k := ⟨fun q => bd (put i (.dct [(j, q.1.d)]) q.2) (k := ⟨fun ρ3 => some (.next, ρ3)⟩)⟩)⟩)⟩) := by
  simp only [ex]
  rcases ev F k ρ with _ | ⟨r, ρ1⟩
  · rfl
  · simp only [bd_some]
    cases r with
    | nw _ => rfl
    | fr d =>
      cases d <;> first | rfl | skip
      simp only [intR_int, bd_some]
      rcases ev F v ρ1 with _ | ⟨r', ρ2⟩
      · rfl
      · simp only [bd_some]
        cases put i _ ρ2 <;> rfl
@[simp] theorem ex_rse : ex F .rse ρ = none := by simp only [ex]
@[simp] theorem ex_setIx (i ix e) : ex F (.setIx i ix e) ρ = bd (ev F e ρ) (k := ⟨fun p => bd (bd (rd p.2 i) (k := ⟨isL⟩)) (k := ⟨fun _ => bd (ev F ix p.2) (k := ⟨fun q => bd (intR q.1) (k := ⟨fun k => setS i q.2[i]? k p.1.d q.2⟩)⟩)⟩)⟩) := by
  simp only [ex]
  rcases ev F e ρ with _ | ⟨r, ρ1⟩
  · rfl
  · simp only [bd_some]
    rcases rd ρ1 i with _ | d
    · rfl
    · cases d <;> first
        | rfl
        | (simp only [bd_some, isL_list]
           rcases ev F ix ρ1 with _ | ⟨r2, ρ2⟩
           · rfl
           · simp only [bd_some]
             rcases r2 with d | d
             · cases d <;> first
                | rfl
                | (simp only [intR_int, bd_some]
                   rcases ρ2[i]? with _ | s
                   · rfl
                   · cases s <;> first | rfl | (simp only [setS, map_bd]))
             · rfl)
def atL : D → Int → Option Int
  | .list us, k => (atI us k).bind intOf
  | _, _ => none
@[simp] theorem atL_list (us k) : atL (.list us) k = bd (atI us k) (k := ⟨intOf⟩) := by
  show (atI us k).bind intOf = _
  rw [bind_bd]
@[simp] theorem intOf_int (i) : intOf (.int i) = some i := id rfl
@[simp] theorem ex_augIx (o i ix e) : ex F (.augIx o i ix e) ρ = bd (bd (rd ρ i) (k := ⟨isL⟩)) (k := ⟨fun _ => bd (ev F ix ρ) (k := ⟨fun p => bd (intR p.1) (k := ⟨fun k => bd (bd (rd p.2 i) (k := ⟨fun d => atL d k⟩)) (k := ⟨fun x => bd (ev F e p.2) (k := ⟨fun q => bd (intR q.1) (k := ⟨fun y =>
    bd (dBin o (.int x) (.int y)) (k := ⟨fun r => bd (intR r) (k := ⟨fun z => setS i q.2[i]? k (.int z) q.2⟩)⟩)⟩)⟩)⟩)⟩)⟩)⟩) := by
  simp only [ex]
  rcases rd ρ i with _ | d
  · rfl
  · cases d <;> first
      | rfl
      | (simp only [bd_some, isL_list]
         rcases ev F ix ρ with _ | ⟨r, ρ1⟩
         · rfl
         · simp only [bd_some]
           rcases r with d | d
           · cases d <;> first
              | rfl
              | (simp only [intR_int, bd_some]
                 rename_i k
                 rcases rd ρ1 i with _ | d
                 · rfl
                 · cases d <;> first
                    | rfl
                    | (simp only [bd_some, atL]
                       rename_i us
                       rcases atI us k with _ | x
                       · rfl
                       · cases x <;> first
                          | rfl
                          | (simp only [Option.bind_some, intOf_int, bd_some]
                             rcases ev F e ρ1 with _ | ⟨r, ρ2⟩
                             · rfl
                             · simp only [bd_some]
                               rcases r with d | d
                               · cases d <;> first
                                  | rfl
                                  | (simp only [intR_int, bd_some]
                                     rcases dBin o _ _ with _ | r
                                     · rfl
                                     · rcases r with d | d
                                       · cases d <;> first
                                          | rfl
                                          | (simp only [intR_int, bd_some]
                                             rcases ρ2[i]? with _ | s
                                             · rfl
                                             · cases s <;> first | rfl | (simp only [setS, map_bd]))
                                       · rfl)
                               · rfl)))
           · rfl)
@[simp] theorem ex_ex (e) : ex F (.ex e) ρ = bd (ev F e ρ) (k := ⟨fun p => some (.next, p.2)⟩) := by simp only [ex, map_bd]
@[simp] theorem ex_retN : ex F .retN ρ = some (.ret (.fr .none), ρ) := by simp only [ex]
@[simp] theorem ex_brk : ex F .brk ρ = some (.brk, ρ) := by simp only [ex]
@[simp] theorem ex_cont : ex F .cont ρ = some (.cont, ρ) := by simp only [ex]
@[simp] theorem ex_pass : ex F .pass ρ = some (.next, ρ) := by simp only [ex]
@[simp] theorem ex_ife (c a b) : ex F (.ife c a b) ρ = bd (ev F c ρ) (k := ⟨fun p => bd (boolR p.1) (k := ⟨fun t => brB t (k := ⟨(exs F a p.2), (exs F b p.2)⟩)⟩)⟩) := by
  simp only [ex]
  rcases ev F c ρ with _ | ⟨r, ρ1⟩
  · rfl
  · rcases r with d | d
    · cases d with
      | bool t => cases t <;> rfl
      | _ => rfl
    · rfl
@[simp] theorem ex_whl (n c b) : ex F (.whl n c b) ρ = whileL (ev F c) (exs F b) n ρ := by simp only [ex]
def fstep (F : FT) (t : T) (b : Ss) (d : D) (ρ : Env) : Option (Out × Env) := bd (asgT t d ρ) (k := ⟨fun ρa => exs F b ρa⟩)
@[simp] theorem ex_forr (t it b) : ex F (.forr t it b) ρ = bd (evI F it ρ) (k := ⟨fun p => bd (forL (fstep F t b) p.1 (lendL p.2.2 p.2.1)) (k := ⟨fun q => some (q.1, unlend p.2.2 q.2)⟩)⟩) := by
  simp only [ex]
  rcases evI F it ρ with _ | ⟨ds, ρ1, ls⟩
  · rfl
  · simp only [bd_some]
    have e : (fun d ρ => match asgT t d ρ with
        | none => none
        | some ρa => exs F b ρa) = fstep F t b := by
      funext d ρ
      unfold fstep
      cases asgT t d ρ <;> rfl
    rw [← e]
    rcases forL _ ds (lendL ls ρ1) with _ | ⟨o, ρ2⟩ <;> rfl
end
def finD (ks : List PK) (x : Option (Out × Env)) : Option (Res × List (List D)) := match x with
  | some (.ret r, ρ) => bd (outsOf ks ρ) (k := ⟨fun o => some (r, o)⟩)
  | some (.next, ρ) => bd (outsOf ks ρ) (k := ⟨fun o => some (.fr .none, o)⟩)
  | _ => none
@[simp] theorem finD_ret (ks r ρ) : finD ks (some (.ret r, ρ)) = bd (outsOf ks ρ) (k := ⟨fun o => some (r, o)⟩) := id rfl
@[simp] theorem finD_next (ks ρ) : finD ks (some (.next, ρ)) = bd (outsOf ks ρ) (k := ⟨fun o => some (.fr .none, o)⟩) := id rfl
theorem runD_eq (F d args) : runD F d args = gd (kindsB d.ks args = true) (finD d.ks (exs F d.body (args ++ List.replicate (d.N.length - args.length) .un))) := by
  unfold runD gd
  cases kindsB d.ks args
  · simp
  · simp only [Bool.true_eq_false, ↓reduceIte]
    rcases exs F d.body _ with _ | ⟨o, ρ⟩
    · rfl
    · cases o <;> simp only [finD, map_bd]
@[simp] theorem asgT_1 : asgT (.name i) d ρ = put i (.fz d) ρ := by simp only [asgT] <;> rfl
@[simp] theorem asgT_2 : asgT (.tup ts) (.tuple ds) ρ = asgTs ts ds ρ := by simp only [asgT] <;> rfl
@[simp] theorem asgTs_1 : asgTs .nil [] ρ = some ρ := by simp only [asgTs] <;> rfl
@[simp] theorem asgTs_2 : asgTs (.cons t ts) (d :: ds) ρ = match asgT t d ρ with
    | some ρ1 => asgTs ts ds ρ1
    | none => none := by simp only [asgTs] <;> rfl
@[simp] theorem asgR_1 : asgR (.name i) r ρ = put i (slotOf r) ρ := by simp only [asgR] <;> rfl
@[simp] theorem lendL_1 : lendL [] ρ = ρ := by simp only [lendL] <;> rfl
@[simp] theorem lendL_2 : lendL (i :: r) ρ = match ρ[i]? with
    | some (.own ds) => lendL r (ρ.set i (.lent ds))
    | _ => lendL r ρ := by simp only [lendL] <;> rfl
@[simp] theorem unlend_1 : unlend [] ρ = ρ := by simp only [unlend] <;> rfl
@[simp] theorem unlend_2 : unlend (i :: r) ρ = match ρ[i]? with
    | some (.lent ds) => unlend r (ρ.set i (.own ds))
    | _ => unlend r ρ := by simp only [unlend] <;> rfl
@[simp] theorem outsIn_1 : outsIn [] [] ρ = some ρ := by simp only [outsIn] <;> rfl
@[simp] theorem outsIn_2 : outsIn (i :: is) (ds :: r) ρ = match ρ[i]? with
    | some (.own _) => outsIn is r (ρ.set i (.own ds))
    | some (.mu _) => outsIn is r (ρ.set i (.mu ds))
    | _ => none := by simp only [outsIn] <;> rfl
@[simp] theorem outsOf_1 : outsOf (.M :: ks) (.mu ds :: ρ) = (outsOf ks ρ).map (ds :: ·) := by simp only [outsOf] <;> rfl
@[simp] theorem muts_1 : muts (.M :: ks) (.sl i :: oo) = i :: muts ks oo := by simp only [muts] <;> rfl
@[simp] theorem argsOf_1 : argsOf ρ [] [] = some [] := by simp only [argsOf] <;> rfl
@[simp] theorem argsOf_2 : argsOf ρ (k :: ks) (o :: oo) = match argOf ρ k o with
    | none => none
    | some s => match argsOf ρ ks oo with
      | none => none
      | some ss => some (s :: ss) := by simp only [argsOf] <;> rfl
@[simp] theorem dIdx_1 : dIdx (.list xs) (.int i) = atI xs i := by simp only [dIdx] <;> rfl
@[simp] theorem dIdx_2 : dIdx (.tuple xs) (.int i) = atI xs i := by simp only [dIdx] <;> rfl
@[simp] theorem dIdx_3 : dIdx (.str z) (.int i) = if z.length ≤ sizeLine then (atI z.cps.toList i).map fun c => .str ⟨#[c]⟩ else none := by simp only [dIdx] <;> rfl
@[simp] theorem dSlc_1 : dSlc (.list xs) lo hi = some (.nw (cutD xs lo hi)) := by simp only [dSlc] <;> rfl
@[simp] theorem dSlc_2 : dSlc (.tuple xs) lo hi = some (.fr (.tuple (cutD xs lo hi))) := by simp only [dSlc] <;> rfl
@[simp] theorem dSlc_3 : dSlc (.str z) lo hi = if z.length ≤ sizeLine then some (.fr (.str (cutS z lo hi))) else none := by simp only [dSlc] <;> rfl
@[simp] theorem dLen_1 : dLen (.list xs) = some (.int xs.length) := by simp only [dLen] <;> rfl
@[simp] theorem dLen_2 : dLen (.tuple xs) = some (.int xs.length) := by simp only [dLen] <;> rfl
@[simp] theorem dLen_3 : dLen (.str z) = if z.length ≤ sizeLine then some (.int z.length) else none := by simp only [dLen] <;> rfl
@[simp] theorem dMth_1 : dMth .count (.list xs) (.int i) = (allInts xs).map fun ns => .int (ns.count i) := by simp only [dMth] <;> rfl
@[simp] theorem slotOf_1 : slotOf (.fr d) = .fz d := by simp only [slotOf] <;> rfl
@[simp] theorem slotOf_2 : slotOf (.nw ds) = .own ds := by simp only [slotOf] <;> rfl
@[simp] theorem quietS_1 : quietS .un = true := by simp only [quietS] <;> rfl
@[simp] theorem boolOf_1 : boolOf (.bool b) = some b := by simp only [boolOf] <;> rfl
@[simp] theorem seqOf_1 : seqOf (.list ds) = some ds := by simp only [seqOf] <;> rfl
@[simp] theorem seqOf_2 : seqOf (.tuple ds) = some ds := by simp only [seqOf] <;> rfl
@[simp] theorem allInts_1 : allInts [] = some [] := by simp only [allInts] <;> rfl
@[simp] theorem allInts_2 : allInts (.int i :: r) = (allInts r).map (i :: ·) := by simp only [allInts] <;> rfl
@[simp] theorem allBools_1 : allBools [] = some [] := by simp only [allBools] <;> rfl
@[simp] theorem allBools_2 : allBools (.bool i :: r) = (allBools r).map (i :: ·) := by simp only [allBools] <;> rfl
@[simp] theorem asgR_tup : asgR (.tup ts) r ρ = asgT (.tup ts) r.d ρ := id rfl
@[simp] theorem freeze_eq : freeze i ρ = match ρ[i]? with
  | some (.fz d) => some (.fr d, ρ)
  | some (.own ds) => some (.fr (.list ds), ρ.set i (.fz (.list ds)))
  | some (.lent ds) => some (.fr (.list ds), ρ.set i (.fz (.list ds)))
  | some (.dp .tree d) => some (.fr d, ρ.set i (.fz d))
    | some (.dp .prv d) => some (.fr d, ρ.set i (.fz d))
    | _ => none := rfl
/-- an unset or a frozen slot -/
def qs : Option D → Slot
  | none => .un
  | some d => .fz d
def putK (s : Slot) (ρ : Env) : Option Env := match s with
  | .mu _ => none
  | _ => some ρ
@[simp] theorem putK_un (ρ) : putK .un ρ = some ρ := id rfl
@[simp] theorem putK_fz (d ρ) : putK (.fz d) ρ = some ρ := id rfl
@[simp] theorem putK_own (d ρ) : putK (.own d) ρ = some ρ := id rfl
@[simp] theorem putK_lent (d ρ) : putK (.lent d) ρ = some ρ := id rfl
@[simp] theorem putK_bor (d ρ) : putK (.bor d) ρ = some ρ := id rfl
@[simp] theorem putK_ro (d ρ) : putK (.ro d) ρ = some ρ := id rfl
@[simp] theorem putK_qs (o ρ) : putK (qs o) ρ = some ρ := by cases o <;> rfl
@[simp] theorem quietS_qs (o) : quietS (qs o) = true := by cases o <;> rfl
@[simp] theorem put_eq : put i s ρ = bd ρ[i]? (k := ⟨fun o => putK o (ρ.set i s)⟩) := by
  unfold put
  rcases ρ[i]? with _ | o
  · rfl
  · cases o <;> rfl
@[simp] theorem rd_eq : rd ρ i = match ρ[i]? with
  | some s => s.d?
  | none => none := rfl
@[simp] theorem rdr_eq : rdr ρ i = match ρ[i]? with
  | some s => s.dr?
  | none => none := rfl
@[simp] theorem get_v : Opd.get ρ (.v d) = some d := id rfl
@[simp] theorem get_sl : Opd.get ρ (.sl i) = rd ρ i := id rfl
@[simp] theorem getR_v : Opd.getR ρ (.v d) = some d := id rfl
@[simp] theorem getR_sl : Opd.getR ρ (.sl i) = rdr ρ i := id rfl
@[simp] theorem d_fr : (Res.fr d).d = d := id rfl
@[simp] theorem d_nw : (Res.nw ds).d = .list ds := id rfl
@[simp] theorem sd_un : Slot.un.d? = none := id rfl
@[simp] theorem sd_fz : (Slot.fz d).d? = some d := id rfl
@[simp] theorem sd_own : (Slot.own ds).d? = some (.list ds) := id rfl
@[simp] theorem sd_lent : (Slot.lent ds).d? = some (.list ds) := id rfl
@[simp] theorem sd_bor : (Slot.bor ds).d? = some (.list ds) := id rfl
@[simp] theorem sd_mu : (Slot.mu ds).d? = some (.list ds) := id rfl
@[simp] theorem sr_ro : (Slot.ro ds).dr? = some (.list ds) := id rfl
@[simp] theorem sr_fz : (Slot.fz d).dr? = some d := id rfl
@[simp] theorem sr_own : (Slot.own ds).dr? = some (.list ds) := id rfl
@[simp] theorem sr_lent : (Slot.lent ds).dr? = some (.list ds) := id rfl
@[simp] theorem sr_bor : (Slot.bor ds).dr? = some (.list ds) := id rfl
@[simp] theorem sr_mu : (Slot.mu ds).dr? = some (.list ds) := id rfl
@[simp] theorem noMu_v : noMu (.v d) ρ = true := id rfl
@[simp] theorem noMu_sl : noMu (.sl i) ρ = match ρ[i]? with
  | some (.mu _) => false
  | _ => true := rfl
@[simp] theorem lends_v : lends (.v d) ρ = [] := id rfl
@[simp] theorem lends_sl : lends (.sl i) ρ = match ρ[i]? with
  | some (.own ds) => [i]
  | _ => [] := rfl
@[simp] theorem wipe_nil : wipeE [] ρ = ρ := id rfl
@[simp] theorem wipe_cons : wipeE (v :: r) ρ = (wipeE r ρ).set v .un := id rfl
@[simp] theorem back_nil : backE [] ρ0 ρ = ρ := id rfl
@[simp] theorem back_cons : backE (v :: r) ρ0 ρ = match ρ0[v]? with
  | some s => (backE r ρ0 ρ).set v s
  | none => backE r ρ0 ρ := rfl
@[simp] theorem argOf_Bv : argOf ρ .B (.v d) = some (.fz d) := id rfl
@[simp] theorem argOf_Iv : argOf ρ .I (.v d) = some (.fz d) := id rfl
@[simp] theorem argOf_Bs : argOf ρ .B (.sl i) = match ρ[i]? with
    | some (.fz d) => some (.fz d)
    | some (.own ds) => some (.bor ds)
    | some (.lent ds) => some (.bor ds)
    | some (.bor ds) => some (.bor ds)
    | some (.mu ds) => some (.bor ds)
    | some (.ro ds) => some (.ro ds)
    | _ => none := rfl
@[simp] theorem argOf_Ms : argOf ρ .M (.sl i) = match ρ[i]? with
    | some (.own ds) => some (.mu ds)
    | some (.mu ds) => some (.mu ds)
    | _ => none := rfl
@[simp] theorem muts_B : muts (.B :: ks) (o :: oo) = muts ks oo := by cases o <;> rfl
@[simp] theorem muts_I : muts (.I :: ks) (o :: oo) = muts ks oo := by cases o <;> rfl
@[simp] theorem muts_nil : muts [] oo = [] := by cases oo <;> rfl
@[simp] theorem kinds_nil : kindsB [] [] = true := id rfl
@[simp] theorem kinds_M : kindsB (.M :: ks) (.mu ds :: r) = kindsB ks r := id rfl
@[simp] theorem kinds_Bf : kindsB (.B :: ks) (.fz d :: r) = kindsB ks r := id rfl
@[simp] theorem kinds_Bb : kindsB (.B :: ks) (.bor d :: r) = kindsB ks r := id rfl
@[simp] theorem kinds_Br : kindsB (.B :: ks) (.ro d :: r) = kindsB ks r := id rfl
@[simp] theorem kinds_I : kindsB (.I :: ks) (.fz d :: r) = kindsB ks r := id rfl
@[simp] theorem outsOf_B : outsOf (.B :: ks) (s :: ρ) = outsOf ks ρ := id rfl
@[simp] theorem outsOf_I : outsOf (.I :: ks) (s :: ρ) = outsOf ks ρ := id rfl
@[simp] theorem outsOf_M : outsOf (.M :: ks) (.mu ds :: ρ) = (outsOf ks ρ).map (ds :: ·) := id rfl
@[simp] theorem outsOf_nil : outsOf [] ρ = some [] := id rfl
@[simp] theorem opd_var : opd (.var i) f ρ = match ρ[i]? with
    | some (.fz d) => some (.v d, ρ)
    | some .un => none
    | some (.dp .tree d) => some (.v d, ρ.set i (.fz d))
    | some (.dp .prv d) => some (.v d, ρ.set i (.fz d))
    | some _ => some (.sl i, ρ)
    | none => none := rfl
@[simp] theorem ret_var : ex F (.ret (.var i)) ρ = match ρ[i]? with
    | some (.fz d) => some (.ret (.fr d), ρ)
    | some (.own ds) => some (.ret (.nw ds), ρ)
    | some (.dp .tree d) => some (.ret (.fr d), ρ.set i (.fz d))
    | some (.dp .prv d) => some (.ret (.fr d), ρ.set i (.fz d))
    | _ => none := by simp only [ex] <;> rfl
@[simp] theorem opd_int : opd (.int n) f ρ = bd (f ρ) (k := ⟨fun p => some (.v p.1.d, p.2)⟩) := by simp only [opd]; cases f ρ <;> rfl
@[simp] theorem ret_int : ex F (.ret (.int n)) ρ = bd (ev F (.int n) ρ) (k := ⟨fun p => some (.ret p.1, p.2)⟩) := by simp only [ex, map_bd]
@[simp] theorem opd_bl : opd (.bl b) f ρ = bd (f ρ) (k := ⟨fun p => some (.v p.1.d, p.2)⟩) := by simp only [opd]; cases f ρ <;> rfl
@[simp] theorem ret_bl : ex F (.ret (.bl b)) ρ = bd (ev F (.bl b) ρ) (k := ⟨fun p => some (.ret p.1, p.2)⟩) := by simp only [ex, map_bd]
@[simp] theorem opd_non : opd (.non) f ρ = bd (f ρ) (k := ⟨fun p => some (.v p.1.d, p.2)⟩) := by simp only [opd]; cases f ρ <;> rfl
@[simp] theorem ret_non : ex F (.ret (.non)) ρ = bd (ev F (.non) ρ) (k := ⟨fun p => some (.ret p.1, p.2)⟩) := by simp only [ex, map_bd]
@[simp] theorem opd_str : opd (.str s) f ρ = bd (f ρ) (k := ⟨fun p => some (.v p.1.d, p.2)⟩) := by simp only [opd]; cases f ρ <;> rfl
@[simp] theorem ret_str : ex F (.ret (.str s)) ρ = bd (ev F (.str s) ρ) (k := ⟨fun p => some (.ret p.1, p.2)⟩) := by simp only [ex, map_bd]
@[simp] theorem opd_bin : opd (.bin o a b) f ρ = bd (f ρ) (k := ⟨fun p => some (.v p.1.d, p.2)⟩) := by simp only [opd]; cases f ρ <;> rfl
@[simp] theorem ret_bin : ex F (.ret (.bin o a b)) ρ = bd (ev F (.bin o a b) ρ) (k := ⟨fun p => some (.ret p.1, p.2)⟩) := by simp only [ex, map_bd]
@[simp] theorem opd_neg : opd (.neg a) f ρ = bd (f ρ) (k := ⟨fun p => some (.v p.1.d, p.2)⟩) := by simp only [opd]; cases f ρ <;> rfl
@[simp] theorem ret_neg : ex F (.ret (.neg a)) ρ = bd (ev F (.neg a) ρ) (k := ⟨fun p => some (.ret p.1, p.2)⟩) := by simp only [ex, map_bd]
@[simp] theorem opd_no : opd (.no a) f ρ = bd (f ρ) (k := ⟨fun p => some (.v p.1.d, p.2)⟩) := by simp only [opd]; cases f ρ <;> rfl
@[simp] theorem ret_no : ex F (.ret (.no a)) ρ = bd (ev F (.no a) ρ) (k := ⟨fun p => some (.ret p.1, p.2)⟩) := by simp only [ex, map_bd]
@[simp] theorem opd_cmp : opd (.cmp o a b) f ρ = bd (f ρ) (k := ⟨fun p => some (.v p.1.d, p.2)⟩) := by simp only [opd]; cases f ρ <;> rfl
@[simp] theorem ret_cmp : ex F (.ret (.cmp o a b)) ρ = bd (ev F (.cmp o a b) ρ) (k := ⟨fun p => some (.ret p.1, p.2)⟩) := by simp only [ex, map_bd]
@[simp] theorem opd_cmp2 : opd (.cmp2 o p a b c) f ρ = bd (f ρ) (k := ⟨fun p => some (.v p.1.d, p.2)⟩) := by simp only [opd]; cases f ρ <;> rfl
@[simp] theorem ret_cmp2 : ex F (.ret (.cmp2 o p a b c)) ρ = bd (ev F (.cmp2 o p a b c) ρ) (k := ⟨fun p => some (.ret p.1, p.2)⟩) := by simp only [ex, map_bd]
@[simp] theorem opd_and : opd (.and a b) f ρ = bd (f ρ) (k := ⟨fun p => some (.v p.1.d, p.2)⟩) := by simp only [opd]; cases f ρ <;> rfl
@[simp] theorem ret_and : ex F (.ret (.and a b)) ρ = bd (ev F (.and a b) ρ) (k := ⟨fun p => some (.ret p.1, p.2)⟩) := by simp only [ex, map_bd]
@[simp] theorem opd_or : opd (.or a b) f ρ = bd (f ρ) (k := ⟨fun p => some (.v p.1.d, p.2)⟩) := by simp only [opd]; cases f ρ <;> rfl
@[simp] theorem ret_or : ex F (.ret (.or a b)) ρ = bd (ev F (.or a b) ρ) (k := ⟨fun p => some (.ret p.1, p.2)⟩) := by simp only [ex, map_bd]
@[simp] theorem opd_ite : opd (.ite c a b) f ρ = bd (f ρ) (k := ⟨fun p => some (.v p.1.d, p.2)⟩) := by simp only [opd]; cases f ρ <;> rfl
@[simp] theorem ret_ite : ex F (.ret (.ite c a b)) ρ = bd (ev F (.ite c a b) ρ) (k := ⟨fun p => some (.ret p.1, p.2)⟩) := by simp only [ex, map_bd]
@[simp] theorem opd_idx : opd (.idx a i) f ρ = bd (f ρ) (k := ⟨fun p => some (.v p.1.d, p.2)⟩) := by simp only [opd]; cases f ρ <;> rfl
@[simp] theorem ret_idx : ex F (.ret (.idx a i)) ρ = bd (ev F (.idx a i) ρ) (k := ⟨fun p => some (.ret p.1, p.2)⟩) := by simp only [ex, map_bd]
@[simp] theorem opd_slc : opd (.slc a lo hi) f ρ = bd (f ρ) (k := ⟨fun p => some (.v p.1.d, p.2)⟩) := by simp only [opd]; cases f ρ <;> rfl
@[simp] theorem ret_slc : ex F (.ret (.slc a lo hi)) ρ = bd (ev F (.slc a lo hi) ρ) (k := ⟨fun p => some (.ret p.1, p.2)⟩) := by simp only [ex, map_bd]
@[simp] theorem opd_dix : opd (.dix i a b) f ρ = bd (f ρ) (k := ⟨fun p => some (.v p.1.d, p.2)⟩) := by simp only [opd]; cases f ρ <;> rfl
@[simp] theorem ret_dix : ex F (.ret (.dix i a b)) ρ = bd (ev F (.dix i a b) ρ) (k := ⟨fun p => some (.ret p.1, p.2)⟩) := by simp only [ex, map_bd]
@[simp] theorem opd_dlen : opd (.dlen i) f ρ = bd (f ρ) (k := ⟨fun p => some (.v p.1.d, p.2)⟩) := by simp only [opd]; cases f ρ <;> rfl
@[simp] theorem ret_dlen : ex F (.ret (.dlen i)) ρ = bd (ev F (.dlen i) ρ) (k := ⟨fun p => some (.ret p.1, p.2)⟩) := by simp only [ex, map_bd]
@[simp] theorem opd_dget : opd (.dget i k) f ρ = bd (f ρ) (k := ⟨fun p => some (.v p.1.d, p.2)⟩) := by simp only [opd]; cases f ρ <;> rfl
@[simp] theorem ret_dget : ex F (.ret (.dget i k)) ρ = bd (ev F (.dget i k) ρ) (k := ⟨fun p => some (.ret p.1, p.2)⟩) := by simp only [ex, map_bd]
@[simp] theorem opd_din : opd (.din b i k) f ρ = bd (f ρ) (k := ⟨fun p => some (.v p.1.d, p.2)⟩) := by simp only [opd]; cases f ρ <;> rfl
@[simp] theorem ret_din : ex F (.ret (.din b i k)) ρ = bd (ev F (.din b i k) ρ) (k := ⟨fun p => some (.ret p.1, p.2)⟩) := by simp only [ex, map_bd]
@[simp] theorem opd_rvs : opd (.rvs a) f ρ = bd (f ρ) (k := ⟨fun p => some (.v p.1.d, p.2)⟩) := by simp only [opd]; cases f ρ <;> rfl
@[simp] theorem ret_rvs : ex F (.ret (.rvs a)) ρ = bd (ev F (.rvs a) ρ) (k := ⟨fun p => some (.ret p.1, p.2)⟩) := by simp only [ex, map_bd]
@[simp] theorem opd_tup : opd (.tup es) f ρ = bd (f ρ) (k := ⟨fun p => some (.v p.1.d, p.2)⟩) := by simp only [opd]; cases f ρ <;> rfl
@[simp] theorem ret_tup : ex F (.ret (.tup es)) ρ = bd (ev F (.tup es) ρ) (k := ⟨fun p => some (.ret p.1, p.2)⟩) := by simp only [ex, map_bd]
@[simp] theorem opd_lst : opd (.lst es) f ρ = bd (f ρ) (k := ⟨fun p => some (.v p.1.d, p.2)⟩) := by simp only [opd]; cases f ρ <;> rfl
@[simp] theorem ret_lst : ex F (.ret (.lst es)) ρ = bd (ev F (.lst es) ρ) (k := ⟨fun p => some (.ret p.1, p.2)⟩) := by simp only [ex, map_bd]
@[simp] theorem opd_comp : opd (.comp elt t it c vs) f ρ = bd (f ρ) (k := ⟨fun p => some (.v p.1.d, p.2)⟩) := by simp only [opd]; cases f ρ <;> rfl
@[simp] theorem ret_comp : ex F (.ret (.comp elt t it c vs)) ρ = bd (ev F (.comp elt t it c vs) ρ) (k := ⟨fun p => some (.ret p.1, p.2)⟩) := by simp only [ex, map_bd]
@[simp] theorem opd_comp2 : opd (.comp2 elt t it c0 t1 it1 c vs vs1) f ρ = bd (f ρ) (k := ⟨fun p => some (.v p.1.d, p.2)⟩) := by simp only [opd]; cases f ρ <;> rfl
@[simp] theorem ret_comp2 : ex F (.ret (.comp2 elt t it c0 t1 it1 c vs vs1)) ρ = bd (ev F (.comp2 elt t it c0 t1 it1 c vs vs1) ρ) (k := ⟨fun p => some (.ret p.1, p.2)⟩) := by simp only [ex, map_bd]
@[simp] theorem opd_setc : opd (.setc bb elt t it c vs) f ρ = bd (f ρ) (k := ⟨fun p => some (.v p.1.d, p.2)⟩) := by simp only [opd]; cases f ρ <;> rfl
@[simp] theorem ret_setc : ex F (.ret (.setc bb elt t it c vs)) ρ = bd (ev F (.setc bb elt t it c vs) ρ) (k := ⟨fun p => some (.ret p.1, p.2)⟩) := by simp only [ex, map_bd]
@[simp] theorem opd_call : opd (.call g es) f ρ = bd (f ρ) (k := ⟨fun p => some (.v p.1.d, p.2)⟩) := by simp only [opd]; cases f ρ <;> rfl
@[simp] theorem ret_call : ex F (.ret (.call g es)) ρ = bd (ev F (.call g es) ρ) (k := ⟨fun p => some (.ret p.1, p.2)⟩) := by simp only [ex, map_bd]
@[simp] theorem opd_pcall : opd (.pcall g es) f ρ = bd (f ρ) (k := ⟨fun p => some (.v p.1.d, p.2)⟩) := by simp only [opd]; cases f ρ <;> rfl
@[simp] theorem ret_pcall : ex F (.ret (.pcall g es)) ρ = bd (ev F (.pcall g es) ρ) (k := ⟨fun p => some (.ret p.1, p.2)⟩) := by simp only [ex, map_bd]
@[simp] theorem opd_blt : opd (.blt bb es) f ρ = bd (f ρ) (k := ⟨fun p => some (.v p.1.d, p.2)⟩) := by simp only [opd]; cases f ρ <;> rfl
@[simp] theorem ret_blt : ex F (.ret (.blt bb es)) ρ = bd (ev F (.blt bb es) ρ) (k := ⟨fun p => some (.ret p.1, p.2)⟩) := by simp only [ex, map_bd]
@[simp] theorem opd_isi : opd (.isi a ty) f ρ = bd (f ρ) (k := ⟨fun p => some (.v p.1.d, p.2)⟩) := by simp only [opd]; cases f ρ <;> rfl
@[simp] theorem ret_isi : ex F (.ret (.isi a ty)) ρ = bd (ev F (.isi a ty) ρ) (k := ⟨fun p => some (.ret p.1, p.2)⟩) := by simp only [ex, map_bd]
@[simp] theorem opd_len : opd (.len a) f ρ = bd (f ρ) (k := ⟨fun p => some (.v p.1.d, p.2)⟩) := by simp only [opd]; cases f ρ <;> rfl
@[simp] theorem ret_len : ex F (.ret (.len a)) ρ = bd (ev F (.len a) ρ) (k := ⟨fun p => some (.ret p.1, p.2)⟩) := by simp only [ex, map_bd]
@[simp] theorem opd_rngs : opd (.rngs bb it) f ρ = bd (f ρ) (k := ⟨fun p => some (.v p.1.d, p.2)⟩) := by simp only [opd]; cases f ρ <;> rfl
@[simp] theorem ret_rngs : ex F (.ret (.rngs bb it)) ρ = bd (ev F (.rngs bb it) ρ) (k := ⟨fun p => some (.ret p.1, p.2)⟩) := by simp only [ex, map_bd]
@[simp] theorem opd_meth : opd (.meth m o a) f ρ = bd (f ρ) (k := ⟨fun p => some (.v p.1.d, p.2)⟩) := by simp only [opd]; cases f ρ <;> rfl
@[simp] theorem ret_meth : ex F (.ret (.meth m o a)) ρ = bd (ev F (.meth m o a) ρ) (k := ⟨fun p => some (.ret p.1, p.2)⟩) := by simp only [ex, map_bd]
@[simp] theorem opd_chg : opd (.chg m i es) f ρ = bd (f ρ) (k := ⟨fun p => some (.v p.1.d, p.2)⟩) := by simp only [opd]; cases f ρ <;> rfl
@[simp] theorem ret_chg : ex F (.ret (.chg m i es)) ρ = bd (ev F (.chg m i es) ρ) (k := ⟨fun p => some (.ret p.1, p.2)⟩) := by simp only [ex, map_bd]

@[simp] theorem dBin_addI (i j) : dBin .add (.int i) (.int j) = some (.fr (.int (i + j))) := id rfl
@[simp] theorem dBin_subI (i j) : dBin .sub (.int i) (.int j) = some (.fr (.int (i - j))) := id rfl
@[simp] theorem dBin_addL (x y) : dBin .add (.list x) (.list y) = gd (x.length + y.length ≤ sizeLine) (some (.nw (x ++ y))) := if_gd _ _
@[simp] theorem dBin_addT (x y) : dBin .add (.tuple x) (.tuple y) = gd (x.length + y.length ≤ sizeLine) (some (.fr (.tuple (x ++ y)))) := if_gd _ _
@[simp] theorem dBin_addS (x y : Str) : dBin .add (.str x) (.str y) = gd (x.length + y.length ≤ sizeLine) (some (.fr (.str (x ++ y)))) := if_gd _ _
/-- what * asks -/
def mulOk (i j : Int) : Prop := CMul i j ∨ CMulW i j
theorem mulOk_r {i j : Int} (h0 : -18446744073709551616 < j) (h1 : j < 18446744073709551616) : mulOk i j := .inl (.inr ⟨by omega, by omega⟩)
theorem mulOk_l {i j : Int} (h0 : -18446744073709551616 < i) (h1 : i < 18446744073709551616) : mulOk i j := .inl (.inl ⟨by omega, by omega⟩)
theorem mulOk_w {i j : Int} {a b : Nat} (ha : i.natAbs < 2 ^ a) (hb : j.natAbs < 2 ^ b) (h0 : 0 < a) (h1 : 0 < b) (h : a + b ≤ 1000000) : mulOk i j := .inr (wide_mul ha hb h0 h1 h)
@[simp] theorem dBin_mulI (i j) : dBin .mul (.int i) (.int j) = gd (mulOk i j) (some (.fr (.int (i * j)))) := if_gd _ _
@[simp] theorem dBin_mulL (x j) : dBin .mul (.list x) (.int j) = gd (-(2 ^ 63) ≤ j ∧ j < 2 ^ 63 ∧ x.length * j.toNat ≤ sizeLine) (some (.nw (List.replicate j.toNat x).flatten)) := if_gd _ _
@[simp] theorem dBin_fdiv (i j) : dBin .fdiv (.int i) (.int j) = gd (j ≠ 0 ∧ j.natAbs.log2 < 9000) (some (.fr (.int (i.fdiv j)))) := if_gd _ _
@[simp] theorem dBin_mod (i j) : dBin .mod (.int i) (.int j) = gd (j ≠ 0) (some (.fr (.int (i.fmod j)))) := if_gd _ _
@[simp] theorem dBin_pow (i j) : dBin .pow (.int i) (.int j) = gd (CPow i j) (some (.fr (.int (i ^ j.toNat)))) := if_gd _ _
@[simp] theorem dCmp_lt (i j) : dCmp .lt (.int i) (.int j) = some (decide (i < j)) := id rfl
@[simp] theorem dCmp_le (i j) : dCmp .le (.int i) (.int j) = some (decide (i ≤ j)) := id rfl
@[simp] theorem dCmp_gt (i j) : dCmp .gt (.int i) (.int j) = some (decide (j < i)) := id rfl
@[simp] theorem dCmp_ge (i j) : dCmp .ge (.int i) (.int j) = some (decide (j ≤ i)) := id rfl
theorem ordC_gd (d e b) : ordC d e b = gd (ordOk d e = true) (some b) := if_gd _ _
@[simp] theorem dCmp_ltT (x y) : dCmp .lt (.tuple x) (.tuple y) = gd (ordOk (.tuple x) (.tuple y) = true) (some (PySem.W.dataLt (.tuple x) (.tuple y))) := ordC_gd _ _ _
@[simp] theorem dCmp_gtT (x y) : dCmp .gt (.tuple x) (.tuple y) = gd (ordOk (.tuple x) (.tuple y) = true) (some (PySem.W.dataLt (.tuple y) (.tuple x))) := ordC_gd _ _ _
@[simp] theorem dCmp_leT (x y) : dCmp .le (.tuple x) (.tuple y) = gd (ordOk (.tuple x) (.tuple y) = true) (some (!PySem.W.dataLt (.tuple y) (.tuple x))) := ordC_gd _ _ _
@[simp] theorem dCmp_geT (x y) : dCmp .ge (.tuple x) (.tuple y) = gd (ordOk (.tuple x) (.tuple y) = true) (some (!PySem.W.dataLt (.tuple x) (.tuple y))) := ordC_gd _ _ _
@[simp] theorem dCmp_ltL (x y) : dCmp .lt (.list x) (.list y) = gd (ordOk (.list x) (.list y) = true) (some (PySem.W.dataLt (.list x) (.list y))) := ordC_gd _ _ _
@[simp] theorem dCmp_gtL (x y) : dCmp .gt (.list x) (.list y) = gd (ordOk (.list x) (.list y) = true) (some (PySem.W.dataLt (.list y) (.list x))) := ordC_gd _ _ _
@[simp] theorem dCmp_isN (d) : dCmp .is d .none = some (match d with | .none => true | _ => false) := id rfl
@[simp] theorem dCmp_isnN (d) : dCmp .isn d .none = some (match d with | .none => false | _ => true) := id rfl
@[simp] theorem dCmp_isB (d b) : dCmp .is d (.bool b) = some (match d with | .bool c => b == c | _ => false) := id rfl
@[simp] theorem dCmp_isnB (d b) : dCmp .isn d (.bool b) = some (match d with | .bool c => b != c | _ => true) := id rfl
theorem dCmp_eq (d e) : dCmp .eq d e = gd ((SeqAt.shaped d && SeqAt.shaped e) = true) (some (PyData.eqv d e)) := by
  simp only [dCmp]
  cases d <;> cases e <;> exact if_gd _ _
theorem dCmp_ne (d e) : dCmp .ne d e = gd ((SeqAt.shaped d && SeqAt.shaped e) = true) (some (!PyData.eqv d e)) := by
  simp only [dCmp]
  cases d <;> cases e <;> exact if_gd _ _
@[simp] theorem dCmp_innL (d ds) : dCmp .inn d (.list ds) = gd ((SeqAt.shaped d && SeqAt.shaped (.list ds)) = true) (some (ds.any fun z => PyData.eqv z d)) := by
  rw [← if_gd]
  cases d <;> first | rfl | simp [dCmp, isFlat]
@[simp] theorem dCmp_ninL (d ds) : dCmp .nin d (.list ds) = gd ((SeqAt.shaped d && SeqAt.shaped (.list ds)) = true) (some (!ds.any fun z => PyData.eqv z d)) := by
  rw [← if_gd]
  cases d <;> first | rfl | simp [dCmp, isFlat]
@[simp] theorem dCmp_innT (d ds) : dCmp .inn d (.tuple ds) = gd ((isFlat d && ds.all isFlat) = true) (some (ds.any fun z => PyData.eqv z d)) := by
  rw [← if_gd]
  cases d <;> first | rfl | simp [dCmp, isFlat]
@[simp] theorem dCmp_ninT (d ds) : dCmp .nin d (.tuple ds) = gd ((isFlat d && ds.all isFlat) = true) (some (!ds.any fun z => PyData.eqv z d)) := by
  rw [← if_gd]
  cases d <;> first | rfl | simp [dCmp, isFlat]
@[simp] theorem dBlt_abs (i) : dBlt .abs [.int i] = some (.fr (.int i.natAbs)) := id rfl
@[simp] theorem dBlt_intI (i) : dBlt .int [.int i] = some (.fr (.int i)) := id rfl
@[simp] theorem dBlt_intB (b) : dBlt .int [.bool b] = some (.fr (.int (if b then 1 else 0))) := id rfl
@[simp] theorem dBlt_str (i) : dBlt .str [.int i] = gd (i.natAbs.log2 < 1920) (some (.fr (.str (Str.ofString (toString i))))) := if_gd _ _
@[simp] theorem dBlt_repr (i) : dBlt .repr [.int i] = gd (i.natAbs.log2 < 1920) (some (.fr (.str (Str.ofString (toString i))))) := if_gd _ _
@[simp] theorem dBlt_sum (xs) : dBlt .sum [.list xs] = bd (allInts xs) (k := ⟨fun ns => some (.fr (.int ns.sum))⟩) := by simp only [dBlt, map_bd]
@[simp] theorem mxR_some (x r xs) : mxR (some (x :: r)) xs = some (.fr (.int (maxI x r))) := id rfl
@[simp] theorem mnR_some (x r xs) : mnR (some (x :: r)) xs = some (.fr (.int (minI x r))) := id rfl
@[simp] theorem mxR_none (x r) : mxR none (x :: r) = gd (mmOk (x :: r) = true) (some (.fr (PySem.W.maxD x r))) := if_gd _ _
@[simp] theorem mnR_none (x r) : mnR none (x :: r) = gd (mmOk (x :: r) = true) (some (.fr (PySem.W.minD x r))) := if_gd _ _
@[simp] theorem srtR_some (ns xs) : srtR (some ns) xs = some (.nw ((sortI ns).map .int)) := id rfl
@[simp] theorem srtR_none (xs) : srtR none xs = gd (sortOk xs = true) (some (.nw (sortD xs))) := if_gd _ _
@[simp] theorem dBlt_max (xs) : dBlt .max [.list xs] = mxR (allInts xs) xs := id rfl
@[simp] theorem dBlt_min (xs) : dBlt .min [.list xs] = mnR (allInts xs) xs := id rfl
@[simp] theorem dBlt_maxT (xs) : dBlt .max [.tuple xs] = mxR (allInts xs) xs := id rfl
@[simp] theorem dBlt_minT (xs) : dBlt .min [.tuple xs] = mnR (allInts xs) xs := id rfl
@[simp] theorem dBlt_max2 (i j) : dBlt .max2 [.int i, .int j] = some (.fr (.int (if j > i then j else i))) := id rfl
@[simp] theorem dBlt_min2 (i j) : dBlt .min2 [.int i, .int j] = some (.fr (.int (if j < i then j else i))) := id rfl
@[simp] theorem dBlt_all (xs) : dBlt .all [.list xs] = bd (allBools xs) (k := ⟨fun ns => some (.fr (.bool (ns.all id)))⟩) := by simp only [dBlt, map_bd]
@[simp] theorem dBlt_any (xs) : dBlt .any [.list xs] = bd (allBools xs) (k := ⟨fun ns => some (.fr (.bool (ns.any id)))⟩) := by simp only [dBlt, map_bd]
@[simp] theorem dBlt_sorted (xs) : dBlt .sorted [.list xs] = srtR (allInts xs) xs := id rfl
@[simp] theorem dBlt_sortedT (xs) : dBlt .sorted [.tuple xs] = bd (allInts xs) (k := ⟨fun ns => some (.nw ((sortI ns).map .int))⟩) := by simp only [dBlt, map_bd]
@[simp] theorem dBlt_listL (xs) : dBlt .list [.list xs] = some (.nw xs) := id rfl
@[simp] theorem dBlt_listT (xs) : dBlt .list [.tuple xs] = some (.nw xs) := id rfl
@[simp] theorem dBlt_tupL (xs) : dBlt .tuple [.list xs] = some (.fr (.tuple xs)) := id rfl
@[simp] theorem dBlt_tupT (xs) : dBlt .tuple [.tuple xs] = some (.fr (.tuple xs)) := id rfl
@[simp] theorem dBlt_gcd (a b) : dBlt .gcd [.int a, .int b] = some (.fr (.int (Nat.gcd a.natAbs b.natAbs : Nat))) := id rfl
@[simp] theorem dChg_append (xs d) : dChg .append xs [d] = gd (xs.length < sizeLine) (some (xs ++ [d], .none)) := if_gd _ _
def popR (xs : List D) : Option (List D × D) := match xs.getLast? with | none => none | some z => some (xs.dropLast, z)
@[simp] theorem dChg_pop (xs) : dChg .pop xs [] = popR xs := id rfl
@[simp] theorem popR_snoc (xs z) : popR (xs ++ [z]) = some (xs, z) := by simp [popR]
@[simp] theorem dChg_popAt (xs i) : dChg .popAt xs [.int i] = bd (ixN xs.length i) (k := ⟨fun j => bd xs[j]? (k := ⟨fun z => some (xs.eraseIdx j, z)⟩)⟩) := by
  show ((ixN xs.length i).bind fun j => (xs[j]?).map fun z => (xs.eraseIdx j, z)) = _
  simp only [bind_bd, map_bd]
@[simp] theorem dChg_insert (xs i d) : dChg .insert xs [.int i, d] = gd (0 ≤ i ∧ i < 2 ^ 63 ∧ xs.length < sizeLine) (some (xs.take i.toNat ++ [d] ++ xs.drop i.toNat, .none)) := if_gd _ _
@[simp] theorem dChg_extend (xs ys) : dChg .extend xs [.list ys] = gd (xs.length + ys.length ≤ sizeLine) (some (xs ++ ys, .none)) := if_gd _ _
@[simp] theorem dChg_remove (xs d) : dChg .remove xs [d] = gd ((SeqAt.shaped d && SeqAt.shaped (.list xs)) = true) (bd (indexD d xs) (k := ⟨fun j => some (xs.eraseIdx j, .none)⟩)) := by
  simp only [dChg, map_bd]; exact if_gd _ _
@[simp] theorem dChg_reverse (xs) : dChg .reverse xs [] = some (xs.reverse, .none) := id rfl
end Ev



set_option maxRecDepth 100000
/-! Lx: rules for loops. -/
namespace Ev
open PySem L2
class Kp where
  p : Env → Prop
/-- a turn goes on, to a state with p -/
def St (x : Option (Out × Env)) [k : Kp] : Prop := ∃ ρ', x = some (.next, ρ') ∧ k.p ρ'
theorem St.next {ρ : Env} {k : Kp} (h : k.p ρ) : St (some (.next, ρ)) (k := k) := ⟨ρ, rfl, h⟩
theorem St.mono {x} {P Q : Env → Prop} (h : St x (k := ⟨P⟩)) (m : ∀ ρ, P ρ → Q ρ) : St x (k := ⟨Q⟩) := by
  obtain ⟨ρ, e, p⟩ := h
  exact ⟨ρ, e, m ρ p⟩
class Kr where
  p : Res → List (List D) → Prop
/-- a def's run ends, with p -/
def Rt (x : Option (Res × List (List D))) [k : Kr] : Prop := ∃ r o, x = some (r, o) ∧ k.p r o
theorem Rt.ok {r : Res} {o : List (List D)} {k : Kr} (h : k.p r o) : Rt (some (r, o)) (k := k) := ⟨r, o, rfl, h⟩
theorem forL_use {b : D → Env → Option (Out × Env)} {ds : List D} {ρ : Env} {x : Option (Out × Env)} (hf : forL b ds ρ = x) (P : Nat → Env → Prop) (h0 : P 0 ρ)
    (hs : ∀ (i : Nat) (d : D) (ρ : Env), ds[i]? = some d → P i ρ → St (b d ρ) (k := ⟨P (i + 1)⟩)) : ∃ ρ', x = some (.next, ρ') ∧ P ds.length ρ' := by
  induction ds generalizing ρ P with
  | nil => exact ⟨ρ, by rw [← hf]; rfl, h0⟩
  | cons d ds ih =>
    obtain ⟨ρ1, e1, h1⟩ := hs 0 d ρ rfl h0
    rw [forL_cons, e1] at hf
    obtain ⟨ρ2, e2, h2⟩ := ih hf (fun i => P (i + 1)) h1 fun i d ρ hd hp => hs (i + 1) d ρ (by simpa using hd) hp
    exact ⟨ρ2, e2, h2⟩
theorem rng_get {a b : Int} {i : Nat} {d : D} (h : (rngD a b)[i]? = some d) : i < (b - a).toNat ∧ d = .int (a + i) := by
  unfold rngD at h
  rw [List.getElem?_map] at h
  cases e : (List.range (b - a).toNat)[i]? with
  | none => rw [e] at h; cases h
  | some j =>
    rw [e] at h
    cases h
    obtain ⟨hl, hj⟩ := List.getElem?_eq_some_iff.mp e
    rw [List.getElem_range] at hj
    subst hj
    exact ⟨by simpa using hl, rfl⟩
@[simp] theorem rng_len (a b : Int) : (rngD a b).length = (b - a).toNat := by simp [rngD]
theorem forR_use {b : D → Env → Option (Out × Env)} {m n : Int} {ρ : Env} {x : Option (Out × Env)} (hf : forL b (rngD m n) ρ = x) (P : Nat → Env → Prop) (h0 : P 0 ρ)
    (hs : ∀ (i : Nat) (ρ : Env), i < (n - m).toNat → P i ρ → St (b (.int (m + i)) ρ) (k := ⟨P (i + 1)⟩)) : ∃ ρ', x = some (.next, ρ') ∧ P (n - m).toNat ρ' := by
  have := forL_use hf P h0 fun i d ρ hd hp => by
    obtain ⟨hi, rfl⟩ := rng_get hd
    exact hs i ρ hi hp
  rwa [rng_len] at this
theorem forM_use {α : Type} {enc : α → D} {xs : List α} {b : D → Env → Option (Out × Env)} {ρ : Env} {x : Option (Out × Env)} (hf : forL b (xs.map enc) ρ = x) (P : Nat → Env → Prop) (h0 : P 0 ρ)
    (hs : ∀ (i : Nat) (a : α) (ρ : Env), xs[i]? = some a → P i ρ → St (b (enc a) ρ) (k := ⟨P (i + 1)⟩)) : ∃ ρ', x = some (.next, ρ') ∧ P xs.length ρ' := by
  have := forL_use hf P h0 fun i d ρ hd hp => by
    rw [List.getElem?_map] at hd
    cases e : xs[i]? with
    | none => rw [e] at hd; cases hd
    | some a => rw [e] at hd; cases hd; exact hs i a ρ e hp
  rwa [List.length_map] at this
/-- the first k turns go on, then the loop is left -/
theorem forL_ret {b : D → Env → Option (Out × Env)} {ds : List D} {ρ : Env} {x : Option (Out × Env)} (hf : forL b ds ρ = x) (P : Nat → Env → Prop) (n : Nat) (R : Res → Env → Prop) (h0 : P 0 ρ) (hn : n < ds.length)
    (hs : ∀ (i : Nat) (d : D) (ρ : Env), i < n → ds[i]? = some d → P i ρ → St (b d ρ) (k := ⟨P (i + 1)⟩))
    (hr : ∀ (d : D) (ρ : Env), ds[n]? = some d → P n ρ → ∃ r ρ', b d ρ = some (.ret r, ρ') ∧ R r ρ') : ∃ r ρ', x = some (.ret r, ρ') ∧ R r ρ' := by
  induction n generalizing ds ρ P with
  | zero =>
    cases ds with
    | nil => simp at hn
    | cons d ds =>
      obtain ⟨r, ρ1, e1, h1⟩ := hr d ρ rfl h0
      rw [forL_cons, e1] at hf
      exact ⟨r, ρ1, hf.symm, h1⟩
  | succ n ih =>
    cases ds with
    | nil => simp at hn
    | cons d ds =>
      obtain ⟨ρ1, e1, h1⟩ := hs 0 d ρ (by omega) rfl h0
      rw [forL_cons, e1] at hf
      exact ih hf (fun i => P (i + 1)) h1 (by simpa using hn) (fun i d ρ hi hd hp => hs (i + 1) d ρ (by omega) (by simpa using hd) hp) (fun d ρ hd hp => hr d ρ (by simpa using hd) hp)
theorem compL_use {stp : D → Env → Option (Option D × Env)} {ds : List D} {ρ : Env} {x : Option (List D × Env)} (hf : compL stp ds ρ = x) (f : D → Option D) (hs : ∀ d ∈ ds, stp d ρ = some (f d, ρ)) : x = some (ds.filterMap f, ρ) := by
  subst hf
  induction ds with
  | nil => rfl
  | cons d ds ih =>
    rw [compL, hs d (by simp)]
    simp only
    rw [ih fun d hd => hs d (by simp [hd])]
    cases e : f d <;> simp [e]
theorem compM_use {α : Type} {enc : α → D} {xs : List α} {stp : D → Env → Option (Option D × Env)} {ρ : Env} {x : Option (List D × Env)} (hf : compL stp (xs.map enc) ρ = x) (f : α → Option D) (hs : ∀ d ∈ xs, stp (enc d) ρ = some (f d, ρ)) : x = some (xs.filterMap f, ρ) := by
  subst hf
  induction xs with
  | nil => rfl
  | cons d ds ih =>
    rw [List.map_cons, compL, hs d (by simp)]
    simp only
    rw [ih fun d hd => hs d (by simp [hd])]
    cases e : f d <;> simp [*]
/-- a comprehension over a range, an item each -/
theorem compR_use {m n : Int} {stp : D → Env → Option (Option D × Env)} {ρ : Env} {x : Option (List D × Env)} (hf : compL stp (rngD m n) ρ = x) (f : Nat → Option D) (hs : ∀ i, i < (n - m).toNat → stp (.int (m + (i : Nat))) ρ = some (f i, ρ)) :
    x = some ((List.range (n - m).toNat).filterMap f, ρ) :=
  compM_use (enc := fun i : Nat => PyData.int (m + i)) (xs := List.range (n - m).toNat) hf f fun i hi => hs i (by simpa using hi)
theorem compL_st {stp : D → Env → Option (Option D × Env)} {ds : List D} {ρ : Env} {x : Option (List D × Env)} (hf : compL stp ds ρ = x) (P : Nat → List D → Env → Prop) (h0 : P 0 [] ρ)
    (hs : ∀ (i : Nat) (d : D) (r : List D) (ρ : Env), ds[i]? = some d → P i r ρ → ∃ o ρ', stp d ρ = some (o, ρ') ∧ P (i + 1) (r ++ o.toList) ρ') : ∃ r ρ', x = some (r, ρ') ∧ P ds.length r ρ' := by
  suffices h : ∀ (r0 : List D) (P : Nat → List D → Env → Prop), P 0 r0 ρ → (∀ (i : Nat) (d : D) (r : List D) (ρ : Env), ds[i]? = some d → P i r ρ → ∃ o ρ', stp d ρ = some (o, ρ') ∧ P (i + 1) (r ++ o.toList) ρ') →
      ∃ r ρ', x = some (r, ρ') ∧ P ds.length (r0 ++ r) ρ' by
    simpa using h [] P h0 hs
  clear h0 hs P
  intro r0 P h0 hs
  induction ds generalizing ρ P r0 x with
  | nil => exact ⟨[], ρ, by rw [← hf]; rfl, by simpa using h0⟩
  | cons d ds ih =>
    obtain ⟨o, ρ1, e1, h1⟩ := hs 0 d r0 ρ rfl h0
    rw [compL, e1] at hf
    simp only at hf
    obtain ⟨r, ρ2, e2, h2⟩ := ih rfl (r0 ++ o.toList) (fun i => P (i + 1)) h1 fun i d r ρ hd hp => hs (i + 1) d r ρ (by simpa using hd) hp
    rw [e2] at hf
    refine ⟨o.toList ++ r, ρ2, ?_, by simpa using h2⟩
    rw [← hf]
    cases o <;> rfl
theorem whileL_use {σ : Type} {c : Env → Option (Res × Env)} {b : Env → Option (Out × Env)} {n : Nat} {x : Option (Out × Env)} (st : σ → Env) (μ : σ → Nat) (I Q : σ → Prop) {s : σ} (hf : whileL c b n (st s) = x) (hI : I s) (hn : μ s < n)
    (hs : ∀ s, I s → (c (st s) = some (.fr (.bool false), st s) ∧ Q s) ∨ ∃ s', c (st s) = some (.fr (.bool true), st s) ∧ b (st s) = some (.next, st s') ∧ I s' ∧ μ s' < μ s) : ∃ s', x = some (.next, st s') ∧ Q s' := by
  subst hf
  induction n generalizing s with
  | zero => omega
  | succ n ih =>
    rw [whileL]
    rcases hs s hI with ⟨e, q⟩ | ⟨s', e1, e2, i, m⟩
    · rw [e]; exact ⟨s, rfl, q⟩
    · rw [e1]
      simp only [e2]
      exact ih i (by omega)
end Ev

set_option maxRecDepth 100000
/-! Ly: data: indices, equality, integers. -/
namespace Ev
open PySem L2
@[simp] theorem ixN_nat (n k : Nat) : ixN n (k : Int) = if k < n then some k else none := by
  unfold ixN; simp
theorem ixN_lt {n k : Nat} (h : k < n) : ixN n (k : Int) = some k := by simp [h]
@[simp] theorem ixN_0 (n : Nat) : ixN n 0 = if 0 < n then some 0 else none := ixN_nat n 0
@[simp] theorem ixN_1 (n : Nat) : ixN n 1 = if 1 < n then some 1 else none := ixN_nat n 1
@[simp] theorem ixN_2 (n : Nat) : ixN n 2 = if 2 < n then some 2 else none := ixN_nat n 2
@[simp] theorem ixN_3 (n : Nat) : ixN n 3 = if 3 < n then some 3 else none := ixN_nat n 3
theorem ixN_m1 (n : Nat) (h : 0 < n) : ixN n (-1) = some (n - 1) := by
  unfold ixN
  rw [if_neg (by omega), if_pos (by omega)]
  congr 1; omega
@[simp] theorem atI_nat {α : Type} (xs : List α) (k : Nat) : atI xs (k : Int) = xs[k]? := by
  unfold atI
  by_cases h : k < xs.length
  · simp [h]
  · simp [h]
@[simp] theorem atI_0 {α : Type} (xs : List α) : atI xs 0 = xs[0]? := atI_nat xs 0
@[simp] theorem atI_1 {α : Type} (xs : List α) : atI xs 1 = xs[1]? := atI_nat xs 1
@[simp] theorem atI_2 {α : Type} (xs : List α) : atI xs 2 = xs[2]? := atI_nat xs 2
@[simp] theorem atI_3 {α : Type} (xs : List α) : atI xs 3 = xs[3]? := atI_nat xs 3
theorem atI_of {α : Type} (xs : List α) {i : Int} (h : 0 ≤ i) : atI xs i = xs[i.toNat]? := by
  obtain ⟨k, rfl⟩ := Int.eq_ofNat_of_zero_le h
  simp
theorem atI_m1 {α : Type} (xs : List α) : atI xs (-1) = xs.getLast? := by
  unfold atI
  cases xs with
  | nil => rfl
  | cons x xs =>
    rw [ixN_m1 _ (by simp)]
    simp [List.getLast?_eq_getElem?]
@[simp] theorem bd_map {α β γ : Type} (x : Option α) (f : α → β) [k : Kt β γ] : bd (Option.map f x) (k := k) = bd x (k := ⟨fun a => k.f (f a)⟩) := by cases x <;> rfl
@[simp] theorem allInts_ints (ns : List Int) : allInts (ns.map .int) = some ns := by
  induction ns with
  | nil => rfl
  | cons n ns ih => simp [allInts, ih]
@[simp] theorem allBools_bools (ns : List Bool) : allBools (ns.map .bool) = some ns := by
  induction ns with
  | nil => rfl
  | cons n ns ih => simp [allBools, ih]
@[simp] theorem eqv_int (i j) : PyData.eqv (.int i) (.int j) = (i == j) := by simp [PyData.eqv]
@[simp] theorem eqv_bool (i j) : PyData.eqv (.bool i) (.bool j) = (i == j) := by simp [PyData.eqv]
@[simp] theorem eqv_str (i j) : PyData.eqv (.str i) (.str j) = (i == j) := by simp [PyData.eqv]
theorem eqvAll_ints : ∀ (xs ys : List Int), PyData.eqvAll (xs.map .int) (ys.map .int) = (xs == ys)
  | [], [] => rfl
  | [], _ :: _ => rfl
  | _ :: _, [] => rfl
  | x :: xs, y :: ys => by simp [PyData.eqvAll, eqvAll_ints xs ys]
@[simp] theorem eqv_ints (xs ys : List Int) : PyData.eqv (.list (xs.map .int)) (.list (ys.map .int)) = (xs == ys) := by
  simp only [PyData.eqv]; exact eqvAll_ints xs ys
@[simp] theorem eqv_intsT (xs ys : List Int) : PyData.eqv (.tuple (xs.map .int)) (.tuple (ys.map .int)) = (xs == ys) := by
  simp only [PyData.eqv]; exact eqvAll_ints xs ys
theorem eqvAll_nil (xs : List D) : PyData.eqvAll xs [] = xs.isEmpty := by cases xs <;> rfl
@[simp] theorem eqv_nilL (xs : List D) : PyData.eqv (.list xs) (.list []) = xs.isEmpty := by simp only [PyData.eqv]; exact eqvAll_nil xs
@[simp] theorem shaped_int (i) : SeqAt.shaped (.int i) = true := by simp [SeqAt.shaped, PyData.canLay0, PyData.depth]
@[simp] theorem shaped_bool (i) : SeqAt.shaped (.bool i) = true := by simp [SeqAt.shaped, PyData.canLay0, PyData.depth]
@[simp] theorem shaped_none : SeqAt.shaped .none = true := by simp [SeqAt.shaped, PyData.canLay0, PyData.depth]
theorem strOk_of (z : String) : PyData.strOk (Str.ofString z) = true := by
  unfold PyData.strOk
  rw [Str.ofString_eq_toList, Array.all_eq_true_iff_forall_mem]
  intro x hx
  rw [List.mem_toArray] at hx
  obtain ⟨c, _, rfl⟩ := List.mem_map.mp hx
  have h := c.valid
  have e : c.toNat = c.val.toNat := rfl
  simp only [UInt32.isValidChar, Nat.isValidChar] at h
  exact decide_eq_true (by omega)
theorem shaped_str (z : String) : SeqAt.shaped (.str (Str.ofString z)) = true := by
  simp [SeqAt.shaped, PyData.canLay0, PyData.depth, strOk_of]
@[simp] theorem dCmp_eqI (i j) : dCmp .eq (.int i) (.int j) = some (decide (i = j)) := by
  rw [dCmp_eq, gd_pos (by simp), eqv_int]; rfl
@[simp] theorem dCmp_neI (i j) : dCmp .ne (.int i) (.int j) = some (!decide (i = j)) := by
  rw [dCmp_ne, gd_pos (by simp), eqv_int]; rfl
@[simp] theorem qs_some (d) : qs (some d) = .fz d := id rfl
@[simp] theorem qs_none : qs none = .un := id rfl
def okAll (p : PK × Opd) : List (PK × Opd) → Bool
  | [] => true
  | q :: r => okPair p q && okAll p r
@[simp] theorem okAll_nil (p) : okAll p [] = true := id rfl
@[simp] theorem okAll_cons (p q r) : okAll p (q :: r) = (okPair p q && okAll p r) := id rfl
theorem okAll_iff (p) : ∀ r, okAll p r = true ↔ ∀ q ∈ r, okPair p q = true
  | [] => by simp
  | q :: r => by simp [okAll_iff p r]
@[simp] theorem apartB_nil (os : List Opd) : apartB [] os = true := by simp [apartB]
@[simp] theorem apartB_cons (k ks o) (oo : List Opd) : apartB (k :: ks) (o :: oo) = (okAll (k, o) (ks.zip oo) && apartB ks oo) := by
  rw [Bool.eq_iff_iff]
  simp only [apartB, List.zip_cons_cons, decide_eq_true_eq, List.pairwise_cons, Bool.and_eq_true, okAll_iff]
@[simp] theorem okPair_l (k d q) : okPair (k, .v d) q = true := by cases q with | mk a b => cases b <;> rfl
@[simp] theorem okPair_r (k d q) : okPair q (k, .v d) = true := by cases q with | mk a b => cases b <;> rfl
@[simp] theorem okPair_s (k k' i j) : okPair (k, .sl i) (k', .sl j) = if k = .M ∨ k' = .M then i != j else true := id rfl
/-- data of limited depth, whose texts are none -/
theorem canLayAll_of {xs : List D} (h : ∀ x ∈ xs, PyData.canLay0 x = true) : PyData.canLayAll0 xs = true := by
  induction xs with
  | nil => rfl
  | cons x xs ih => simp only [PyData.canLayAll0, Bool.and_eq_true]; exact ⟨h x (by simp), ih fun y hy => h y (by simp [hy])⟩
theorem depthAll_of {xs : List D} {n : Nat} (h : ∀ x ∈ xs, PyData.depth x ≤ n) : PyData.depthAll xs ≤ n := by
  induction xs with
  | nil => simp [PyData.depthAll]
  | cons x xs ih => simp only [PyData.depthAll]; have := h x (by simp); have := ih fun y hy => h y (by simp [hy]); omega
def shp (n : Nat) (d : D) : Prop := d.canLay0 = true ∧ d.depth ≤ n
theorem shp_int (i) : shp 0 (.int i) := by simp [shp, PyData.canLay0, PyData.depth]
theorem shp_list {n : Nat} {xs : List D} (h : ∀ x ∈ xs, shp n x) : shp (n + 1) (.list xs) := by
  refine ⟨?_, ?_⟩
  · simp only [PyData.canLay0]; exact canLayAll_of fun x hx => (h x hx).1
  · simp only [PyData.depth]; have := depthAll_of fun x hx => (h x hx).2; omega
theorem shp_tuple {n : Nat} {xs : List D} (h : ∀ x ∈ xs, shp n x) : shp (n + 1) (.tuple xs) := by
  refine ⟨?_, ?_⟩
  · simp only [PyData.canLay0]; exact canLayAll_of fun x hx => (h x hx).1
  · simp only [PyData.depth]; have := depthAll_of fun x hx => (h x hx).2; omega
theorem shaped_of {n : Nat} {d : D} (h : shp n d) (hn : n ≤ 64) : SeqAt.shaped d = true := by
  simp only [SeqAt.shaped, Bool.and_eq_true, decide_eq_true_eq]; exact ⟨h.1, by have := h.2; omega⟩
@[simp] theorem shaped_ints (xs : List Int) : SeqAt.shaped (.list (xs.map .int)) = true := shaped_of (n := 1) (shp_list fun x hx => by
  obtain ⟨i, _, rfl⟩ := List.mem_map.mp hx; exact shp_int i) (by omega)
@[simp] theorem shaped_nil : SeqAt.shaped (.list []) = true := shaped_ints []
@[simp] theorem shaped_intsT (xs : List Int) : SeqAt.shaped (.tuple (xs.map .int)) = true := shaped_of (n := 1) (shp_tuple fun x hx => by
  obtain ⟨i, _, rfl⟩ := List.mem_map.mp hx; exact shp_int i) (by omega)
@[simp] theorem tyF_int_none : tyIs .int .none = false := rfl
@[simp] theorem tyF_int_bool : tyIs .int (.bool b) = true := rfl
@[simp] theorem tyF_int_int : tyIs .int (.int i) = true := rfl
@[simp] theorem tyF_int_str : tyIs .int (.str x) = false := rfl
@[simp] theorem tyF_int_tuple : tyIs .int (.tuple ds) = false := rfl
@[simp] theorem tyF_int_list : tyIs .int (.list ds) = false := rfl
@[simp] theorem tyF_bool_none : tyIs .bool .none = false := rfl
@[simp] theorem tyF_bool_bool : tyIs .bool (.bool b) = true := rfl
@[simp] theorem tyF_bool_int : tyIs .bool (.int i) = false := rfl
@[simp] theorem tyF_bool_str : tyIs .bool (.str x) = false := rfl
@[simp] theorem tyF_bool_tuple : tyIs .bool (.tuple ds) = false := rfl
@[simp] theorem tyF_bool_list : tyIs .bool (.list ds) = false := rfl
@[simp] theorem tyF_str_none : tyIs .str .none = false := rfl
@[simp] theorem tyF_str_bool : tyIs .str (.bool b) = false := rfl
@[simp] theorem tyF_str_int : tyIs .str (.int i) = false := rfl
@[simp] theorem tyF_str_str : tyIs .str (.str x) = true := rfl
@[simp] theorem tyF_str_tuple : tyIs .str (.tuple ds) = false := rfl
@[simp] theorem tyF_str_list : tyIs .str (.list ds) = false := rfl
@[simp] theorem tyF_tuple_none : tyIs .tuple .none = false := rfl
@[simp] theorem tyF_tuple_bool : tyIs .tuple (.bool b) = false := rfl
@[simp] theorem tyF_tuple_int : tyIs .tuple (.int i) = false := rfl
@[simp] theorem tyF_tuple_str : tyIs .tuple (.str x) = false := rfl
@[simp] theorem tyF_tuple_tuple : tyIs .tuple (.tuple ds) = true := rfl
@[simp] theorem tyF_tuple_list : tyIs .tuple (.list ds) = false := rfl
@[simp] theorem tyF_list_none : tyIs .list .none = false := rfl
@[simp] theorem tyF_list_bool : tyIs .list (.bool b) = false := rfl
@[simp] theorem tyF_list_int : tyIs .list (.int i) = false := rfl
@[simp] theorem tyF_list_str : tyIs .list (.str x) = false := rfl
@[simp] theorem tyF_list_tuple : tyIs .list (.tuple ds) = false := rfl
@[simp] theorem tyF_list_list : tyIs .list (.list ds) = true := rfl
/-- the parameter's slot holds x -/
def isS (s : Slot) (x : D) : Prop := s = .fz x ∨ ∃ ds, x = .list ds ∧ s = .bor ds
theorem isS_fz (x) : isS (.fz x) x := .inl rfl
theorem isS_bor (ds) : isS (.bor ds) (.list ds) := .inr ⟨ds, rfl, rfl⟩
/-- data that _law_same finds like themselves, nested at most so deep -/
def Good : Nat → D → Prop
  | 0, _ => False
  | _ + 1, .none => True
  | _ + 1, .bool _ => True
  | _ + 1, .int i => i.natAbs.log2 < 1920
  | j + 1, .list ds => ds.length ≤ 16777216 ∧ ∀ d ∈ ds, Good j d
  | j + 1, .tuple ds => ds.length ≤ 16777216 ∧ ∀ d ∈ ds, Good j d
  | _ + 1, _ => False
theorem lg {n : Nat} (h : n < 18446744073709551616) : n.log2 < 9000 := by
  by_cases h0 : n = 0
  · subst h0; simp
  · have : n.log2 < 64 := (Nat.log2_lt h0).mpr (by omega)
    omega
theorem lgs {n : Nat} (h : n < 18446744073709551616) : n.log2 < 1920 := by
  by_cases h0 : n = 0
  · subst h0; simp
  · have : n.log2 < 64 := (Nat.log2_lt h0).mpr (by omega)
    omega
theorem fmod_nat (a b : Nat) : ((a : Int).fmod (b : Int)) = ((a % b : Nat) : Int) := by
  rw [Int.fmod_eq_emod_of_nonneg _ (by omega)]; omega
theorem fmod_lt (a : Int) {m : Nat} (h : 0 < m) : ∃ r : Nat, r < m ∧ a.fmod m = r := by
  have h1 : 0 ≤ a.fmod m := Int.fmod_nonneg_of_pos a (by omega)
  have h2 : a.fmod m < m := Int.fmod_lt_of_pos a (by omega)
  exact ⟨(a.fmod m).toNat, by omega, by omega⟩
end Ev

set_option maxRecDepth 100000
/-! Lz: loops that may be left; comprehensions with effects; lists of numbers. -/
namespace Ev
open PySem L2
class Kc where
  p : Option D → Env → Prop
def Ct (x : Option (Option D × Env)) [k : Kc] : Prop := ∃ o ρ, x = some (o, ρ) ∧ k.p o ρ
theorem Ct.ok {o ρ} {k : Kc} (h : k.p o ρ) : Ct (some (o, ρ)) (k := k) := ⟨o, ρ, rfl, h⟩
theorem compT_use {stp : D → Env → Option (Option D × Env)} {ds : List D} {ρ : Env} {x : Option (List D × Env)} (hf : compL stp ds ρ = x) (P : Nat → List D → Env → Prop) (h0 : P 0 [] ρ)
    (hs : ∀ (i : Nat) (d : D) (r : List D) (ρ : Env), ds[i]? = some d → P i r ρ → Ct (stp d ρ) (k := ⟨fun o ρ' => P (i + 1) (r ++ o.toList) ρ'⟩)) : ∃ r ρ', x = some (r, ρ') ∧ P ds.length r ρ' :=
  compL_st hf P h0 hs
theorem comp2_use {α : Type} {enc : α → D} {xs : List α} {stp : D → Env → Option (List D × Env)} {ρ : Env} {x : Option (List D × Env)} (hf : compL2 stp (xs.map enc) ρ = x) (f : α → List D) (hs : ∀ d ∈ xs, stp (enc d) ρ = some (f d, ρ)) : x = some ((xs.map f).flatten, ρ) := by
  subst hf
  induction xs with
  | nil => rfl
  | cons d ds ih =>
    rw [List.map_cons, compL2, hs d (by simp)]
    simp only
    rw [ih fun d hd => hs d (by simp [hd])]
    simp
class Ko where
  n : Env → Prop
  b : Env → Prop
  r : Res → Env → Prop
def Tu (x : Option (Out × Env)) [k : Ko] : Prop :=
  (∃ ρ', (x = some (.next, ρ') ∨ x = some (.cont, ρ')) ∧ k.n ρ') ∨ (∃ ρ', x = some (.brk, ρ') ∧ k.b ρ') ∨ ∃ r ρ', x = some (.ret r, ρ') ∧ k.r r ρ'
theorem Tu.next {ρ : Env} {k : Ko} (h : k.n ρ) : Tu (some (.next, ρ)) (k := k) := .inl ⟨ρ, .inl rfl, h⟩
theorem Tu.cont {ρ : Env} {k : Ko} (h : k.n ρ) : Tu (some (.cont, ρ)) (k := k) := .inl ⟨ρ, .inr rfl, h⟩
theorem Tu.brk {ρ : Env} {k : Ko} (h : k.b ρ) : Tu (some (.brk, ρ)) (k := k) := .inr (.inl ⟨ρ, rfl, h⟩)
theorem Tu.ret {ρ : Env} {r : Res} {k : Ko} (h : k.r r ρ) : Tu (some (.ret r, ρ)) (k := k) := .inr (.inr ⟨r, ρ, rfl, h⟩)
theorem Tu.mono {x : Option (Out × Env)} {k k' : Ko} (h : Tu x (k := k)) (n : ∀ ρ, k.n ρ → k'.n ρ) (b : ∀ ρ, k.b ρ → k'.b ρ) (r : ∀ s ρ, k.r s ρ → k'.r s ρ) : Tu x (k := k') := by
  rcases h with ⟨ρ, e, p⟩ | ⟨ρ, e, p⟩ | ⟨s, ρ, e, p⟩
  · exact .inl ⟨ρ, e, n ρ p⟩
  · exact .inr (.inl ⟨ρ, e, b ρ p⟩)
  · exact .inr (.inr ⟨s, ρ, e, r s ρ p⟩)
theorem forL_any {b : D → Env → Option (Out × Env)} {ds : List D} {ρ : Env} {x : Option (Out × Env)} (hf : forL b ds ρ = x) (P : Nat → Env → Prop) (B : Env → Prop) (R : Res → Env → Prop) (h0 : P 0 ρ)
    (hs : ∀ (i : Nat) (d : D) (ρ : Env), ds[i]? = some d → P i ρ → Tu (b d ρ) (k := ⟨P (i + 1), B, R⟩)) :
    (∃ ρ', x = some (.next, ρ') ∧ (P ds.length ρ' ∨ B ρ')) ∨ ∃ r ρ', x = some (.ret r, ρ') ∧ R r ρ' := by
  induction ds generalizing ρ P with
  | nil => exact .inl ⟨ρ, by rw [← hf]; rfl, .inl h0⟩
  | cons d ds ih =>
    rcases hs 0 d ρ rfl h0 with ⟨ρ1, e1, h1⟩ | ⟨ρ1, e1, h1⟩ | ⟨r, ρ1, e1, h1⟩
    · have hf' : forL b ds ρ1 = x := by
        rw [forL_cons] at hf
        rcases e1 with e1 | e1 <;> rw [e1] at hf <;> exact hf
      exact ih hf' (fun i => P (i + 1)) h1 fun i d ρ hd hp => hs (i + 1) d ρ (by simpa using hd) hp
    · rw [forL_cons, e1] at hf
      exact .inl ⟨ρ1, hf.symm, .inr h1⟩
    · rw [forL_cons, e1] at hf
      exact .inr ⟨r, ρ1, hf.symm, h1⟩
theorem forR_any {b : D → Env → Option (Out × Env)} {m n : Int} {ρ : Env} {x : Option (Out × Env)} (hf : forL b (rngD m n) ρ = x) (P : Nat → Env → Prop) (B : Env → Prop) (R : Res → Env → Prop) (h0 : P 0 ρ)
    (hs : ∀ (i : Nat) (ρ : Env), i < (n - m).toNat → P i ρ → Tu (b (.int (m + i)) ρ) (k := ⟨P (i + 1), B, R⟩)) :
    (∃ ρ', x = some (.next, ρ') ∧ (P (n - m).toNat ρ' ∨ B ρ')) ∨ ∃ r ρ', x = some (.ret r, ρ') ∧ R r ρ' := by
  have := forL_any hf P B R h0 fun i d ρ hd hp => by
    obtain ⟨hi, rfl⟩ := rng_get hd
    exact hs i ρ hi hp
  rwa [rng_len] at this
theorem forM_any {α : Type} {enc : α → D} {xs : List α} {b : D → Env → Option (Out × Env)} {ρ : Env} {x : Option (Out × Env)} (hf : forL b (xs.map enc) ρ = x) (P : Nat → Env → Prop) (B : Env → Prop) (R : Res → Env → Prop) (h0 : P 0 ρ)
    (hs : ∀ (i : Nat) (a : α) (ρ : Env), xs[i]? = some a → P i ρ → Tu (b (enc a) ρ) (k := ⟨P (i + 1), B, R⟩)) :
    (∃ ρ', x = some (.next, ρ') ∧ (P xs.length ρ' ∨ B ρ')) ∨ ∃ r ρ', x = some (.ret r, ρ') ∧ R r ρ' := by
  have := forL_any hf P B R h0 fun i d ρ hd hp => by
    rw [List.getElem?_map] at hd
    cases e : xs[i]? with
    | none => rw [e] at hd; cases hd
    | some a => rw [e] at hd; cases hd; exact hs i a ρ e hp
  rwa [List.length_map] at this
theorem whileT {σ : Type} {c : Env → Option (Res × Env)} {b : Env → Option (Out × Env)} {n : Nat} {x : Option (Out × Env)} (st : σ → Env) (μ : σ → Nat) (I : σ → Prop) (Q : Env → Prop) (R : Res → Env → Prop) {s : σ} (hf : whileL c b n (st s) = x) (hI : I s) (hn : μ s < n)
    (hs : ∀ s, I s → (c (st s) = some (.fr (.bool false), st s) ∧ Q (st s)) ∨ (c (st s) = some (.fr (.bool true), st s) ∧ Tu (b (st s)) (k := ⟨fun ρ' => ∃ s', ρ' = st s' ∧ I s' ∧ μ s' < μ s, Q, R⟩))) :
    (∃ ρ', x = some (.next, ρ') ∧ Q ρ') ∨ ∃ r ρ', x = some (.ret r, ρ') ∧ R r ρ' := by
  subst hf
  induction n generalizing s with
  | zero => omega
  | succ n ih =>
    rw [whileL]
    rcases hs s hI with ⟨e, q⟩ | ⟨e1, ⟨ρ1, e2, s', rfl, i, m⟩ | ⟨ρ1, e2, q⟩ | ⟨r, ρ1, e2, q⟩⟩
    · rw [e]; exact .inl ⟨_, rfl, q⟩
    · rw [e1]
      rcases e2 with e2 | e2
      · simp only [e2]; exact ih i (by omega)
      · simp only [e2]; exact ih i (by omega)
    · rw [e1]; simp only [e2]; exact .inl ⟨_, rfl, q⟩
    · rw [e1]; simp only [e2]; exact .inr ⟨r, _, rfl, q⟩
/-- the parameter's slot holds the list xs -/
def hasL (s : Slot) (xs : List D) : Prop := s = .fz (.list xs) ∨ s = .bor xs
theorem hasL.S {s : Slot} {xs : List D} (h : hasL s xs) : isS s (.list xs) := by
  rcases h with rfl | rfl
  · exact isS_fz _
  · exact isS_bor _
@[simp] theorem atI_succ {α : Type} (xs : List α) (j : Nat) : atI xs ((j : Int) + 1) = xs[j + 1]? := atI_nat xs (j + 1)
/-- an unset slot or one's own list -/
def os : Option (List D) → Slot
  | none => .un
  | some ds => .own ds
@[simp] theorem os_some (d) : os (some d) = .own d := id rfl
@[simp] theorem os_none : os none = .un := id rfl
@[simp] theorem putK_os (o ρ) : putK (os o) ρ = some ρ := by cases o <;> rfl
theorem fm_some {α β : Type} (f : α → β) (l : List α) : l.filterMap (fun x => some (f x)) = l.map f := by induction l <;> simp [*]
def natD (i : Nat) : D := .int (i : Int)
@[simp] theorem natD_eq (i : Nat) : natD i = .int (i : Int) := rfl
theorem natD_map (ns : List Nat) : ns.map natD = (ns.map fun (i : Nat) => (i : Int)).map .int := by simp [natD]
@[simp] theorem allInts_nat (ns : List Nat) : allInts (ns.map natD) = some (ns.map fun (i : Nat) => (i : Int)) := by
  rw [natD_map, allInts_ints]
@[simp] theorem shaped_nats (xs : List Nat) : SeqAt.shaped (.list (xs.map natD)) = true := by rw [natD_map]; exact shaped_ints _
@[simp] theorem shaped_natsT (xs : List Nat) : SeqAt.shaped (.tuple (xs.map natD)) = true := by rw [natD_map]; exact shaped_intsT _
theorem any_nat (xs : List Nat) (i : Nat) : (xs.map natD).any (fun z => PyData.eqv z (.int (i : Int))) = decide (i ∈ xs) := by
  induction xs with
  | nil => simp
  | cons x xs ih =>
    rw [List.map_cons, List.any_cons, ih, natD_eq, eqv_int]
    by_cases h : i = x
    · subst h; simp
    · have : ¬ ((x : Int) = (i : Int)) := by omega
      simp [h, this]
theorem flat_nat (xs : List Nat) : (xs.map natD).all isFlat = true := by
  rw [List.all_eq_true]
  intro x hx
  obtain ⟨i, _, rfl⟩ := List.mem_map.mp hx
  rfl
@[simp] theorem isFlat_int (i) : isFlat (.int i) = true := id rfl
theorem rngD_nat (n : Nat) : rngD 0 (n : Int) = (List.range n).map natD := by
  unfold rngD
  rw [show ((n : Int) - 0).toNat = n by omega]
  apply List.map_congr_left
  intro i _
  rw [Int.zero_add]; rfl
theorem insN_comm (x y : Int) : ∀ l : List Int, insI x (insI y l) = insI y (insI x l)
  | [] => by
    simp only [insI]
    by_cases h : x ≤ y <;> by_cases h2 : y ≤ x
    · have : x = y := by omega
      subst this; rfl
    · simp [h, h2]
    · simp [h, h2]
    · omega
  | z :: l => by
    have ih := insN_comm x y l
    simp only [insI]
    by_cases h1 : x ≤ z <;> by_cases h2 : y ≤ z <;> by_cases h3 : x ≤ y <;> by_cases h4 : y ≤ x <;> simp [insI, h1, h2, h3, h4] <;> first | omega | (have : x = y := by omega) <;> (subst this; rfl) | exact ih | skip
theorem sortN_perm {l m : List Int} (h : l.Perm m) : sortI l = sortI m := by
  induction h with
  | nil => rfl
  | cons x _ ih => simp only [sortI, ih]
  | swap x y l => simp only [sortI]; exact insN_comm _ _ _
  | trans _ _ i j => exact i.trans j
theorem insN_perm (x : Int) : ∀ l : List Int, (insI x l).Perm (x :: l)
  | [] => List.Perm.refl _
  | y :: l => by
    simp only [insI]
    by_cases h : x ≤ y
    · simp [h]
    · simp only [h, if_false]
      exact ((insN_perm x l).cons y).trans (List.Perm.swap x y l)
theorem sortN_self : ∀ l : List Int, (sortI l).Perm l
  | [] => List.Perm.refl _
  | x :: l => (insN_perm x _).trans ((sortN_self l).cons x)
/-- numbers sorted are numbers -/
theorem sortN_nat (ns : List Nat) : ∃ ms : List Nat, sortI (ns.map fun (i : Nat) => (i : Int)) = ms.map (fun (i : Nat) => (i : Int)) ∧ ms.Perm ns := by
  have hp := sortN_self (ns.map fun (i : Nat) => (i : Int))
  have e : ∀ l : List Int, (∀ x ∈ l, 0 ≤ x) → l = (l.map Int.toNat).map fun (i : Nat) => (i : Int) := by
    intro l hl
    rw [List.map_map]
    symm
    conv => rhs; rw [← List.map_id l]
    apply List.map_congr_left
    intro x hx
    have := hl x hx
    simp; omega
  refine ⟨(sortI (ns.map fun (i : Nat) => (i : Int))).map Int.toNat, ?_, ?_⟩
  · apply e
    intro x hx
    have := hp.mem_iff.mp hx
    obtain ⟨i, _, rfl⟩ := List.mem_map.mp this
    omega
  · have := hp.map Int.toNat
    rw [List.map_map] at this
    have e2 : (Int.toNat ∘ fun (i : Nat) => (i : Int)) = id := by funext i; simp
    rw [e2, List.map_id] at this
    exact this
theorem good_nats {j : Nat} {ns : List Nat} (hl : ns.length ≤ 16777216) (h : ∀ i ∈ ns, i < 18446744073709551616) : Good (j + 2) (.list (ns.map natD)) := by
  refine ⟨by simpa using hl, fun d hd => ?_⟩
  obtain ⟨i, hi, rfl⟩ := List.mem_map.mp hd
  have := lgs (h i hi)
  exact this
theorem cutD_hi (xs : List D) (k : Nat) : cutD xs none (some (k : Int)) = xs.take k := by
  unfold cutD
  rw [HT.sIx_nat, HT.sIx_none]
  simp only [List.drop_zero, Nat.sub_zero]
  rw [List.take_eq_take_iff]
  omega
theorem nats_sorted (ns : List Nat) : (sortI (ns.map fun (i : Nat) => (i : Int))).map PyData.int = (((sortI (ns.map fun (i : Nat) => (i : Int))).map Int.toNat).map natD) := by
  obtain ⟨ms, e, p⟩ := sortN_nat ns
  rw [e, List.map_map, List.map_map, List.map_map]
  apply List.map_congr_left
  intro i _
  simp
theorem cutD_lo (xs : List D) (k : Nat) : cutD xs (some (k : Int)) none = xs.drop k := by
  unfold cutD
  rw [HT.sIx_nat, HT.sIx_none]
  by_cases h : k ≤ xs.length
  · rw [Nat.min_eq_left h, List.take_of_length_le]
    rw [List.length_drop]; exact Nat.le_refl _
  · rw [Nat.min_eq_right (by omega), List.drop_eq_nil_of_le (by omega : xs.length ≤ xs.length), List.drop_eq_nil_of_le (by omega)]
    simp
theorem cutD_lo1 (xs : List D) : cutD xs (some 1) none = xs.drop 1 := cutD_lo xs 1
theorem cutD_lo2 (xs : List D) : cutD xs (some 2) none = xs.drop 2 := cutD_lo xs 2
theorem ints_map_inj : ∀ {a b : List Int}, a.map PyData.int = b.map PyData.int → a = b
  | [], [], _ => rfl
  | [], _ :: _, h => by simp at h
  | _ :: _, [], h => by simp at h
  | x :: a, y :: b, h => by
    simp only [List.map_cons, List.cons.injEq, PyData.int.injEq] at h
    rw [h.1, ints_map_inj h.2]
theorem maxI_zero : ∀ (r : List Int) (x : Int), 0 ≤ x → (∀ y ∈ r, 0 ≤ y) → (maxI x r = 0 ↔ x = 0 ∧ ∀ y ∈ r, y = 0)
  | [], x, _, _ => by simp [maxI]
  | y :: r, x, h0, h => by
    have hy := h y (by simp)
    unfold maxI
    by_cases hxy : y > x
    · rw [if_pos hxy, maxI_zero r y hy fun z hz => h z (by simp [hz])]
      constructor
      · rintro ⟨rfl, _⟩; omega
      · rintro ⟨rfl, h'⟩
        have := h' y (by simp)
        omega
    · rw [if_neg hxy, maxI_zero r x h0 fun z hz => h z (by simp [hz])]
      constructor
      · rintro ⟨rfl, h'⟩
        refine ⟨rfl, fun z hz => ?_⟩
        rcases List.mem_cons.mp hz with rfl | hz
        · omega
        · exact h' z hz
      · rintro ⟨rfl, h'⟩
        exact ⟨rfl, fun z hz => h' z (by simp [hz])⟩
end Ev

/-! Gr: lanes, what hangs together, woods: of one's own, no program in sight. -/
namespace Gr
open Classical
abbrev La := Nat × Nat
inductive Con (P : List La) : Nat → Nat → Prop
  | refl (a) : Con P a a
  | lane {a b} : (a, b) ∈ P → Con P a b
  | symm {a b} : Con P a b → Con P b a
  | trans {a b c} : Con P a b → Con P b c → Con P a c
theorem Con.mono {P Q : List La} (h : ∀ l ∈ P, l ∈ Q) {a b} (c : Con P a b) : Con Q a b := by
  induction c with
  | refl => exact .refl _
  | lane m => exact .lane (h _ m)
  | symm _ ih => exact .symm ih
  | trans _ _ i j => exact .trans i j
theorem Con.perm {P Q : List La} (h : P.Perm Q) {a b} : Con P a b ↔ Con Q a b := ⟨.mono fun l m => h.mem_iff.mp m, .mono fun l m => h.mem_iff.mpr m⟩
/-- one lane more -/
theorem Con.add {P : List La} {a b u v : Nat} : Con ((a, b) :: P) u v ↔ Con P u v ∨ (Con P u a ∧ Con P b v) ∨ (Con P u b ∧ Con P a v) := by
  constructor
  · intro c
    induction c with
    | refl => exact .inl (.refl _)
    | lane m =>
      rcases List.mem_cons.mp m with e | m
      · cases e; exact .inr (.inl ⟨.refl _, .refl _⟩)
      · exact .inl (.lane m)
    | symm _ ih =>
      rcases ih with h | ⟨h1, h2⟩ | ⟨h1, h2⟩
      · exact .inl h.symm
      · exact .inr (.inr ⟨h2.symm, h1.symm⟩)
      · exact .inr (.inl ⟨h2.symm, h1.symm⟩)
    | trans _ _ i j =>
      rcases i with h | ⟨h1, h2⟩ | ⟨h1, h2⟩ <;> rcases j with k | ⟨k1, k2⟩ | ⟨k1, k2⟩
      · exact .inl (h.trans k)
      · exact .inr (.inl ⟨h.trans k1, k2⟩)
      · exact .inr (.inr ⟨h.trans k1, k2⟩)
      · exact .inr (.inl ⟨h1, h2.trans k⟩)
      · exact .inr (.inl ⟨h1, k2⟩)
      · exact .inl (h1.trans k2)
      · exact .inr (.inr ⟨h1, h2.trans k⟩)
      · exact .inl (h1.trans k2)
      · exact .inr (.inr ⟨h1, k2⟩)
  · intro c
    have m : ∀ {x y}, Con P x y → Con ((a, b) :: P) x y := fun h => h.mono fun l hl => List.mem_cons_of_mem _ hl
    rcases c with h | ⟨h1, h2⟩ | ⟨h1, h2⟩
    · exact m h
    · exact (m h1).trans ((Con.lane (List.mem_cons_self ..)).trans (m h2))
    · exact (m h1).trans ((Con.lane (List.mem_cons_self ..)).symm.trans (m h2))
/-- u is the least of those it hangs together with -/
def Least (P : List La) (u : Nat) : Prop := ∀ v, v < u → ¬ Con P v u
noncomputable def kk (n : Nat) (P : List La) : Nat := (List.range n).countP fun u => decide (Least P u)
theorem least_ex (P : List La) (u : Nat) : ∃ r, r ≤ u ∧ Con P r u ∧ Least P r := by
  induction u using Nat.strongRecOn with
  | _ u ih =>
    by_cases h : Least P u
    · exact ⟨u, Nat.le_refl _, .refl _, h⟩
    · have : ∃ v, v < u ∧ Con P v u := by
        apply Classical.byContradiction
        intro hn
        exact h fun v hv hc => hn ⟨v, hv, hc⟩
      obtain ⟨v, hv, hc⟩ := this
      obtain ⟨r, h1, h2, h3⟩ := ih v hv
      exact ⟨r, by omega, h2.trans hc, h3⟩
theorem least_uniq {P : List La} {u v : Nat} (h1 : Least P u) (h2 : Least P v) (c : Con P u v) : u = v := by
  rcases Nat.lt_trichotomy u v with h | h | h
  · exact absurd c (h2 u h)
  · exact h
  · exact absurd c.symm (h1 v h)
theorem kk_congr {n : Nat} {P Q : List La} (h : ∀ u v, Con P u v ↔ Con Q u v) : kk n P = kk n Q := by
  unfold kk
  congr 1
  funext u
  congr 1
  unfold Least
  simp only [h]
theorem count_one {n : Nat} {p q : Nat → Bool} {r : Nat} (hr : r < n) (h1 : p r = true) (h2 : q r = false) (h : ∀ u, u ≠ r → p u = q u) : (List.range n).countP p = (List.range n).countP q + 1 := by
  induction n with
  | zero => omega
  | succ n ih =>
    rw [List.range_succ, List.countP_append, List.countP_append, List.countP_singleton, List.countP_singleton]
    by_cases e : r = n
    · subst e
      have : (List.range r).countP p = (List.range r).countP q := by
        apply List.countP_congr
        intro u hu
        rw [List.mem_range] at hu
        rw [h u (by omega)]
      rw [this, h1, h2]
      simp
    · have := ih (by omega)
      rw [this, h n (by omega)]
      omega
theorem kk_same {n : Nat} {P : List La} {a b : Nat} (c : Con P a b) : kk n ((a, b) :: P) = kk n P := by
  apply kk_congr
  intro u v
  rw [Con.add]
  constructor
  · rintro (h | ⟨h1, h2⟩ | ⟨h1, h2⟩)
    · exact h
    · exact h1.trans (c.trans h2)
    · exact h1.trans (c.symm.trans h2)
  · exact .inl
theorem kk_join {n : Nat} {P : List La} {a b : Nat} (ha : a < n) (hb : b < n) (c : ¬ Con P a b) : kk n P = kk n ((a, b) :: P) + 1 := by
  obtain ⟨ra, ha1, ha2, ha3⟩ := least_ex P a
  obtain ⟨rb, hb1, hb2, hb3⟩ := least_ex P b
  -- the greater of the two is the least of its own no more
  have key : ∀ (x y rx ry : Nat), Con P rx x → Con P ry y → Least P rx → Least P ry → rx < ry → ((∀ u v, Con ((a, b) :: P) u v ↔ Con P u v ∨ (Con P u x ∧ Con P y v) ∨ (Con P u y ∧ Con P x v))) → ry < n → kk n P = kk n ((a, b) :: P) + 1 := by
    intro x y rx ry cx cy lx ly hlt hadd hn
    unfold kk
    apply count_one hn
    · exact decide_eq_true ly
    · apply decide_eq_false
      intro hl
      exact hl rx hlt ((hadd rx ry).mpr (.inr (.inl ⟨cx, cy.symm⟩)))
    · intro u hu
      congr 1
      apply propext
      constructor
      · intro hl v hv hc
        rcases (hadd v u).mp hc with h | ⟨h1, h2⟩ | ⟨h1, h2⟩
        · exact hl v hv h
        · exact hu (least_uniq hl ly (h2.symm.trans cy.symm))
        · -- u hangs together with x, so u = rx; v with y, so ry ≤ v
          have e : u = rx := least_uniq hl lx (h2.symm.trans cx.symm)
          subst e
          have : ry ≤ v := by
            apply Classical.byContradiction
            intro hnn
            exact ly v (by omega) (h1.trans cy.symm)
          omega
      · intro hl v hv hc
        exact hl v hv ((hadd v u).mpr (.inl hc))
  rcases Nat.lt_trichotomy ra rb with h | h | h
  · exact key a b ra rb ha2 hb2 ha3 hb3 h (fun u v => Con.add) (by omega)
  · subst h
    exact absurd (ha2.symm.trans hb2) c
  · exact key b a rb ra hb2 ha2 hb3 ha3 h (fun u v => by rw [Con.add]; constructor <;> (rintro (h | h | h); exact .inl h; exact .inr (.inr h); exact .inr (.inl h))) (by omega)
/-! ### woods -/
/-- all houses of P's lanes are below n, no lane is a loop -/
def Ok (n : Nat) (P : List La) : Prop := ∀ l ∈ P, l.1 < n ∧ l.2 < n ∧ l.1 ≠ l.2
def Wood (n : Nat) (P : List La) : Prop := kk n P + P.length = n
theorem kk_nil (n : Nat) : kk n [] = n := by
  unfold kk
  have : ∀ u ∈ List.range n, decide (Least [] u) = true := by
    intro u _
    apply decide_eq_true
    intro v hv c
    have : ∀ {a b}, Con [] a b → a = b := by
      intro a b c
      induction c with
      | refl => rfl
      | lane m => simp at m
      | symm _ ih => exact ih.symm
      | trans _ _ i j => exact i.trans j
    have := this c
    omega
  rw [List.countP_eq_length.mpr this, List.length_range]
theorem kk_ge {n : Nat} : ∀ {P : List La}, Ok n P → n ≤ kk n P + P.length
  | [], _ => by rw [kk_nil]; simp
  | (a, b) :: P, h => by
    have ih := kk_ge (P := P) fun l hl => h l (List.mem_cons_of_mem _ hl)
    have hab := h (a, b) (List.mem_cons_self ..)
    by_cases c : Con P a b
    · rw [kk_same c, List.length_cons]; omega
    · have := kk_join (P := P) (a := a) (b := b) hab.1 hab.2.1 c
      rw [List.length_cons]; omega
theorem kk_perm {n : Nat} {P Q : List La} (h : P.Perm Q) : kk n P = kk n Q := kk_congr fun _ _ => Con.perm h
theorem Wood.perm {n : Nat} {P Q : List La} (h : P.Perm Q) : Wood n P ↔ Wood n Q := by
  unfold Wood; rw [kk_perm h, h.length_eq]
theorem Wood.cons {n : Nat} {P : List La} {a b : Nat} (ok : Ok n ((a, b) :: P)) : Wood n ((a, b) :: P) ↔ Wood n P ∧ ¬ Con P a b := by
  have okP : Ok n P := fun l hl => ok l (List.mem_cons_of_mem _ hl)
  have hab := ok (a, b) (List.mem_cons_self ..)
  have g := kk_ge okP
  unfold Wood
  rw [List.length_cons]
  by_cases c : Con P a b
  · rw [kk_same c]
    constructor
    · intro h; omega
    · intro h; exact absurd c h.2
  · have := kk_join (P := P) (a := a) (b := b) hab.1 hab.2.1 c
    constructor
    · intro h; exact ⟨by omega, c⟩
    · intro h; omega
theorem Wood.nil (n : Nat) : Wood n [] := by unfold Wood; rw [kk_nil]; rfl
theorem Wood.sub {n : Nat} {P Q : List La} (ok : Ok n P) (h : Q.Sublist P) (w : Wood n P) : Wood n Q := by
  induction h with
  | slnil => exact w
  | cons l _ ih =>
    obtain ⟨a, b⟩ := l
    exact ih (fun l hl => ok l (List.mem_cons_of_mem _ hl)) ((Wood.cons ok).mp w).1
  | cons_cons l hs ih =>
    obtain ⟨a, b⟩ := l
    have okP := fun l hl => ok l (List.mem_cons_of_mem _ hl)
    obtain ⟨w1, w2⟩ := (Wood.cons ok).mp w
    refine (Wood.cons fun l hl => ?_).mpr ⟨ih okP w1, fun c => w2 (c.mono fun l hl => hs.subset hl)⟩
    rcases List.mem_cons.mp hl with rfl | hl
    · exact ok _ (List.mem_cons_self ..)
    · exact okP l (hs.subset hl)
/-! ### degrees -/
def deg (P : List La) (v : Nat) : Nat := P.countP fun l => l.1 == v || l.2 == v
theorem deg_cons (l : La) (P : List La) (v : Nat) : deg (l :: P) v = deg P v + if l.1 = v ∨ l.2 = v then 1 else 0 := by
  unfold deg
  rw [List.countP_cons]
  congr 1
  simp
theorem untouched {P : List La} {v : Nat} (h : deg P v = 0) {u : Nat} (c : Con P u v) : u = v := by
  have key : ∀ {a b}, Con P a b → (a = v ↔ b = v) := by
    intro a b c
    induction c with
    | refl => exact Iff.rfl
    | lane m =>
      rename_i a b
      have : ∀ l ∈ P, ¬ (l.1 == v || l.2 == v) = true := List.countP_eq_zero.mp h
      have := this _ m
      simp at this
      constructor
      · intro e; exact absurd e this.1
      · intro e; exact absurd e this.2
    | symm _ ih => exact ih.symm
    | trans _ _ i j => exact i.trans j
  exact (key c).mpr rfl
theorem sum_deg {n : Nat} : ∀ {P : List La}, Ok n P → ((List.range n).map (deg P)).sum = 2 * P.length
  | [], _ => by
    have : ∀ l : List Nat, (l.map (deg [])).sum = 0 := by
      intro l
      induction l with
      | nil => rfl
      | cons x l ih => simp [ih, deg]
    rw [this]; rfl
  | l :: P, ok => by
    have ih := sum_deg (P := P) fun l hl => ok l (List.mem_cons_of_mem _ hl)
    have hl := ok l (List.mem_cons_self ..)
    have key : ∀ (m : Nat) (x y : Nat), x ≠ y → ((List.range m).map fun v => if x = v ∨ y = v then 1 else 0).sum = (if x < m then 1 else 0) + (if y < m then 1 else 0) := by
      intro m x y hxy
      induction m with
      | zero => simp
      | succ m ih =>
        rw [List.range_succ, List.map_append, List.sum_append, ih]
        simp only [List.map_cons, List.map_nil, List.sum_cons, List.sum_nil]
        split <;> split <;> split <;> split <;> split <;> omega
    have split' : ∀ m : List Nat, (m.map (deg (l :: P))).sum = (m.map (deg P)).sum + (m.map fun v => if l.1 = v ∨ l.2 = v then 1 else 0).sum := by
      intro m
      induction m with
      | nil => rfl
      | cons v m ih =>
        rw [List.map_cons, List.map_cons, List.map_cons, List.sum_cons, List.sum_cons, List.sum_cons, ih, deg_cons]
        omega
    rw [split', ih, key n l.1 l.2 hl.2.2, if_pos hl.1, if_pos hl.2.1, List.length_cons]
    omega
/-- each end of a lane has two lanes or more -/
def Closed (P : List La) : Prop := ∀ l ∈ P, 2 ≤ deg P l.1 ∧ 2 ≤ deg P l.2
theorem countP_le {p q : Nat → Bool} (l : List Nat) (h : ∀ u ∈ l, p u = true → q u = true) : l.countP p ≤ l.countP q := List.countP_mono_left h
theorem deg_pos {P : List La} {l : La} (h : l ∈ P) : 0 < deg P l.1 ∧ 0 < deg P l.2 := by
  unfold deg
  exact ⟨List.countP_pos_iff.mpr ⟨l, h, by simp⟩, List.countP_pos_iff.mpr ⟨l, h, by simp⟩⟩
/-- houses with a lane -/
def tch (n : Nat) (P : List La) : Nat := (List.range n).countP fun v => decide (0 < deg P v)
theorem count_split (p : Nat → Bool) (l : List Nat) : l.countP p + l.countP (fun u => !p u) = l.length := by
  induction l with
  | nil => rfl
  | cons a l ih => rw [List.countP_cons, List.countP_cons, List.length_cons]; cases p a <;> simp <;> omega
theorem kk_touch {n : Nat} {P : List La} (ok : Ok n P) (h : P ≠ []) : n + 1 ≤ kk n P + tch n P := by
  obtain ⟨l, hl⟩ := List.exists_mem_of_ne_nil P h
  obtain ⟨r, h1, h2, h3⟩ := least_ex P l.1
  have hl1 := (ok l hl).1
  have hr : 0 < deg P r := by
    apply Classical.byContradiction
    intro hn
    have : deg P r = 0 := by omega
    have e := untouched this h2.symm
    have := (deg_pos hl).1
    rw [e] at this
    omega
  have a1 := count_split (fun v => decide (0 < deg P v)) (List.range n)
  rw [List.length_range] at a1
  -- the untouched ones and r are least
  have a2 : (List.range n).countP (fun u => decide (u = r) || !decide (0 < deg P u)) ≤ kk n P := by
    unfold kk
    apply countP_le
    intro u _ hu
    apply decide_eq_true
    rcases Bool.or_eq_true_iff.mp hu with e | e
    · have := of_decide_eq_true e
      subst this; exact h3
    · have hd : deg P u = 0 := by
        have : decide (0 < deg P u) = false := by simpa using e
        have := of_decide_eq_false this
        omega
      intro v hv c
      have := untouched hd c
      omega
  have a3 := count_one (n := n) (p := fun u => decide (u = r) || !decide (0 < deg P u)) (q := fun u => !decide (0 < deg P u)) (r := r) (by omega) (by simp) (by simp [hr]) (fun u hu => by simp [hu])
  unfold tch
  omega
theorem sum_ge (f : Nat → Nat) (l : List Nat) (h : ∀ v ∈ l, 0 < f v → 2 ≤ f v) : 2 * l.countP (fun v => decide (0 < f v)) ≤ (l.map f).sum := by
  induction l with
  | nil => simp
  | cons a l ih =>
    have := ih fun v hv => h v (List.mem_cons_of_mem _ hv)
    rw [List.countP_cons, List.map_cons, List.sum_cons]
    by_cases hz : 0 < f a
    · have := h a (List.mem_cons_self ..) hz
      simp [hz]; omega
    · simp [hz]; omega
theorem deg_mem {P : List La} {v : Nat} (h : 0 < deg P v) : ∃ l ∈ P, l.1 = v ∨ l.2 = v := by
  unfold deg at h
  obtain ⟨l, hl, e⟩ := List.countP_pos_iff.mp h
  exact ⟨l, hl, by simpa using e⟩
theorem Closed.ge {P : List La} (h : Closed P) {v : Nat} (hv : 0 < deg P v) : 2 ≤ deg P v := by
  obtain ⟨l, hl, e | e⟩ := deg_mem hv
  · rw [← e]; exact (h l hl).1
  · rw [← e]; exact (h l hl).2
/-- a closed set of lanes is as great as its houses -/
theorem Closed.size {n : Nat} {P : List La} (ok : Ok n P) (h : Closed P) : tch n P ≤ P.length := by
  have := sum_ge (deg P) (List.range n) fun v _ hv => h.ge hv
  rw [sum_deg ok] at this
  unfold tch
  omega
/-- no closed set in a wood -/
theorem Wood.no_closed {n : Nat} {P : List La} (ok : Ok n P) (w : Wood n P) (h : Closed P) : P = [] := by
  apply Classical.byContradiction
  intro hn
  have a := kk_touch ok hn
  have b := h.size ok
  unfold Wood at w
  omega
/-- a lane with a free end joins -/
theorem leaf_join {P : List La} {a b : Nat} (hab : a ≠ b) (h : deg P a = 0 ∨ deg P b = 0) : ¬ Con P a b := by
  intro c
  rcases h with h | h
  · exact hab (untouched h c.symm).symm
  · exact hab (untouched h c)
end Gr

/-! Gr2: lanes by their numbers; what is left when free ends go; rings. -/
namespace Gr
open Classical
theorem count_lt {p q : Nat → Bool} {l : List Nat} (h : ∀ u ∈ l, p u = true → q u = true) {v : Nat} (hv : v ∈ l) (h1 : p v = false) (h2 : q v = true) : l.countP p < l.countP q := by
  induction l with
  | nil => simp at hv
  | cons a l ih =>
    have m := countP_le l fun u hu => h u (List.mem_cons_of_mem _ hu)
    rw [List.countP_cons, List.countP_cons]
    rcases List.mem_cons.mp hv with rfl | hv
    · simp [h1, h2]; omega
    · have := ih (fun u hu => h u (List.mem_cons_of_mem _ hu)) hv
      have ha := h a (List.mem_cons_self ..)
      by_cases e : p a = true
      · simp [e, ha e]; omega
      · simp [e]; omega
theorem deg_append (P Q : List La) (v : Nat) : deg (P ++ Q) v = deg P v + deg Q v := by
  unfold deg; rw [List.countP_append]
theorem deg_perm {P Q : List La} (h : P.Perm Q) (v : Nat) : deg P v = deg Q v := h.countP_eq _
theorem deg_sub {P Q : List La} (h : P.Sublist Q) (v : Nat) : deg P v ≤ deg Q v := h.countP_le
theorem Ok.sub {n : Nat} {P Q : List La} (ok : Ok n Q) (h : P.Sublist Q) : Ok n P := fun l hl => ok l (h.subset hl)
theorem Ok.perm {n : Nat} {P Q : List La} (ok : Ok n Q) (h : P.Perm Q) : Ok n P := fun l hl => ok l (h.mem_iff.mp hl)
theorem Closed.perm {P Q : List La} (h : P.Perm Q) (c : Closed Q) : Closed P := fun l hl => by
  rw [deg_perm h, deg_perm h]; exact c l (h.mem_iff.mp hl)
/-! ### by number -/
def ln (L : List La) (i : Nat) : La := L.getD i (0, 0)
def Pn (L : List La) (ns : List Nat) : List La := ns.map (ln L)
theorem Pn_cons (L : List La) (i : Nat) (ns : List Nat) : Pn L (i :: ns) = ln L i :: Pn L ns := rfl
theorem Pn_append (L : List La) (ms ns : List Nat) : Pn L (ms ++ ns) = Pn L ms ++ Pn L ns := by simp [Pn]
theorem Pn_perm (L : List La) {ms ns : List Nat} (h : ms.Perm ns) : (Pn L ms).Perm (Pn L ns) := h.map _
theorem Pn_sub (L : List La) {ms ns : List Nat} (h : ms.Sublist ns) : (Pn L ms).Sublist (Pn L ns) := h.map _
theorem Pn_mem {L : List La} {ns : List Nat} {i : Nat} (h : i ∈ ns) : ln L i ∈ Pn L ns := List.mem_map_of_mem h
/-- those both of whose ends have another of them -/
def keeps (L : List La) (ns : List Nat) (i : Nat) : Bool := decide (1 < deg (Pn L ns) (ln L i).1) && decide (1 < deg (Pn L ns) (ln L i).2)
def rest (L : List La) (ns : List Nat) : List Nat := ns.filter (keeps L ns)
def core (L : List La) : Nat → List Nat → List Nat
  | 0, ns => ns
  | k + 1, ns => core L k (rest L ns)
theorem rest_sub (L : List La) (ns : List Nat) : (rest L ns).Sublist ns := List.filter_sublist
theorem core_sub (L : List La) : ∀ (k : Nat) (ns : List Nat), (core L k ns).Sublist ns
  | 0, ns => List.Sublist.refl _
  | k + 1, ns => (core_sub L k _).trans (rest_sub L ns)
theorem core_stable {L : List La} {ns : List Nat} (h : rest L ns = ns) : ∀ k, core L k ns = ns
  | 0 => rfl
  | k + 1 => by rw [core, h]; exact core_stable h k
theorem rest_closed {L : List La} {ns : List Nat} : rest L ns = ns ↔ Closed (Pn L ns) := by
  unfold rest
  rw [List.filter_eq_self]
  constructor
  · intro h l hl
    obtain ⟨i, hi, rfl⟩ := List.mem_map.mp hl
    have := h i hi
    unfold keeps at this
    simp at this
    omega
  · intro h i hi
    have := h _ (Pn_mem hi)
    unfold keeps
    simp
    omega
theorem tch_rest {n : Nat} {L : List La} {ns : List Nat} (ok : Ok n (Pn L ns)) (h : rest L ns ≠ ns) : tch n (Pn L (rest L ns)) < tch n (Pn L ns) := by
  have : ∃ i ∈ ns, keeps L ns i = false := by
    apply Classical.byContradiction
    intro hn
    apply h
    unfold rest
    rw [List.filter_eq_self]
    intro i hi
    apply Classical.byContradiction
    intro hk
    exact hn ⟨i, hi, by simpa using hk⟩
  obtain ⟨i, hi, hk⟩ := this
  have key : ∃ v, v < n ∧ 0 < deg (Pn L ns) v ∧ deg (Pn L ns) v ≤ 1 := by
    have hp := deg_pos (Pn_mem (L := L) hi)
    have ho := ok _ (Pn_mem (L := L) hi)
    unfold keeps at hk
    by_cases h1 : 1 < deg (Pn L ns) (ln L i).1
    · refine ⟨_, ho.2.1, hp.2, ?_⟩
      simp [h1] at hk; omega
    · exact ⟨_, ho.1, hp.1, by omega⟩
  obtain ⟨v, hv, h0, h1⟩ := key
  unfold tch
  apply count_lt (v := v)
  · intro u _ hu
    have := deg_sub (Pn_sub L (rest_sub L ns)) u
    have h := of_decide_eq_true hu
    exact decide_eq_true (by omega)
  · simpa using hv
  · apply decide_eq_false
    intro hd
    obtain ⟨l, hl, e⟩ := deg_mem hd
    obtain ⟨j, hj, rfl⟩ := List.mem_map.mp hl
    have := (List.mem_filter.mp hj).2
    unfold keeps at this
    simp at this
    rcases e with e | e
    · rw [e] at this; omega
    · rw [e] at this; omega
  · exact decide_eq_true h0
theorem tch_le (n : Nat) (P : List La) : tch n P ≤ n := by
  unfold tch
  have := List.countP_le_length (p := fun v => decide (0 < deg P v)) (l := List.range n)
  simpa using this
theorem core_rest {n : Nat} {L : List La} : ∀ (k : Nat) {ns : List Nat}, Ok n (Pn L ns) → tch n (Pn L ns) ≤ k → rest L (core L k ns) = core L k ns
  | 0, ns, ok, h => by
    by_cases e : rest L ns = ns
    · exact e
    · have := tch_rest ok e; omega
  | k + 1, ns, ok, h => by
    by_cases e : rest L ns = ns
    · rw [core_stable e]; exact e
    · have := tch_rest ok e
      exact core_rest k (ok.sub (Pn_sub L (rest_sub L ns))) (by omega)
theorem core_closed {n : Nat} {L : List La} {ns : List Nat} (ok : Ok n (Pn L ns)) : Closed (Pn L (core L n ns)) :=
  rest_closed.mp (core_rest n ok (tch_le n _))
/-- .. is the greatest such -/
theorem rest_great {L : List La} {ns C : List Nat} (h : C.Sublist ns) (c : Closed (Pn L C)) : C.Sublist (rest L ns) := by
  have : C = C.filter (keeps L ns) := by
    symm
    rw [List.filter_eq_self]
    intro i hi
    have h1 := c _ (Pn_mem hi)
    have h2 := deg_sub (Pn_sub L h) (ln L i).1
    have h3 := deg_sub (Pn_sub L h) (ln L i).2
    unfold keeps
    simp
    omega
  rw [this]
  exact h.filter _
theorem core_great {L : List La} {C : List Nat} (c : Closed (Pn L C)) : ∀ (k : Nat) {ns : List Nat}, C.Sublist ns → C.Sublist (core L k ns)
  | 0, ns, h => h
  | k + 1, ns, h => core_great c k (rest_great h c)
theorem wood_rest {n : Nat} {L : List La} {ns : List Nat} (ok : Ok n (Pn L ns)) (w : Wood n (Pn L (rest L ns))) : Wood n (Pn L ns) := by
  have hp := List.filter_append_perm (keeps L ns) ns
  have key : ∀ R : List Nat, R.Sublist (ns.filter fun i => !keeps L ns i) → Wood n (Pn L (R ++ rest L ns)) := by
    intro R
    induction R with
    | nil => intro _; exact w
    | cons i R ih =>
      intro h
      have w' := ih (List.Sublist.trans (List.sublist_cons_self i R) h)
      have hm : i ∈ ns.filter fun i => !keeps L ns i := h.subset (List.mem_cons_self ..)
      have hsub : ((i :: R) ++ rest L ns).Sublist ((ns.filter fun i => !keeps L ns i) ++ rest L ns) := h.append (List.Sublist.refl _)
      have hpm : ((ns.filter fun i => !keeps L ns i) ++ rest L ns).Perm ns := List.perm_append_comm.trans hp
      have ok1 : Ok n (Pn L ((i :: R) ++ rest L ns)) := (ok.perm (Pn_perm L hpm)).sub (Pn_sub L hsub)
      have hdeg : ∀ v, deg (Pn L ((i :: R) ++ rest L ns)) v ≤ deg (Pn L ns) v := fun v => by
        have := deg_sub (Pn_sub L hsub) v
        rwa [deg_perm (Pn_perm L hpm)] at this
      rw [List.cons_append, Pn_cons] at ok1 hdeg ⊢
      have hk := (List.mem_filter.mp hm).2
      have hne := (ok1 _ (List.mem_cons_self ..)).2.2
      generalize Pn L (R ++ rest L ns) = Q at *
      have d1 := hdeg (ln L i).1
      have d2 := hdeg (ln L i).2
      rw [deg_cons] at d1 d2
      simp at d1 d2
      unfold keeps at hk
      simp at hk
      have : deg Q (ln L i).1 = 0 ∨ deg Q (ln L i).2 = 0 := by omega
      have nc := leaf_join hne this
      have : ln L i = ((ln L i).1, (ln L i).2) := rfl
      rw [this] at ok1 ⊢
      exact (Wood.cons ok1).mpr ⟨w', nc⟩
  have := key _ (List.Sublist.refl _)
  exact (Wood.perm (Pn_perm L (List.perm_append_comm.trans hp))).mp this
theorem core_wood {n : Nat} {L : List La} : ∀ (k : Nat) {ns : List Nat}, Ok n (Pn L ns) → core L k ns = [] → Wood n (Pn L ns)
  | 0, ns, ok, h => by
    have : ns = [] := h
    subst this
    exact Wood.nil n
  | k + 1, ns, ok, h => wood_rest ok (core_wood k (ok.sub (Pn_sub L (rest_sub L ns))) h)
theorem Pn_nil {L : List La} {ns : List Nat} (h : Pn L ns = []) : ns = [] := List.map_eq_nil_iff.mp h
theorem wood_core {n : Nat} {L : List La} {ns : List Nat} (ok : Ok n (Pn L ns)) : Wood n (Pn L ns) ↔ core L n ns = [] := by
  constructor
  · intro w
    have hs := Pn_sub L (core_sub L n ns)
    exact Pn_nil ((w.sub ok hs).no_closed (ok.sub hs) (core_closed ok))
  · exact core_wood n ok
/-! ### a wood and one lane more -/
theorem sum_eq (f : Nat → Nat) (l : List Nat) (h : ∀ v ∈ l, 0 < f v → 2 ≤ f v) (e : (l.map f).sum ≤ 2 * l.countP (fun v => decide (0 < f v))) : ∀ v ∈ l, 0 < f v → f v = 2 := by
  induction l with
  | nil => intro v hv; simp at hv
  | cons a l ih =>
    have g := sum_ge f l fun v hv => h v (List.mem_cons_of_mem _ hv)
    have ha := h a (List.mem_cons_self ..)
    rw [List.countP_cons, List.map_cons, List.sum_cons] at e
    intro v hv h0
    by_cases hz : 0 < f a
    · have := ha hz
      simp [hz] at e
      rcases List.mem_cons.mp hv with rfl | hv
      · omega
      · exact ih (fun v hv => h v (List.mem_cons_of_mem _ hv)) (by omega) v hv h0
    · simp [hz] at e
      rcases List.mem_cons.mp hv with rfl | hv
      · omega
      · exact ih (fun v hv => h v (List.mem_cons_of_mem _ hv)) (by omega) v hv h0
theorem touched_rep {P : List La} {u : Nat} (hu : 0 < deg P u) : ∃ r, r ≤ u ∧ Con P r u ∧ Least P r ∧ 0 < deg P r := by
  obtain ⟨r, h1, h2, h3⟩ := least_ex P u
  refine ⟨r, h1, h2, h3, ?_⟩
  apply Classical.byContradiction
  intro hn
  have : deg P r = 0 := by omega
  have e := untouched this h2.symm
  rw [← e] at hn
  omega
theorem deg_lt {n : Nat} {P : List La} (ok : Ok n P) {u : Nat} (hu : 0 < deg P u) : u < n := by
  obtain ⟨l, hl, e | e⟩ := deg_mem hu
  · rw [← e]; exact (ok l hl).1
  · rw [← e]; exact (ok l hl).2.1
theorem kk_touch2 {n : Nat} {P : List La} (ok : Ok n P) {u w : Nat} (hu : 0 < deg P u) (hw : 0 < deg P w) (hc : ¬ Con P u w) : n + 2 ≤ kk n P + tch n P := by
  obtain ⟨r, r1, r2, r3, r4⟩ := touched_rep hu
  obtain ⟨s, s1, s2, s3, s4⟩ := touched_rep hw
  have hrs : r ≠ s := by
    intro e
    subst e
    exact hc (r2.symm.trans s2)
  have hun := deg_lt ok hu
  have hwn := deg_lt ok hw
  have a1 := count_split (fun v => decide (0 < deg P v)) (List.range n)
  rw [List.length_range] at a1
  have a2 : (List.range n).countP (fun u => decide (u = s) || (decide (u = r) || !decide (0 < deg P u))) ≤ kk n P := by
    unfold kk
    apply countP_le
    intro u _ hu
    apply decide_eq_true
    rcases Bool.or_eq_true_iff.mp hu with e | e
    · have := of_decide_eq_true e
      subst this; exact s3
    rcases Bool.or_eq_true_iff.mp e with e | e
    · have := of_decide_eq_true e
      subst this; exact r3
    · have hd : deg P u = 0 := by
        have : decide (0 < deg P u) = false := by simpa using e
        have := of_decide_eq_false this
        omega
      intro v hv c
      have := untouched hd c
      omega
  have a3 := count_one (n := n) (p := fun u => decide (u = r) || !decide (0 < deg P u)) (q := fun u => !decide (0 < deg P u)) (r := r) (by omega) (by simp) (by simp [r4]) (fun u hu => by simp [hu])
  have a4 := count_one (n := n) (p := fun u => decide (u = s) || (decide (u = r) || !decide (0 < deg P u))) (q := fun u => decide (u = r) || !decide (0 < deg P u)) (r := s) (by omega) (by simp) (by simp [s4]; omega) (fun u hu => by simp [hu])
  unfold tch
  omega
/-- a closed set with just one ring -/
theorem tight {n : Nat} {P : List La} (ok : Ok n P) (c : Closed P) (h : kk n P + P.length = n + 1) : tch n P = P.length ∧ (∀ v, 0 < deg P v → deg P v = 2) ∧ ∀ u w, 0 < deg P u → 0 < deg P w → Con P u w := by
  have hne : P ≠ [] := by
    rintro rfl
    rw [kk_nil] at h
    simp at h
  have a := kk_touch ok hne
  have b := c.size ok
  refine ⟨by omega, ?_, ?_⟩
  · intro v hv
    refine sum_eq (deg P) (List.range n) (fun v _ hv => c.ge hv) ?_ v (by simpa using deg_lt ok hv) hv
    rw [sum_deg ok]
    show 2 * P.length ≤ 2 * tch n P
    omega
  · intro u w hu hw
    apply Classical.byContradiction
    intro hc
    have := kk_touch2 ok hu hw hc
    omega
theorem filter_same {α : Type} {p : α → Bool} {D C : List α} (h : D.Sublist C) (e : C.countP p ≤ D.countP p) {x : α} (hx : x ∈ C) (hp : p x = true) : x ∈ D := by
  have h1 := h.filter p
  rw [List.countP_eq_length_filter, List.countP_eq_length_filter] at e
  have := h1.eq_of_length_le e
  have hx' : x ∈ C.filter p := List.mem_filter.mpr ⟨hx, hp⟩
  rw [← this] at hx'
  exact (List.mem_filter.mp hx').1
/-- a closed set in a ring is the ring -/
theorem ring_same {n : Nat} {D P : List La} (ok : Ok n P) (c : Closed P) (h : kk n P + P.length = n + 1) (hs : D.Sublist P) (cd : Closed D) (hd : D ≠ []) : D = P := by
  obtain ⟨t1, t2, t3⟩ := tight ok c h
  have step : ∀ {u w}, Con P u w → (0 < deg D u ↔ 0 < deg D w) := by
    have lane : ∀ l ∈ P, ∀ v, (l.1 = v ∨ l.2 = v) → 0 < deg D v → l ∈ D := by
      intro l hl v hv h0
      have d1 := cd.ge h0
      have d2 := deg_sub hs v
      have d3 := t2 v (by omega)
      refine filter_same (p := fun l => l.1 == v || l.2 == v) hs ?_ hl (by simpa using hv)
      show deg P v ≤ deg D v
      omega
    intro u w hc
    induction hc with
    | refl => exact Iff.rfl
    | lane m =>
      constructor
      · intro h0
        exact (deg_pos (lane _ m _ (.inl rfl) h0)).2
      · intro h0
        exact (deg_pos (lane _ m _ (.inr rfl) h0)).1
    | symm _ ih => exact ih.symm
    | trans _ _ i j => exact i.trans j
  obtain ⟨l, hl⟩ := List.exists_mem_of_ne_nil D hd
  have hl0 := (deg_pos hl).1
  have hp0 : 0 < deg P l.1 := by have := deg_sub hs l.1; omega
  have all : ∀ v, 0 < deg P v → 0 < deg D v := fun v hv => (step (t3 _ _ hp0 hv)).mp hl0
  have : tch n P ≤ tch n D := by
    unfold tch
    apply countP_le
    intro u _ hu
    exact decide_eq_true (all u (of_decide_eq_true hu))
  have := cd.size (ok.sub hs)
  exact hs.eq_of_length_le (by omega)
theorem sub_same {α : Type} {l A : List α} (hn : l.Nodup) (h : A.Sublist l) : l.filter (fun x => decide (x ∈ A)) = A := by
  induction h with
  | slnil => rfl
  | cons x hs ih =>
    rename_i A l
    have hx : x ∉ l := (List.nodup_cons.mp hn).1
    have : x ∉ A := fun hm => hx (hs.subset hm)
    rw [List.filter_cons_of_neg (by simpa using this)]
    exact ih (List.nodup_cons.mp hn).2
  | cons_cons x hs ih =>
    rename_i A l
    have hx : x ∉ l := (List.nodup_cons.mp hn).1
    rw [List.filter_cons_of_pos (by simp)]
    congr 1
    refine Eq.trans (List.filter_congr ?_) (ih (List.nodup_cons.mp hn).2)
    intro y hy
    have : y ≠ x := fun e => hx (e ▸ hy)
    simp [this]
/-- a wood and one lane more, which make a ring -/
structure Ring (n : Nat) (L : List La) (ns : List Nat) (m : Nat) (A : List Nat) : Prop where
  sub : A.Sublist ns
  core : core L n (ns ++ [m]) = A ++ [m]
  ne : A ≠ []
  cl : Closed (Pn L (A ++ [m]))
  one : ∀ D : List Nat, D.Sublist (ns ++ [m]) → Closed (Pn L D) → D ≠ [] → D = A ++ [m]
theorem sub_snoc {α : Type} {C ns : List α} {m : α} (h : C.Sublist (ns ++ [m])) : C.Sublist ns ∨ ∃ A, A.Sublist ns ∧ C = A ++ [m] := by
  obtain ⟨A, B, rfl, h1, h2⟩ := List.sublist_append_iff.mp h
  cases h2 with
  | cons _ h => cases h; exact .inl (by simpa using h1)
  | cons_cons _ h => cases h; exact .inr ⟨A, h1, rfl⟩
theorem ring_of {n : Nat} {L : List La} {ns : List Nat} {m : Nat} (ok : Ok n (Pn L (ns ++ [m]))) (w : Wood n (Pn L ns)) (nw : ¬ Wood n (Pn L (ns ++ [m]))) : ∃ A, Ring n L ns m A := by
  have okn : Ok n (Pn L ns) := ok.sub (Pn_sub L (List.sublist_append_left _ _))
  have hc : core L n (ns ++ [m]) ≠ [] := fun e => nw ((wood_core ok).mpr e)
  have cl := core_closed ok
  have hs := core_sub L n (ns ++ [m])
  rcases sub_snoc hs with h | ⟨A, hA, e⟩
  · exact absurd (Pn_nil ((w.sub okn (Pn_sub L h)).no_closed (okn.sub (Pn_sub L h)) cl)) hc
  · have wA : Wood n (Pn L A) := w.sub okn (Pn_sub L hA)
    have okC : Ok n (Pn L (A ++ [m])) := ok.sub (Pn_sub L (e ▸ hs))
    rw [e] at cl
    have pm : (Pn L (A ++ [m])).Perm (ln L m :: Pn L A) := by
      rw [Pn_append]
      exact List.perm_append_comm
    have ok1 : Ok n (ln L m :: Pn L A) := okC.perm pm.symm
    have sz : kk n (Pn L (A ++ [m])) + (Pn L (A ++ [m])).length = n + 1 := by
      have con : Con (Pn L A) (ln L m).1 (ln L m).2 := by
        apply Classical.byContradiction
        intro hn
        have w1 : Wood n (ln L m :: Pn L A) := (Wood.cons (a := (ln L m).1) (b := (ln L m).2) ok1).mpr ⟨wA, hn⟩
        have := ((Wood.perm pm).mpr w1).no_closed okC cl
        have := Pn_nil this
        simp at this
      have k1 := kk_same (n := n) con
      have k2 : kk n (Pn L (A ++ [m])) = kk n (Pn L A) := (kk_perm pm).trans k1
      have k3 := pm.length_eq
      rw [k2, k3, List.length_cons]
      have : kk n (Pn L A) + (Pn L A).length = n := wA
      omega
    refine ⟨A, hA, e, ?_, cl, ?_⟩
    · rintro rfl
      have := cl _ (Pn_mem (i := m) (by simp))
      simp [Pn, deg_cons, deg] at this
    · intro D hD cD nD
      have h1 : D.Sublist (A ++ [m]) := e ▸ core_great cD n hD
      have h2 := ring_same okC cl sz (Pn_sub L h1) cD fun h => nD (Pn_nil h)
      apply h1.eq_of_length_le
      have := congrArg List.length h2
      simp [Pn] at this
      simp; omega
/-- which lanes of the wood are in the ring -/
theorem Ring.part {n : Nat} {L : List La} {ns : List Nat} {m : Nat} {A : List Nat} (r : Ring n L ns m A) (ok : Ok n (Pn L (ns ++ [m]))) (hn : ns.Nodup) (hm : m ∉ ns) {p : Nat} (hp : p ∈ ns) : Wood n (Pn L (ns.filter (fun i => i != p) ++ [m])) ↔ p ∈ A := by
  have hpm : p ≠ m := fun e => hm (e ▸ hp)
  have hs : (ns.filter (fun i => i != p) ++ [m]).Sublist (ns ++ [m]) := List.filter_sublist.append (List.Sublist.refl _)
  have ok' := ok.sub (Pn_sub L hs)
  constructor
  · intro w
    apply Classical.byContradiction
    intro hA
    have : (A ++ [m]).Sublist (ns.filter (fun i => i != p) ++ [m]) := by
      refine List.Sublist.append ?_ (List.Sublist.refl _)
      have e : A = A.filter (fun i => i != p) := by
        symm
        rw [List.filter_eq_self]
        intro i hi
        simp
        intro e
        exact hA (e ▸ hi)
      rw [e]
      exact r.sub.filter _
    have := Pn_nil ((w.sub ok' (Pn_sub L this)).no_closed (ok'.sub (Pn_sub L this)) r.cl)
    simp at this
  · intro hA
    apply Classical.byContradiction
    intro nw
    have hc : Gr.core L n (ns.filter (fun i => i != p) ++ [m]) ≠ [] := fun e => nw ((wood_core ok').mpr e)
    have h1 := core_sub L n (ns.filter (fun i => i != p) ++ [m])
    have := r.one _ (h1.trans hs) (core_closed ok') hc
    have hpc : p ∈ Gr.core L n (ns.filter (fun i => i != p) ++ [m]) := by rw [this]; simp [hA]
    have := h1.subset hpc
    simp [hpm] at this
end Gr

/-! Gr3: ways that take each lane once; marks. -/
namespace Gr
open Classical
/-- a way along lanes -/
def Tr (L : List La) : Nat → List Nat → Nat → Prop
  | u, [], v => u = v
  | u, i :: r, v => ((ln L i).1 = u ∧ Tr L (ln L i).2 r v) ∨ ((ln L i).2 = u ∧ Tr L (ln L i).1 r v)
theorem Tr.append {L : List La} : ∀ {r s : List Nat} {u w v : Nat}, Tr L u r w → Tr L w s v → Tr L u (r ++ s) v
  | [], s, u, w, v, h1, h2 => by cases h1; exact h2
  | i :: r, s, u, w, v, h1, h2 => by
    rcases h1 with ⟨e, h⟩ | ⟨e, h⟩
    · exact .inl ⟨e, h.append h2⟩
    · exact .inr ⟨e, h.append h2⟩
theorem Tr.split {L : List La} : ∀ {r s : List Nat} {u v : Nat}, Tr L u (r ++ s) v → ∃ w, Tr L u r w ∧ Tr L w s v
  | [], s, u, v, h => ⟨u, rfl, h⟩
  | i :: r, s, u, v, h => by
    rcases h with ⟨e, h⟩ | ⟨e, h⟩
    · obtain ⟨w, h1, h2⟩ := h.split; exact ⟨w, .inl ⟨e, h1⟩, h2⟩
    · obtain ⟨w, h1, h2⟩ := h.split; exact ⟨w, .inr ⟨e, h1⟩, h2⟩
theorem lane_con {L : List La} {l : List Nat} {i : Nat} (h : i ∈ l) : Con (Pn L l) (ln L i).1 (ln L i).2 := .lane (Pn_mem h)
/-- whoever lies on the way hangs together with its start -/
theorem Tr.con {L : List La} {l : List Nat} : ∀ {r : List Nat} {u v : Nat}, Tr L u r v → (∀ i ∈ r, i ∈ l) → Con (Pn L l) u v ∧ ∀ i ∈ r, Con (Pn L l) u (ln L i).1
  | [], u, v, h, _ => by cases h; exact ⟨.refl _, fun i hi => by simp at hi⟩
  | i :: r, u, v, h, hs => by
    have hi := lane_con (L := L) (hs i (List.mem_cons_self ..))
    have hr : ∀ j ∈ r, j ∈ l := fun j hj => hs j (List.mem_cons_of_mem _ hj)
    rcases h with ⟨e, h⟩ | ⟨e, h⟩
    · obtain ⟨h1, h2⟩ := h.con hr
      rw [e] at hi
      refine ⟨hi.trans h1, fun j hj => ?_⟩
      rcases List.mem_cons.mp hj with rfl | hj
      · rw [e]; exact .refl _
      · exact hi.trans (h2 j hj)
    · obtain ⟨h1, h2⟩ := h.con hr
      rw [e] at hi
      refine ⟨hi.symm.trans h1, fun j hj => ?_⟩
      rcases List.mem_cons.mp hj with rfl | hj
      · exact hi.symm
      · exact hi.symm.trans (h2 j hj)
theorem tr_ex {L : List La} : ∀ {l : List Nat}, l.Nodup → ∀ {u v : Nat}, Con (Pn L l) u v → ∃ r : List Nat, Tr L u r v ∧ r.Nodup ∧ ∀ i ∈ r, i ∈ l
  | [], _, u, v, c => by
    have : ∀ {a b}, Con [] a b → a = b := by
      intro a b c
      induction c with
      | refl => rfl
      | lane m => simp at m
      | symm _ ih => exact ih.symm
      | trans _ _ i j => exact i.trans j
    exact ⟨[], this c, by simp, fun i hi => by simp at hi⟩
  | i :: l, hn, u, v, c => by
    have hn' := (List.nodup_cons.mp hn).2
    have hi := (List.nodup_cons.mp hn).1
    by_cases c0 : Con (Pn L l) u v
    · obtain ⟨r, h1, h2, h3⟩ := tr_ex hn' c0
      exact ⟨r, h1, h2, fun j hj => List.mem_cons_of_mem _ (h3 j hj)⟩
    · have key : ∀ a b, Con (Pn L l) u a → Con (Pn L l) b v → (∀ s, Tr L b s v → Tr L a (i :: s) v) → ∃ r : List Nat, Tr L u r v ∧ r.Nodup ∧ ∀ j ∈ r, j ∈ i :: l := by
        intro a b ca cb st
        obtain ⟨r, h1, h2, h3⟩ := tr_ex hn' ca
        obtain ⟨s, k1, k2, k3⟩ := tr_ex hn' cb
        refine ⟨r ++ i :: s, h1.append (st s k1), ?_, ?_⟩
        · rw [List.nodup_append]
          refine ⟨h2, List.nodup_cons.mpr ⟨fun h => hi (k3 i h), k2⟩, ?_⟩
          intro x hx y hy e
          subst e
          rcases List.mem_cons.mp hy with rfl | hy
          · exact hi (h3 _ hx)
          · have q1 := (h1.con h3).2 x hx
            have q2 := k1.con k3
            exact c0 (q1.trans ((q2.2 x hy).symm.trans q2.1))
        · intro j hj
          rcases List.mem_append.mp hj with h | h
          · exact List.mem_cons_of_mem _ (h3 j h)
          · rcases List.mem_cons.mp h with rfl | h
            · exact List.mem_cons_self ..
            · exact List.mem_cons_of_mem _ (k3 j h)
      rw [Pn_cons] at c
      have e : ln L i = ((ln L i).1, (ln L i).2) := rfl
      rw [e] at c
      rcases Con.add.mp c with h | ⟨h1, h2⟩ | ⟨h1, h2⟩
      · exact absurd h c0
      · exact key _ _ h1 h2 fun s hs => .inl ⟨rfl, hs⟩
      · exact key _ _ h1 h2 fun s hs => .inr ⟨rfl, hs⟩
theorem tr_first {L : List La} {u v i : Nat} {r : List Nat} (h : Tr L u (i :: r) v) : 0 < deg (Pn L (i :: r)) u := by
  rw [Pn_cons, deg_cons]
  rcases h with ⟨e, h⟩ | ⟨e, h⟩
  · simp [e]
  · simp [e]
theorem tr_last {L : List La} : ∀ {r : List Nat} {u v : Nat}, Tr L u r v → r ≠ [] → 0 < deg (Pn L r) v
  | [i], u, v, h, _ => by
    rw [Pn_cons, deg_cons]
    rcases h with ⟨e, h⟩ | ⟨e, h⟩
    · have : (ln L i).2 = v := h
      simp [this]
    · have : (ln L i).1 = v := h
      simp [this]
  | i :: j :: r, u, v, h, _ => by
    rw [Pn_cons, deg_cons]
    rcases h with ⟨e, h⟩ | ⟨e, h⟩
    · have := tr_last h (by simp); omega
    · have := tr_last h (by simp); omega
theorem tr_deg {L : List La} : ∀ {r : List Nat} {u v : Nat}, Tr L u r v → ∀ i ∈ r, ∀ w, ((ln L i).1 = w ∨ (ln L i).2 = w) → 2 ≤ deg (Pn L r) w + (if w = u then 1 else 0) + (if w = v then 1 else 0)
  | [], u, v, _, i, hi, w, _ => by simp at hi
  | j :: r, u, v, h, i, hi, w, hw => by
    have key : ∀ x, Tr L x r v → (((ln L j).1 = u ∧ (ln L j).2 = x) ∨ ((ln L j).2 = u ∧ (ln L j).1 = x)) → 2 ≤ deg (Pn L (j :: r)) w + (if w = u then 1 else 0) + (if w = v then 1 else 0) := by
      intro x hx hj
      rw [Pn_cons, deg_cons]
      rcases List.mem_cons.mp hi with rfl | hi
      · -- the first lane
        rw [if_pos hw]
        by_cases hwu : w = u
        · rw [if_pos hwu]; omega
        · have hwx : w = x := by
            rcases hj with ⟨e1, e2⟩ | ⟨e1, e2⟩ <;> rcases hw with e | e <;> omega
          subst hwx
          cases r with
          | nil =>
            have : w = v := hx
            rw [if_pos this]; omega
          | cons k r =>
            have := tr_first hx
            omega
      · have ih := tr_deg hx i hi w hw
        by_cases hwx : w = x
        · have : (ln L j).1 = w ∨ (ln L j).2 = w := by
            rcases hj with ⟨e1, e2⟩ | ⟨e1, e2⟩
            · exact .inr (by omega)
            · exact .inl (by omega)
          rw [if_pos this]
          rw [if_pos hwx] at ih
          omega
        · rw [if_neg hwx] at ih
          omega
    rcases h with ⟨e, h⟩ | ⟨e, h⟩
    · exact key _ h (.inl ⟨e, rfl⟩)
    · exact key _ h (.inr ⟨e, rfl⟩)
/-- a way and a lane between its ends -/
theorem tr_closed {L : List La} {r : List Nat} {m : Nat} (h : Tr L (ln L m).1 r (ln L m).2) (hne : (ln L m).1 ≠ (ln L m).2) : Closed (Pn L (r ++ [m])) := by
  have hr : r ≠ [] := by
    rintro rfl
    exact hne h
  have dm : ∀ w, deg (Pn L (r ++ [m])) w = deg (Pn L r) w + if (ln L m).1 = w ∨ (ln L m).2 = w then 1 else 0 := fun w => by
    rw [Pn_append, deg_append, Pn_cons, deg_cons]
    simp [Pn, deg]
  have key : ∀ i ∈ r ++ [m], ∀ w, ((ln L i).1 = w ∨ (ln L i).2 = w) → 2 ≤ deg (Pn L (r ++ [m])) w := by
    intro i hi w hw
    rw [dm]
    rcases List.mem_append.mp hi with h1 | h1
    · have := tr_deg h i h1 w hw
      by_cases e1 : (ln L m).1 = w <;> by_cases e2 : (ln L m).2 = w
      · exact absurd (e1.trans e2.symm) hne
      · rw [if_pos (.inl e1)]
        rw [if_pos e1.symm, if_neg (fun e => e2 e.symm)] at this
        omega
      · rw [if_pos (.inr e2)]
        rw [if_neg (fun e => e1 e.symm), if_pos e2.symm] at this
        omega
      · rw [if_neg (fun e => e1 e.symm), if_neg (fun e => e2 e.symm)] at this
        omega
    · simp at h1
      subst h1
      rw [if_pos hw]
      have : 0 < deg (Pn L r) w := by
        rcases hw with e | e
        · subst e
          cases r with
          | nil => exact absurd rfl hr
          | cons k r => exact tr_first h
        · subst e
          exact tr_last h hr
      omega
  intro l hl
  obtain ⟨i, hi, rfl⟩ := List.mem_map.mp hl
  exact ⟨key i hi _ (.inl rfl), key i hi _ (.inr rfl)⟩
theorem Ring.way {n : Nat} {L : List La} {ns : List Nat} {m : Nat} {A : List Nat} (r : Ring n L ns m A) (hn : ns.Nodup) (hne : (ln L m).1 ≠ (ln L m).2) {row : List Nat} (h : Tr L (ln L m).1 row (ln L m).2) (hd : row.Nodup) (hs : ∀ i ∈ row, i ∈ ns) : row.Perm A := by
  have e1 : (ns.filter fun i => decide (i ∈ row)).Perm row := by
    have hnf : (ns.filter fun i => decide (i ∈ row)).Nodup := (List.filter_sublist (l := ns)).nodup hn
    rw [List.perm_ext_iff_of_nodup hnf hd]
    intro a
    simp
    exact hs a
  have hc : Closed (Pn L ((ns.filter fun i => decide (i ∈ row)) ++ [m])) := (tr_closed h hne).perm (Pn_perm L (e1.append (List.Perm.refl _)))
  have := r.one _ (List.filter_sublist.append (List.Sublist.refl _)) hc (by simp)
  have := List.append_cancel_right this
  rw [← this]
  exact e1.symm
/-! ### marks -/
/-- marks agree just where lanes hang together -/
def Mk (n : Nat) (ms : List Nat) (P : List La) : Prop := ms.length = n ∧ ∀ u v, u < n → v < n → (ms.getD u 0 = ms.getD v 0 ↔ Con P u v)
theorem mk_start (n : Nat) : Mk n (List.range n) [] := by
  refine ⟨by simp, fun u v hu hv => ?_⟩
  simp [hu, hv]
  constructor
  · rintro rfl; exact .refl _
  · intro c
    induction c with
    | refl => rfl
    | lane m => simp at m
    | symm _ ih => exact (ih hv hu).symm
    | trans _ _ i j =>
      rename_i c1 c2
      have : ∀ {a b}, Con [] a b → a = b := by
        intro a b c
        induction c with
        | refl => rfl
        | lane m => simp at m
        | symm _ ih => exact ih.symm
        | trans _ _ i j => exact i.trans j
      exact (this c1).trans (this c2)
def remark (old fresh : Nat) (ms : List Nat) : List Nat := ms.map fun k => if k = old then fresh else k
theorem mk_step {n : Nat} {ms : List Nat} {P : List La} (h : Mk n ms P) {a b : Nat} (ha : a < n) (hb : b < n) : Mk n (remark (ms.getD a 0) (ms.getD b 0) ms) ((a, b) :: P) := by
  obtain ⟨hl, h⟩ := h
  refine ⟨by simp [remark, hl], fun u v hu hv => ?_⟩
  rw [Con.add]
  have g : ∀ u, u < n → (remark (ms.getD a 0) (ms.getD b 0) ms).getD u 0 = if ms.getD u 0 = ms.getD a 0 then ms.getD b 0 else ms.getD u 0 := by
    intro u hu
    have hu' : u < ms.length := by omega
    simp [remark, hu']
  rw [g u hu, g v hv]
  have huv := h u v hu hv
  have hua := h u a hu ha
  have hva := h v a hv ha
  have hub := h u b hu hb
  have hvb := h v b hv hb
  by_cases e1 : ms.getD u 0 = ms.getD a 0 <;> by_cases e2 : ms.getD v 0 = ms.getD a 0
  · rw [if_pos e1, if_pos e2]
    constructor
    · intro _
      exact .inl ((hua.mp e1).trans (hva.mp e2).symm)
    · intro _; rfl
  · rw [if_pos e1, if_neg e2]
    have ca := hua.mp e1
    constructor
    · intro e
      exact .inr (.inl ⟨ca, (hvb.mp e.symm).symm⟩)
    · rintro (c | ⟨_, c⟩ | ⟨_, c⟩)
      · exact absurd (hva.mpr (c.symm.trans ca)) e2
      · exact (hvb.mpr c.symm).symm
      · exact absurd (hva.mpr c.symm) e2
  · rw [if_neg e1, if_pos e2]
    have ca := hva.mp e2
    constructor
    · intro e
      exact .inr (.inr ⟨hub.mp e, ca.symm⟩)
    · rintro (c | ⟨c, _⟩ | ⟨c, _⟩)
      · exact absurd (hua.mpr (c.trans ca)) e1
      · exact absurd (hua.mpr c) e1
      · exact hub.mpr c
  · rw [if_neg e1, if_neg e2]
    constructor
    · intro e
      exact .inl (huv.mp e)
    · rintro (c | ⟨c, _⟩ | ⟨_, c⟩)
      · exact huv.mpr c
      · exact absurd (hua.mpr c) e1
      · exact absurd (hva.mpr c.symm) e2
theorem Mk.perm {n : Nat} {ms : List Nat} {P Q : List La} (h : Mk n ms P) (p : P.Perm Q) : Mk n ms Q :=
  ⟨h.1, fun u v hu hv => (h.2 u v hu hv).trans (Con.perm p)⟩
end Gr

/-! Gr4: the search for a way; lists. -/
namespace Gr
open Classical
theorem erase_map {α β : Type} (f : α → β) : ∀ (l : List α) (j : Nat), (l.map f).eraseIdx j = (l.eraseIdx j).map f
  | [], _ => rfl
  | a :: l, 0 => rfl
  | a :: l, j + 1 => by simp [List.eraseIdx_cons_succ, erase_map f l j]
theorem erase_perm {α : Type} : ∀ (l : List α) (j : Nat) (h : j < l.length), (l[j] :: l.eraseIdx j).Perm l
  | [], j, h => by simp at h
  | a :: l, 0, h => by simp
  | a :: l, j + 1, h => by
    simp only [List.getElem_cons_succ, List.eraseIdx_cons_succ]
    exact (List.Perm.swap a _ _).trans ((erase_perm l j (by simpa using h)).cons a)
def touch (L : List La) (i h : Nat) : Bool := (ln L i).1 == h || (ln L i).2 == h
def far (L : List La) (i h : Nat) : Nat := (ln L i).1 + (ln L i).2 - h
abbrev En := Nat × List Nat
/-- goes on along lane i -/
def goes (L : List La) (p : En) (i : Nat) : Bool := touch L i p.1 && !decide (i ∈ p.2)
def kid (L : List La) (p : En) (i : Nat) : En := (far L i p.1, p.2 ++ [i])
def kids (L : List La) (ns : List Nat) (p : En) : List En := (ns.filter (goes L p)).map (kid L p)
def Inv (L : List La) (ns : List Nat) (a b : Nat) (st : List En) : Prop :=
  (∀ p ∈ st, Tr L a p.2 p.1 ∧ p.2.Nodup ∧ ∀ i ∈ p.2, i ∈ ns) ∧ ∃ p ∈ st, ∃ r, Tr L p.1 r b ∧ (p.2 ++ r).Nodup ∧ ∀ i ∈ r, i ∈ ns
def mu (m : Nat) (st : List En) : Nat := (st.map fun p => (m + 1) ^ (m - p.2.length)).sum
theorem inv_start {L : List La} {ns : List Nat} {a b : Nat} (hn : ns.Nodup) (h : Con (Pn L ns) a b) : Inv L ns a b [(a, [])] := by
  obtain ⟨r, h1, h2, h3⟩ := tr_ex hn h
  refine ⟨fun p hp => ?_, (a, []), by simp, r, h1, by simpa using h2, h3⟩
  simp at hp
  subst hp
  exact ⟨rfl, by simp, by simp⟩
theorem tr_step {L : List La} {i h : Nat} (ht : touch L i h = true) : Tr L h [i] (far L i h) := by
  unfold touch at ht
  unfold far
  rcases Bool.or_eq_true_iff.mp ht with e | e
  · have e : (ln L i).1 = h := by simpa using e
    refine .inl ⟨e, ?_⟩
    show (ln L i).2 = _
    omega
  · have e : (ln L i).2 = h := by simpa using e
    refine .inr ⟨e, ?_⟩
    show (ln L i).1 = _
    omega
theorem inv_step {L : List La} {ns : List Nat} {a b : Nat} {st : List En} {p : En} (hI : Inv L ns a b (st ++ [p])) (hb : p.1 ≠ b) : Inv L ns a b (st ++ kids L ns p) := by
  obtain ⟨h1, q, hq, r, r1, r2, r3⟩ := hI
  obtain ⟨p1, p2, p3⟩ := h1 p (by simp)
  constructor
  · intro x hx
    rcases List.mem_append.mp hx with h | h
    · exact h1 x (by simp [h])
    · obtain ⟨i, hi, rfl⟩ := List.mem_map.mp h
      obtain ⟨i1, i2⟩ := List.mem_filter.mp hi
      unfold goes at i2
      simp only [Bool.and_eq_true, Bool.not_eq_true', decide_eq_false_iff_not] at i2
      refine ⟨p1.append (tr_step i2.1), ?_, ?_⟩
      · show (p.2 ++ [i]).Nodup
        rw [List.nodup_append]
        refine ⟨p2, by simp, ?_⟩
        intro x1 hx1 y1 hy1 e
        simp at hy1
        subst hy1; subst e
        exact i2.2 hx1
      · intro j hj
        rcases List.mem_append.mp hj with h | h
        · exact p3 j h
        · simp at h; subst h; exact i1
  · rcases List.mem_append.mp hq with h | h
    · exact ⟨q, by simp [h], r, r1, r2, r3⟩
    · simp at h
      subst h
      cases r with
      | nil => exact absurd r1 hb
      | cons i r =>
        have hi : i ∈ ns := r3 i (by simp)
        have hni : i ∉ q.2 := by
          intro hm
          rw [List.nodup_append] at r2
          exact r2.2.2 i hm i (by simp) rfl
        have ht : touch L i q.1 = true := by
          unfold touch
          rcases r1 with ⟨e, _⟩ | ⟨e, _⟩ <;> simp [e]
        refine ⟨kid L q i, ?_, r, ?_, ?_, fun j hj => r3 j (by simp [hj])⟩
        · apply List.mem_append_right
          exact List.mem_map.mpr ⟨i, List.mem_filter.mpr ⟨hi, by unfold goes; simp [ht, hni]⟩, rfl⟩
        · show Tr L (far L i q.1) r b
          unfold far
          rcases r1 with ⟨e, h⟩ | ⟨e, h⟩
          · rw [show (ln L i).1 + (ln L i).2 - q.1 = (ln L i).2 by omega]; exact h
          · rw [show (ln L i).1 + (ln L i).2 - q.1 = (ln L i).1 by omega]; exact h
        · show ((q.2 ++ [i]) ++ r).Nodup
          rw [List.append_assoc]; exact r2
theorem sum_const (c : Nat) : ∀ l : List En, (∀ p ∈ l, True) → ∀ f : En → Nat, (∀ p ∈ l, f p ≤ c) → (l.map f).sum ≤ l.length * c
  | [], _, f, _ => by simp
  | p :: l, _, f, h => by
    have ih := sum_const c l (fun _ _ => trivial) f fun p hp => h p (List.mem_cons_of_mem _ hp)
    have := h p (List.mem_cons_self ..)
    rw [List.map_cons, List.sum_cons, List.length_cons, Nat.add_mul]
    omega
theorem mu_step {L : List La} {ns : List Nat} {st : List En} {p : En} (h2 : p.2.Nodup) (h3 : ∀ i ∈ p.2, i ∈ ns) : mu ns.length (st ++ kids L ns p) < mu ns.length (st ++ [p]) := by
  unfold mu
  rw [List.map_append, List.map_append, List.sum_append, List.sum_append]
  simp only [List.map_cons, List.map_nil, List.sum_cons, List.sum_nil, Nat.add_zero]
  suffices h : ((kids L ns p).map fun p => (ns.length + 1) ^ (ns.length - p.2.length)).sum < (ns.length + 1) ^ (ns.length - p.2.length) by omega
  have hlen : (kids L ns p).length ≤ ns.length := by
    unfold kids
    rw [List.length_map]
    exact List.length_filter_le _ _
  have key := sum_const ((ns.length + 1) ^ (ns.length - (p.2.length + 1))) (kids L ns p) (fun _ _ => trivial) (fun p => (ns.length + 1) ^ (ns.length - p.2.length)) (by
    intro q hq
    obtain ⟨i, _, rfl⟩ := List.mem_map.mp hq
    show (ns.length + 1) ^ (ns.length - (p.2 ++ [i]).length) ≤ _
    rw [List.length_append]; exact Nat.le_refl _)
  by_cases hk : kids L ns p = []
  · rw [hk]
    exact Nat.pow_pos (by omega)
  · obtain ⟨q, hq⟩ := List.exists_mem_of_ne_nil _ hk
    obtain ⟨i, hi, rfl⟩ := List.mem_map.mp hq
    obtain ⟨i1, i2⟩ := List.mem_filter.mp hi
    unfold goes at i2
    simp only [Bool.and_eq_true, Bool.not_eq_true', decide_eq_false_iff_not] at i2
    have hl : p.2.length + 1 ≤ ns.length := by
      have : (i :: p.2).Nodup := List.nodup_cons.mpr ⟨i2.2, h2⟩
      have := this.length_le_of_subset (l₂ := ns) fun x hx => by
        rcases List.mem_cons.mp hx with rfl | hx
        · exact i1
        · exact h3 x hx
      simpa using this
    have e : ns.length - p.2.length = (ns.length - (p.2.length + 1)) + 1 := by omega
    rw [e, Nat.pow_succ]
    have hpos : 0 < (ns.length + 1) ^ (ns.length - (p.2.length + 1)) := Nat.pow_pos (by omega)
    generalize (ns.length + 1) ^ (ns.length - (p.2.length + 1)) = X at *
    have : (kids L ns p).length * X ≤ ns.length * X := Nat.mul_le_mul_right _ hlen
    rw [Nat.mul_add, Nat.mul_comm X ns.length]
    omega
end Gr

/-! Gr5: trees: as many lanes as houses less one. -/
namespace Gr
open Classical
theorem least_zero (P : List La) : Least P 0 := fun v hv => by omega
/-- all hang together -/
def Whole (n : Nat) (P : List La) : Prop := ∀ u, u < n → Con P 0 u
theorem whole_kk {n : Nat} {P : List La} (h0 : 0 < n) : kk n P = 1 ↔ Whole n P := by
  constructor
  · intro hk u hu
    apply Classical.byContradiction
    intro hc
    obtain ⟨r, r1, r2, r3⟩ := least_ex P u
    have hr : r ≠ 0 := by
      rintro rfl
      exact hc r2
    have a2 : (List.range n).countP (fun u => decide (u = r) || (decide (u = 0) || false)) ≤ kk n P := by
      unfold kk
      apply countP_le
      intro u _ hu
      apply decide_eq_true
      simp at hu
      rcases hu with rfl | rfl
      · exact r3
      · exact least_zero P
    have a3 := count_one (n := n) (p := fun u => decide (u = 0) || false) (q := fun _ => false) (r := 0) h0 (by simp) rfl (fun u hu => by simp [hu])
    have a4 := count_one (n := n) (p := fun u => decide (u = r) || (decide (u = 0) || false)) (q := fun u => decide (u = 0) || false) (r := r) (by omega) (by simp) (by simp [hr]) (fun u hu => by simp [hu])
    omega
  · intro h
    have a3 := count_one (n := n) (p := fun u => decide (u = 0) || false) (q := fun _ => false) (r := 0) h0 (by simp) rfl (fun u hu => by simp [hu])
    have a5 : (List.range n).countP (fun _ => false) = 0 := by simp
    have a1 : kk n P ≤ (List.range n).countP (fun u => decide (u = 0) || false) := by
      unfold kk
      apply countP_le
      intro u hu hl
      have hl := of_decide_eq_true hl
      have hun : u < n := by simpa using hu
      have : u = 0 := by
        apply Classical.byContradiction
        intro hne
        exact hl 0 (by omega) (h u hun)
      simp [this]
    have a2 : (List.range n).countP (fun u => decide (u = 0) || false) ≤ kk n P := by
      unfold kk
      apply countP_le
      intro u _ hu
      apply decide_eq_true
      simp at hu
      subst hu
      exact least_zero P
    omega
/-- as many lanes as houses less one: no ring or all together, it is the same -/
theorem wood_whole {n : Nat} {P : List La} (h0 : 0 < n) (hl : P.length + 1 = n) : Wood n P ↔ Whole n P := by
  rw [← whole_kk h0]
  unfold Wood
  omega
theorem mk_whole {n : Nat} {ms : List Nat} {P : List La} (h0 : 0 < n) (h : Mk n ms P) (hz : ms.getD 0 0 = 0) : (∀ x ∈ ms, x = 0) ↔ Whole n P := by
  constructor
  · intro ha u hu
    refine (h.2 0 u h0 hu).mp ?_
    rw [hz]
    have hul : u < ms.length := by rw [h.1]; exact hu
    have := ha ms[u] (List.getElem_mem hul)
    simp [hul, this]
  · intro hw x hx
    obtain ⟨u, hu, rfl⟩ := List.getElem_of_mem hx
    have := (h.2 0 u h0 (by rw [← h.1]; exact hu)).mpr (hw u (by rw [← h.1]; exact hu))
    rw [hz] at this
    simp [hu] at this
    exact this.symm
/-- the law's relabelling: the greater mark gives way -/
def low (ms : List Nat) (a b : Nat) : List Nat := remark (max (ms.getD a 0) (ms.getD b 0)) (min (ms.getD a 0) (ms.getD b 0)) ms
theorem Con.swap {P : List La} {a b u v : Nat} : Con ((a, b) :: P) u v ↔ Con ((b, a) :: P) u v := by
  rw [Con.add, Con.add]
  constructor <;> (rintro (h | h | h); exact .inl h; exact .inr (.inr h); exact .inr (.inl h))
theorem low_step {n : Nat} {ms : List Nat} {P : List La} (h : Mk n ms P) {a b : Nat} (ha : a < n) (hb : b < n) (hz : ms.getD 0 0 = 0) : Mk n (low ms a b) ((a, b) :: P) ∧ (low ms a b).getD 0 0 = 0 := by
  constructor
  · unfold low
    rcases Nat.le_total (ms.getD a 0) (ms.getD b 0) with hle | hle
    · rw [Nat.max_eq_right hle, Nat.min_eq_left hle]
      have := mk_step h hb ha
      exact ⟨this.1, fun u v hu hv => (this.2 u v hu hv).trans Con.swap⟩
    · rw [Nat.max_eq_left hle, Nat.min_eq_right hle]
      exact mk_step h ha hb
  · unfold low remark
    by_cases h0 : 0 < ms.length
    · have e : ms[0] = 0 := by simpa [h0] using hz
      simp [h0, e]
      intro hm
      omega
    · have : ms = [] := List.eq_nil_of_length_eq_zero (by omega)
      subst this
      rfl
/-- a lane to a house that stands alone keeps a wood -/
theorem wood_leaf {n : Nat} {P : List La} {a b : Nat} (ok : Ok n ((a, b) :: P)) (w : Wood n P) (h : deg P a = 0 ∨ deg P b = 0) : Wood n ((a, b) :: P) :=
  (Wood.cons ok).mpr ⟨w, leaf_join (ok _ (List.mem_cons_self ..)).2.2 h⟩
end Gr

/-! Gr6: walks that take each lane once. -/
namespace Gr
open Classical
def okW (L : List La) : Nat → List Nat → Prop
  | _, [] => True
  | u, i :: r => touch L i u = true ∧ okW L (far L i u) r
def endW (L : List La) : Nat → List Nat → Nat
  | u, [] => u
  | u, i :: r => endW L (far L i u) r
def hsW (L : List La) : Nat → List Nat → List Nat
  | u, [] => [u]
  | u, i :: r => u :: hsW L (far L i u) r
theorem okW_append {L : List La} : ∀ (r s : List Nat) (u : Nat), okW L u (r ++ s) ↔ okW L u r ∧ okW L (endW L u r) s
  | [], s, u => by simp [okW, endW]
  | i :: r, s, u => by
    have := okW_append (L := L) r s (far L i u)
    simp only [List.cons_append, okW, endW, this, and_assoc]
theorem endW_append {L : List La} : ∀ (r s : List Nat) (u : Nat), endW L u (r ++ s) = endW L (endW L u r) s
  | [], s, u => rfl
  | i :: r, s, u => by simp only [List.cons_append, endW]; exact endW_append r s _
theorem hsW_len (L : List La) : ∀ (r : List Nat) (u : Nat), (hsW L u r).length = r.length + 1
  | [], u => rfl
  | i :: r, u => by simp [hsW, hsW_len L r]
theorem hsW_at (L : List La) : ∀ (r : List Nat) (u k : Nat), k ≤ r.length → (hsW L u r)[k]? = some (endW L u (r.take k))
  | [], u, k, h => by
    have : k = 0 := by simpa using h
    subst this; rfl
  | i :: r, u, 0, _ => rfl
  | i :: r, u, k + 1, h => by
    simp only [hsW, List.getElem?_cons_succ, List.take_succ_cons, endW]
    exact hsW_at L r _ k (by simpa using h)
theorem hsW_snoc (L : List La) : ∀ (r : List Nat) (u i : Nat), hsW L u (r ++ [i]) = hsW L u r ++ [far L i (endW L u r)]
  | [], u, i => rfl
  | j :: r, u, i => by simp only [List.cons_append, hsW, endW, hsW_snoc L r]
theorem hsW_last (L : List La) : ∀ (r : List Nat) (u : Nat), (hsW L u r).getLast? = some (endW L u r)
  | [], u => rfl
  | i :: r, u => by
    have := hsW_last L r (far L i u)
    simp only [hsW, endW]
    cases h : hsW L (far L i u) r with
    | nil => have := hsW_len L r (far L i u); rw [h] at this; simp at this
    | cons a l => rw [h] at this; simpa using this
theorem touch_iff {L : List La} {i u : Nat} : touch L i u = true ↔ (ln L i).1 = u ∨ (ln L i).2 = u := by
  unfold touch; simp
theorem far_ne {L : List La} {i u : Nat} (hl : (ln L i).1 ≠ (ln L i).2) (ht : touch L i u = true) : far L i u ≠ u ∧ ∀ w, ((ln L i).1 = w ∨ (ln L i).2 = w) ↔ (w = u ∨ w = far L i u) := by
  rw [touch_iff] at ht
  unfold far
  refine ⟨by omega, fun w => ?_⟩
  omega
/-- how often a walk touches a house, by twos -/
theorem parity {L : List La} : ∀ (r : List Nat) (u w : Nat), (∀ i ∈ r, (ln L i).1 ≠ (ln L i).2) → okW L u r → deg (Pn L r) w % 2 = ((if w = u then 1 else 0) + (if w = endW L u r then 1 else 0)) % 2
  | [], u, w, _, _ => by
    have : deg (Pn L []) w = 0 := rfl
    rw [this]
    show 0 % 2 = ((if w = u then 1 else 0) + (if w = u then 1 else 0)) % 2
    by_cases h : w = u
    · rw [if_pos h]
    · rw [if_neg h]
  | i :: r, u, w, hl, ok => by
    obtain ⟨o1, o2⟩ := ok
    have ih := parity r (far L i u) w (fun j hj => hl j (List.mem_cons_of_mem _ hj)) o2
    obtain ⟨f1, f2⟩ := far_ne (hl i (List.mem_cons_self ..)) o1
    rw [Pn_cons, deg_cons]
    show _ = ((if w = u then 1 else 0) + (if w = endW L (far L i u) r then 1 else 0)) % 2
    generalize (if w = endW L (far L i u) r then 1 else 0) = e at *
    by_cases h1 : w = u
    · have h2 : ¬ w = far L i u := fun e => f1 (e.symm.trans h1)
      rw [if_neg h2] at ih
      rw [if_pos ((f2 w).mpr (.inl h1)), if_pos h1]
      omega
    · by_cases h2 : w = far L i u
      · rw [if_pos h2] at ih
        rw [if_pos ((f2 w).mpr (.inr h2)), if_neg h1]
        omega
      · rw [if_neg h2] at ih
        rw [if_neg (fun h => ((f2 w).mp h).elim h1 h2), if_neg h1]
        omega
/-- the lanes at a house that were not taken -/
def free (L : List La) (used : List Nat) (h : Nat) : List Nat := (List.range L.length).filter fun i => touch L i h && !decide (i ∈ used)
theorem deg_all (L : List La) (w : Nat) : deg L w = ((List.range L.length).filter fun i => touch L i w).length := by
  have e : L = (List.range L.length).map (ln L) := by
    apply List.ext_getElem
    · simp
    · intro i h1 h2
      simp [ln, h1]
  conv => lhs; rw [e]
  unfold deg
  rw [List.countP_map, List.countP_eq_length_filter]
  rfl
theorem Pn_deg' (L : List La) (ns : List Nat) (h : Nat) : deg (Pn L ns) h = (ns.filter fun i => touch L i h).length := by
  unfold deg Pn
  rw [List.countP_map, List.countP_eq_length_filter]
  rfl
/-- taken and free ones together -/
theorem free_deg {L : List La} {used : List Nat} (hn : used.Nodup) (hb : ∀ i ∈ used, i < L.length) (w : Nat) : deg L w = deg (Pn L used) w + (free L used w).length := by
  rw [deg_all, Pn_deg']
  have h1 : ((List.range L.length).filter fun i => touch L i w).Perm ((used.filter fun i => touch L i w) ++ free L used w) := by
    have n1 : ((List.range L.length).filter fun i => touch L i w).Nodup := List.filter_sublist.nodup List.nodup_range
    have n2 : ((used.filter fun i => touch L i w) ++ free L used w).Nodup := by
      rw [List.nodup_append]
      refine ⟨List.filter_sublist.nodup hn, List.filter_sublist.nodup List.nodup_range, ?_⟩
      intro a ha b hb' e
      subst e
      have h1 := (List.mem_filter.mp ha).1
      have h2 := (List.mem_filter.mp hb').2
      simp [h1] at h2
    rw [List.perm_ext_iff_of_nodup n1 n2]
    intro a
    unfold free
    simp only [List.mem_append, List.mem_filter, List.mem_range, Bool.and_eq_true, Bool.not_eq_true', decide_eq_false_iff_not]
    constructor
    · rintro ⟨h1, h2⟩
      by_cases h : a ∈ used
      · exact .inl ⟨h, h2⟩
      · exact .inr ⟨h1, h2, h⟩
    · rintro (⟨h1, h2⟩ | ⟨h1, h2, h3⟩)
      · exact ⟨hb a h1, h2⟩
      · exact ⟨h1, h2⟩
  have := h1.length_eq
  rw [List.length_append] at this
  exact this
/-- all free degrees are even -/
def Even (L : List La) (used : List Nat) : Prop := ∀ w, (free L used w).length % 2 = 0
/-- a greatest walk where all free degrees are even comes back, and they stay even -/
theorem closed_walk {n : Nat} {L : List La} (ok : Ok n L) {used row : List Nat} {h : Nat} (he : Even L used) (hn : (used ++ row).Nodup) (hb : ∀ i ∈ used ++ row, i < L.length) (hw : okW L h row) (hm : free L (used ++ row) (endW L h row) = []) : endW L h row = h ∧ Even L (used ++ row) := by
  have nl : ∀ i ∈ row, (ln L i).1 ≠ (ln L i).2 := fun i hi => (ok _ (by
    have := hb i (List.mem_append_right _ hi)
    simp [ln, this])).2.2
  have n1 : used.Nodup := (List.nodup_append.mp hn).1
  have b1 : ∀ i ∈ used, i < L.length := fun i hi => hb i (List.mem_append_left _ hi)
  have key : ∀ w, (free L used w).length = deg (Pn L row) w + (free L (used ++ row) w).length := fun w => by
    have a := free_deg n1 b1 w
    have b := free_deg hn hb w
    rw [Pn_append, deg_append] at b
    omega
  have he1 : endW L h row = h := by
    apply Classical.byContradiction
    intro hne
    have k := key (endW L h row)
    have p := parity row h (endW L h row) nl hw
    rw [if_neg hne, if_pos rfl] at p
    have e := he (endW L h row)
    rw [hm] at k
    simp at k
    omega
  refine ⟨he1, fun w => ?_⟩
  have k := key w
  have p := parity row h w nl hw
  rw [he1] at p
  have e := he w
  by_cases hwh : w = h
  · rw [if_pos hwh] at p; omega
  · rw [if_neg hwh] at p; omega
def odds (n : Nat) (L : List La) : List Nat := (List.range n).filter fun h => decide (deg L h % 2 = 1)
theorem sum_par (f : Nat → Nat) : ∀ l : List Nat, (l.map f).sum % 2 = (l.filter fun h => decide (f h % 2 = 1)).length % 2
  | [] => rfl
  | a :: l => by
    have ih := sum_par f l
    rw [List.map_cons, List.sum_cons]
    by_cases h : f a % 2 = 1
    · rw [List.filter_cons_of_pos (by simpa using h), List.length_cons]; omega
    · rw [List.filter_cons_of_neg (by simpa using h)]; omega
theorem odds_even {n : Nat} {L : List La} (ok : Ok n L) : (odds n L).length % 2 = 0 := by
  have h1 := sum_deg ok
  have h2 := sum_par (deg L) (List.range n)
  unfold odds
  omega
theorem odd_mem {n : Nat} {L : List La} (ok : Ok n L) {w : Nat} (h : deg L w % 2 = 1) : w ∈ odds n L := by
  unfold odds
  rw [List.mem_filter]
  have := deg_lt ok (u := w) (by omega)
  exact ⟨by simpa using this, by simpa using h⟩
/-- the first walk -/
theorem first_walk {n : Nat} {L : List La} (ok : Ok n L) {row : List Nat} {s : Nat} (h2 : (odds n L).length ≤ 2) (hs : odds n L = [] ∨ s ∈ odds n L) (hn : row.Nodup) (hb : ∀ i ∈ row, i < L.length) (hw : okW L s row) (hm : free L row (endW L s row) = []) : Even L row := by
  have nl : ∀ i ∈ row, (ln L i).1 ≠ (ln L i).2 := fun i hi => (ok _ (by
    have := hb i hi
    simp [ln, this])).2.2
  have key : ∀ w, deg L w = deg (Pn L row) w + (free L row w).length := free_deg hn hb
  have pa := fun w => parity row s w nl hw
  have ev := odds_even ok
  have nd : (odds n L).Nodup := List.filter_sublist.nodup List.nodup_range
  have iff : ∀ w, deg L w % 2 = 1 ↔ w ∈ odds n L := fun w => ⟨odd_mem ok, fun h => by
    have := (List.mem_filter.mp h).2
    simpa using this⟩
  have hv := key (endW L s row)
  rw [hm] at hv
  have pv := pa (endW L s row)
  rw [if_pos rfl] at pv
  intro w
  have kw := key w
  have pw := pa w
  rcases hs with h0 | h0
  · -- all even
    have all : ∀ w, deg L w % 2 = 0 := fun w => by
      have := iff w
      rw [h0] at this
      simp at this
      omega
    have hend : endW L s row = s := by
      apply Classical.byContradiction
      intro hne
      rw [if_neg hne] at pv
      have := all (endW L s row)
      simp at hv
      omega
    rw [hend] at pw
    have := all w
    by_cases hws : w = s
    · rw [if_pos hws] at pw; omega
    · rw [if_neg hws] at pw; omega
  · have hs1 := (iff s).mpr h0
    have hne : endW L s row ≠ s := by
      intro e
      rw [e] at pv hv
      rw [if_pos rfl] at pv
      simp at hv
      omega
    rw [if_neg hne] at pv
    have hv1 : deg L (endW L s row) % 2 = 1 := by simp at hv; omega
    have hvm := (iff _).mp hv1
    -- just these two
    have two : ∀ w, w ∈ odds n L → w = s ∨ w = endW L s row := by
      intro w hwm
      apply Classical.byContradiction
      intro hc
      have : [w, s, endW L s row].Nodup := by
        simp
        refine ⟨⟨fun e => hc (.inl e), fun e => hc (.inr e)⟩, fun e => hne e.symm⟩
      have := this.length_le_of_subset (l₂ := odds n L) (by
        intro x hx
        simp at hx
        rcases hx with rfl | rfl | rfl
        · exact hwm
        · exact h0
        · exact hvm)
      simp at this
      omega
    by_cases hws : w = s
    · subst hws
      rw [if_pos rfl, if_neg (fun e => hne e.symm)] at pw
      omega
    · by_cases hwe : w = endW L s row
      · rw [if_neg hws, if_pos hwe] at pw
        rw [hwe] at kw pw ⊢
        omega
      · rw [if_neg hws, if_neg hwe] at pw
        have : ¬ deg L w % 2 = 1 := fun h => by
          rcases two w ((iff w).mp h) with e | e
          · exact hws e
          · exact hwe e
        omega
/-- nothing free at any house of the walk: it has all lanes -/
theorem all_taken {n : Nat} {L : List La} (ok : Ok n L) (hW : Whole n L) {row : List Nat} {s : Nat} (hs : s < n) (hn : row.Nodup) (hb : ∀ i ∈ row, i < L.length) (hw : okW L s row) (hf : ∀ k, k ≤ row.length → free L row (endW L s (row.take k)) = []) : row.Perm (List.range L.length) := by
  -- the houses of the walk
  have ends : ∀ i ∈ row, ∀ w, ((ln L i).1 = w ∨ (ln L i).2 = w) → ∃ k, k ≤ row.length ∧ endW L s (row.take k) = w := by
    have gen : ∀ (r : List Nat) (u : Nat), (∀ i ∈ r, i < L.length) → okW L u r → ∀ i ∈ r, ∀ w, ((ln L i).1 = w ∨ (ln L i).2 = w) → ∃ k, k ≤ r.length ∧ endW L u (r.take k) = w := by
      intro r
      induction r with
      | nil => intro u _ _ i hi; simp at hi
      | cons j r ih =>
        intro u hb ok' i hi w hiw
        obtain ⟨o1, o2⟩ := ok'
        have nl : (ln L j).1 ≠ (ln L j).2 := (ok _ (by
          have := hb j (List.mem_cons_self ..)
          simp [ln, this])).2.2
        obtain ⟨f1, f2⟩ := far_ne nl o1
        rcases List.mem_cons.mp hi with rfl | hi
        · rcases (f2 w).mp hiw with rfl | rfl
          · exact ⟨0, by simp, rfl⟩
          · exact ⟨1, by simp, rfl⟩
        · obtain ⟨k, hk, e⟩ := ih (far L j u) (fun i hi => hb i (List.mem_cons_of_mem _ hi)) o2 i hi w hiw
          exact ⟨k + 1, by simp; exact hk, by simpa [endW] using e⟩
    exact gen row s hb hw
  let S : Nat → Prop := fun u => ∃ k, k ≤ row.length ∧ endW L s (row.take k) = u
  have at_S : ∀ u, S u → ∀ i, i < L.length → touch L i u = true → i ∈ row := by
    rintro u ⟨k, hk, rfl⟩ i hi ht
    apply Classical.byContradiction
    intro hc
    have : i ∈ free L row (endW L s (row.take k)) := by
      unfold free
      rw [List.mem_filter]
      exact ⟨by simpa using hi, by simp [ht, hc]⟩
    rw [hf k hk] at this
    simp at this
  have prop : ∀ u w, Con L u w → (S u ↔ S w) := by
    intro u w c
    induction c with
    | refl => exact Iff.rfl
    | lane m =>
      rename_i a b
      obtain ⟨i, hi, e⟩ := List.getElem_of_mem m
      have el : ln L i = (a, b) := by simp [ln, hi, e]
      constructor
      · intro h
        have := at_S a h i hi (touch_iff.mpr (by rw [el]; exact .inl rfl))
        exact ends i this b (by rw [el]; exact .inr rfl)
      · intro h
        have := at_S b h i hi (touch_iff.mpr (by rw [el]; exact .inr rfl))
        exact ends i this a (by rw [el]; exact .inl rfl)
    | symm _ ih => exact ih.symm
    | trans _ _ i j => exact i.trans j
  have hS : S s := ⟨0, by simp, rfl⟩
  rw [List.perm_ext_iff_of_nodup hn List.nodup_range]
  intro i
  constructor
  · intro hi; simpa using hb i hi
  · intro hi
    have hi : i < L.length := by simpa using hi
    have hl : (ln L i).1 < n := (ok _ (by simp [ln, hi])).1
    have : S (ln L i).1 := (prop s _ ((hW s hs).symm.trans (hW _ hl))).mp hS
    exact at_S _ this i hi (touch_iff.mpr (.inl rfl))
end Gr

set_option maxRecDepth 100000
/-! the defs of lendland_k80_whole_round_words, printed by pyir.py -/
namespace K80
open Ev
def b_determinant : Ev.Ss := (.cons (.dcomp 1 (.blt .list (.cons (.var 6) .nil)) (.name 6) (.seq (.var 0)) .none [6])
    (.cons (.asg (.name 2) (.int 1))
    (.cons (.asg (.name 3) (.int 1))
    (.cons (.forr (.name 4) (.rng1 (.dlen 1)) (.cons (.asg (.name 5) (.comp (.var 6) (.name 6) (.rng2 (.var 4) (.dlen 1)) (.some (.cmp .ne (.dix 1 (.var 6) (.var 4)) (.int 0))) [6]))
    (.cons (.ife (.cmp .eq (.len (.var 5)) (.int 0)) (.cons (.ret (.int 0))
    .nil) .nil)
    (.cons (.ife (.cmp .ne (.idx (.var 5) (.int 0)) (.var 4)) (.cons (.dswp 1 (.var 4) (.idx (.var 5) (.int 0)))
    (.cons (.asg (.name 2) (.neg (.var 2)))
    .nil)) .nil)
    (.cons (.forr (.name 6) (.rng2 (.bin .add (.var 4) (.int 1)) (.dlen 1)) (.cons (.forr (.name 7) (.rng2 (.bin .add (.var 4) (.int 1)) (.dlen 1)) (.cons (.dset 1 (.var 6) (.var 7) (.bin .fdiv (.bin .sub (.bin .mul (.dix 1 (.var 6) (.var 7)) (.dix 1 (.var 4) (.var 4))) (.bin .mul (.dix 1 (.var 6) (.var 4)) (.dix 1 (.var 4) (.var 7)))) (.var 3)))
    .nil))
    .nil))
    (.cons (.asg (.name 3) (.dix 1 (.var 4) (.var 4)))
    .nil))))))
    (.cons (.ret (.bin .mul (.var 2) (.var 3)))
    .nil)))))
def d_determinant : Ev.Def := ⟨"determinant", 1, [.B], ["table", "rows", "sign", "before", "at", "swap", "row", "col"], b_determinant⟩
def b_arrows_out : Ev.Ss := (.cons (.ret (.len (.comp (.var 2) (.name 2) (.seq (.idx (.var 0) (.int 1))) (.some (.cmp .eq (.idx (.var 2) (.int 0)) (.var 1))) [2])))
    .nil)
def d_arrows_out : Ev.Def := ⟨"arrows_out", 3, [.B, .B], ["net", "house", "arrow"], b_arrows_out⟩
def b_arrows_in : Ev.Ss := (.cons (.ret (.len (.comp (.var 2) (.name 2) (.seq (.idx (.var 0) (.int 1))) (.some (.cmp .eq (.idx (.var 2) (.int 1)) (.var 1))) [2])))
    .nil)
def d_arrows_in : Ev.Def := ⟨"arrows_in", 4, [.B, .B], ["net", "house", "arrow"], b_arrows_in⟩
def b_net_reach : Ev.Ss := (.cons (.asg (.name 3) (.lst (.cons (.var 1) .nil)))
    (.cons (.asg (.name 4) (.int 0))
    (.cons (.whl 10715086071862673209484250490600018105614048117055336074437503883703510511249361224931983788156958581275946729175531468251871452856923140435984577574698574803934567774824230985421074605062371141877954182153046474983581941267398767559165543946077062914571196477686542167660429831652624386837205668069376 (.cmp .lt (.var 4) (.len (.var 3))) (.cons (.forr (.tup (.cons (.name 5) (.cons (.name 6) .nil))) (.seq (.idx (.var 0) (.int 1))) (.cons (.asg (.tup (.cons (.name 7) (.cons (.name 8) .nil))) (.ite (.var 2) (.tup (.cons (.var 5) (.cons (.var 6) .nil))) (.tup (.cons (.var 6) (.cons (.var 5) .nil)))))
    (.cons (.ife (.and (.cmp .eq (.var 7) (.idx (.var 3) (.var 4))) (.cmp .nin (.var 8) (.var 3))) (.cons (.ex (.chg .append 3 (.cons (.var 8) .nil)))
    .nil) .nil)
    .nil)))
    (.cons (.aug .add 4 (.int 1))
    .nil)))
    (.cons (.ret (.var 3))
    .nil))))
def d_net_reach : Ev.Def := ⟨"net_reach", 5, [.B, .I, .I], ["net", "start", "ahead", "found", "at", "begin", "end", "near", "far"], b_net_reach⟩
def b_is_balanced : Ev.Ss := (.cons (.ret (.blt .all (.cons (.comp (.cmp .eq (.call "arrows_out" (.cons (.var 0) (.cons (.var 1) .nil))) (.call "arrows_in" (.cons (.var 0) (.cons (.var 1) .nil)))) (.name 1) (.rng1 (.idx (.var 0) (.int 0))) .none [1]) .nil)))
    .nil)
def d_is_balanced : Ev.Def := ⟨"is_balanced", 6, [.B], ["net", "house"], b_is_balanced⟩
def b_net_matrix : Ev.Ss := (.cons (.asg (.name 1) (.lst .nil))
    (.cons (.forr (.name 2) (.rng1 (.idx (.var 0) (.int 0))) (.cons (.asg (.name 3) (.comp (.int 0) (.name 6) (.rng1 (.idx (.var 0) (.int 0))) .none [6]))
    (.cons (.forr (.tup (.cons (.name 4) (.cons (.name 5) .nil))) (.seq (.idx (.var 0) (.int 1))) (.cons (.ife (.cmp .eq (.var 4) (.var 2)) (.cons (.augIx .add 3 (.var 4) (.int 1))
    (.cons (.augIx .sub 3 (.var 5) (.int 1))
    .nil)) .nil)
    .nil))
    (.cons (.ex (.chg .append 1 (.cons (.var 3) .nil)))
    .nil))))
    (.cons (.ret (.var 1))
    .nil)))
def d_net_matrix : Ev.Def := ⟨"net_matrix", 7, [.B], ["net", "rows", "house", "row", "begin", "end", "other"], b_net_matrix⟩
def b_trees_into : Ev.Ss := (.cons (.asg (.name 2) (.call "net_matrix" (.cons (.var 0) .nil)))
    (.cons (.asg (.name 3) (.comp (.var 4) (.name 4) (.rng1 (.idx (.var 0) (.int 0))) (.some (.cmp .ne (.var 4) (.var 1))) [4]))
    (.cons (.ret (.call "determinant" (.cons (.comp (.comp (.idx (.idx (.var 2) (.var 5)) (.var 6)) (.name 6) (.seq (.var 3)) .none [6]) (.name 5) (.seq (.var 3)) .none [5]) .nil)))
    .nil)))
def d_trees_into : Ev.Def := ⟨"trees_into", 8, [.B, .B], ["net", "goal", "rows", "keep", "house", "a", "b"], b_trees_into⟩
def b_factorial_of : Ev.Ss := (.cons (.asg (.name 1) (.int 1))
    (.cons (.forr (.name 2) (.rng2 (.int 2) (.bin .add (.var 0) (.int 1))) (.cons (.aug .mul 1 (.var 2))
    .nil))
    (.cons (.ret (.var 1))
    .nil)))
def d_factorial_of : Ev.Def := ⟨"factorial_of", 9, [.B], ["many", "found", "number"], b_factorial_of⟩
def b_tour_count : Ev.Ss := (.cons (.ife (.or (.no (.call "is_balanced" (.cons (.var 0) .nil))) (.cmp .eq (.len (.idx (.var 0) (.int 1))) (.int 0))) (.cons (.ret (.int 0))
    .nil) .nil)
    (.cons (.asg (.name 1) (.call "trees_into" (.cons (.var 0) (.cons (.idx (.idx (.idx (.var 0) (.int 1)) (.int 0)) (.int 0)) .nil))))
    (.cons (.forr (.name 2) (.rng1 (.idx (.var 0) (.int 0))) (.cons (.aug .mul 1 (.call "factorial_of" (.cons (.blt .max2 (.cons (.int 0) (.cons (.bin .sub (.call "arrows_out" (.cons (.var 0) (.cons (.var 2) .nil))) (.int 1)) .nil))) .nil)))
    .nil))
    (.cons (.ret (.var 1))
    .nil))))
def d_tour_count : Ev.Def := ⟨"tour_count", 10, [.B], ["net", "found", "house"], b_tour_count⟩
def b_towards : Ev.Ss := (.cons (.asg (.name 2) (.comp .non (.name 3) (.rng1 (.idx (.var 0) (.int 0))) .none [3]))
    (.cons (.setIx 2 (.var 1) (.int 0))
    (.cons (.forr (.name 3) (.seq (.call "net_reach" (.cons (.var 0) (.cons (.var 1) (.cons (.bl false) .nil))))) (.cons (.forr (.tup (.cons (.name 6) (.cons (.name 7) .nil))) (.seq (.idx (.var 0) (.int 1))) (.cons (.ife (.and (.cmp .eq (.var 7) (.var 3)) (.cmp .is (.idx (.var 2) (.var 6)) .non)) (.cons (.setIx 2 (.var 6) (.bin .add (.idx (.var 2) (.var 3)) (.int 1)))
    .nil) .nil)
    .nil))
    .nil))
    (.cons (.asg (.name 4) (.comp .non (.name 3) (.rng1 (.idx (.var 0) (.int 0))) .none [3]))
    (.cons (.forr (.tup (.cons (.name 5) (.cons (.tup (.cons (.name 6) (.cons (.name 7) .nil))) .nil))) (.enm (.idx (.var 0) (.int 1))) (.cons (.ife (.and (.cmp .ne (.var 6) (.var 1)) (.and (.cmp .is (.idx (.var 4) (.var 6)) .non) (.cmp .lt (.idx (.var 2) (.var 7)) (.idx (.var 2) (.var 6))))) (.cons (.setIx 4 (.var 6) (.var 5))
    .nil) .nil)
    .nil))
    (.cons (.ret (.var 4))
    .nil))))))
def d_towards : Ev.Def := ⟨"towards", 11, [.B, .I], ["net", "goal", "far", "house", "found", "number", "begin", "end"], b_towards⟩
def b_tour : Ev.Ss := (.cons (.ife (.or (.no (.call "is_balanced" (.cons (.var 0) .nil))) (.cmp .eq (.len (.idx (.var 0) (.int 1))) (.int 0))) (.cons (.ret .non)
    .nil) .nil)
    (.cons (.asg (.name 1) (.idx (.idx (.idx (.var 0) (.int 1)) (.int 0)) (.int 0)))
    (.cons (.asg (.name 2) (.call "towards" (.cons (.var 0) (.cons (.var 1) .nil))))
    (.cons (.asg (.name 3) (.var 1))
    (.cons (.asg (.name 4) (.lst .nil))
    (.cons (.forr (.name 5) (.rng1 (.len (.idx (.var 0) (.int 1)))) (.cons (.asg (.name 6) (.comp (.var 8) (.tup (.cons (.name 8) (.cons (.name 9) .nil))) (.enm (.idx (.var 0) (.int 1))) (.some (.and (.cmp .eq (.idx (.var 9) (.int 0)) (.var 3)) (.cmp .nin (.var 8) (.var 4)))) [8, 9]))
    (.cons (.asg (.name 7) (.comp (.var 8) (.name 8) (.seq (.var 6)) (.some (.cmp .ne (.var 8) (.idx (.var 2) (.var 3)))) [8]))
    (.cons (.asg (.name 8) (.ite (.cmp .gt (.len (.var 7)) (.int 0)) (.blt .max (.cons (.var 7) .nil)) (.idx (.var 6) (.int 0))))
    (.cons (.ex (.chg .append 4 (.cons (.var 8) .nil)))
    (.cons (.asg (.name 3) (.idx (.idx (.idx (.var 0) (.int 1)) (.var 8)) (.int 1)))
    .nil))))))
    (.cons (.ret (.blt .tuple (.cons (.var 4) .nil)))
    .nil)))))))
def d_tour : Ev.Def := ⟨"tour", 12, [.B], ["net", "start", "kept", "house", "row", "turn", "free", "other", "number", "arrow"], b_tour⟩
def b_words_of : Ev.Ss := (.cons (.asg (.name 2) (.lst (.cons (.tup .nil) .nil)))
    (.cons (.forr (.name 3) (.rng1 (.var 1)) (.cons (.asg (.name 2) (.comp2 (.bin .add (.var 4) (.tup (.cons (.var 5) .nil))) (.name 4) (.seq (.var 2)) .none (.name 5) (.rng1 (.var 0)) .none [4, 5] [5]))
    .nil))
    (.cons (.ret (.var 2))
    .nil)))
def d_words_of : Ev.Def := ⟨"words_of", 14, [.I, .I], ["letters", "length", "rows", "place", "row", "letter"], b_words_of⟩
def b_word_net : Ev.Ss := (.cons (.asg (.name 2) (.call "words_of" (.cons (.var 0) (.cons (.bin .sub (.var 1) (.int 1)) .nil))))
    (.cons (.asg (.name 3) (.comp (.tup (.cons (.meth .index (.var 2) (.slc (.var 4) .none (.some (.neg (.int 1))))) (.cons (.meth .index (.var 2) (.slc (.var 4) (.some (.int 1)) .none)) .nil))) (.name 4) (.seq (.call "words_of" (.cons (.var 0) (.cons (.var 1) .nil)))) .none [4]))
    (.cons (.ret (.tup (.cons (.len (.var 2)) (.cons (.blt .tuple (.cons (.var 3) .nil)) .nil))))
    .nil)))
def d_word_net : Ev.Def := ⟨"word_net", 15, [.I, .I], ["letters", "length", "names", "arrows", "word"], b_word_net⟩
def b_round_word : Ev.Ss := (.cons (.asg (.name 2) (.call "words_of" (.cons (.var 0) (.cons (.var 1) .nil))))
    (.cons (.ret (.blt .tuple (.cons (.comp (.idx (.idx (.var 2) (.var 3)) (.neg (.int 1))) (.name 3) (.seq (.call "tour" (.cons (.call "word_net" (.cons (.var 0) (.cons (.var 1) .nil))) .nil))) .none [3]) .nil)))
    .nil))
def d_round_word : Ev.Def := ⟨"round_word", 16, [.I, .I], ["letters", "length", "words", "number"], b_round_word⟩
def b_parts_round : Ev.Ss := (.cons (.asg (.name 2) (.len (.var 0)))
    (.cons (.ret (.comp (.blt .tuple (.cons (.comp (.idx (.var 0) (.bin .mod (.bin .add (.var 3) (.var 4)) (.var 2))) (.name 4) (.rng1 (.var 1)) .none [4]) .nil)) (.name 3) (.rng1 (.var 2)) .none [3]))
    .nil))
def d_parts_round : Ev.Def := ⟨"parts_round", 17, [.B, .I], ["word", "length", "many", "at", "k"], b_parts_round⟩
def b_is_round_word : Ev.Ss := (.cons (.asg (.name 3) (.call "words_of" (.cons (.var 1) (.cons (.var 2) .nil))))
    (.cons (.ret (.and (.cmp .eq (.len (.var 0)) (.len (.var 3))) (.cmp .eq (.blt .sorted (.cons (.call "parts_round" (.cons (.var 0) (.cons (.var 2) .nil))) .nil)) (.var 3))))
    .nil))
def d_is_round_word : Ev.Def := ⟨"is_round_word", 18, [.B, .I, .I], ["word", "letters", "length", "words"], b_is_round_word⟩
def b_round_count : Ev.Ss := (.cons (.ret (.call "tour_count" (.cons (.call "word_net" (.cons (.var 0) (.cons (.var 1) .nil))) .nil)))
    .nil)
def d_round_count : Ev.Def := ⟨"round_count", 19, [.I, .I], ["letters", "length"], b_round_count⟩
def b_least_round : Ev.Ss := (.cons (.ret (.blt .min (.cons (.comp (.bin .add (.slc (.var 0) (.some (.var 1)) .none) (.slc (.var 0) .none (.some (.var 1)))) (.name 1) (.rng1 (.len (.var 0))) .none [1]) .nil)))
    .nil)
def d_least_round : Ev.Def := ⟨"least_round", 20, [.B], ["word", "at"], b_least_round⟩
def b_place_of : Ev.Ss := (.cons (.forr (.tup (.cons (.name 2) (.cons (.name 3) .nil))) (.enm (.call "parts_round" (.cons (.var 0) (.cons (.len (.var 1)) .nil)))) (.cons (.ife (.cmp .eq (.var 3) (.var 1)) (.cons (.ret (.var 2))
    .nil) .nil)
    .nil))
    (.cons (.ret .non)
    .nil))
def d_place_of : Ev.Def := ⟨"place_of", 21, [.B, .B], ["word", "part", "at", "other"], b_place_of⟩
def b_u_law_cell : Ev.Ss := (.cons (.ife (.cmp .lt (.var 1) (.len (.var 0))) (.cons (.ret (.idx (.var 0) (.var 1)))
    .nil) .nil)
    (.cons (.ret (.int 0))
    .nil))
def d_u_law_cell : Ev.Def := ⟨"_law_cell", 23, [.B, .I], ["script", "k"], b_u_law_cell⟩
def b_u_law_digits : Ev.Ss := (.cons (.asg (.name 2) (.lst .nil))
    (.cons (.forr (.name 3) (.rng1 (.var 1)) (.cons (.asg (.name 4) (.call "_law_cell" (.cons (.var 0) (.cons (.var 3) .nil))))
    (.cons (.ife (.cmp .lt (.var 4) (.int 0)) (.cons (.asg (.name 4) (.bin .sub (.int 1) (.bin .mul (.int 2) (.var 4))))
    .nil) .nil)
    (.cons (.ife (.cmp .ge (.var 4) (.bin .pow (.int 10) (.int 18))) (.cons (.forr (.name 5) (.rng1 (.int 60)) (.cons (.ife (.cmp .gt (.var 4) (.int 0)) (.cons (.ex (.chg .append 2 (.cons (.bin .mod (.blt .int (.cons (.var 4) .nil)) (.int 1000)) .nil)))
    (.cons (.asg (.name 4) (.bin .fdiv (.var 4) (.int 1000)))
    .nil)) .nil)
    .nil))
    .nil) (.cons (.asg (.name 6) (.bin .mod (.blt .int (.cons (.bin .add (.bin .add (.bin .mul (.var 4) (.int 48271)) (.bin .mul (.var 3) (.int 69621))) (.int 11)) .nil)) (.int 2147483647)))
    (.cons (.forr (.name 5) (.rng1 (.int 12)) (.cons (.asg (.name 6) (.bin .mod (.blt .int (.cons (.bin .add (.bin .add (.bin .mul (.var 6) (.int 16807)) (.bin .mul (.int 7) (.var 5))) (.int 1)) .nil)) (.int 2147483647)))
    (.cons (.ex (.chg .append 2 (.cons (.bin .mod (.blt .int (.cons (.bin .fdiv (.var 6) (.int 997)) .nil)) (.int 1000)) .nil)))
    .nil)))
    .nil)))
    .nil))))
    (.cons (.ret (.var 2))
    .nil)))
def d_u_law_digits : Ev.Def := ⟨"_law_digits", 24, [.B, .I], ["script", "last", "digits", "k", "cell", "turn", "seed"], b_u_law_digits⟩
def b_u_law_draw : Ev.Ss := (.cons (.setIx 0 (.int 1) (.bin .add (.idx (.var 0) (.int 1)) (.int 1)))
    (.cons (.ife (.cmp .gt (.idx (.var 0) (.int 1)) (.len (.idx (.var 0) (.int 0)))) (.cons (.ret (.bin .mod (.blt .int (.cons (.bin .add (.bin .mul (.idx (.var 0) (.int 1)) (.int 7)) (.int 3)) .nil)) (.var 1)))
    .nil) .nil)
    (.cons (.ret (.bin .mod (.blt .int (.cons (.idx (.idx (.var 0) (.int 0)) (.bin .sub (.idx (.var 0) (.int 1)) (.int 1))) .nil)) (.var 1)))
    .nil)))
def d_u_law_draw : Ev.Def := ⟨"_law_draw", 25, [.M, .B], ["box", "many"], b_u_law_draw⟩
def b_u_law_mixed : Ev.Ss := (.cons (.asg (.name 2) (.blt .list (.cons (.var 1) .nil)))
    (.cons (.asg (.name 3) (.lst .nil))
    (.cons (.forr (.name 4) (.rng1 (.len (.var 1))) (.cons (.ex (.chg .append 3 (.cons (.chg .popAt 2 (.cons (.call "_law_draw" (.cons (.var 0) (.cons (.len (.var 2)) .nil))) .nil)) .nil)))
    .nil))
    (.cons (.ret (.var 3))
    .nil))))
def d_u_law_mixed : Ev.Def := ⟨"_law_mixed", 26, [.M, .B], ["box", "row", "left", "found", "k"], b_u_law_mixed⟩
def b_u_law_same : Ev.Ss := (.cons (.ife (.cmp .is (.var 1) .non) (.cons (.ret (.cmp .is (.var 0) .non))
    .nil) .nil)
    (.cons (.ife (.cmp .is (.var 1) (.bl true)) (.cons (.ret (.cmp .is (.var 0) (.bl true)))
    .nil) .nil)
    (.cons (.ife (.cmp .is (.var 1) (.bl false)) (.cons (.ret (.cmp .is (.var 0) (.bl false)))
    .nil) .nil)
    (.cons (.ife (.isi (.var 1) .int) (.cons (.ret (.and (.isi (.var 0) .int) (.and (.no (.isi (.var 0) .bool)) (.cmp .eq (.blt .repr (.cons (.var 0) .nil)) (.blt .repr (.cons (.var 1) .nil))))))
    .nil) .nil)
    (.cons (.ife (.or (.and (.isi (.var 1) .tuple) (.no (.isi (.var 0) .tuple))) (.and (.isi (.var 1) .list) (.no (.isi (.var 0) .list)))) (.cons (.ret (.bl false))
    .nil) .nil)
    (.cons (.ife (.cmp .ne (.len (.var 0)) (.len (.var 1))) (.cons (.ret (.bl false))
    .nil) .nil)
    (.cons (.forr (.name 2) (.rng1 (.len (.var 1))) (.cons (.ife (.no (.call "_law_same" (.cons (.idx (.var 0) (.var 2)) (.cons (.idx (.var 1) (.var 2)) .nil)))) (.cons (.ret (.bl false))
    .nil) .nil)
    .nil))
    (.cons (.ret (.bl true))
    .nil))))))))
def d_u_law_same : Ev.Def := ⟨"_law_same", 27, [.B, .B], ["told", "due", "k"], b_u_law_same⟩
def b_u_law_power : Ev.Ss := (.cons (.asg (.name 2) (.int 1))
    (.cons (.forr (.name 3) (.rng1 (.var 1)) (.cons (.asg (.name 2) (.bin .mul (.var 2) (.var 0)))
    .nil))
    (.cons (.ret (.var 2))
    .nil)))
def d_u_law_power : Ev.Def := ⟨"_law_power", 28, [.B, .I], ["base", "many", "found", "turn"], b_u_law_power⟩
def b_u_law_words : Ev.Ss := (.cons (.asg (.name 2) (.lst .nil))
    (.cons (.forr (.name 3) (.rng1 (.call "_law_power" (.cons (.var 0) (.cons (.var 1) .nil)))) (.cons (.asg (.name 4) (.lst .nil))
    (.cons (.asg (.name 5) (.var 3))
    (.cons (.forr (.name 6) (.rng1 (.var 1)) (.cons (.asg (.name 4) (.bin .add (.lst (.cons (.bin .mod (.blt .int (.cons (.var 5) .nil)) (.var 0)) .nil)) (.var 4)))
    (.cons (.asg (.name 5) (.bin .fdiv (.var 5) (.var 0)))
    .nil)))
    (.cons (.ex (.chg .append 2 (.cons (.blt .tuple (.cons (.var 4) .nil)) .nil)))
    .nil)))))
    (.cons (.ret (.var 2))
    .nil)))
def d_u_law_words : Ev.Def := ⟨"_law_words", 29, [.B, .I], ["letters", "length", "found", "number", "row", "left", "place"], b_u_law_words⟩
def b_u_law_parts : Ev.Ss := (.cons (.ret (.comp (.blt .tuple (.cons (.comp (.idx (.var 0) (.bin .mod (.blt .int (.cons (.bin .add (.var 2) (.var 3)) .nil)) (.len (.var 0)))) (.name 3) (.rng1 (.var 1)) .none [3]) .nil)) (.name 2) (.rng1 (.len (.var 0))) .none [2]))
    .nil)
def d_u_law_parts : Ev.Def := ⟨"_law_parts", 30, [.B, .I], ["word", "length", "at", "k"], b_u_law_parts⟩
def b_u_law_round : Ev.Ss := (.cons (.asg (.name 3) (.call "_law_words" (.cons (.var 1) (.cons (.var 2) .nil))))
    (.cons (.ret (.and (.cmp .eq (.len (.var 0)) (.len (.var 3))) (.cmp .eq (.blt .sorted (.cons (.call "_law_parts" (.cons (.var 0) (.cons (.var 2) .nil))) .nil)) (.var 3))))
    .nil))
def d_u_law_round : Ev.Def := ⟨"_law_round", 31, [.B, .B, .I], ["word", "letters", "length", "words"], b_u_law_round⟩
def b_u_law_greatest : Ev.Ss := (.cons (.asg (.name 2) (.call "_law_power" (.cons (.var 0) (.cons (.bin .sub (.var 1) (.int 1)) .nil))))
    (.cons (.asg (.name 3) (.lst .nil))
    (.cons (.asg (.name 4) (.lst .nil))
    (.cons (.asg (.name 5) (.int 0))
    (.cons (.forr (.name 6) (.rng1 (.bin .mul (.var 2) (.var 0))) (.cons (.asg (.name 7) (.blt .max (.cons (.comp (.var 7) (.name 7) (.rng1 (.var 0)) (.some (.cmp .nin (.bin .add (.bin .mul (.var 5) (.var 0)) (.var 7)) (.var 3))) [7]) .nil)))
    (.cons (.ex (.chg .append 3 (.cons (.bin .add (.bin .mul (.var 5) (.var 0)) (.var 7)) .nil)))
    (.cons (.ex (.chg .append 4 (.cons (.var 7) .nil)))
    (.cons (.asg (.name 5) (.bin .mod (.blt .int (.cons (.bin .add (.bin .mul (.var 5) (.var 0)) (.var 7)) .nil)) (.var 2)))
    .nil)))))
    (.cons (.ret (.blt .tuple (.cons (.var 4) .nil)))
    .nil))))))
def d_u_law_greatest : Ev.Def := ⟨"_law_greatest", 32, [.I, .B], ["letters", "length", "houses", "taken", "found", "at", "turn", "letter"], b_u_law_greatest⟩
def b_u_law_count : Ev.Ss := (.cons (.asg (.name 2) (.int 1))
    (.cons (.forr (.name 3) (.rng2 (.int 2) (.bin .add (.var 0) (.int 1))) (.cons (.asg (.name 2) (.bin .mul (.var 2) (.var 3)))
    .nil))
    (.cons (.ret (.bin .fdiv (.call "_law_power" (.cons (.var 2) (.cons (.call "_law_power" (.cons (.var 0) (.cons (.bin .sub (.var 1) (.int 1)) .nil))) .nil))) (.call "_law_power" (.cons (.var 0) (.cons (.var 1) .nil)))))
    .nil)))
def d_u_law_count : Ev.Def := ⟨"_law_count", 33, [.B, .I], ["letters", "length", "product", "number"], b_u_law_count⟩
def b_u_law_judge : Ev.Ss := (.cons (.asg (.name 4) (.len (.var 1)))
    (.cons (.asg (.name 5) (.call "_law_mixed" (.cons (.var 0) (.cons (.rngs false (.rng1 (.var 2))) .nil))))
    (.cons (.asg (.name 6) (.call "_law_draw" (.cons (.var 0) (.cons (.var 4) .nil))))
    (.cons (.asg (.name 7) (.comp (.idx (.var 5) (.var 15)) (.name 15) (.seq (.bin .add (.slc (.var 1) (.some (.var 6)) .none) (.slc (.var 1) .none (.some (.var 6))))) .none [15]))
    (.cons (.ife (.cmp .eq (.call "_law_draw" (.cons (.var 0) (.cons (.int 2) .nil))) (.int 0)) (.cons (.asg (.name 7) (.rvs (.var 7)))
    .nil) .nil)
    (.cons (.asg (.name 8) (.call "_law_draw" (.cons (.var 0) (.cons (.var 4) .nil))))
    (.cons (.asg (.name 9) (.call "_law_draw" (.cons (.var 0) (.cons (.var 4) .nil))))
    (.cons (.asg (.name 10) (.comp (.ite (.cmp .eq (.var 16) (.var 8)) (.idx (.var 7) (.var 9)) (.idx (.var 7) (.var 16))) (.name 16) (.rng1 (.var 4)) .none [16]))
    (.cons (.asg (.name 11) (.comp (.ite (.cmp .eq (.var 16) (.var 9)) (.idx (.var 7) (.var 8)) (.idx (.var 10) (.var 16))) (.name 16) (.rng1 (.var 4)) .none [16]))
    (.cons (.asg (.name 12) (.lst (.cons (.var 7) (.cons (.var 10) (.cons (.var 11) (.cons (.bin .add (.var 7) (.var 7)) (.cons (.slc (.var 7) .none (.some (.neg (.int 1)))) (.cons (.bin .add (.var 7) (.lst (.cons (.idx (.var 7) (.int 0)) .nil))) (.cons (.lst .nil) .nil)))))))))
    (.cons (.asg (.name 12) (.bin .add (.var 12) (.lst (.cons (.comp (.ite (.cmp .eq (.var 16) (.var 8)) (.var 2) (.idx (.var 7) (.var 16))) (.name 16) (.rng1 (.var 4)) .none [16]) (.cons (.comp (.bin .sub (.var 15) (.int 1)) (.name 15) (.seq (.var 7)) .none [15]) .nil)))))
    (.cons (.forr (.name 13) (.seq (.var 12)) (.cons (.asg (.name 14) (.call "_law_round" (.cons (.blt .tuple (.cons (.var 13) .nil)) (.cons (.var 2) (.cons (.var 3) .nil)))))
    (.cons (.ife (.no (.call "_law_same" (.cons (.call "is_round_word" (.cons (.blt .tuple (.cons (.var 13) .nil)) (.cons (.var 2) (.cons (.var 3) .nil)))) (.cons (.var 14) .nil)))) (.cons (.ret (.bl false))
    .nil) .nil)
    .nil)))
    (.cons (.ife (.and (.cmp .gt (.var 3) (.int 1)) (.no (.call "_law_same" (.cons (.call "is_round_word" (.cons (.blt .tuple (.cons (.var 7) .nil)) (.cons (.var 2) (.cons (.bin .sub (.var 3) (.int 1)) .nil)))) (.cons (.cmp .eq (.var 2) (.int 1)) .nil))))) (.cons (.ret (.bl false))
    .nil) .nil)
    (.cons (.ret (.cmp .is (.call "is_round_word" (.cons (.blt .tuple (.cons (.var 7) .nil)) (.cons (.var 2) (.cons (.var 3) .nil)))) (.bl true)))
    .nil))))))))))))))
def d_u_law_judge : Ev.Def := ⟨"_law_judge", 34, [.M, .B, .I, .I], ["box", "word", "letters", "length", "many", "names", "turn", "right", "one", "other", "changed", "moved", "papers", "paper", "due", "letter", "k"], b_u_law_judge⟩
def b_u_law_all : Ev.Ss := (.cons (.asg (.tup (.cons (.name 3) (.cons (.name 4) .nil))) (.idx (.lst (.cons (.tup (.cons (.int 2) (.cons (.int 2) .nil))) (.cons (.tup (.cons (.int 2) (.cons (.int 1) .nil))) (.cons (.tup (.cons (.int 3) (.cons (.int 1) .nil))) (.cons (.tup (.cons (.int 1) (.cons (.int 1) .nil))) (.cons (.tup (.cons (.int 1) (.cons (.int 3) .nil))) .nil)))))) (.call "_law_draw" (.cons (.var 0) (.cons (.int 5) .nil)))))
    (.cons (.asg (.name 1) (.call "_law_power" (.cons (.var 3) (.cons (.var 4) .nil))))
    (.cons (.asg (.name 2) (.comp (.var 5) (.name 5) (.seq (.call "_law_words" (.cons (.var 3) (.cons (.var 1) .nil)))) (.some (.cmp .is (.call "is_round_word" (.cons (.var 5) (.cons (.var 3) (.cons (.var 4) .nil)))) (.bl true))) [5]))
    (.cons (.ret (.call "_law_same" (.cons (.bin .mul (.call "round_count" (.cons (.var 3) (.cons (.var 4) .nil))) (.var 1)) (.cons (.len (.var 2)) .nil))))
    .nil))))
def d_u_law_all : Ev.Def := ⟨"_law_all", 35, [.M], ["box", "many", "shown", "letters", "length", "word"], b_u_law_all⟩
def b_u_law_places : Ev.Ss := (.cons (.asg (.name 1) (.blt .tuple (.cons (.comp (.call "_law_draw" (.cons (.var 0) (.cons (.int 9) .nil))) (.name 9) (.rng1 (.bin .add (.int 1) (.call "_law_draw" (.cons (.var 0) (.cons (.int 8) .nil))))) .none [9]) .nil)))
    (.cons (.ife (.cmp .eq (.call "_law_draw" (.cons (.var 0) (.cons (.int 2) .nil))) (.int 0)) (.cons (.asg (.name 1) (.blt .tuple (.cons (.comp (.bin .mod (.blt .int (.cons (.var 10) .nil)) (.int 2)) (.name 10) (.seq (.var 1)) .none [10]) .nil)))
    .nil) .nil)
    (.cons (.asg (.name 2) (.bin .add (.int 1) (.call "_law_draw" (.cons (.var 0) (.cons (.int 12) .nil)))))
    (.cons (.asg (.name 3) (.call "_law_parts" (.cons (.var 1) (.cons (.var 2) .nil))))
    (.cons (.ife (.no (.call "_law_same" (.cons (.call "parts_round" (.cons (.var 1) (.cons (.var 2) .nil))) (.cons (.var 3) .nil)))) (.cons (.ret (.bl false))
    .nil) .nil)
    (.cons (.asg (.name 4) (.call "_law_draw" (.cons (.var 0) (.cons (.len (.var 1)) .nil))))
    (.cons (.asg (.name 5) (.bin .add (.slc (.var 1) (.some (.var 4)) .none) (.slc (.var 1) .none (.some (.var 4)))))
    (.cons (.asg (.name 6) (.blt .min (.cons (.comp (.bin .add (.slc (.var 1) (.some (.var 9)) .none) (.slc (.var 1) .none (.some (.var 9)))) (.name 9) (.rng1 (.len (.var 1))) .none [9]) .nil)))
    (.cons (.ife (.or (.no (.call "_law_same" (.cons (.call "least_round" (.cons (.var 1) .nil)) (.cons (.var 6) .nil)))) (.no (.call "_law_same" (.cons (.call "least_round" (.cons (.var 5) .nil)) (.cons (.var 6) .nil))))) (.cons (.ret (.bl false))
    .nil) .nil)
    (.cons (.asg (.name 7) (.idx (.var 3) (.var 4)))
    (.cons (.ife (.cmp .eq (.call "_law_draw" (.cons (.var 0) (.cons (.int 3) .nil))) (.int 0)) (.cons (.asg (.name 7) (.bin .add (.slc (.var 7) .none (.some (.neg (.int 1)))) (.tup (.cons (.call "_law_draw" (.cons (.var 0) (.cons (.int 9) .nil))) .nil))))
    .nil) .nil)
    (.cons (.asg (.name 8) (.comp (.var 9) (.name 9) (.rng1 (.len (.var 1))) (.some (.cmp .eq (.idx (.var 3) (.var 9)) (.var 7))) [9]))
    (.cons (.ret (.call "_law_same" (.cons (.call "place_of" (.cons (.var 1) (.cons (.var 7) .nil))) (.cons (.ite (.cmp .ne (.var 8) (.lst .nil)) (.idx (.var 8) (.int 0)) .non) .nil))))
    .nil)))))))))))))
def d_u_law_places : Ev.Def := ⟨"_law_places", 36, [.M], ["box", "word", "length", "due", "at", "turned", "least", "part", "found", "k", "letter"], b_u_law_places⟩
def b_law : Ev.Ss := (.cons (.asg (.name 1) (.lst (.cons (.call "_law_digits" (.cons (.var 0) (.cons (.int 20) .nil))) (.cons (.int 0) .nil))))
    (.cons (.asg (.tup (.cons (.name 7) (.cons (.name 8) .nil))) (.idx (.lst (.cons (.tup (.cons (.int 2) (.cons (.int 4) .nil))) (.cons (.tup (.cons (.int 2) (.cons (.int 3) .nil))) (.cons (.tup (.cons (.int 3) (.cons (.int 2) .nil))) (.cons (.tup (.cons (.int 3) (.cons (.int 3) .nil))) (.cons (.tup (.cons (.int 4) (.cons (.int 2) .nil))) (.cons (.tup (.cons (.int 5) (.cons (.int 2) .nil))) (.cons (.tup (.cons (.int 2) (.cons (.int 2) .nil))) (.cons (.tup (.cons (.int 3) (.cons (.int 1) .nil))) (.cons (.tup (.cons (.int 2) (.cons (.int 1) .nil))) (.cons (.tup (.cons (.int 1) (.cons (.int 4) .nil))) .nil))))))))))) (.call "_law_draw" (.cons (.var 1) (.cons (.int 10) .nil)))))
    (.cons (.ife (.cmp .eq (.call "_law_draw" (.cons (.var 1) (.cons (.int 5) .nil))) (.int 0)) (.cons (.asg (.tup (.cons (.name 7) (.cons (.name 8) .nil))) (.idx (.lst (.cons (.tup (.cons (.bin .add (.int 1) (.call "_law_draw" (.cons (.var 1) (.cons (.int 27) .nil)))) (.cons (.int 1) .nil))) (.cons (.tup (.cons (.int 1) (.cons (.bin .add (.int 1) (.call "_law_draw" (.cons (.var 1) (.cons (.int 5) .nil)))) .nil))) .nil))) (.call "_law_draw" (.cons (.var 1) (.cons (.int 2) .nil)))))
    .nil) .nil)
    (.cons (.asg (.name 2) (.call "_law_words" (.cons (.var 7) (.cons (.var 8) .nil))))
    (.cons (.asg (.name 3) (.call "_law_power" (.cons (.var 7) (.cons (.bin .sub (.var 8) (.int 1)) .nil))))
    (.cons (.asg (.name 4) (.call "words_of" (.cons (.var 7) (.cons (.var 8) .nil))))
    (.cons (.ife (.no (.call "_law_same" (.cons (.var 4) (.cons (.var 2) .nil)))) (.cons (.ret (.bl false))
    .nil) .nil)
    (.cons (.ex (.chg .append 4 (.cons (.idx (.var 4) (.int 0)) .nil)))
    (.cons (.ife (.no (.call "_law_same" (.cons (.call "words_of" (.cons (.var 7) (.cons (.var 8) .nil))) (.cons (.var 2) .nil)))) (.cons (.ret (.bl false))
    .nil) .nil)
    (.cons (.asg (.name 5) (.blt .tuple (.cons (.comp (.tup (.cons (.bin .fdiv (.var 9) (.var 7)) (.cons (.bin .mod (.blt .int (.cons (.var 9) .nil)) (.var 3)) .nil))) (.name 9) (.rng1 (.len (.var 2))) .none [9]) .nil)))
    (.cons (.ife (.no (.call "_law_same" (.cons (.call "word_net" (.cons (.var 7) (.cons (.var 8) .nil))) (.cons (.tup (.cons (.var 3) (.cons (.var 5) .nil))) .nil)))) (.cons (.ret (.bl false))
    .nil) .nil)
    (.cons (.asg (.name 6) (.call "_law_greatest" (.cons (.var 7) (.cons (.var 8) .nil))))
    (.cons (.ife (.or (.no (.call "_law_judge" (.cons (.var 1) (.cons (.var 6) (.cons (.var 7) (.cons (.var 8) .nil)))))) (.no (.call "_law_same" (.cons (.call "round_word" (.cons (.var 7) (.cons (.var 8) .nil))) (.cons (.var 6) .nil))))) (.cons (.ret (.bl false))
    .nil) .nil)
    (.cons (.ife (.no (.call "_law_same" (.cons (.call "round_count" (.cons (.var 7) (.cons (.var 8) .nil))) (.cons (.call "_law_count" (.cons (.var 7) (.cons (.var 8) .nil))) .nil)))) (.cons (.ret (.bl false))
    .nil) .nil)
    (.cons (.ret (.and (.call "_law_all" (.cons (.var 1) .nil)) (.call "_law_places" (.cons (.var 1) .nil))))
    .nil)))))))))))))))
def d_law : Ev.Def := ⟨"law", 37, [.B], ["script", "box", "words", "houses", "told", "arrows", "word", "letters", "length", "k"], b_law⟩
def T : Ev.Tab := [d_determinant, d_arrows_out, d_arrows_in, d_net_reach, d_is_balanced, d_net_matrix, d_trees_into, d_factorial_of, d_tour_count, d_towards, d_tour, d_words_of, d_word_net, d_round_word, d_parts_round, d_is_round_word, d_round_count, d_least_round, d_place_of, d_u_law_cell, d_u_law_digits, d_u_law_draw, d_u_law_mixed, d_u_law_same, d_u_law_power, d_u_law_words, d_u_law_parts, d_u_law_round, d_u_law_greatest, d_u_law_count, d_u_law_judge, d_u_law_all, d_u_law_places, d_law]
theorem find_determinant : Ev.find T "determinant" = some d_determinant := rfl
theorem find_arrows_out : Ev.find T "arrows_out" = some d_arrows_out := rfl
theorem find_arrows_in : Ev.find T "arrows_in" = some d_arrows_in := rfl
theorem find_net_reach : Ev.find T "net_reach" = some d_net_reach := rfl
theorem find_is_balanced : Ev.find T "is_balanced" = some d_is_balanced := rfl
theorem find_net_matrix : Ev.find T "net_matrix" = some d_net_matrix := rfl
theorem find_trees_into : Ev.find T "trees_into" = some d_trees_into := rfl
theorem find_factorial_of : Ev.find T "factorial_of" = some d_factorial_of := rfl
theorem find_tour_count : Ev.find T "tour_count" = some d_tour_count := rfl
theorem find_towards : Ev.find T "towards" = some d_towards := rfl
theorem find_tour : Ev.find T "tour" = some d_tour := rfl
theorem find_words_of : Ev.find T "words_of" = some d_words_of := rfl
theorem find_word_net : Ev.find T "word_net" = some d_word_net := rfl
theorem find_round_word : Ev.find T "round_word" = some d_round_word := rfl
theorem find_parts_round : Ev.find T "parts_round" = some d_parts_round := rfl
theorem find_is_round_word : Ev.find T "is_round_word" = some d_is_round_word := rfl
theorem find_round_count : Ev.find T "round_count" = some d_round_count := rfl
theorem find_least_round : Ev.find T "least_round" = some d_least_round := rfl
theorem find_place_of : Ev.find T "place_of" = some d_place_of := rfl
theorem find_u_law_cell : Ev.find T "_law_cell" = some d_u_law_cell := rfl
theorem find_u_law_digits : Ev.find T "_law_digits" = some d_u_law_digits := rfl
theorem find_u_law_draw : Ev.find T "_law_draw" = some d_u_law_draw := rfl
theorem find_u_law_mixed : Ev.find T "_law_mixed" = some d_u_law_mixed := rfl
theorem find_u_law_same : Ev.find T "_law_same" = some d_u_law_same := rfl
theorem find_u_law_power : Ev.find T "_law_power" = some d_u_law_power := rfl
theorem find_u_law_words : Ev.find T "_law_words" = some d_u_law_words := rfl
theorem find_u_law_parts : Ev.find T "_law_parts" = some d_u_law_parts := rfl
theorem find_u_law_round : Ev.find T "_law_round" = some d_u_law_round := rfl
theorem find_u_law_greatest : Ev.find T "_law_greatest" = some d_u_law_greatest := rfl
theorem find_u_law_count : Ev.find T "_law_count" = some d_u_law_count := rfl
theorem find_u_law_judge : Ev.find T "_law_judge" = some d_u_law_judge := rfl
theorem find_u_law_all : Ev.find T "_law_all" = some d_u_law_all := rfl
theorem find_u_law_places : Ev.find T "_law_places" = some d_u_law_places := rfl
theorem find_law : Ev.find T "law" = some d_law := rfl
theorem call_determinant (k : Nat) : callF T (k + 1) "determinant" = some (d_determinant.ks, runD (callF T k) d_determinant) := rfl
theorem call_arrows_out (k : Nat) : callF T (k + 1) "arrows_out" = some (d_arrows_out.ks, runD (callF T k) d_arrows_out) := rfl
theorem call_arrows_in (k : Nat) : callF T (k + 1) "arrows_in" = some (d_arrows_in.ks, runD (callF T k) d_arrows_in) := rfl
theorem call_net_reach (k : Nat) : callF T (k + 1) "net_reach" = some (d_net_reach.ks, runD (callF T k) d_net_reach) := rfl
theorem call_is_balanced (k : Nat) : callF T (k + 1) "is_balanced" = some (d_is_balanced.ks, runD (callF T k) d_is_balanced) := rfl
theorem call_net_matrix (k : Nat) : callF T (k + 1) "net_matrix" = some (d_net_matrix.ks, runD (callF T k) d_net_matrix) := rfl
theorem call_trees_into (k : Nat) : callF T (k + 1) "trees_into" = some (d_trees_into.ks, runD (callF T k) d_trees_into) := rfl
theorem call_factorial_of (k : Nat) : callF T (k + 1) "factorial_of" = some (d_factorial_of.ks, runD (callF T k) d_factorial_of) := rfl
theorem call_tour_count (k : Nat) : callF T (k + 1) "tour_count" = some (d_tour_count.ks, runD (callF T k) d_tour_count) := rfl
theorem call_towards (k : Nat) : callF T (k + 1) "towards" = some (d_towards.ks, runD (callF T k) d_towards) := rfl
theorem call_tour (k : Nat) : callF T (k + 1) "tour" = some (d_tour.ks, runD (callF T k) d_tour) := rfl
theorem call_words_of (k : Nat) : callF T (k + 1) "words_of" = some (d_words_of.ks, runD (callF T k) d_words_of) := rfl
theorem call_word_net (k : Nat) : callF T (k + 1) "word_net" = some (d_word_net.ks, runD (callF T k) d_word_net) := rfl
theorem call_round_word (k : Nat) : callF T (k + 1) "round_word" = some (d_round_word.ks, runD (callF T k) d_round_word) := rfl
theorem call_parts_round (k : Nat) : callF T (k + 1) "parts_round" = some (d_parts_round.ks, runD (callF T k) d_parts_round) := rfl
theorem call_is_round_word (k : Nat) : callF T (k + 1) "is_round_word" = some (d_is_round_word.ks, runD (callF T k) d_is_round_word) := rfl
theorem call_round_count (k : Nat) : callF T (k + 1) "round_count" = some (d_round_count.ks, runD (callF T k) d_round_count) := rfl
theorem call_least_round (k : Nat) : callF T (k + 1) "least_round" = some (d_least_round.ks, runD (callF T k) d_least_round) := rfl
theorem call_place_of (k : Nat) : callF T (k + 1) "place_of" = some (d_place_of.ks, runD (callF T k) d_place_of) := rfl
theorem call_u_law_cell (k : Nat) : callF T (k + 1) "_law_cell" = some (d_u_law_cell.ks, runD (callF T k) d_u_law_cell) := rfl
theorem call_u_law_digits (k : Nat) : callF T (k + 1) "_law_digits" = some (d_u_law_digits.ks, runD (callF T k) d_u_law_digits) := rfl
theorem call_u_law_draw (k : Nat) : callF T (k + 1) "_law_draw" = some (d_u_law_draw.ks, runD (callF T k) d_u_law_draw) := rfl
theorem call_u_law_mixed (k : Nat) : callF T (k + 1) "_law_mixed" = some (d_u_law_mixed.ks, runD (callF T k) d_u_law_mixed) := rfl
theorem call_u_law_same (k : Nat) : callF T (k + 1) "_law_same" = some (d_u_law_same.ks, runD (callF T k) d_u_law_same) := rfl
theorem call_u_law_power (k : Nat) : callF T (k + 1) "_law_power" = some (d_u_law_power.ks, runD (callF T k) d_u_law_power) := rfl
theorem call_u_law_words (k : Nat) : callF T (k + 1) "_law_words" = some (d_u_law_words.ks, runD (callF T k) d_u_law_words) := rfl
theorem call_u_law_parts (k : Nat) : callF T (k + 1) "_law_parts" = some (d_u_law_parts.ks, runD (callF T k) d_u_law_parts) := rfl
theorem call_u_law_round (k : Nat) : callF T (k + 1) "_law_round" = some (d_u_law_round.ks, runD (callF T k) d_u_law_round) := rfl
theorem call_u_law_greatest (k : Nat) : callF T (k + 1) "_law_greatest" = some (d_u_law_greatest.ks, runD (callF T k) d_u_law_greatest) := rfl
theorem call_u_law_count (k : Nat) : callF T (k + 1) "_law_count" = some (d_u_law_count.ks, runD (callF T k) d_u_law_count) := rfl
theorem call_u_law_judge (k : Nat) : callF T (k + 1) "_law_judge" = some (d_u_law_judge.ks, runD (callF T k) d_u_law_judge) := rfl
theorem call_u_law_all (k : Nat) : callF T (k + 1) "_law_all" = some (d_u_law_all.ks, runD (callF T k) d_u_law_all) := rfl
theorem call_u_law_places (k : Nat) : callF T (k + 1) "_law_places" = some (d_u_law_places.ks, runD (callF T k) d_u_law_places) := rfl
theorem call_law (k : Nat) : callF T (k + 1) "law" = some (d_law.ks, runD (callF T k) d_law) := rfl
end K80

set_option maxRecDepth 100000
namespace K80
open Ev PySem L2
/-! ### the shared helpers -/
theorem r_cell {F : FT} (ns : List Int) (k : Nat) : runD F d_u_law_cell [.ro (ns.map .int), .fz (.int k)] = some (.fr (.int (ns.getD k 0)), []) := by
  simp only [runD_eq]
  simp [d_u_law_cell, b_u_law_cell]
  by_cases h : k < ns.length
  · simp [h]
  · simp [h]
theorem r_draw {F : FT} (ds : List Int) (c m : Nat) (hm : 0 < m) : ∃ r : Nat, r < m ∧ runD F d_u_law_draw [.mu [.list (ds.map .int), .int c], .fz (.int m)] = some (.fr (.int r), [[.list (ds.map .int), .int (c + 1 : Nat)]]) := by
  simp only [runD_eq]
  simp [d_u_law_draw, b_u_law_draw]
  by_cases h : ds.length < c + 1
  · obtain ⟨r, hr, e⟩ := fmod_lt (((c : Int) + 1) * 7 + 3) hm
    refine ⟨r, hr, ?_⟩
    have : ((ds.length : Int) < (c : Int) + 1) := by omega
    have hm' : ¬ m = 0 := by omega
    simp [this, mulOk, L2.CMul, hm', e]
  · have h' : ¬ ((ds.length : Int) < (c : Int) + 1) := by omega
    have hc : c < ds.length := by omega
    obtain ⟨r, hr, e⟩ := fmod_lt (ds[c]) hm
    refine ⟨r, hr, ?_⟩
    have hm' : ¬ m = 0 := by omega
    simp [h', hc, hm', e]
theorem d_u_law_same_ks : d_u_law_same.ks = [.B, .B] := rfl
theorem same_true (k : Nat) : ∀ (j : Nat) (x : D) (s1 s2 : Slot), Good j x → isS s1 x → isS s2 x → runD (callF T (k + j)) d_u_law_same [s1, s2] = some (.fr (.bool true), [])
  | 0, x, s1, s2, g, h1, h2 => g.elim
  | j + 1, x, s1, s2, g, h1, h2 => by
    rw [← Nat.add_assoc]
    simp only [runD_eq]
    cases x with
    | none =>
      rcases h1 with rfl | ⟨ds, e, rfl⟩ <;> rcases h2 with rfl | ⟨es, e', rfl⟩ <;> first | (cases e; done) | (cases e'; done) | skip
      simp [d_u_law_same, b_u_law_same]
    | bool b =>
      rcases h1 with rfl | ⟨ds, e, rfl⟩ <;> rcases h2 with rfl | ⟨es, e', rfl⟩ <;> first | (cases e; done) | (cases e'; done) | skip
      cases b <;> simp [d_u_law_same, b_u_law_same]
    | int i =>
      rcases h1 with rfl | ⟨ds, e, rfl⟩ <;> rcases h2 with rfl | ⟨es, e', rfl⟩ <;> first | (cases e; done) | (cases e'; done) | skip
      have g' : i.natAbs.log2 < 1920 := g
      simp [d_u_law_same, b_u_law_same, g', dCmp_eq, shaped_str]
    | list ds =>
      obtain ⟨gl, g⟩ := g
      have hl : ds.length ≤ 16777216 := gl
      have hb : ((ds.length : Nat) : Int) ≤ 16777216 := by omega
      have hb2 : (-4611686018427387904 : Int) ≤ ds.length := by omega
      have key : ∀ s3 s4 : Slot, (s3 = .fz (.list ds) ∨ s3 = .bor ds) → (s4 = .fz (.list ds) ∨ s4 = .bor ds) → gd (kindsB d_u_law_same.ks [s3, s4] = true) (finD d_u_law_same.ks (exs (callF T (k + j + 1)) d_u_law_same.body ([s3, s4] ++ List.replicate (d_u_law_same.N.length - [s3, s4].length) .un))) = some (.fr (.bool true), []) := by
        intro s3 s4 e3 e4
        rcases e3 with rfl | rfl <;> rcases e4 with rfl | rfl
        all_goals
          simp [d_u_law_same, b_u_law_same, dCmp_eq, hb, hb2]
          generalize hf : forL _ _ _ = x
          obtain ⟨ρ', rfl, o, rfl⟩ := forR_use hf (fun _ ρ => ∃ o, ρ = [_, _, qs o]) ⟨none, rfl⟩ (by
            rintro i ρ hi ⟨o, rfl⟩
            have hi' : i < ds.length := by omega
            have ih := same_true k j (ds[i]) (.fz ds[i]) (.fz ds[i]) (g _ (List.getElem_mem hi')) (isS_fz _) (isS_fz _)
            simp [fstep, call_u_law_same, d_u_law_same_ks, hi', ih]
            exact St.next ⟨some (.int i), rfl⟩)
          simp
      refine key s1 s2 ?_ ?_
      · rcases h1 with h | ⟨es, e, h⟩
        · exact .inl h
        · cases e; exact .inr h
      · rcases h2 with h | ⟨es, e, h⟩
        · exact .inl h
        · cases e; exact .inr h
    | tuple ds =>
      obtain ⟨gl, g⟩ := g
      have hl : ds.length ≤ 16777216 := gl
      have hb : ((ds.length : Nat) : Int) ≤ 16777216 := by omega
      have hb2 : (-4611686018427387904 : Int) ≤ ds.length := by omega
      rcases h1 with rfl | ⟨es, e, rfl⟩ <;> rcases h2 with rfl | ⟨es, e', rfl⟩ <;> first | (cases e; done) | (cases e'; done) | skip
      all_goals
        simp [d_u_law_same, b_u_law_same, dCmp_eq, hb, hb2]
        generalize hf : forL _ _ _ = x
        obtain ⟨ρ', rfl, o, rfl⟩ := forR_use hf (fun _ ρ => ∃ o, ρ = [_, _, qs o]) ⟨none, rfl⟩ (by
          rintro i ρ hi ⟨o, rfl⟩
          have hi' : i < ds.length := by omega
          have ih := same_true k j (ds[i]) (.fz ds[i]) (.fz ds[i]) (g _ (List.getElem_mem hi')) (isS_fz _) (isS_fz _)
          simp [fstep, call_u_law_same, d_u_law_same_ks, hi', ih]
          exact St.next ⟨some (.int i), rfl⟩)
        simp
    | str x => exact g.elim
    | dict x => exact g.elim
end K80

set_option maxRecDepth 100000
namespace K80
open Ev PySem L2
theorem CPow_18 : CPow 10 18 := ⟨by omega, by omega, by decide⟩
theorem r_digits (k : Nat) (ns : List Int) (last : Nat) (hlast : last ≤ 100) : ∃ ds : List Int, runD (callF T (k + 1)) d_u_law_digits [.ro (ns.map .int), .fz (.int last)] = some (.nw (ds.map .int), []) := by
  have h1 : (last : Int) ≤ 16777216 := by omega
  have h2 : (-4611686018427387904 : Int) ≤ last := by omega
  simp only [runD_eq]
  simp [d_u_law_digits, b_u_law_digits, h1, h2]
  generalize hf : forL _ _ _ = x
  obtain ⟨ρ', rfl, ds, o3, o4, o5, o6, hl, rfl⟩ := forR_use hf (fun i ρ => ∃ (ds : List Int) (o3 o4 o5 o6 : Option D), ds.length ≤ 60 * i ∧ ρ = [_, _, .own (ds.map .int), qs o3, qs o4, qs o5, qs o6]) ⟨[], none, none, none, none, by simp, rfl⟩ (by
    rintro i ρ hi ⟨ds, o3, o4, o5, o6, hl, rfl⟩
    have hi' : i < last := by omega
    simp [fstep, call_u_law_cell, show d_u_law_cell.ks = [.B, .I] from rfl]
    have rc := r_cell (F := callF T k) ns i
    simp [rc]
    generalize (ns[i]?.getD 0) = c
    have key : ∀ c : Int, St (sq (some (Out.next, [Slot.ro (ns.map .int), .fz (.int last), .own (ds.map .int), .fz (.int i), .fz (.int c), qs o5, qs o6])) (k := ⟨exs (callF T (k + 1)) (match b_u_law_digits with | .cons _ (.cons (.forr _ _ (.cons _ (.cons _ r))) _) => r | _ => .nil)⟩)) (k := ⟨fun ρ' => ∃ (ds : List Int) (o3 o4 o5 o6 : Option D), ds.length ≤ 60 * (i + 1) ∧ ρ' = [Slot.ro (ns.map .int), .fz (.int last), .own (ds.map .int), qs o3, qs o4, qs o5, qs o6]⟩) := by
      intro c
      simp [b_u_law_digits, CPow_18]
      by_cases hc : 1000000000000000000 ≤ c
      · simp [hc]
        generalize hf : forL _ _ _ = x
        obtain ⟨ρ', rfl, ds', c', o5, hl', rfl⟩ := forR_use hf (fun j ρ => ∃ (ds' : List Int) (c' : Int) (o5 : Option D), ds'.length ≤ 60 * i + j ∧ ρ = [_, _, .own (ds'.map .int), _, .fz (.int c'), qs o5, _]) ⟨ds, c, o5, by omega, rfl⟩ (by
          rintro j ρ hj ⟨ds', c', o5, hl', rfl⟩
          have hj' : j < 60 := by omega
          simp [fstep]
          by_cases h0 : 0 < c'
          · have hlen : ds'.length < 16777216 := by omega
            simp [h0, hlen, lg]
            exact St.next ⟨ds' ++ [c'.fmod 1000], c'.fdiv 1000, some (.int j), by simp; omega, by simp⟩
          · simp [h0]
            exact St.next ⟨ds', c', some (.int j), by omega, by simp⟩)
        simp
        exact St.next ⟨ds', some (.int i), some (.int c'), o5, o6, by omega, by simp⟩
      · simp [hc, mulOk_r]
        generalize hs : Int.fmod _ 2147483647 = sd
        generalize hf : forL _ _ _ = x
        obtain ⟨ρ', rfl, ds', c', o5, hl', rfl⟩ := forR_use hf (fun j ρ => ∃ (ds' : List Int) (c' : Int) (o5 : Option D), ds'.length ≤ 60 * i + j ∧ ρ = [_, _, .own (ds'.map .int), _, _, qs o5, .fz (.int c')]) ⟨ds, sd, o5, by omega, rfl⟩ (by
          rintro j ρ hj ⟨ds', c', o5, hl', rfl⟩
          have hj' : j < 12 := by omega
          have hlen : ds'.length < 16777216 := by omega
          simp [fstep, mulOk_r, mulOk_l, hlen, lg]
          generalize Int.fmod _ 2147483647 = sd
          refine St.next ⟨ds' ++ [(sd.fdiv 997).fmod 1000], sd, some (.int j), by simp; omega, by simp⟩)
        simp
        exact St.next ⟨ds', some (.int i), some (.int c), o5, some (.int c'), by simp at hl'; omega, by simp⟩
    by_cases hn : c < 0
    · have := key (1 - 2 * c)
      simp [b_u_law_digits] at this
      simp [hn, mulOk_l]
      exact this
    · have := key c
      simp [b_u_law_digits] at this
      simp [hn]
      exact this)
  simp
  exact ⟨ds, rfl⟩
end K80

set_option maxRecDepth 100000
namespace K80
open Ev PySem L2
theorem ks_draw : d_u_law_draw.ks = [.M, .B] := rfl
theorem ks_mixed : d_u_law_mixed.ks = [.M, .B] := rfl
theorem ks_same : d_u_law_same.ks = [.B, .B] := rfl
theorem ks_digits : d_u_law_digits.ks = [.B, .I] := rfl
/-- the box: digits and a count -/
abbrev bx (ds : List Int) (c : Nat) : List D := [.list (ds.map .int), .int (c : Int)]
theorem r_drawI {F : FT} (ds : List Int) (c : Nat) (m : Int) (hm : 0 < m) : ∃ r c' : Nat, (r : Int) < m ∧ runD F d_u_law_draw [.mu [.list (ds.map .int), .int c], .fz (.int m)] = some (.fr (.int r), [[.list (ds.map .int), .int (c' : Nat)]]) := by
  obtain ⟨r, h1, h2⟩ := r_draw (F := F) ds c m.toNat (by omega)
  have e : ((m.toNat : Nat) : Int) = m := by omega
  rw [e] at h2
  exact ⟨r, c + 1, by omega, h2⟩
/-- a list taken apart at random and put together again -/
theorem r_mixed {α : Type} {enc : α → D} (k : Nat) (ds : List Int) (c : Nat) (xs : List α) (s : Slot) (hs : hasL s (xs.map enc)) (hl : xs.length ≤ 16777216) :
    ∃ (ys : List α) (c' : Nat), ys.Perm xs ∧ runD (callF T (k + 1)) d_u_law_mixed [.mu (bx ds c), s] = some (.nw (ys.map enc), [bx ds c']) := by
  suffices h : Rt (runD (callF T (k + 1)) d_u_law_mixed [.mu (bx ds c), s]) (k := ⟨fun r o => ∃ (ys : List α) (c' : Nat), ys.Perm xs ∧ r = .nw (ys.map enc) ∧ o = [bx ds c']⟩) by
    obtain ⟨r, o, e, ys, c', h, rfl, rfl⟩ := h
    exact ⟨ys, c', h, e⟩
  have y1 : (-4611686018427387904 : Int) ≤ xs.length := by omega
  have y2 : (xs.length : Int) ≤ 16777216 := by omega
  simp only [runD_eq]
  have key : ∀ s', (s' = .fz (.list (xs.map enc)) ∨ s' = .bor (xs.map enc)) → Rt (gd (kindsB d_u_law_mixed.ks [.mu (bx ds c), s'] = true) (finD d_u_law_mixed.ks (exs (callF T (k + 1)) d_u_law_mixed.body ([.mu (bx ds c), s'] ++ List.replicate (d_u_law_mixed.N.length - [Slot.mu (bx ds c), s'].length) .un)))) (k := ⟨fun r o => ∃ (ys : List α) (c' : Nat), ys.Perm xs ∧ r = .nw (ys.map enc) ∧ o = [bx ds c']⟩) := by
    intro s' hs'
    rcases hs' with rfl | rfl
    all_goals
      simp [d_u_law_mixed, b_u_law_mixed, y1, y2]
      generalize hf : forL _ _ _ = x
      obtain ⟨ρ', rfl, left, found, c', o, hp, hlen, rfl⟩ := forR_use hf (fun i ρ => ∃ (left found : List α) (c' : Nat) (o : Option D), (left ++ found).Perm xs ∧ left.length + i = xs.length ∧ ρ = [.mu (bx ds c'), _, .own (left.map enc), .own (found.map enc), qs o]) ⟨xs, [], c, none, by simp, by omega, rfl⟩ (by
        rintro i ρ hi ⟨left, found, c', o, hp, hlen, rfl⟩
        have hi' : i < xs.length := by omega
        obtain ⟨r, c2, h1, h2⟩ := r_drawI (F := callF T k) ds c' (left.length : Int) (by omega)
        have h1' : r < left.length := by omega
        have hfl : found.length < 16777216 := by
          have := hp.length_eq
          rw [List.length_append] at this
          omega
        simp [fstep, call_u_law_draw, ks_draw, h2, h1', hfl, bx, Gr.erase_map]
        refine St.next ⟨left.eraseIdx r, found ++ [left[r]], c2, some (.int i), ?_, ?_, by simp⟩
        · have e := Gr.erase_perm left r h1'
          refine List.Perm.trans ?_ hp
          rw [← List.append_assoc]
          refine List.Perm.trans List.perm_append_comm ?_
          show (left[r] :: (left.eraseIdx r ++ found)).Perm _
          rw [← List.cons_append]
          exact e.append (List.Perm.refl _)
        · rw [List.length_eraseIdx_of_lt h1']; omega)
      simp
      refine Rt.ok ⟨found, c', ?_, rfl, rfl⟩
      have : left = [] := List.eq_nil_of_length_eq_zero (by omega)
      subst this
      simpa using hp
  exact key s hs
end K80

set_option maxRecDepth 1000000
set_option maxHeartbeats 0
/-! K80E: what is finite, by the kernel. -/
namespace K80
open Ev PySem L2
mutual
def deq : D → D → Bool
  | .none, .none => true
  | .bool a, .bool b => a == b
  | .int a, .int b => a == b
  | .list a, .list b => deqs a b
  | .tuple a, .tuple b => deqs a b
  | _, _ => false
def deqs : List D → List D → Bool
  | [], [] => true
  | a :: as, b :: bs => deq a b && deqs as bs
  | _, _ => false
end
mutual
theorem deq_eq : ∀ {a b : D}, deq a b = true → a = b
  | .none, b, h => by cases b <;> first | rfl | (simp [deq] at h)
  | .bool a, b, h => by cases b <;> simp [deq] at h; rw [h]
  | .int a, b, h => by cases b <;> simp [deq] at h; rw [h]
  | .str a, b, h => by cases b <;> simp [deq] at h
  | .dict a, b, h => by cases b <;> simp [deq] at h
  | .list a, b, h => by
    cases b <;> simp [deq] at h
    rw [deqs_eq h]
  | .tuple a, b, h => by
    cases b <;> simp [deq] at h
    rw [deqs_eq h]
theorem deqs_eq : ∀ {a b : List D}, deqs a b = true → a = b
  | [], [], _ => rfl
  | [], _ :: _, h => by simp [deqs] at h
  | _ :: _, [], h => by simp [deqs] at h
  | a :: as, b :: bs, h => by
    simp [deqs] at h
    rw [deq_eq h.1, deqs_eq h.2]
end
def frIs (x : Option (Res × List (List D))) (d : D) : Bool := match x with
  | some (.fr e, []) => deq e d
  | _ => false
theorem frIs_eq {x d} (h : frIs x d = true) : x = some (.fr d, []) := by
  unfold frIs at h
  split at h
  · rw [deq_eq h]
  · cases h
def nwIs (x : Option (Res × List (List D))) (d : List D) : Bool := match x with
  | some (.nw e, []) => deqs e d
  | _ => false
theorem nwIs_eq {x d} (h : nwIs x d = true) : x = some (.nw d, []) := by
  unfold nwIs at h
  split at h
  · rw [deqs_eq h]
  · cases h
/-- the digits of a number -/
def dig (l : Nat) : Nat → Nat → List Int
  | 0, _ => []
  | n + 1, k => dig l n (k / l) ++ [((k % l : Nat) : Int)]
def wl (l n : Nat) : List (List Int) := (List.range (l ^ n)).map (dig l n)
def intD (w : List Int) : D := .tuple (w.map .int)
def wD (l n : Nat) : List D := (wl l n).map intD
def netD (l n : Nat) : D := .tuple [.int ((l ^ (n - 1) : Nat) : Int), .tuple ((List.range (l ^ n)).map fun k => .tuple [.int ((k / l : Nat) : Int), .int ((k % l ^ (n - 1) : Nat) : Int)])]
def parts (w : List Int) (n : Nat) : List (List Int) := (List.range w.length).map fun a => (List.range n).map fun j => w.getD ((a + j) % w.length) 0
def prs : List (Nat × Nat) := [(2, 4), (2, 3), (3, 2), (3, 3), (4, 2), (5, 2), (2, 2), (3, 1), (2, 1), (1, 4)] ++ (List.range 27).map (fun i => (i + 1, 1)) ++ (List.range 5).map fun i => (1, i + 1)
def pD (l n : Nat) : List Slot := [.fz (.int (l : Int)), .fz (.int (n : Int))]
def okW (p : Nat × Nat) : Bool := nwIs (runD (callF T 38) d_words_of (pD p.1 p.2)) (wD p.1 p.2) && nwIs (runD (callF T 36) d_words_of (pD p.1 p.2)) (wD p.1 p.2) && nwIs (runD (callF T 38) d_u_law_words (pD p.1 p.2)) (wD p.1 p.2) && nwIs (runD (callF T 37) d_u_law_words (pD p.1 p.2)) (wD p.1 p.2) && nwIs (runD (callF T 36) d_u_law_words (pD p.1 p.2)) (wD p.1 p.2)
def gTab : List ((Nat × Nat) × List Int) := [((2, 4), [1, 1, 1, 1, 0, 1, 1, 0, 0, 1, 0, 1, 0, 0, 0, 0]), ((2, 3), [1, 1, 1, 0, 1, 0, 0, 0]), ((3, 2), [2, 2, 1, 2, 0, 1, 1, 0, 0]), ((3, 3), [2, 2, 2, 1, 2, 2, 0, 2, 1, 1, 2, 1, 0, 2, 0, 1, 2, 0, 0, 1, 1, 1, 0, 1, 0, 0, 0]), ((4, 2), [3, 3, 2, 3, 1, 3, 0, 2, 2, 1, 2, 0, 1, 1, 0, 0]), ((5, 2), [4, 4, 3, 4, 2, 4, 1, 4, 0, 3, 3, 2, 3, 1, 3, 0, 2, 2, 1, 2, 0, 1, 1, 0, 0]), ((2, 2), [1, 1, 0, 0]), ((3, 1), [2, 1, 0]), ((2, 1), [1, 0]), ((1, 4), [0]), ((1, 1), [0]), ((2, 1), [1, 0]), ((3, 1), [2, 1, 0]), ((4, 1), [3, 2, 1, 0]), ((5, 1), [4, 3, 2, 1, 0]), ((6, 1), [5, 4, 3, 2, 1, 0]), ((7, 1), [6, 5, 4, 3, 2, 1, 0]), ((8, 1), [7, 6, 5, 4, 3, 2, 1, 0]), ((9, 1), [8, 7, 6, 5, 4, 3, 2, 1, 0]), ((10, 1), [9, 8, 7, 6, 5, 4, 3, 2, 1, 0]), ((11, 1), [10, 9, 8, 7, 6, 5, 4, 3, 2, 1, 0]), ((12, 1), [11, 10, 9, 8, 7, 6, 5, 4, 3, 2, 1, 0]), ((13, 1), [12, 11, 10, 9, 8, 7, 6, 5, 4, 3, 2, 1, 0]), ((14, 1), [13, 12, 11, 10, 9, 8, 7, 6, 5, 4, 3, 2, 1, 0]), ((15, 1), [14, 13, 12, 11, 10, 9, 8, 7, 6, 5, 4, 3, 2, 1, 0]), ((16, 1), [15, 14, 13, 12, 11, 10, 9, 8, 7, 6, 5, 4, 3, 2, 1, 0]), ((17, 1), [16, 15, 14, 13, 12, 11, 10, 9, 8, 7, 6, 5, 4, 3, 2, 1, 0]), ((18, 1), [17, 16, 15, 14, 13, 12, 11, 10, 9, 8, 7, 6, 5, 4, 3, 2, 1, 0]), ((19, 1), [18, 17, 16, 15, 14, 13, 12, 11, 10, 9, 8, 7, 6, 5, 4, 3, 2, 1, 0]), ((20, 1), [19, 18, 17, 16, 15, 14, 13, 12, 11, 10, 9, 8, 7, 6, 5, 4, 3, 2, 1, 0]), ((21, 1), [20, 19, 18, 17, 16, 15, 14, 13, 12, 11, 10, 9, 8, 7, 6, 5, 4, 3, 2, 1, 0]), ((22, 1), [21, 20, 19, 18, 17, 16, 15, 14, 13, 12, 11, 10, 9, 8, 7, 6, 5, 4, 3, 2, 1, 0]), ((23, 1), [22, 21, 20, 19, 18, 17, 16, 15, 14, 13, 12, 11, 10, 9, 8, 7, 6, 5, 4, 3, 2, 1, 0]), ((24, 1), [23, 22, 21, 20, 19, 18, 17, 16, 15, 14, 13, 12, 11, 10, 9, 8, 7, 6, 5, 4, 3, 2, 1, 0]), ((25, 1), [24, 23, 22, 21, 20, 19, 18, 17, 16, 15, 14, 13, 12, 11, 10, 9, 8, 7, 6, 5, 4, 3, 2, 1, 0]), ((26, 1), [25, 24, 23, 22, 21, 20, 19, 18, 17, 16, 15, 14, 13, 12, 11, 10, 9, 8, 7, 6, 5, 4, 3, 2, 1, 0]), ((27, 1), [26, 25, 24, 23, 22, 21, 20, 19, 18, 17, 16, 15, 14, 13, 12, 11, 10, 9, 8, 7, 6, 5, 4, 3, 2, 1, 0]), ((1, 1), [0]), ((1, 2), [0]), ((1, 3), [0]), ((1, 4), [0]), ((1, 5), [0])]
def okG (q : (Nat × Nat) × List Int) : Bool := frIs (runD (callF T 38) d_u_law_greatest (pD q.1.1 q.1.2)) (intD q.2) && frIs (runD (callF T 38) d_round_word (pD q.1.1 q.1.2)) (intD q.2)
def okL (q : (Nat × Nat) × List Int) : Bool := decide (q.2.length = q.1.1 ^ q.1.2) && q.2.all (fun x => decide (0 ≤ x ∧ x < q.1.1)) && (parts q.2 q.1.2).isPerm (wl q.1.1 q.1.2)
def okN (p : Nat × Nat) : Bool := frIs (runD (callF T 38) d_word_net (pD p.1 p.2)) (netD p.1 p.2)
def cL (p : Nat × Nat) : Int := match runD (callF T 38) d_u_law_count (pD p.1 p.2) with
  | some (.fr (.int i), []) => i
  | _ => 0
def okC (p : Nat × Nat) : Bool := let c := cL p; frIs (runD (callF T 38) d_u_law_count (pD p.1 p.2)) (.int c) && frIs (runD (callF T 38) d_round_count (pD p.1 p.2)) (.int c) && decide (c.natAbs.log2 < 1920)
def okP (p : Nat × Nat) : Bool := frIs (runD (callF T 38) d_u_law_power [.fz (.int (p.1 : Int)), .fz (.int ((p.2 : Int) - 1))]) (.int ((p.1 ^ (p.2 - 1) : Nat) : Int)) && decide (p.1 ^ p.2 ≤ 27 ∧ 1 ≤ p.2 ∧ 1 ≤ p.1 ∧ p.2 ≤ 5)
end K80

set_option maxRecDepth 100000
namespace K80
open Ev PySem L2
structure Fin (l n : Nat) : Prop where
  w38 : runD (callF T 38) d_words_of (pD l n) = some (.nw (wD l n), [])
  w36 : runD (callF T 36) d_words_of (pD l n) = some (.nw (wD l n), [])
  lw38 : runD (callF T 38) d_u_law_words (pD l n) = some (.nw (wD l n), [])
  lw37 : runD (callF T 37) d_u_law_words (pD l n) = some (.nw (wD l n), [])
  lw36 : runD (callF T 36) d_u_law_words (pD l n) = some (.nw (wD l n), [])
  net : runD (callF T 38) d_word_net (pD l n) = some (.fr (netD l n), [])
  pow : runD (callF T 38) d_u_law_power [.fz (.int (l : Int)), .fz (.int ((n : Int) - 1))] = some (.fr (.int ((l ^ (n - 1) : Nat) : Int)), [])
  srt : sortD (wD l n) = wD l n
  sm : l ^ n ≤ 27 ∧ 1 ≤ n ∧ 1 ≤ l ∧ n ≤ 5
  g : ∃ g : List Int, runD (callF T 38) d_u_law_greatest (pD l n) = some (.fr (intD g), []) ∧ runD (callF T 38) d_round_word (pD l n) = some (.fr (intD g), []) ∧ g.length = l ^ n ∧ (∀ x ∈ g, 0 ≤ x ∧ x < l) ∧ (parts g n).Perm (wl l n)
  c : ∃ c : Int, runD (callF T 38) d_u_law_count (pD l n) = some (.fr (.int c), []) ∧ runD (callF T 38) d_round_count (pD l n) = some (.fr (.int c), []) ∧ c.natAbs.log2 < 1920
end K80

set_option maxRecDepth 1000000
set_option maxHeartbeats 0
namespace K80
open Ev PySem L2
theorem ok_w : prs.all okW = true := by decide +kernel
theorem ok_n : prs.all okN = true := by decide +kernel
theorem ok_p : prs.all okP = true := by decide +kernel
theorem ok_c : prs.all okC = true := by decide +kernel
theorem ok_s : (prs.all fun p => deqs (sortD (wD p.1 p.2)) (wD p.1 p.2)) = true := by decide +kernel
theorem ok_l : gTab.all okL = true := by decide +kernel
theorem gTab_prs : gTab.map (·.1) = prs := by decide +kernel
theorem ok_g0 : ((gTab.drop 0).take 4).all okG = true := by decide +kernel
theorem ok_g1 : ((gTab.drop 4).take 6).all okG = true := by decide +kernel
theorem ok_g2 : ((gTab.drop 10).take 12).all okG = true := by decide +kernel
theorem ok_g3 : ((gTab.drop 22).take 5).all okG = true := by decide +kernel
theorem ok_g4 : ((gTab.drop 27).take 4).all okG = true := by decide +kernel
theorem ok_g5 : ((gTab.drop 31).take 2).all okG = true := by decide +kernel
theorem ok_g6 : ((gTab.drop 33).take 2).all okG = true := by decide +kernel
theorem ok_g7 : ((gTab.drop 35).take 1).all okG = true := by decide +kernel
theorem ok_g8 : ((gTab.drop 36).take 1).all okG = true := by decide +kernel
theorem ok_g9 : ((gTab.drop 37).take 5).all okG = true := by decide +kernel
theorem gTab_cut : gTab = ((gTab.drop 0).take 4) ++ ((gTab.drop 4).take 6) ++ ((gTab.drop 10).take 12) ++ ((gTab.drop 22).take 5) ++ ((gTab.drop 27).take 4) ++ ((gTab.drop 31).take 2) ++ ((gTab.drop 33).take 2) ++ ((gTab.drop 35).take 1) ++ ((gTab.drop 36).take 1) ++ ((gTab.drop 37).take 5) := rfl
theorem ok_g : gTab.all okG = true := by
  rw [gTab_cut]
  simp only [List.all_append, ok_g0, ok_g1, ok_g2, ok_g3, ok_g4, ok_g5, ok_g6, ok_g7, ok_g8, ok_g9, Bool.and_self]
theorem fin (l n : Nat) (hp : (l, n) ∈ prs) : Fin l n := by
  have hw := List.all_eq_true.mp ok_w _ hp
  have hn := List.all_eq_true.mp ok_n _ hp
  have hpp := List.all_eq_true.mp ok_p _ hp
  have hc := List.all_eq_true.mp ok_c _ hp
  have hs := List.all_eq_true.mp ok_s _ hp
  rw [← gTab_prs] at hp
  obtain ⟨⟨p, g⟩, hg, rfl⟩ := List.mem_map.mp hp
  have hl := List.all_eq_true.mp ok_l _ hg
  have hgg := List.all_eq_true.mp ok_g _ hg
  simp only [okW, Bool.and_eq_true] at hw
  simp only [okN] at hn
  simp only [okP, Bool.and_eq_true, decide_eq_true_eq] at hpp
  simp only [okC, Bool.and_eq_true, decide_eq_true_eq] at hc
  simp only [okL, Bool.and_eq_true, decide_eq_true_eq, List.all_eq_true] at hl
  simp only [okG, Bool.and_eq_true] at hgg
  exact ⟨nwIs_eq hw.1.1.1.1, nwIs_eq hw.1.1.1.2, nwIs_eq hw.1.1.2, nwIs_eq hw.1.2, nwIs_eq hw.2, frIs_eq hn, frIs_eq hpp.1, deqs_eq hs, hpp.2, ⟨g, frIs_eq hgg.1, frIs_eq hgg.2, hl.1.1, hl.1.2, List.isPerm_iff.mp hl.2⟩, ⟨_, frIs_eq hc.1.1, frIs_eq hc.1.2, hc.2⟩⟩
end K80

set_option maxRecDepth 100000
/-! K80F: parts, round words. -/
namespace K80
open Ev PySem L2
theorem fm_some {α β : Type} (f : α → β) (l : List α) : l.filterMap (fun x => some (f x)) = l.map f := by
  induction l with
  | nil => rfl
  | cons x l ih => simp [ih]
theorem intD_len (w : List Int) : dLen (intD w) = some (.int w.length) := by simp [intD]
theorem intD_at (w : List Int) (i : Nat) (h : i < w.length) : dIdx (intD w) (.int (i : Int)) = some (.int (w.getD i 0)) := by
  simp [intD, h]
theorem r_parts {F : FT} (w : List Int) (n : Nat) (hw : w.length ≤ 100) (hn : n ≤ 100) : runD F d_parts_round [.fz (intD w), .fz (.int (n : Int))] = some (.nw ((parts w n).map intD), []) := by
  simp only [runD_eq]
  have y1 : (-4611686018427387904 : Int) ≤ w.length := by omega
  have y2 : (w.length : Int) ≤ 16777216 := by omega
  have y3 : (-4611686018427387904 : Int) ≤ n := by omega
  have y4 : (n : Int) ≤ 16777216 := by omega
  simp [d_parts_round, b_parts_round, intD_len, y1, y2]
  generalize hf : compL _ _ _ = x
  have := compR_use hf (fun a => some (intD ((List.range n).map fun j => w.getD ((a + j) % w.length) 0))) (by
    intro a ha
    have ha' : a < w.length := by omega
    simp [cstep, y3, y4]
    generalize hg : compL _ _ _ = z
    have := compR_use hg (fun j => some (.int (w.getD ((a + j) % w.length) 0))) (by
      intro j hj
      have h0 : ¬ w.length = 0 := by omega
      have h0' : ¬ w = [] := by intro e; subst e; simp at ha'
      have hlt := Nat.mod_lt (a + j) (show 0 < w.length by omega)
      have e : dIdx (intD w) (.int (((a : Int) + (j : Int)).fmod (w.length : Int))) = some (.int (w.getD ((a + j) % w.length) 0)) := by
        rw [show ((a : Int) + (j : Int)).fmod (w.length : Int) = (((a + j) % w.length : Nat) : Int) from fmod_nat (a + j) w.length]
        exact intD_at w _ hlt
      simp [cstep, h0, h0', e])
    subst this
    simp [fm_some, intD, List.map_map, Function.comp_def])
  subst this
  simp [fm_some, parts, intD, List.map_map, Function.comp_def]
theorem r_lparts {F : FT} (w : List Int) (n : Nat) (hw : w.length ≤ 100) (hn : n ≤ 100) : runD F d_u_law_parts [.fz (intD w), .fz (.int (n : Int))] = some (.nw ((parts w n).map intD), []) := by
  simp only [runD_eq]
  have y1 : (-4611686018427387904 : Int) ≤ w.length := by omega
  have y2 : (w.length : Int) ≤ 16777216 := by omega
  have y3 : (-4611686018427387904 : Int) ≤ n := by omega
  have y4 : (n : Int) ≤ 16777216 := by omega
  simp [d_u_law_parts, b_u_law_parts, intD_len, y1, y2]
  generalize hf : compL _ _ _ = x
  have := compR_use hf (fun a => some (intD ((List.range n).map fun j => w.getD ((a + j) % w.length) 0))) (by
    intro a ha
    have ha' : a < w.length := by omega
    simp [cstep, y3, y4]
    generalize hg : compL _ _ _ = z
    have := compR_use hg (fun j => some (.int (w.getD ((a + j) % w.length) 0))) (by
      intro j hj
      have h0 : ¬ w.length = 0 := by omega
      have h0' : ¬ w = [] := by intro e; subst e; simp at ha'
      have hlt := Nat.mod_lt (a + j) (show 0 < w.length by omega)
      have e : dIdx (intD w) (.int (((a : Int) + (j : Int)).fmod (w.length : Int))) = some (.int (w.getD ((a + j) % w.length) 0)) := by
        rw [show ((a : Int) + (j : Int)).fmod (w.length : Int) = (((a + j) % w.length : Nat) : Int) from fmod_nat (a + j) w.length]
        exact intD_at w _ hlt
      simp [cstep, h0, h0', e, intD_len])
    subst this
    simp [fm_some, intD, List.map_map, Function.comp_def])
  subst this
  simp [fm_some, parts, intD, List.map_map, Function.comp_def]
theorem ks_parts : d_parts_round.ks = [.B, .I] := rfl
theorem ks_lparts : d_u_law_parts.ks = [.B, .I] := rfl
theorem ks_words : d_words_of.ks = [.I, .I] := rfl
theorem ks_lwords : d_u_law_words.ks = [.B, .I] := rfl
end K80

set_option maxRecDepth 100000
/-! K80G: what a round word is, in the text and in the law. -/
namespace K80
open Ev PySem L2
theorem alikeAll_ints : ∀ (a b : List Int), PySem.W.alikeAll (a.map .int) (b.map .int) = true
  | [], b => by simp [PySem.W.alikeAll]
  | _ :: _, [] => by simp [PySem.W.alikeAll]
  | x :: a, y :: b => by simp [PySem.W.alikeAll, PySem.W.alike, alikeAll_ints a b]
theorem alike_intD (a b : List Int) : PySem.W.alike (intD a) (intD b) = true := by
  simp only [intD, PySem.W.alike]
  exact alikeAll_ints a b
theorem alikeB_intD (ws : List (List Int)) : alikeB (ws.map intD) = true := by
  rw [alikeB_iff]
  intro x hx y hy
  obtain ⟨a, _, rfl⟩ := List.mem_map.mp hx
  obtain ⟨b, _, rfl⟩ := List.mem_map.mp hy
  exact alike_intD a b
theorem shp_intD (w : List Int) : shp 1 (intD w) := shp_tuple fun x hx => by
  obtain ⟨i, _, rfl⟩ := List.mem_map.mp hx; exact shp_int i
theorem shaped_intDs (ws : List (List Int)) : SeqAt.shaped (.list (ws.map intD)) = true := shaped_of (n := 2) (shp_list fun x hx => by
  obtain ⟨w, _, rfl⟩ := List.mem_map.mp hx; exact shp_intD w) (by omega)
theorem shaped_intDsT (ws : List (List Int)) : SeqAt.shaped (.tuple (ws.map intD)) = true := shaped_of (n := 2) (shp_tuple fun x hx => by
  obtain ⟨w, _, rfl⟩ := List.mem_map.mp hx; exact shp_intD w) (by omega)
theorem sortD_map (ws : List (List Int)) : ∃ vs : List (List Int), sortD (ws.map intD) = vs.map intD ∧ vs.Perm ws := by
  have hins : ∀ (x : List Int) (r : List (List Int)), ∃ s : List (List Int), insD (intD x) (r.map intD) = s.map intD ∧ s.Perm (x :: r) := fun x r => by
    induction r with
    | nil => exact ⟨[x], rfl, List.Perm.refl _⟩
    | cons y r ih =>
      simp only [List.map_cons, insD]
      split
      · obtain ⟨s, h1, h2⟩ := ih
        exact ⟨y :: s, by rw [h1]; rfl, (h2.cons y).trans (List.Perm.swap _ _ _)⟩
      · exact ⟨x :: y :: r, rfl, List.Perm.refl _⟩
  induction ws with
  | nil => exact ⟨[], rfl, List.Perm.refl _⟩
  | cons w ws ih =>
    obtain ⟨vs, h1, h2⟩ := ih
    simp only [List.map_cons, sortD, h1]
    obtain ⟨s, h3, h4⟩ := hins w vs
    exact ⟨s, h3, h4.trans (h2.cons w)⟩
theorem sortOk_intD (ws : List (List Int)) (h : ∀ w ∈ ws, w ≠ []) : sortOk (ws.map intD) = true := by
  unfold sortOk
  rw [alikeB_intD]
  simp only [Bool.true_and, Bool.and_eq_true, List.all_eq_true, Bool.or_eq_true, decide_eq_true_eq]
  refine ⟨fun d hd => ?_, .inl fun d hd => ?_⟩
  · obtain ⟨w, _, rfl⟩ := List.mem_map.mp hd
    have := (shp_intD w).2
    omega
  · obtain ⟨w, hw, rfl⟩ := List.mem_map.mp hd
    cases w with
    | nil => exact absurd rfl (h _ hw)
    | cons _ _ => rfl
theorem allInts_intD (w : List Int) (ws : List (List Int)) : allInts ((w :: ws).map intD) = none := rfl
theorem parts_len (w : List Int) (n : Nat) : (parts w n).length = w.length := by simp [parts]
theorem parts_ne (w : List Int) (n : Nat) (hn : 1 ≤ n) : ∀ p ∈ parts w n, p ≠ [] := fun p hp e => by
  obtain ⟨a, _, rfl⟩ := List.mem_map.mp hp
  have := congrArg List.length e
  simp at this
  omega
def rb (w : List Int) (l n : Nat) : Bool := decide (w.length = l ^ n) && PyData.eqv (.list (sortD ((parts w n).map intD))) (.list (wD l n))
theorem wD_len (l n : Nat) : (wD l n).length = l ^ n := by simp [wD, wl]
theorem r_isround {l n : Nat} (f : Fin l n) (w : List Int) (hw : w.length ≤ 100) : runD (callF T 37) d_is_round_word [.fz (intD w), .fz (.int (l : Int)), .fz (.int (n : Int))] = some (.fr (.bool (rb w l n)), []) := by
  obtain ⟨s1, s2, s3, s4⟩ := f.sm
  have e1 := f.w36
  have e2 := r_parts (F := callF T 36) w n hw (by omega)
  unfold pD at e1
  simp only [runD_eq]
  have hl : (((w.length : Nat) : Int) = ((l ^ n : Nat) : Int)) ↔ w.length = l ^ n := by omega
  simp [d_is_round_word, b_is_round_word, call_words_of, ks_words, e1, intD_len, wD_len, rb]
  by_cases h : w.length = l ^ n
  · have hc : PySem.W.alike .none .none = true := rfl
    have hne : parts w n ≠ [] := by
      intro e
      have h0 := congrArg List.length e
      rw [parts_len, h] at h0
      have h1 : 0 < l ^ n := Nat.pow_pos (by omega)
      rw [List.length_nil] at h0
      omega
    obtain ⟨p, ps, hp⟩ : ∃ p ps, parts w n = p :: ps := by
      cases e : parts w n with
      | nil => exact absurd e hne
      | cons p ps => exact ⟨p, ps, rfl⟩
    have ha : allInts ((parts w n).map intD) = none := by rw [hp]; rfl
    have so := sortOk_intD (parts w n) (parts_ne w n s2)
    obtain ⟨vs, v1, v2⟩ := sortD_map (parts w n)
    have sh1 := shaped_intDs vs
    have sh2 : SeqAt.shaped (.list (wD l n)) = true := shaped_intDs _
    have h' : ((w.length : Nat) : Int) = (l : Int) ^ n := by rw [h]; simp
    simp [h, call_parts_round, ks_parts, e2, ha, so, v1, dCmp_eq, sh1, sh2]
  · have h' : ¬ ((w.length : Nat) : Int) = (l : Int) ^ n := fun e => h (by
      have : ((w.length : Nat) : Int) = ((l ^ n : Nat) : Int) := by rw [e]; simp
      exact_mod_cast this)
    simp [h, h']
theorem r_lround {l n : Nat} (f : Fin l n) (w : List Int) (hw : w.length ≤ 100) : runD (callF T 37) d_u_law_round [.fz (intD w), .fz (.int (l : Int)), .fz (.int (n : Int))] = some (.fr (.bool (rb w l n)), []) := by
  obtain ⟨s1, s2, s3, s4⟩ := f.sm
  have e1 := f.lw36
  have e2 := r_lparts (F := callF T 36) w n hw (by omega)
  unfold pD at e1
  simp only [runD_eq]
  simp [d_u_law_round, b_u_law_round, call_u_law_words, ks_lwords, e1, intD_len, wD_len, rb]
  by_cases h : w.length = l ^ n
  · have hne : parts w n ≠ [] := by
      intro e
      have h0 := congrArg List.length e
      rw [parts_len, h] at h0
      have h1 : 0 < l ^ n := Nat.pow_pos (by omega)
      rw [List.length_nil] at h0
      omega
    obtain ⟨p, ps, hp⟩ : ∃ p ps, parts w n = p :: ps := by
      cases e : parts w n with
      | nil => exact absurd e hne
      | cons p ps => exact ⟨p, ps, rfl⟩
    have ha : allInts ((parts w n).map intD) = none := by rw [hp]; rfl
    have so := sortOk_intD (parts w n) (parts_ne w n s2)
    obtain ⟨vs, v1, v2⟩ := sortD_map (parts w n)
    have sh1 := shaped_intDs vs
    have sh2 : SeqAt.shaped (.list (wD l n)) = true := shaped_intDs _
    simp [h, call_u_law_parts, ks_lparts, e2, ha, so, v1, dCmp_eq, sh1, sh2]
  · have h' : ¬ ((w.length : Nat) : Int) = (l : Int) ^ n := fun e => h (by
      have : ((w.length : Nat) : Int) = ((l ^ n : Nat) : Int) := by rw [e]; simp
      exact_mod_cast this)
    simp [h, h']
end K80

set_option maxRecDepth 100000
/-! K80H: a round word turned, renamed, or read from behind. -/
namespace K80
open Ev PySem L2
theorem perm_of_sub {α : Type} [DecidableEq α] : ∀ {l m : List α}, l.Nodup → (∀ x ∈ l, x ∈ m) → m.length ≤ l.length → l.Perm m
  | [], m, _, _, h => by
    have : m = [] := List.eq_nil_of_length_eq_zero (by simpa using h)
    subst this; exact List.Perm.refl _
  | x :: l, m, hn, hs, hl => by
    have hx : x ∈ m := hs x (by simp)
    have hn' := List.nodup_cons.mp hn
    have p := List.perm_cons_erase hx
    have ih := perm_of_sub (l := l) (m := m.erase x) hn'.2 (fun y hy => (List.mem_erase_of_ne (fun e => hn'.1 (by rw [← e]; exact hy))).mpr (hs y (by simp [hy]))) (by
      rw [List.length_erase_of_mem hx]
      simp at hl
      omega)
    exact (ih.cons x).trans p.symm
theorem nodup_map_on {α β : Type} {f : α → β} {l : List α} (hn : l.Nodup) (h : ∀ a ∈ l, ∀ b ∈ l, f a = f b → a = b) : (l.map f).Nodup := by
  unfold List.Nodup
  rw [List.pairwise_map]
  exact List.Pairwise.imp_of_mem (fun ha hb hne e => hne (h _ ha _ hb e)) hn
theorem dig_len (l : Nat) : ∀ n k, (dig l n k).length = n
  | 0, _ => rfl
  | n + 1, k => by simp [dig, dig_len l n]
theorem dig_lt {l : Nat} (hl : 1 ≤ l) : ∀ n k, ∀ x ∈ dig l n k, 0 ≤ x ∧ x < (l : Int)
  | 0, _, x, h => by cases h
  | n + 1, k, x, h => by
    rcases List.mem_append.mp h with h | h
    · exact dig_lt hl n _ x h
    · rw [List.mem_singleton] at h
      subst h
      have := Nat.mod_lt k hl
      omega
theorem dig_all {l : Nat} : ∀ (n : Nat) (w : List Int), w.length = n → (∀ x ∈ w, 0 ≤ x ∧ x < (l : Int)) → ∃ k, k < l ^ n ∧ dig l n k = w
  | 0, w, h, _ => ⟨0, by simp, by rw [List.eq_nil_of_length_eq_zero h]; rfl⟩
  | n + 1, w, h, hb => by
    have hne : w ≠ [] := by intro e; subst e; cases h
    have e := (List.dropLast_concat_getLast hne).symm
    obtain ⟨k, hk, e1⟩ := dig_all n w.dropLast (by simp [h]) (fun x hx => hb x (List.dropLast_subset w hx))
    have hx := hb _ (List.getLast_mem hne)
    generalize w.getLast hne = x at *
    obtain ⟨y, rfl⟩ : ∃ y : Nat, x = y := ⟨x.toNat, by omega⟩
    have hy : y < l := by omega
    refine ⟨k * l + y, ?_, ?_⟩
    · rw [Nat.pow_succ]
      have h2 : (k + 1) * l ≤ l ^ n * l := Nat.mul_le_mul_right l hk
      rw [Nat.add_mul, Nat.one_mul] at h2
      omega
    · rw [dig, e]
      have h1 : (k * l + y) / l = k := by
        rw [Nat.mul_comm, Nat.mul_add_div (by omega), Nat.div_eq_of_lt hy, Nat.add_zero]
      have h2 : (k * l + y) % l = y := by
        rw [Nat.mul_comm, Nat.mul_add_mod, Nat.mod_eq_of_lt hy]
      rw [h1, h2, e1]
theorem mem_wl {l n : Nat} (hl : 1 ≤ l) {w : List Int} : w ∈ wl l n ↔ w.length = n ∧ ∀ x ∈ w, 0 ≤ x ∧ x < (l : Int) := by
  unfold wl
  rw [List.mem_map]
  constructor
  · rintro ⟨k, _, rfl⟩
    exact ⟨dig_len l n k, dig_lt hl n k⟩
  · rintro ⟨h1, h2⟩
    obtain ⟨k, hk, e⟩ := dig_all n w h1 h2
    exact ⟨k, List.mem_range.mpr hk, e⟩
theorem dig_inj {l : Nat} : ∀ (n a b : Nat), a < l ^ n → b < l ^ n → dig l n a = dig l n b → a = b
  | 0, a, b, ha, hb, _ => by simp at ha hb; omega
  | n + 1, a, b, ha, hb, e => by
    rw [Nat.pow_succ] at ha hb
    have hl : 0 < l := by
      rcases Nat.eq_zero_or_pos l with h | h
      · subst h; simp at ha
      · exact h
    simp only [dig] at e
    have e1 := List.append_inj e (by rw [dig_len, dig_len])
    have h1 := dig_inj n _ _ (Nat.div_lt_of_lt_mul (by rw [Nat.mul_comm]; exact ha)) (Nat.div_lt_of_lt_mul (by rw [Nat.mul_comm]; exact hb)) e1.1
    have h2 : a % l = b % l := by
      have := e1.2
      simp only [List.cons.injEq, and_true] at this
      omega
    rw [← Nat.div_add_mod a l, ← Nat.div_add_mod b l, h1, h2]
theorem wl_nodup (l n : Nat) : (wl l n).Nodup := nodup_map_on List.nodup_range fun a ha b hb e => dig_inj n a b (List.mem_range.mp ha) (List.mem_range.mp hb) e
theorem wl_len (l n : Nat) : (wl l n).length = l ^ n := by simp [wl]
/-- a round word -/
structure Rw (l n : Nat) (w : List Int) : Prop where
  len : w.length = l ^ n
  lt : ∀ x ∈ w, 0 ≤ x ∧ x < (l : Int)
  perm : (parts w n).Perm (wl l n)
def part (w : List Int) (n a : Nat) : List Int := (List.range n).map fun j => w.getD ((a + j) % w.length) 0
theorem part_mod (w : List Int) (n a : Nat) : part w n (a % w.length) = part w n a := by
  unfold part
  apply List.map_congr_left
  intro j _
  rw [Nat.mod_add_mod]
theorem range_perm {m : Nat} {q : Nat → Nat} (h : ∀ a, a < m → q a < m) (hi : ∀ a b, a < m → b < m → q a = q b → a = b) : ((List.range m).map q).Perm (List.range m) :=
  perm_of_sub (nodup_map_on List.nodup_range fun a ha b hb e => hi a b (List.mem_range.mp ha) (List.mem_range.mp hb) e) (fun x hx => by
    obtain ⟨a, ha, rfl⟩ := List.mem_map.mp hx
    exact List.mem_range.mpr (h a (List.mem_range.mp ha))) (by simp)
theorem rot_getD (w : List Int) {t : Nat} (ht : t ≤ w.length) : ∀ i, i < w.length → (w.drop t ++ w.take t).getD i 0 = w.getD ((i + t) % w.length) 0 := fun i hi => by
  simp only [List.getD_eq_getElem?_getD]
  congr 1
  by_cases h : i < w.length - t
  · rw [List.getElem?_append_left (by simp; omega), List.getElem?_drop, Nat.mod_eq_of_lt (by omega), Nat.add_comm]
  · rw [List.getElem?_append_right (by simp; omega), List.length_drop, List.getElem?_take, if_pos (by omega)]
    have : (i + t) % w.length = i - (w.length - t) := by
      rw [Nat.mod_eq_sub_mod (by omega), Nat.mod_eq_of_lt (by omega)]
      omega
    rw [this]
theorem rot_len (w : List Int) {t : Nat} (ht : t ≤ w.length) : (w.drop t ++ w.take t).length = w.length := by simp; omega
theorem parts_rot (w : List Int) (n : Nat) {t : Nat} (ht : t ≤ w.length) : (parts (w.drop t ++ w.take t) n).Perm (parts w n) := by
  have hl := rot_len w ht
  have hg := rot_getD w ht
  have e1 : parts (w.drop t ++ w.take t) n = ((List.range w.length).map fun a => (a + t) % w.length).map (part w n) := by
    unfold parts
    rw [hl, List.map_map]
    apply List.map_congr_left
    intro a ha
    have ha' := List.mem_range.mp ha
    show _ = part w n ((a + t) % w.length)
    rw [part_mod]
    unfold part
    apply List.map_congr_left
    intro j _
    rw [hg _ (Nat.mod_lt _ (by omega)), Nat.mod_add_mod]
    congr 2
    omega
  rw [e1]
  refine (range_perm (fun a ha => Nat.mod_lt _ (by omega)) fun a b ha hb e => ?_).map _
  by_cases h1 : a + t < w.length
  · by_cases h2 : b + t < w.length
    · rw [Nat.mod_eq_of_lt h1, Nat.mod_eq_of_lt h2] at e; omega
    · rw [Nat.mod_eq_of_lt h1, Nat.mod_eq_sub_mod (by omega), Nat.mod_eq_of_lt (by omega)] at e; omega
  · by_cases h2 : b + t < w.length
    · rw [Nat.mod_eq_of_lt h2, Nat.mod_eq_sub_mod (by omega), Nat.mod_eq_of_lt (by omega)] at e; omega
    · rw [Nat.mod_eq_sub_mod (by omega), Nat.mod_eq_of_lt (by omega), Nat.mod_eq_sub_mod (a := b + t) (by omega), Nat.mod_eq_of_lt (by omega)] at e; omega
theorem Rw.rot {l n : Nat} {w : List Int} (r : Rw l n w) {t : Nat} (ht : t ≤ w.length) : Rw l n (w.drop t ++ w.take t) := by
  refine ⟨by rw [rot_len w ht]; exact r.len, fun x hx => r.lt x ?_, (parts_rot w n ht).trans r.perm⟩
  rcases List.mem_append.mp hx with h | h
  · exact List.mem_of_mem_drop h
  · exact List.mem_of_mem_take h
theorem map_inj_on {f : Int → Int} {P : Int → Prop} (hf : ∀ x y, P x → P y → f x = f y → x = y) : ∀ {a b : List Int}, (∀ x ∈ a, P x) → (∀ x ∈ b, P x) → a.map f = b.map f → a = b
  | [], [], _, _, _ => rfl
  | [], _ :: _, _, _, e => by cases e
  | _ :: _, [], _, _, e => by cases e
  | x :: a, y :: b, ha, hb, e => by
    simp only [List.map_cons, List.cons.injEq] at e
    rw [hf x y (ha x (by simp)) (hb y (by simp)) e.1, map_inj_on hf (fun z hz => ha z (by simp [hz])) (fun z hz => hb z (by simp [hz])) e.2]
theorem Rw.ren {l n : Nat} {w : List Int} (hl : 1 ≤ l) (r : Rw l n w) {f : Int → Int} (h : ∀ x, 0 ≤ x ∧ x < (l : Int) → 0 ≤ f x ∧ f x < (l : Int)) (hi : ∀ x y, (0 ≤ x ∧ x < (l : Int)) → (0 ≤ y ∧ y < (l : Int)) → f x = f y → x = y) : Rw l n (w.map f) := by
  refine ⟨by rw [List.length_map]; exact r.len, fun x hx => ?_, ?_⟩
  · obtain ⟨y, hy, rfl⟩ := List.mem_map.mp hx
    exact h y (r.lt y hy)
  · have e1 : parts (w.map f) n = (parts w n).map (List.map f) := by
      unfold parts
      rw [List.length_map, List.map_map]
      apply List.map_congr_left
      intro a ha
      have ha' := List.mem_range.mp ha
      simp only [Function.comp_apply, List.map_map]
      apply List.map_congr_left
      intro j _
      have := Nat.mod_lt (a + j) (show 0 < w.length by omega)
      simp [this]
    rw [e1]
    refine (r.perm.map _).trans (perm_of_sub (nodup_map_on (wl_nodup l n) fun a ha b hb e => map_inj_on hi ((mem_wl hl).mp ha).2 ((mem_wl hl).mp hb).2 e) (fun x hx => ?_) (by simp))
    obtain ⟨y, hy, rfl⟩ := List.mem_map.mp hx
    obtain ⟨h1, h2⟩ := (mem_wl hl).mp hy
    refine (mem_wl hl).mpr ⟨by simpa using h1, fun z hz => ?_⟩
    obtain ⟨u, hu, rfl⟩ := List.mem_map.mp hz
    exact h u (h2 u hu)
theorem Rw.rev {l n : Nat} {w : List Int} (hl : 1 ≤ l) (r : Rw l n w) : Rw l n w.reverse := by
  refine ⟨by rw [List.length_reverse]; exact r.len, fun x hx => r.lt x (by simpa using hx), ?_⟩
  have e1 : parts w.reverse n = ((List.range w.length).map fun a => (w.length * (n + 1) - (a + n)) % w.length).map fun b => (part w n b).reverse := by
    unfold parts
    rw [List.length_reverse, List.map_map]
    apply List.map_congr_left
    intro a ha
    have ha' := List.mem_range.mp ha
    show _ = (part w n ((w.length * (n + 1) - (a + n)) % w.length)).reverse
    rw [part_mod]
    unfold part
    apply List.ext_getElem
    · simp
    · intro j h1 h2
      simp at h1
      have hm : (a + j) % w.length < w.length := Nat.mod_lt _ (by omega)
      simp only [List.getElem_map, List.getElem_range, List.getElem_reverse, List.length_map, List.length_range, List.getD_eq_getElem?_getD]
      rw [List.getElem?_reverse hm]
      congr 2
      -- both are the same place
      have hmul : w.length * (n + 1) = w.length * n + w.length := Nat.mul_succ _ _
      have hge : n ≤ w.length * n := Nat.le_mul_of_pos_left n (by omega)
      have hd := Nat.div_add_mod (a + j) w.length
      have hq : w.length * ((a + j) / w.length) ≤ w.length * n + w.length := by
        have : (a + j) / w.length ≤ n := by
          rw [Nat.div_le_iff_le_mul_add_pred (by omega)]
          have : n ≤ w.length * n := hge
          have h3 : j < n := h1
          have : w.length * n = n * w.length := Nat.mul_comm _ _
          omega
        have := Nat.mul_le_mul_left w.length this
        omega
      have key : w.length * (n + 1) - (a + n) + (n - 1 - j) = (w.length - 1 - (a + j) % w.length) + w.length * (n - (a + j) / w.length) := by
        have h4 : (a + j) / w.length ≤ n := by
          rw [Nat.div_le_iff_le_mul_add_pred (by omega)]
          have : w.length * n = n * w.length := Nat.mul_comm _ _
          omega
        rw [Nat.mul_sub, hmul]
        have := Nat.mul_le_mul_left w.length h4
        omega
      rw [key, Nat.add_mul_mod_self_left, Nat.mod_eq_of_lt (show w.length - 1 - (a + j) % w.length < w.length by omega)]
  rw [e1]
  have p1 : ((List.range w.length).map fun a => (w.length * (n + 1) - (a + n)) % w.length).Perm (List.range w.length) := by
    refine range_perm (fun a ha => Nat.mod_lt _ (by omega)) fun a b ha hb e => ?_
    have hmul : w.length * (n + 1) = w.length * n + w.length := Nat.mul_succ _ _
    have hge : n ≤ w.length * n := Nat.le_mul_of_pos_left n (by omega)
    rcases Nat.lt_trichotomy a b with h | h | h
    · exfalso
      have h5 : w.length * (n + 1) - (a + n) = (w.length * (n + 1) - (b + n)) + (b - a) := by omega
      rw [h5] at e
      have := Nat.sub_mod_eq_zero_of_mod_eq e
      rw [Nat.add_sub_cancel_left, Nat.mod_eq_of_lt (by omega)] at this
      omega
    · exact h
    · exfalso
      have h5 : w.length * (n + 1) - (b + n) = (w.length * (n + 1) - (a + n)) + (a - b) := by omega
      rw [h5] at e
      have := Nat.sub_mod_eq_zero_of_mod_eq e.symm
      rw [Nat.add_sub_cancel_left, Nat.mod_eq_of_lt (by omega)] at this
      omega
  have e2 : ((List.range w.length).map fun b => (part w n b).reverse) = (parts w n).map List.reverse := by
    unfold parts
    rw [List.map_map]
    rfl
  refine (p1.map _).trans ?_
  rw [e2]
  refine (r.perm.map _).trans (perm_of_sub (nodup_map_on (wl_nodup l n) fun a _ b _ e => List.reverse_inj.mp e) (fun x hx => ?_) (by simp))
  obtain ⟨y, hy, rfl⟩ := List.mem_map.mp hx
  obtain ⟨h1, h2⟩ := (mem_wl hl).mp hy
  exact (mem_wl hl).mpr ⟨by simpa using h1, fun z hz => h2 z (by simpa using hz)⟩
theorem alikeAll_self : ∀ ws : List (List Int), PySem.W.alikeAll (ws.map intD) (ws.map intD) = true
  | [] => by simp [PySem.W.alikeAll]
  | w :: ws => by simp [PySem.W.alikeAll, alike_intD, alikeAll_self ws]
theorem eqv_self (ws : List (List Int)) : PyData.eqv (.list (ws.map intD)) (.list (ws.map intD)) = true :=
  PySem.W.eqv_refl_alike _ (by simp only [PySem.W.alike]; exact alikeAll_self ws)
theorem rb_of {l n : Nat} (f : Fin l n) {w : List Int} (r : Rw l n w) : rb w l n = true := by
  unfold rb
  rw [Bool.and_eq_true, decide_eq_true_eq]
  refine ⟨r.len, ?_⟩
  have e : sortD ((parts w n).map intD) = wD l n := by
    rw [← f.srt]
    have p : ((parts w n).map intD).Perm (wD l n) := r.perm.map intD
    refine sortD_uniq ((sortD_perm _).trans (p.trans (sortD_perm _).symm)) (fun x hx y hy => ?_) (sortD_sorted _) (sortD_sorted _)
    exact alikeB_iff.mp (alikeB_intD (parts w n)) x ((sortD_perm _).mem_iff.mp hx) y ((sortD_perm _).mem_iff.mp hy)
  rw [e]
  exact eqv_self _
end K80

set_option maxRecDepth 100000
/-! K80J: the judge. -/
namespace K80
open Ev PySem L2
theorem ks_isround : d_is_round_word.ks = [.B, .I, .I] := rfl
theorem ks_lround : d_u_law_round.ks = [.B, .B, .I] := rfl
theorem ks_judge : d_u_law_judge.ks = [.M, .B, .I, .I] := rfl
theorem same_bool (k : Nat) (b : Bool) : runD (callF T (k + 1)) d_u_law_same [.fz (.bool b), .fz (.bool b)] = some (.fr (.bool true), []) :=
  same_true k 1 (.bool b) _ _ trivial (isS_fz _) (isS_fz _)
theorem rb_less {l n : Nat} (hl : 1 ≤ l) (hn : 1 < n) (f : Fin l (n - 1)) {w : List Int} (r : Rw l n w) : rb w l (n - 1) = decide (l = 1) := by
  by_cases h : l = 1
  · subst h
    have hw : w.length = 1 := by rw [r.len]; simp
    have rr : Rw 1 (n - 1) w := by
      refine ⟨by rw [hw]; simp, r.lt, perm_of_sub ?_ (fun x hx => ?_) ?_⟩
      · have : (parts w (n - 1)).length = 1 := by rw [parts_len, hw]
        obtain ⟨x, hx⟩ := List.length_eq_one_iff.mp this
        rw [hx]; simp
      · obtain ⟨a, ha, rfl⟩ := List.mem_map.mp hx
        refine (mem_wl (by omega)).mpr ⟨by simp, fun z hz => ?_⟩
        obtain ⟨j, hj, rfl⟩ := List.mem_map.mp hz
        have hm : (a + j) % w.length < w.length := Nat.mod_lt _ (by omega)
        apply r.lt
        rw [List.getD_eq_getElem?_getD, List.getElem?_eq_getElem hm]
        exact List.getElem_mem hm
      · rw [wl_len, parts_len, hw]; simp
    rw [rb_of f rr]; simp
  · have hne : ¬ w.length = l ^ (n - 1) := by
      rw [r.len]
      intro e
      have := Nat.pow_lt_pow_right (a := l) (m := n - 1) (n := n) (by omega) (by omega)
      omega
    simp [rb, hne, h]
def cutI (xs : List Int) (lo hi : Option Int) : List Int := (xs.drop (HT.sIx xs.length 0 lo)).take (HT.sIx xs.length xs.length hi - HT.sIx xs.length 0 lo)
theorem cutD_ints (xs : List Int) (lo hi) : cutD (xs.map .int) lo hi = (cutI xs lo hi).map .int := by
  unfold cutD cutI
  rw [List.length_map, List.map_take, List.map_drop]
theorem cutI_len (xs : List Int) (lo hi) : (cutI xs lo hi).length ≤ xs.length := by
  unfold cutI
  rw [List.length_take, List.length_drop]; omega
theorem r_judge {l n : Nat} (f : Fin l n) (f' : 1 < n → Fin l (n - 1)) (g : List Int) (hg : Rw l n g) (ds : List Int) (c : Nat) :
    ∃ c' : Nat, runD (callF T 38) d_u_law_judge [.mu (bx ds c), .fz (.tuple (g.map .int)), .fz (.int (l : Int)), .fz (.int (n : Int))] = some (.fr (.bool true), [bx ds c']) := by
  suffices h : Rt (runD (callF T 38) d_u_law_judge [.mu (bx ds c), .fz (.tuple (g.map .int)), .fz (.int (l : Int)), .fz (.int (n : Int))]) (k := ⟨fun r o => ∃ c' : Nat, r = .fr (.bool true) ∧ o = [bx ds c']⟩) by
    obtain ⟨r, o, e, c', rfl, rfl⟩ := h
    exact ⟨c', e⟩
  obtain ⟨s1, s2, s3, s4⟩ := f.sm
  have hpow : 0 < l ^ n := Nat.pow_pos (by omega)
  have hlen := hg.len
  have hll : l ≤ 27 := by
    have : l ^ 1 ≤ l ^ n := Nat.pow_le_pow_right s3 s2
    rw [Nat.pow_one] at this
    omega
  have y1 : (-4611686018427387904 : Int) ≤ l := by omega
  have y2 : (l : Int) ≤ 16777216 := by omega
  obtain ⟨nm, c1, pn, e1⟩ := r_mixed (enc := natD) 36 ds c (List.range l) (.fz (.list ((List.range l).map natD))) (.inl rfl) (by simp; omega)
  have nl : nm.length = l := by have := pn.length_eq; simpa using this
  have nd : nm.Nodup := pn.nodup_iff.mpr List.nodup_range
  obtain ⟨t, c2, ht, e2⟩ := r_drawI (F := callF T 37) ds c1 (g.length : Int) (by omega)
  have ht' : t < g.length := by omega
  simp only [runD_eq]
  simp [d_u_law_judge, b_u_law_judge, y1, y2, rngD_nat, call_u_law_mixed, ks_mixed, e1, call_u_law_draw, ks_draw, e2, bx]
  have ed : cutD (g.map .int) (some (t : Int)) none ++ cutD (g.map .int) none (some (t : Int)) = (g.drop t ++ g.take t).map .int := by
    rw [cutD_lo, cutD_hi, List.map_append, List.map_drop, List.map_take]
  have r1 := hg.rot (t := t) (by omega)
  generalize g.drop t ++ g.take t = g1 at *
  have l1 := r1.len
  have gdl : (cutD (g.map .int) (some (t : Int)) none).length + (cutD (g.map .int) none (some (t : Int))).length ≤ 16777216 := by
    rw [← List.length_append, ed, List.length_map]
    omega
  rw [gd_pos gdl, ed]
  simp
  generalize hf : compL _ _ _ = x
  have := compM_use (enc := PyData.int) (xs := g1) hf (fun x => some (.int ((nm.getD x.toNat 0 : Nat) : Int))) (by
    intro x hx
    obtain ⟨h1, h2⟩ := r1.lt x hx
    obtain ⟨y, rfl⟩ : ∃ y : Nat, x = y := ⟨x.toNat, by omega⟩
    have hy : y < nm.length := by omega
    simp [cstep, hy, natD])
  subst this
  have efm : List.filterMap (fun x : Int => some (PyData.int ((nm.getD x.toNat 0 : Nat) : Int))) g1 = (g1.map fun x : Int => ((nm.getD x.toNat 0 : Nat) : Int)).map .int := by
    rw [fm_some (fun x : Int => PyData.int ((nm.getD x.toNat 0 : Nat) : Int)), List.map_map]; rfl
  rw [efm]
  have gn : ∀ y, y < l → nm[y]? = some (nm.getD y 0) := fun y hy => by
    have : y < nm.length := by omega
    simp [this]
  have r2 : Rw l n (g1.map fun x : Int => ((nm.getD x.toNat 0 : Nat) : Int)) := by
    refine r1.ren s3 (fun x ⟨h1, h2⟩ => ?_) (fun x y ⟨h1, h2⟩ ⟨h3, h4⟩ e => ?_)
    · have hm : nm.getD x.toNat 0 ∈ nm := List.mem_of_getElem? (gn x.toNat (by omega))
      have := List.mem_range.mp (pn.mem_iff.mp hm)
      omega
    · have e' : nm.getD x.toNat 0 = nm.getD y.toNat 0 := by omega
      have hx : x.toNat < nm.length := by omega
      have h5 := gn x.toNat (by omega)
      have h6 := gn y.toNat (by omega)
      rw [e'] at h5
      have := (List.getElem?_inj hx nd).mp (h5.trans h6.symm)
      omega
  generalize (g1.map fun x : Int => ((nm.getD x.toNat 0 : Nat) : Int)) = w0 at *
  obtain ⟨q, c3, hq, e3⟩ := r_drawI (F := callF T 37) ds c2 2 (by omega)
  have hgl : g.length = l ^ n := hlen
  obtain ⟨o1, c4, h1, e4⟩ := r_drawI (F := callF T 37) ds c3 (g.length : Int) (by omega)
  obtain ⟨o2, c5, h2, e5⟩ := r_drawI (F := callF T 37) ds c4 (g.length : Int) (by omega)
  simp [call_u_law_draw, ks_draw, e3]
  cases hb : decide (q = 0)
  all_goals
    first
      | (simp only [brB_true]
         simp [← List.map_reverse]
         have rr := r2.rev s3
         generalize w0.reverse = w at *)
      | (simp only [brB_false]
         simp
         have rr := r2
         generalize w0 = w at *)
    have lw := rr.len
    have lgw : g.length = w.length := by omega
    have y3 : (g.length : Int) ≤ 16777216 := by omega
    have q1 : o1 < w.length := by omega
    have q2 : o2 < w.length := by omega
    simp [call_u_law_draw, ks_draw, e4, e5, y3]
    generalize hf : compL _ _ _ = x
    have := compR_use hf (fun k => some (.int (if k = o1 then w.getD o2 0 else w.getD k 0))) (by
      intro k hk
      have hk' : k < w.length := by omega
      by_cases hk1 : k = o1
      · subst hk1; simp [cstep, hk', q2]
      · have hk1' : ¬ (k : Int) = (o1 : Int) := by omega
        simp [cstep, hk1, hk1', hk'])
    subst this
    have ech : List.filterMap (fun k => some (PyData.int (if k = o1 then w.getD o2 0 else w.getD k 0))) (List.range ((g.length : Int) - 0).toNat) = ((List.range w.length).map fun k => if k = o1 then w.getD o2 0 else w.getD k 0).map .int := by
      rw [fm_some (fun k => PyData.int (if k = o1 then w.getD o2 0 else w.getD k 0)), List.map_map, show ((g.length : Int) - 0).toNat = w.length by omega]; rfl
    rw [ech]
    have lch : ((List.range w.length).map fun k => if k = o1 then w.getD o2 0 else w.getD k 0).length = w.length := by simp
    generalize ((List.range w.length).map fun k => if k = o1 then w.getD o2 0 else w.getD k 0) = ch at *
    simp [y3]
    generalize hf : compL _ _ _ = x
    have := compR_use hf (fun k => some (.int (if k = o2 then w.getD o1 0 else ch.getD k 0))) (by
      intro k hk
      have hk' : k < w.length := by omega
      have hk2 : k < ch.length := by omega
      by_cases hk1 : k = o2
      · subst hk1; simp [cstep, hk', q1]
      · have hk1' : ¬ (k : Int) = (o2 : Int) := by omega
        simp [cstep, hk1, hk1', hk2])
    subst this
    have emv : List.filterMap (fun k => some (PyData.int (if k = o2 then w.getD o1 0 else ch.getD k 0))) (List.range ((g.length : Int) - 0).toNat) = ((List.range w.length).map fun k => if k = o2 then w.getD o1 0 else ch.getD k 0).map .int := by
      rw [fm_some (fun k => PyData.int (if k = o2 then w.getD o1 0 else ch.getD k 0)), List.map_map, show ((g.length : Int) - 0).toNat = w.length by omega]; rfl
    rw [emv]
    have lmv : ((List.range w.length).map fun k => if k = o2 then w.getD o1 0 else ch.getD k 0).length = w.length := by simp
    generalize ((List.range w.length).map fun k => if k = o2 then w.getD o1 0 else ch.getD k 0) = mv at *
    have wne : ¬ w = [] := by intro e; subst e; simp at lw; omega
    have w0l : 0 < w.length := by omega
    have y4 : w.length + w.length ≤ 16777216 := by omega
    have y5 : w.length + 1 ≤ 16777216 := by omega
    simp [y3, y4, y5, w0l, wne]
    generalize hf : compL _ _ _ = x
    have := compR_use hf (fun k => some (.int (if k = o1 then (l : Int) else w.getD k 0))) (by
      intro k hk
      have hk' : k < w.length := by omega
      by_cases hk1 : k = o1
      · subst hk1; simp [cstep]
      · have hk1' : ¬ (k : Int) = (o1 : Int) := by omega
        simp [cstep, hk1, hk1', hk'])
    subst this
    have e8 : List.filterMap (fun k => some (PyData.int (if k = o1 then (l : Int) else w.getD k 0))) (List.range ((g.length : Int) - 0).toNat) = ((List.range w.length).map fun k => if k = o1 then (l : Int) else w.getD k 0).map .int := by
      rw [fm_some (fun k => PyData.int (if k = o1 then (l : Int) else w.getD k 0)), List.map_map, show ((g.length : Int) - 0).toNat = w.length by omega]; rfl
    rw [e8]
    have l8 : ((List.range w.length).map fun k => if k = o1 then (l : Int) else w.getD k 0).length = w.length := by simp
    generalize ((List.range w.length).map fun k => if k = o1 then (l : Int) else w.getD k 0) = p8 at *
    simp
    generalize hf : compL _ _ _ = x
    have := compM_use (enc := PyData.int) (xs := w) hf (fun x => some (.int (x - 1))) (by
      intro x hx
      simp [cstep])
    subst this
    have e9 : List.filterMap (fun x : Int => some (PyData.int (x - 1))) w = (w.map fun x => x - 1).map .int := by
      rw [fm_some (fun x : Int => PyData.int (x - 1)), List.map_map]; rfl
    rw [e9]
    have l9 : (w.map fun x => x - 1).length = w.length := by simp
    generalize (w.map fun x => x - 1) = p9 at *
    simp [-forL_cons]
    have eP : ∃ P : List (List Int), (∀ p ∈ P, p.length ≤ 100) ∧ [PyData.list (w.map .int), PyData.list (ch.map .int), PyData.list (mv.map .int), PyData.list (w.map .int ++ w.map .int), PyData.list (cutD (w.map .int) none (some (-1))), PyData.list (w.map .int ++ [PyData.int w[0]]), PyData.list [], PyData.list (p8.map .int), PyData.list (p9.map .int)] = P.map fun p => PyData.list (p.map .int) := by
      have hc : cutD (w.map .int) none (some (-1)) = (cutI w none (some (-1))).map .int := cutD_ints _ _ _
      have hcl := cutI_len w none (some (-1))
      refine ⟨[w, ch, mv, w ++ w, cutI w none (some (-1)), w ++ [w[0]], [], p8, p9], fun p hp => ?_, by simp [hc]⟩
      simp at hp
      rcases hp with rfl | rfl | rfl | rfl | rfl | rfl | rfl | rfl | rfl <;> first | omega | (simp; done) | (simp; omega)
    obtain ⟨P, hP, eP⟩ := eP
    simp only [eP]
    generalize hf : forL _ _ _ = x
    obtain ⟨ρ', rfl, o13, o14, rfl⟩ := forM_use (enc := fun p : List Int => PyData.list (p.map .int)) (xs := P) hf (fun _ ρ => ∃ o13 o14 : Option D, ρ = [_, _, _, _, _, _, _, _, _, _, _, _, _, qs o13, qs o14, .un, .un]) ⟨none, none, rfl⟩ (by
      rintro i p ρ hp ⟨o13, o14, rfl⟩
      have hpl := hP p (List.mem_of_getElem? hp)
      have a1 := r_isround f p hpl
      have a2 := r_lround f p hpl
      have a3 := same_bool 36 (rb p l n)
      unfold intD at a1 a2
      simp [fstep, call_u_law_round, ks_lround, call_is_round_word, ks_isround, call_u_law_same, ks_same, a1, a2, a3]
      exact St.next ⟨some (.list (p.map .int)), some (.bool (rb p l n)), rfl⟩)
    have a4 := r_isround f w (by omega)
    rw [rb_of f rr] at a4
    unfold intD at a4
    by_cases hn : 1 < n
    · have hn' : (1 : Int) < n := by omega
      have a5 := r_isround (f' hn) w (by omega)
      rw [rb_less s3 hn (f' hn) rr, show ((n - 1 : Nat) : Int) = (n : Int) - 1 by omega] at a5
      unfold intD at a5
      have a6 := same_bool 36 (decide (l = 1))
      have hd : decide ((l : Int) = 1) = decide (l = 1) := decide_eq_decide.mpr (by omega)
      simp [hn', call_is_round_word, ks_isround, call_u_law_same, ks_same, a4, a5, a6, hd]
      exact Rt.ok ⟨c5, rfl, rfl⟩
    · have hn' : ¬ (1 : Int) < n := by omega
      simp [hn', call_is_round_word, ks_isround, a4]
      exact Rt.ok ⟨c5, rfl, rfl⟩
end K80

set_option maxRecDepth 1000000
/-! K80M: all round words of few letters. -/
namespace K80
open Ev PySem L2
theorem ks_rcount : d_round_count.ks = [.I, .I] := rfl
theorem ks_power : d_u_law_power.ks = [.B, .I] := rfl
theorem ks_all : d_u_law_all.ks = [.M] := rfl
def okA (q : Nat × Nat × Nat) : Bool := frIs (runD (callF T 37) d_round_count (pD q.1 q.2.1)) (.int (q.2.2 : Int)) && frIs (runD (callF T 37) d_u_law_power (pD q.1 q.2.1)) (.int ((q.1 ^ q.2.1 : Nat) : Int)) && ((wl q.1 (q.1 ^ q.2.1)).filter (fun w => rb w q.1 q.2.1)).length == q.2.2 * q.1 ^ q.2.1
def tabA : List (Nat × Nat × Nat) := [(2, 2, 1), (2, 1, 1), (3, 1, 2), (1, 1, 1), (1, 3, 1)]
theorem ok_a : tabA.all okA = true := by decide +kernel
structure FA (l n c : Nat) : Prop where
  rc : runD (callF T 37) d_round_count (pD l n) = some (.fr (.int (c : Int)), [])
  pw : runD (callF T 37) d_u_law_power (pD l n) = some (.fr (.int ((l ^ n : Nat) : Int)), [])
  ct : ((wl l (l ^ n)).filter (fun w => rb w l n)).length = c * l ^ n
theorem finA {l n c : Nat} (h : (l, n, c) ∈ tabA) : FA l n c := by
  have := List.all_eq_true.mp ok_a _ h
  simp only [okA, Bool.and_eq_true, beq_iff_eq] at this
  exact ⟨frIs_eq this.1.1, frIs_eq this.1.2, this.2⟩
theorem fm_if {α β : Type} (p : α → Bool) (f : α → β) (l : List α) : l.filterMap (fun x => if p x = true then some (f x) else none) = (l.filter p).map f := by
  induction l with
  | nil => rfl
  | cons x l ih =>
    by_cases h : p x = true
    · simp [h, ih]
    · simp [h, ih]
theorem r_all (F1 : ∀ l n, (l, n) ∈ prs → Fin l n) (ds : List Int) (c : Nat) : ∃ c' : Nat, runD (callF T 38) d_u_law_all [.mu (bx ds c)] = some (.fr (.bool true), [bx ds c']) := by
  suffices h : Rt (runD (callF T 38) d_u_law_all [.mu (bx ds c)]) (k := ⟨fun r o => ∃ c' : Nat, r = .fr (.bool true) ∧ o = [bx ds c']⟩) by
    obtain ⟨r, o, e, c', rfl, rfl⟩ := h
    exact ⟨c', e⟩
  obtain ⟨r, c1, h1, e1⟩ := r_drawI (F := callF T 37) ds c 5 (by omega)
  simp only [runD_eq]
  simp [d_u_law_all, b_u_law_all, call_u_law_draw, ks_draw, e1, bx]
  have h5 : r < 5 := by omega
  rcases r with _ | _ | _ | _ | _ | r
  · have f := F1 2 2 (by decide)
    have fw := (F1 2 4 (by decide)).lw37
    have fa := finA (l := 2) (n := 2) (c := 1) (by decide)
    have pw := fa.pw
    have rc := fa.rc
    have ct := fa.ct
    unfold pD at pw rc fw
    simp at pw rc fw
    simp [call_u_law_power, ks_power, pw, call_u_law_words, ks_lwords, fw]
    generalize hf : compL _ _ _ = x
    have := compM_use (enc := intD) (xs := wl 2 4) hf (fun w => if rb w 2 2 = true then some (intD w) else none) (by
      intro w hw
      have a := r_isround f w (by have := ((mem_wl (by omega)).mp hw).1; omega)
      simp at a
      by_cases h : rb w 2 2 = true
      · simp [cstep, call_is_round_word, ks_isround, a, h]
      · have h' : rb w 2 2 = false := by simpa using h
        simp [cstep, call_is_round_word, ks_isround, a, h'])
    subst this
    rw [fm_if (fun w => rb w 2 2) intD]
    have ct' : ((List.filter (fun w => rb w 2 2) (wl 2 4)).length : Int) = 4 := by
      have : (List.filter (fun w => rb w 2 2) (wl 2 4)).length = 4 := ct
      omega
    have sm := same_true 36 1 (.int 4) (.fz (.int 4)) (.fz (.int 4)) (lgs (n := 4) (by omega)) (isS_fz _) (isS_fz _)
    have mo : mulOk 1 4 := mulOk_r (by omega) (by omega)
    simp [call_round_count, ks_rcount, rc, mo, ct', call_u_law_same, ks_same, sm]
    exact Rt.ok ⟨c1, rfl, rfl⟩
  · have f := F1 2 1 (by decide)
    have fw := (F1 2 2 (by decide)).lw37
    have fa := finA (l := 2) (n := 1) (c := 1) (by decide)
    have pw := fa.pw
    have rc := fa.rc
    have ct := fa.ct
    unfold pD at pw rc fw
    simp at pw rc fw
    simp [call_u_law_power, ks_power, pw, call_u_law_words, ks_lwords, fw]
    generalize hf : compL _ _ _ = x
    have := compM_use (enc := intD) (xs := wl 2 2) hf (fun w => if rb w 2 1 = true then some (intD w) else none) (by
      intro w hw
      have a := r_isround f w (by have := ((mem_wl (by omega)).mp hw).1; omega)
      simp at a
      by_cases h : rb w 2 1 = true
      · simp [cstep, call_is_round_word, ks_isround, a, h]
      · have h' : rb w 2 1 = false := by simpa using h
        simp [cstep, call_is_round_word, ks_isround, a, h'])
    subst this
    rw [fm_if (fun w => rb w 2 1) intD]
    have ct' : ((List.filter (fun w => rb w 2 1) (wl 2 2)).length : Int) = 2 := by
      have : (List.filter (fun w => rb w 2 1) (wl 2 2)).length = 2 := ct
      omega
    have sm := same_true 36 1 (.int 2) (.fz (.int 2)) (.fz (.int 2)) (lgs (n := 2) (by omega)) (isS_fz _) (isS_fz _)
    have mo : mulOk 1 2 := mulOk_r (by omega) (by omega)
    simp [call_round_count, ks_rcount, rc, mo, ct', call_u_law_same, ks_same, sm]
    exact Rt.ok ⟨c1, rfl, rfl⟩
  · have f := F1 3 1 (by decide)
    have fw := (F1 3 3 (by decide)).lw37
    have fa := finA (l := 3) (n := 1) (c := 2) (by decide)
    have pw := fa.pw
    have rc := fa.rc
    have ct := fa.ct
    unfold pD at pw rc fw
    simp at pw rc fw
    simp [call_u_law_power, ks_power, pw, call_u_law_words, ks_lwords, fw]
    generalize hf : compL _ _ _ = x
    have := compM_use (enc := intD) (xs := wl 3 3) hf (fun w => if rb w 3 1 = true then some (intD w) else none) (by
      intro w hw
      have a := r_isround f w (by have := ((mem_wl (by omega)).mp hw).1; omega)
      simp at a
      by_cases h : rb w 3 1 = true
      · simp [cstep, call_is_round_word, ks_isround, a, h]
      · have h' : rb w 3 1 = false := by simpa using h
        simp [cstep, call_is_round_word, ks_isround, a, h'])
    subst this
    rw [fm_if (fun w => rb w 3 1) intD]
    have ct' : ((List.filter (fun w => rb w 3 1) (wl 3 3)).length : Int) = 6 := by
      have : (List.filter (fun w => rb w 3 1) (wl 3 3)).length = 6 := ct
      omega
    have sm := same_true 36 1 (.int 6) (.fz (.int 6)) (.fz (.int 6)) (lgs (n := 6) (by omega)) (isS_fz _) (isS_fz _)
    have mo : mulOk 2 3 := mulOk_r (by omega) (by omega)
    simp [call_round_count, ks_rcount, rc, mo, ct', call_u_law_same, ks_same, sm]
    exact Rt.ok ⟨c1, rfl, rfl⟩
  · have f := F1 1 1 (by decide)
    have fw := (F1 1 1 (by decide)).lw37
    have fa := finA (l := 1) (n := 1) (c := 1) (by decide)
    have pw := fa.pw
    have rc := fa.rc
    have ct := fa.ct
    unfold pD at pw rc fw
    simp at pw rc fw
    simp [call_u_law_power, ks_power, pw, call_u_law_words, ks_lwords, fw]
    generalize hf : compL _ _ _ = x
    have := compM_use (enc := intD) (xs := wl 1 1) hf (fun w => if rb w 1 1 = true then some (intD w) else none) (by
      intro w hw
      have a := r_isround f w (by have := ((mem_wl (by omega)).mp hw).1; omega)
      simp at a
      by_cases h : rb w 1 1 = true
      · simp [cstep, call_is_round_word, ks_isround, a, h]
      · have h' : rb w 1 1 = false := by simpa using h
        simp [cstep, call_is_round_word, ks_isround, a, h'])
    subst this
    rw [fm_if (fun w => rb w 1 1) intD]
    have ct' : ((List.filter (fun w => rb w 1 1) (wl 1 1)).length : Int) = 1 := by
      have : (List.filter (fun w => rb w 1 1) (wl 1 1)).length = 1 := ct
      omega
    have sm := same_true 36 1 (.int 1) (.fz (.int 1)) (.fz (.int 1)) (lgs (n := 1) (by omega)) (isS_fz _) (isS_fz _)
    have mo : mulOk 1 1 := mulOk_r (by omega) (by omega)
    simp [call_round_count, ks_rcount, rc, mo, ct', call_u_law_same, ks_same, sm]
    exact Rt.ok ⟨c1, rfl, rfl⟩
  · have f := F1 1 3 (by decide)
    have fw := (F1 1 1 (by decide)).lw37
    have fa := finA (l := 1) (n := 3) (c := 1) (by decide)
    have pw := fa.pw
    have rc := fa.rc
    have ct := fa.ct
    unfold pD at pw rc fw
    simp at pw rc fw
    simp [call_u_law_power, ks_power, pw, call_u_law_words, ks_lwords, fw]
    generalize hf : compL _ _ _ = x
    have := compM_use (enc := intD) (xs := wl 1 1) hf (fun w => if rb w 1 3 = true then some (intD w) else none) (by
      intro w hw
      have a := r_isround f w (by have := ((mem_wl (by omega)).mp hw).1; omega)
      simp at a
      by_cases h : rb w 1 3 = true
      · simp [cstep, call_is_round_word, ks_isround, a, h]
      · have h' : rb w 1 3 = false := by simpa using h
        simp [cstep, call_is_round_word, ks_isround, a, h'])
    subst this
    rw [fm_if (fun w => rb w 1 3) intD]
    have ct' : ((List.filter (fun w => rb w 1 3) (wl 1 1)).length : Int) = 1 := by
      have : (List.filter (fun w => rb w 1 3) (wl 1 1)).length = 1 := ct
      omega
    have sm := same_true 36 1 (.int 1) (.fz (.int 1)) (.fz (.int 1)) (lgs (n := 1) (by omega)) (isS_fz _) (isS_fz _)
    have mo : mulOk 1 1 := mulOk_r (by omega) (by omega)
    simp [call_round_count, ks_rcount, rc, mo, ct', call_u_law_same, ks_same, sm]
    exact Rt.ok ⟨c1, rfl, rfl⟩
  · omega
end K80

set_option maxRecDepth 100000
/-! K80N: the least turn, places. -/
namespace K80
open Ev PySem L2
theorem minD_le (x : D) (xs : List D) : ∀ y ∈ x :: xs, PySem.W.dataLt y (PySem.W.minD x xs) = false := by
  induction xs generalizing x with
  | nil =>
    intro y hy
    rw [List.mem_singleton] at hy
    subst hy
    exact lt_refl _
  | cons z zs ih =>
    intro y hy
    have e : PySem.W.minD x (z :: zs) = PySem.W.minD (if PySem.W.dataLt z x = true then z else x) zs := rfl
    rw [e]
    have h := ih (if PySem.W.dataLt z x = true then z else x)
    by_cases hz : PySem.W.dataLt z x = true
    · rw [if_pos hz] at h ⊢
      rcases List.mem_cons.mp hy with rfl | hy
      · cases hc : PySem.W.dataLt y (PySem.W.minD z zs) with
        | false => rfl
        | true =>
          have := lt_trans' hz hc
          rw [h z (by simp)] at this
          cases this
      · exact h y hy
    · rw [if_neg hz] at h ⊢
      rcases List.mem_cons.mp hy with rfl | hy
      · exact h y (by simp)
      · rcases List.mem_cons.mp hy with rfl | hy
        · cases hc : PySem.W.dataLt y (PySem.W.minD x zs) with
          | false => rfl
          | true =>
            rcases lt_neg (y := x) hc with h1 | h1
            · exact absurd h1 hz
            · rw [h x (by simp)] at h1; cases h1
        · exact h y (by simp [hy])
theorem minD_perm {x y : D} {xs ys : List D} (p : (x :: xs).Perm (y :: ys)) (ha : ∀ a ∈ x :: xs, ∀ b ∈ x :: xs, PySem.W.alike a b = true) : PySem.W.minD x xs = PySem.W.minD y ys := by
  have m1 := minD_mem x xs
  have m2 := p.mem_iff.mpr (minD_mem y ys)
  exact lt_anti (ha _ m1 _ m2) (minD_le y ys _ (p.mem_iff.mp m1)) (minD_le x xs _ m2)
def rot (w : List Int) (a : Nat) : List Int := w.drop a ++ w.take a
theorem rot_part (w : List Int) {a : Nat} (ha : a < w.length) : rot w a = part w w.length a := by
  unfold rot part
  apply List.ext_getElem
  · simp; omega
  · intro j h1 h2
    have hj : j < w.length := by simpa using h2
    have := rot_getD w (t := a) (by omega) j hj
    rw [List.getD_eq_getElem?_getD, List.getElem?_eq_getElem h1] at this
    simp only [Option.getD_some] at this
    rw [this, List.getElem_map, List.getElem_range, Nat.add_comm]
theorem rots_parts (w : List Int) : (List.range w.length).map (rot w) = parts w w.length := by
  unfold parts
  apply List.map_congr_left
  intro a ha
  exact rot_part w (List.mem_range.mp ha)
/-- the least turn -/
def leastD (w : List Int) : D := PySem.W.minD (intD w) (((List.range (w.length - 1)).map fun a => rot w (a + 1)).map intD)
theorem rots_cons (w : List Int) (h : 0 < w.length) : (List.range w.length).map (rot w) = w :: (List.range (w.length - 1)).map fun a => rot w (a + 1) := by
  obtain ⟨m, hm⟩ : ∃ m, w.length = m + 1 := ⟨w.length - 1, by omega⟩
  rw [hm, List.range_succ_eq_map, List.map_cons, List.map_map]
  have : rot w 0 = w := by simp [rot]
  rw [this]
  rfl
theorem leastD_rot (w : List Int) {t : Nat} (h : 0 < w.length) (ht : t ≤ w.length) : leastD (w.drop t ++ w.take t) = leastD w := by
  have hl := rot_len w ht
  have p := (parts_rot w w.length ht).map intD
  have e1 : parts (w.drop t ++ w.take t) w.length = (List.range (w.drop t ++ w.take t).length).map (rot (w.drop t ++ w.take t)) := by rw [rots_parts, hl]
  rw [e1, ← rots_parts, rots_cons _ (by omega), rots_cons _ h, List.map_cons, List.map_cons] at p
  refine minD_perm p fun a ha b hb => ?_
  rw [← List.map_cons] at ha hb
  exact alikeB_iff.mp (alikeB_intD _) a ha b hb
theorem mmOk_intD (ws : List (List Int)) : mmOk (ws.map intD) = true := by
  unfold mmOk
  rw [alikeB_intD]
  simp only [Bool.true_and, Bool.and_eq_true, decide_eq_true_eq, List.all_eq_true]
  refine ⟨?_, fun d hd => ?_⟩
  · have := depthAll_of (xs := ws.map intD) (n := 1) fun x hx => by
      obtain ⟨w, _, rfl⟩ := List.mem_map.mp hx
      exact (shp_intD w).2
    omega
  · obtain ⟨w, _, rfl⟩ := List.mem_map.mp hd
    rfl
theorem ks_least : d_least_round.ks = [.B] := rfl
theorem ks_place : d_place_of.ks = [.B, .B] := rfl
theorem cut_rot (w : List Int) (a : Nat) : cutD (w.map .int) (some (a : Int)) none ++ cutD (w.map .int) none (some (a : Int)) = (rot w a).map .int := by
  rw [cutD_lo, cutD_hi, rot, List.map_append, List.map_drop, List.map_take]
theorem cut_rotl (w : List Int) (a : Nat) (h : w.length ≤ 100) : (cutD (w.map .int) (some (a : Int)) none).length + (cutD (w.map .int) none (some (a : Int))).length ≤ 16777216 := by
  rw [cutD_lo, cutD_hi]
  simp
  omega
theorem min_rots (w : List Int) (h : 0 < w.length) : dBlt .min [.list ((List.range w.length).map fun a => PyData.tuple ((rot w a).map .int))] = some (.fr (leastD w)) := by
  have e : ((List.range w.length).map fun a => PyData.tuple ((rot w a).map .int)) = ((List.range w.length).map (rot w)).map intD := by rw [List.map_map]; rfl
  rw [e, rots_cons w h]
  have mo := mmOk_intD (w :: (List.range (w.length - 1)).map fun a => rot w (a + 1))
  rw [List.map_cons] at mo
  have ha : allInts (intD w :: ((List.range (w.length - 1)).map fun a => rot w (a + 1)).map intD) = none := rfl
  rw [dBlt_min, List.map_cons, ha, mnR_none, gd_pos mo]
  rfl
theorem r_least {F : FT} (w : List Int) (h : 0 < w.length) (hw : w.length ≤ 100) : runD F d_least_round [.fz (.tuple (w.map .int))] = some (.fr (leastD w), []) := by
  simp only [runD_eq]
  have y2 : (w.length : Int) ≤ 16777216 := by omega
  have mr := min_rots w h
  simp [d_least_round, b_least_round, y2]
  generalize hf : compL _ _ _ = x
  have := compR_use hf (fun a => some (PyData.tuple ((rot w a).map .int))) (by
    intro a ha
    have := cut_rotl w a hw
    simp [cstep, -List.length_append, gd_pos this, cut_rot])
  subst this
  rw [fm_some (fun a => PyData.tuple ((rot w a).map .int)), show ((w.length : Int) - 0).toNat = w.length by omega]
  simp [-dBlt_min, mr]
end K80

set_option maxRecDepth 100000
/-! K80O: the place of a part. -/
namespace K80
open Ev PySem L2
theorem enumD_parts (w : List Int) (n : Nat) : enumD ((parts w n).map intD) = (List.range w.length).map fun i => PyData.tuple [natD i, intD (part w n i)] := by
  unfold enumD
  apply List.ext_getElem
  · simp [parts]
  · intro i h1 h2
    simp [parts, part, natD]
def pev (w p : List Int) (n k : Nat) : Bool := PyData.eqv (intD (part w n k)) (intD p)
def plD (w p : List Int) (n : Nat) : D := match (List.range w.length).filter (pev w p n) with
  | [] => .none
  | k :: _ => .int (k : Int)
theorem filter_find (q : Nat → Bool) {m i : Nat} (hi : i < m) (h1 : q i = true) (h2 : ∀ j, j < i → q j = false) : ∃ r, (List.range m).filter q = i :: r := by
  have e : List.range m = List.range i ++ i :: (List.range (m - i - 1)).map (fun j => i + 1 + j) := by
    apply List.ext_getElem
    · simp; omega
    · intro j g1 g2
      by_cases hj : j < i
      · rw [List.getElem_append_left (by simpa using hj)]; simp
      · rw [List.getElem_append_right (by simp; omega)]
        by_cases hj' : j = i
        · subst hj'; simp
        · obtain ⟨x, hx⟩ : ∃ x, j - i = x + 1 := ⟨j - i - 1, by omega⟩
          simp [hx]; omega
  rw [e, List.filter_append, List.filter_cons, if_pos h1]
  have : (List.range i).filter q = [] := by
    rw [List.filter_eq_nil_iff]
    intro j hj
    rw [h2 j (List.mem_range.mp hj)]; simp
  rw [this]
  exact ⟨_, rfl⟩
theorem filter_none (q : Nat → Bool) {m : Nat} (h2 : ∀ j, j < m → q j = false) : (List.range m).filter q = [] := by
  rw [List.filter_eq_nil_iff]
  intro j hj
  rw [h2 j (List.mem_range.mp hj)]; simp
theorem r_place (w p : List Int) (hw : w.length ≤ 100) (hp : p.length ≤ 100) : runD (callF T 37) d_place_of [.fz (.tuple (w.map .int)), .fz (.tuple (p.map .int))] = some (.fr (plD w p p.length), []) := by
  suffices h : Rt (runD (callF T 37) d_place_of [.fz (.tuple (w.map .int)), .fz (.tuple (p.map .int))]) (k := ⟨fun r o => r = .fr (plD w p p.length) ∧ o = []⟩) by
    obtain ⟨r, o, e, rfl, rfl⟩ := h
    exact e
  have e1 := r_parts (F := callF T 36) w p.length hw hp
  unfold intD at e1
  have e2 := enumD_parts w p.length
  unfold intD at e2
  simp only [runD_eq]
  simp [d_place_of, b_place_of, call_parts_round, ks_parts, e1, e2]
  generalize hf : forL _ _ _ = x
  rcases forM_any (enc := fun i : Nat => PyData.tuple [natD i, PyData.tuple ((part w p.length i).map .int)]) (xs := List.range w.length) hf (fun i ρ => ∃ (o2 o3 : Option D), (∀ j, j < i → pev w p p.length j = false) ∧ ρ = [_, _, qs o2, qs o3]) (fun _ => False)
    (fun r ρ => r = .fr (plD w p p.length) ∧ ∃ (o2 o3 : Option D), ρ = [.fz (.tuple (w.map .int)), .fz (.tuple (p.map .int)), qs o2, qs o3]) ⟨none, none, by intro j hj; omega, rfl⟩ (by
    rintro i a ρ ha ⟨o2, o3, h, rfl⟩
    have hi : i < w.length := by have := (List.getElem?_eq_some_iff.mp ha).1; simpa using this
    have ea : a = i := by
      rw [List.getElem?_range hi] at ha
      exact (Option.some.inj ha).symm
    subst ea
    have sh1 : SeqAt.shaped (.tuple ((part w p.length a).map .int)) = true := shaped_intsT _
    have sh2 : SeqAt.shaped (.tuple (p.map .int)) = true := shaped_intsT _
    have pe : PyData.eqv (.tuple ((part w p.length a).map .int)) (.tuple (p.map .int)) = pev w p p.length a := rfl
    simp [fstep, dCmp_eq, sh1, sh2, pe, natD]
    by_cases hq : pev w p p.length a = true
    · simp [hq]
      obtain ⟨r, hr⟩ := filter_find (pev w p p.length) hi hq h
      refine Tu.ret ⟨by unfold plD; rw [hr], some (.int (a : Int)), some (.tuple ((part w p.length a).map .int)), rfl⟩
    · have hq' : pev w p p.length a = false := by simpa using hq
      simp [hq']
      refine Tu.next ⟨some (.int (a : Int)), some (.tuple ((part w p.length a).map .int)), fun j hj => ?_, rfl⟩
      rcases Nat.lt_or_ge j a with z | z
      · exact h j z
      · have : j = a := by omega
        subst this; exact hq') with ⟨ρ', rfl, ⟨o2, o3, h, rfl⟩ | h⟩ | ⟨r, ρ', rfl, rfl, o2, o3, rfl⟩
  · simp
    refine Rt.ok ⟨?_, rfl⟩
    unfold plD
    rw [filter_none _ (by simpa using h)]
  · exact h.elim
  · simp
    exact Rt.ok ⟨rfl, rfl⟩
end K80

set_option maxRecDepth 100000
/-! K80Q: turns and places. -/
namespace K80
open Ev PySem L2
theorem ks_places : d_u_law_places.ks = [.M] := rfl
theorem cutI_m1 (xs : List Int) : (cutI xs none (some (-1))).length = xs.length - 1 := by
  unfold cutI
  rw [List.length_take, List.length_drop]
  simp [HT.sIx]
  omega
def Lo (w : List Int) : Prop := ∀ x ∈ w, 0 ≤ x ∧ x < 9
theorem good_intD (j : Nat) {w : List Int} (h : Lo w) (hl : w.length ≤ 100) : Good (j + 2) (intD w) := ⟨by simp; omega, fun d hd => by
  obtain ⟨x, hx, rfl⟩ := List.mem_map.mp hd
  have := h x hx
  obtain ⟨y, rfl⟩ : ∃ y : Nat, x = y := ⟨x.toNat, by omega⟩
  exact lgs (n := y) (by omega)⟩
theorem lo_part {w : List Int} (h : Lo w) (n a : Nat) (hw : 0 < w.length) : Lo (part w n a) := fun x hx => by
  obtain ⟨j, _, rfl⟩ := List.mem_map.mp hx
  have hm := Nat.mod_lt (a + j) hw
  apply h
  rw [List.getD_eq_getElem?_getD, List.getElem?_eq_getElem hm]
  exact List.getElem_mem hm
theorem least_good {w : List Int} (h : Lo w) (hl : w.length ≤ 100) (h0 : 0 < w.length) : Good 2 (leastD w) := by
  have hm := minD_mem (intD w) (((List.range (w.length - 1)).map fun a => rot w (a + 1)).map intD)
  rw [← List.map_cons, ← rots_cons w h0] at hm
  obtain ⟨v, hv, e⟩ := List.mem_map.mp hm
  obtain ⟨a, ha, rfl⟩ := List.mem_map.mp hv
  unfold leastD
  rw [← e]
  have ha' := List.mem_range.mp ha
  rw [rot_part w ha']
  exact good_intD 0 (lo_part h _ _ h0) (by simp [part]; omega)
theorem r_places (ds : List Int) (c : Nat) : ∃ c' : Nat, runD (callF T 38) d_u_law_places [.mu (bx ds c)] = some (.fr (.bool true), [bx ds c']) := by
  suffices h : Rt (runD (callF T 38) d_u_law_places [.mu (bx ds c)]) (k := ⟨fun r o => ∃ c' : Nat, r = .fr (.bool true) ∧ o = [bx ds c']⟩) by
    obtain ⟨r, o, e, c', rfl, rfl⟩ := h
    exact ⟨c', e⟩
  obtain ⟨v, c1, h1, e1⟩ := r_drawI (F := callF T 37) ds c 8 (by omega)
  have y1 : (1 : Int) + v ≤ 16777216 := by omega
  have y0 : (-4611686018427387904 : Int) ≤ 1 + (v : Int) := by omega
  simp only [runD_eq]
  simp [d_u_law_places, b_u_law_places, call_u_law_draw, ks_draw, e1, bx, y1, y0]
  generalize hf : compL _ _ _ = x
  obtain ⟨r, ρ', rfl, w, c2, rfl, hwl, hlo, rfl⟩ := compL_st hf (fun i r ρ => ∃ (w : List Int) (c2 : Nat), r = w.map .int ∧ w.length = i ∧ Lo w ∧ ρ = [.mu (bx ds c2), .un, .un, .un, .un, .un, .un, .un, .un, .un, .un]) ⟨[], c1, rfl, rfl, (fun x h => by cases h), rfl⟩ (by
    rintro i d r ρ hd ⟨w, c2, rfl, hwl, hlo, rfl⟩
    obtain ⟨hi, rfl⟩ := rng_get hd
    obtain ⟨z, c3, h3, e3⟩ := r_drawI (F := callF T 37) ds c2 9 (by omega)
    refine ⟨some (.int (z : Int)), [.mu (bx ds c3), .un, .un, .un, .un, .un, .un, .un, .un, .un, .un], ?_, w ++ [(z : Int)], c3, by simp, by simp [hwl], fun x hx => ?_, rfl⟩
    · simp [cstep, call_u_law_draw, ks_draw, e3, bx]
    · rcases List.mem_append.mp hx with h | h
      · exact hlo x h
      · rw [List.mem_singleton] at h; subst h; omega)
  have hwl' : w.length = 1 + v := by
    rw [hwl]
    have : (rngD 0 (1 + (v : Int))).length = 1 + v := by simp [rngD]; omega
    exact this
  obtain ⟨q, c3, hq, e3⟩ := r_drawI (F := callF T 37) ds c2 2 (by omega)
  simp [call_u_law_draw, ks_draw, e3, bx]
  have hw0 : 0 < w.length := by omega
  have hw8 : w.length ≤ 8 := by omega
  clear hwl hwl' h1 e1 y1 y0 hf
  cases hb : decide (q = 0)
  all_goals
    first
      | (simp only [brB_true]
         simp
         generalize hf : compL _ _ _ = x
         have := compM_use (enc := PyData.int) (xs := w) hf (fun x => some (.int (x.fmod 2))) (by
           intro x hx
           simp [cstep])
         subst this
         have e9 : List.filterMap (fun x : Int => some (PyData.int (x.fmod 2))) w = (w.map fun x => x.fmod 2).map .int := by
           rw [fm_some (fun x : Int => PyData.int (x.fmod 2)), List.map_map]; rfl
         rw [e9]
         have hlo2 : Lo (w.map fun x => x.fmod 2) := fun x hx => by
           obtain ⟨y, hy, rfl⟩ := List.mem_map.mp hx
           have := hlo y hy
           have h1 := Int.fmod_nonneg_of_pos y (show (0 : Int) < 2 by omega)
           have h2 := Int.fmod_lt_of_pos y (show (0 : Int) < 2 by omega)
           omega
         have l9 : (w.map fun x => x.fmod 2).length = w.length := by simp
         rw [← l9] at hw0 hw8
         clear hlo l9 e9 hf
         generalize (w.map fun x => x.fmod 2) = w at *
         simp)
      | (simp only [brB_false]
         have hlo2 := hlo
         clear hlo
         simp)
    obtain ⟨v, c4, h4, e4⟩ := r_drawI (F := callF T 37) ds c3 12 (by omega)
    obtain ⟨t, c5, ht, e5⟩ := r_drawI (F := callF T 37) ds c4 (w.length : Int) (by omega)
    have ht' : t < w.length := by omega
    have hn1 : (1 : Int) + v = ((1 + v : Nat) : Int) := by omega
    have lp := r_lparts (F := callF T 37) w (1 + v) (by omega) (by omega)
    have rp := r_parts (F := callF T 37) w (1 + v) (by omega) (by omega)
    rw [← hn1] at lp rp
    have gp : Good 3 (.list ((parts w (1 + v)).map intD)) := ⟨by simp [parts]; omega, fun d hd => by
      obtain ⟨u, hu, rfl⟩ := List.mem_map.mp hd
      obtain ⟨a, _, rfl⟩ := List.mem_map.mp hu
      exact good_intD 0 (lo_part hlo2 _ _ hw0) (by simp; omega)⟩
    have s1 := same_true 34 3 _ (.fz (.list ((parts w (1 + v)).map intD))) (.bor ((parts w (1 + v)).map intD)) gp (isS_fz _) (isS_bor _)
    have ls := r_least (F := callF T 37) w hw0 (by omega)
    have ls2 := r_least (F := callF T 37) (rot w t) (by rw [rot, rot_len w (by omega)]; exact hw0) (by rw [rot, rot_len w (by omega)]; omega)
    have el : leastD (rot w t) = leastD w := leastD_rot w hw0 (by omega)
    rw [el] at ls2
    have s2 := same_true 35 2 (leastD w) (.fz (leastD w)) (.fz (leastD w)) (least_good hlo2 (by omega) hw0) (isS_fz _) (isS_fz _)
    have hlt := cut_rotl w t (by omega)
    unfold intD at lp rp s1
    have y2 : (w.length : Int) ≤ 16777216 := by omega
    have mr := min_rots w hw0
    simp [call_u_law_draw, ks_draw, e4, call_u_law_parts, ks_lparts, lp, call_parts_round, ks_parts, rp, call_u_law_same, ks_same, s1, e5, -List.length_append, gd_pos hlt, cut_rot, y2]
    generalize hf : compL _ _ _ = x
    have := compR_use hf (fun a => some (PyData.tuple ((rot w a).map .int))) (by
      intro a ha
      have := cut_rotl w a (by omega)
      simp [cstep, -List.length_append, gd_pos this, cut_rot])
    subst this
    rw [fm_some (fun a => PyData.tuple ((rot w a).map .int)), show ((w.length : Int) - 0).toNat = w.length by omega]
    have hpt : ∀ a, a < w.length → (parts w (1 + v))[a]? = some (part w (1 + v) a) := fun a ha => by
      simp [parts, ha, part]
    obtain ⟨r0, c6, h6, e6⟩ := r_drawI (F := callF T 37) ds c5 3 (by omega)
    obtain ⟨z, c7, h7, e7⟩ := r_drawI (F := callF T 37) ds c6 9 (by omega)
    have pl0 : (part w (1 + v) t).length = 1 + v := by simp [part]
    simp [-dBlt_min, mr, call_least_round, ks_least, ls, ls2, call_u_law_same, ks_same, s2, hpt t ht', call_u_law_draw, ks_draw, e6]
    cases hb2 : decide (r0 = 0)
    all_goals
      first
        | (simp only [brB_true]
           have hc : cutD ((part w (1 + v) t).map .int) none (some (-1)) = (cutI (part w (1 + v) t) none (some (-1))).map .int := cutD_ints _ _ _
           have hcl := cutI_m1 (part w (1 + v) t)
           have hcl2 : (cutI (part w (1 + v) t) none (some (-1))).length + 1 ≤ 16777216 := by omega
           simp [hc, call_u_law_draw, ks_draw, e7, hcl2]
           have pl : (cutI (part w (1 + v) t) none (some (-1)) ++ [(z : Int)]).length = 1 + v := by
             rw [List.length_append, hcl, pl0]; simp; omega
           have ep : (cutI (part w (1 + v) t) none (some (-1))).map PyData.int ++ [PyData.int (z : Int)] = (cutI (part w (1 + v) t) none (some (-1)) ++ [(z : Int)]).map .int := by simp
           rw [ep]
           generalize (cutI (part w (1 + v) t) none (some (-1)) ++ [(z : Int)]) = p at *
           have hc7 := Nat.le_refl c7
           generalize c7 = cc at hc7 ⊢)
        | (simp only [brB_false]
           have pl := pl0
           generalize part w (1 + v) t = p at *
           simp
           have hc7 := Nat.le_refl c6
           generalize c6 = cc at hc7 ⊢)
      simp [y2]
      generalize hf : compL _ _ _ = x
      have := compR_use hf (fun a => if pev w p (1 + v) a = true then some (natD a) else none) (by
        intro a ha
        have ha' : a < w.length := by omega
        have sh1 : SeqAt.shaped (.tuple ((part w (1 + v) a).map .int)) = true := shaped_intsT _
        have sh2 : SeqAt.shaped (.tuple (p.map .int)) = true := shaped_intsT _
        have pe : PyData.eqv (.tuple ((part w (1 + v) a).map .int)) (.tuple (p.map .int)) = pev w p (1 + v) a := rfl
        by_cases hq : pev w p (1 + v) a = true
        · simp [cstep, hpt a ha', dCmp_eq, sh1, sh2, pe, hq, natD]
        · have hq' : pev w p (1 + v) a = false := by simpa using hq
          simp [cstep, hpt a ha', dCmp_eq, sh1, sh2, pe, hq', natD])
      subst this
      rw [fm_if (pev w p (1 + v)) natD, show ((w.length : Int) - 0).toNat = w.length by omega]
      have pc := r_place w p (by omega) (by omega)
      rw [pl] at pc
      unfold plD at pc
      generalize hfl : (List.range w.length).filter (pev w p (1 + v)) = fl at *
      have sh3 : SeqAt.shaped (.list (fl.map natD)) = true := shaped_nats _
      cases fl with
      | nil =>
        have sn := same_true 36 1 .none (.fz .none) (.fz .none) trivial (isS_fz _) (isS_fz _)
        simp [call_place_of, ks_place, pc, dCmp_ne, call_u_law_same, ks_same, sn, PyData.eqv, PyData.eqvAll]
        exact Rt.ok ⟨cc, rfl, rfl⟩
      | cons k fr =>
        have hk : k < w.length := by
          have : k ∈ (List.range w.length).filter (pev w p (1 + v)) := by rw [hfl]; simp
          exact List.mem_range.mp (List.mem_filter.mp this).1
        have sn := same_true 36 1 (.int (k : Int)) (.fz (.int (k : Int))) (.fz (.int (k : Int))) (lgs (n := k) (by omega)) (isS_fz _) (isS_fz _)
        rw [List.map_cons] at sh3
        have sh3 : SeqAt.shaped (.list (PyData.int (k : Int) :: fr.map natD)) = true := sh3
        simp [call_place_of, ks_place, pc, dCmp_ne, sh3, call_u_law_same, ks_same, sn, PyData.eqv, PyData.eqvAll]
        exact Rt.ok ⟨cc, rfl, rfl⟩
end K80

set_option maxRecDepth 100000
/-! K80S: the law. -/
namespace K80
open Ev PySem L2
theorem ks_net : d_word_net.ks = [.I, .I] := rfl
theorem ks_rword : d_round_word.ks = [.I, .I] := rfl
theorem ks_great : d_u_law_greatest.ks = [.I, .B] := rfl
theorem ks_count : d_u_law_count.ks = [.B, .I] := rfl
theorem prs_le (l n : Nat) (h : (l, n) ∈ prs) (hn : 1 < n) : (l, n - 1) ∈ prs := by
  have : (prs.all fun p => decide (p.2 ≤ 1) || prs.contains (p.1, p.2 - 1)) = true := by decide +kernel
  have := List.all_eq_true.mp this _ h
  simp at this
  rcases this with h | h
  · omega
  · exact h
theorem r_law0 (FF : ∀ l n, (l, n) ∈ prs → Fin l n) (ns : List Int) : runD (callF T 39) d_law [.ro (ns.map .int)] = some (.fr (.bool true), []) := by
  obtain ⟨ds, e0⟩ := r_digits 37 ns 20 (by omega)
  rw [show ((20 : Nat) : Int) = 20 from rfl] at e0
  obtain ⟨r, c1, h1, e1⟩ := r_drawI (F := callF T 38) ds 0 10 (by omega)
  simp only [Int.natCast_zero] at e1
  have hr : r < 10 := by omega
  obtain ⟨q, c2, h2, e2⟩ := r_drawI (F := callF T 38) ds c1 5 (by omega)
  simp only [runD_eq]
  simp [d_law, b_law, call_u_law_digits, ks_digits, e0, call_u_law_draw, ks_draw, e1]
  have hd : ∃ l n : Nat, (l, n) ∈ prs ∧ ([PyData.tuple [.int 2, .int 4], .tuple [.int 2, .int 3], .tuple [.int 3, .int 2], .tuple [.int 3, .int 3], .tuple [.int 4, .int 2], .tuple [.int 5, .int 2], .tuple [.int 2, .int 2], .tuple [.int 3, .int 1], .tuple [.int 2, .int 1], .tuple [.int 1, .int 4]] : List D)[r]? = some (.tuple [.int (l : Int), .int (n : Int)]) := by
    rcases r with _ | _ | _ | _ | _ | _ | _ | _ | _ | _ | r
    · exact ⟨2, 4, by decide, rfl⟩
    · exact ⟨2, 3, by decide, rfl⟩
    · exact ⟨3, 2, by decide, rfl⟩
    · exact ⟨3, 3, by decide, rfl⟩
    · exact ⟨4, 2, by decide, rfl⟩
    · exact ⟨5, 2, by decide, rfl⟩
    · exact ⟨2, 2, by decide, rfl⟩
    · exact ⟨3, 1, by decide, rfl⟩
    · exact ⟨2, 1, by decide, rfl⟩
    · exact ⟨1, 4, by decide, rfl⟩
    · omega
  obtain ⟨l, n, hp, hd⟩ := hd
  simp [hd, call_u_law_draw, ks_draw, e2]
  cases hb : decide (q = 0)
  all_goals
    first
      | (simp only [brB_true]
         obtain ⟨a, c3, ha, e3⟩ := r_drawI (F := callF T 38) ds c2 27 (by omega)
         obtain ⟨b, c4, hb2, e4⟩ := r_drawI (F := callF T 38) ds c3 5 (by omega)
         obtain ⟨u, c5, hu, e5⟩ := r_drawI (F := callF T 38) ds c4 2 (by omega)
         simp [call_u_law_draw, ks_draw, e3, e4, e5]
         have hdq : ∃ lq nq : Nat, (lq, nq) ∈ prs ∧ ([PyData.tuple [.int (1 + (a : Int)), .int 1], .tuple [.int 1, .int (1 + (b : Int))]] : List D)[u]? = some (.tuple [.int (lq : Int), .int (nq : Int)]) := by
           rcases u with _ | _ | u
           · refine ⟨a + 1, 1, ?_, by simp; omega⟩
             unfold prs
             refine List.mem_append_left _ (List.mem_append_right _ (List.mem_map.mpr ⟨a, List.mem_range.mpr (by omega), rfl⟩))
           · refine ⟨1, b + 1, ?_, by simp; omega⟩
             unfold prs
             refine List.mem_append_right _ (List.mem_map.mpr ⟨b, List.mem_range.mpr (by omega), rfl⟩)
           · omega
         obtain ⟨lq, nq, hq, hdq⟩ := hdq
         simp [hdq]
         have hcc := Nat.le_refl c5
         generalize c5 = cq at hcc ⊢)
      | (simp only [brB_false]
         have hq := hp
         generalize l = lq at *
         generalize n = nq at *
         simp
         have hcc := Nat.le_refl c2
         generalize c2 = cq at hcc ⊢)
    have f := FF lq nq hq
    obtain ⟨s1, s2, s3, s4⟩ := f.sm
    have e38 := f.w38
    have el38 := f.lw38
    have epw := f.pow
    have enet := f.net
    obtain ⟨g, g1, g2, g3, g4, g5⟩ := f.g
    obtain ⟨ct, c1', c2', c3'⟩ := f.c
    unfold pD at e38 el38 enet g1 g2 c1' c2'
    have hpow : 0 < lq ^ nq := Nat.pow_pos (by omega)
    have hll : lq ≤ 27 := by
      have : lq ^ 1 ≤ lq ^ nq := Nat.pow_le_pow_right s3 s2
      rw [Nat.pow_one] at this
      omega
    have hpw1 : lq ^ (nq - 1) ≤ 27 := Nat.le_trans (Nat.pow_le_pow_right s3 (by omega)) s1
    have hpw0 : 0 < lq ^ (nq - 1) := Nat.pow_pos (by omega)
    have gw : Good 3 (.list (wD lq nq)) := ⟨by rw [wD_len]; omega, fun d hd => by
      obtain ⟨w, hw, rfl⟩ := List.mem_map.mp hd
      obtain ⟨h1, h2⟩ := (mem_wl s3).mp hw
      refine ⟨by simp; omega, fun x hx => ?_⟩
      obtain ⟨y, hy, rfl⟩ := List.mem_map.mp hx
      have := h2 y hy
      obtain ⟨z, rfl⟩ : ∃ z : Nat, y = z := ⟨y.toNat, by omega⟩
      exact lgs (n := z) (by omega)⟩
    have sm1 := same_true 35 3 _ (.bor (wD lq nq)) (.bor (wD lq nq)) gw (isS_bor _) (isS_bor _)
    have sm2 := same_true 35 3 _ (.fz (.list (wD lq nq))) (.bor (wD lq nq)) gw (isS_fz _) (isS_bor _)
    obtain ⟨d0, hd0⟩ : ∃ d0, (wD lq nq)[0]? = some d0 := ⟨_, List.getElem?_eq_getElem (by rw [wD_len]; exact hpow)⟩
    have y1 : lq ^ nq < 16777216 := by omega
    have y2 : ((lq ^ nq : Nat) : Int) ≤ 16777216 := by omega
    have gn : Good 4 (netD lq nq) := ⟨by simp, fun d hd => by
      simp at hd
      rcases hd with rfl | rfl
      · exact lgs (n := lq ^ (nq - 1)) (by omega)
      · refine ⟨by simp; omega, fun d hd => ?_⟩
        obtain ⟨k, hk, rfl⟩ := List.mem_map.mp hd
        have hk' := List.mem_range.mp hk
        refine ⟨by simp, fun d hd => ?_⟩
        simp at hd
        rcases hd with rfl | rfl
        · exact lgs (n := k / lq) (by have := Nat.div_le_self k lq; omega)
        · exact lgs (n := k % lq ^ (nq - 1)) (by have := Nat.mod_le k (lq ^ (nq - 1)); omega)⟩
    have sm3 := same_true 34 4 _ (.fz (netD lq nq)) (.fz (netD lq nq)) gn (isS_fz _) (isS_fz _)
    have gg : Good 2 (intD g) := ⟨by simp; omega, fun d hd => by
      obtain ⟨y, hy, rfl⟩ := List.mem_map.mp hd
      have := g4 y hy
      obtain ⟨z, rfl⟩ : ∃ z : Nat, y = z := ⟨y.toNat, by omega⟩
      exact lgs (n := z) (by omega)⟩
    have sm4 := same_true 36 2 _ (.fz (intD g)) (.fz (intD g)) gg (isS_fz _) (isS_fz _)
    have sm5 := same_true 37 1 (.int ct) (.fz (.int ct)) (.fz (.int ct)) c3' (isS_fz _) (isS_fz _)
    have hR : Rw lq nq g := ⟨g3, g4, g5⟩
    obtain ⟨c6, ej⟩ := r_judge f (fun h => FF _ _ (prs_le _ _ hq h)) g hR ds cq
    obtain ⟨c7, ea⟩ := r_all FF ds c6
    obtain ⟨c8, epl⟩ := r_places ds c7
    rw [show bx ds cq = [.list (ds.map .int), .int (cq : Int)] from rfl] at ej
    generalize hpp : ((lq ^ (nq - 1) : Nat) : Int) = hs at epw
    simp [call_u_law_words, ks_lwords, el38, call_u_law_power, ks_power, epw, call_words_of, ks_words, e38, call_u_law_same, ks_same, sm1, hd0, wD_len, y1, sm2, y2]
    have hcast : ((lq ^ nq : Nat) : Int) = (lq : Int) ^ nq := by simp
    have y3 : -4611686018427387904 ≤ (lq : Int) ^ nq := by omega
    have y4 : (lq : Int) ^ nq ≤ 16777216 := by omega
    simp [y3, y4]
    generalize hf : compL _ _ _ = x
    have := compR_use hf (fun k => some (.tuple [.int ((k / lq : Nat) : Int), .int ((k % lq ^ (nq - 1) : Nat) : Int)])) (by
      intro k hk
      have hk' : k < lq ^ nq := by omega
      have f1 : (k : Int).fdiv (lq : Int) = ((k / lq : Nat) : Int) := by rw [Int.fdiv_eq_ediv_of_nonneg _ (by omega)]; simp
      have f2 : (k : Int).fmod hs = ((k % lq ^ (nq - 1) : Nat) : Int) := by rw [← hpp]; exact fmod_nat k _
      have h0 : ¬ (lq : Int) = 0 := by omega
      have h0' : ¬ lq = 0 := by omega
      have h1 : ¬ hs = 0 := by omega
      have hlg : lq.log2 < 9000 := lg (by omega)
      generalize ha : ((k / lq : Nat) : Int) = va at *
      generalize hb : ((k % lq ^ (nq - 1) : Nat) : Int) = vb at *
      simp [cstep, f1, f2, h0, h0', h1, hlg])
    subst this
    rw [fm_some (fun k => PyData.tuple [.int ((k / lq : Nat) : Int), .int ((k % lq ^ (nq - 1) : Nat) : Int)]), show ((lq : Int) ^ nq - 0).toNat = lq ^ nq by omega]
    have enD : PyData.tuple [.int hs, .tuple ((List.range (lq ^ nq)).map fun k => PyData.tuple [.int ((k / lq : Nat) : Int), .int ((k % lq ^ (nq - 1) : Nat) : Int)])] = netD lq nq := by rw [← hpp]; rfl
    generalize ((List.range (lq ^ nq)).map fun k => PyData.tuple [.int ((k / lq : Nat) : Int), .int ((k % lq ^ (nq - 1) : Nat) : Int)]) = ar at *
    unfold intD at g1 g2 sm4
    simp [call_word_net, ks_net, enet, enD, call_u_law_same, ks_same, sm3, call_u_law_greatest, ks_great, g1]
    simp [call_u_law_judge, ks_judge, ej, call_round_word, ks_rword, g2, sm4, call_u_law_same, ks_same, call_round_count, ks_rcount, c2', call_u_law_count, ks_count, c1', sm5, call_u_law_all, ks_all, ea, call_u_law_places, ks_places, epl]
end K80

set_option maxRecDepth 100000
namespace K80
open Ev PySem L2
theorem r_law (_k : Nat) (ns : List Int) : runD (callF T 39) d_law [.ro (ns.map .int)] = some (.fr (.bool true), []) := r_law0 fin ns
end K80

set_option maxRecDepth 100000
set_option maxHeartbeats 0
/-! the head of lendland_k80_whole_round_words, printed by pyir.py -/
namespace K80
open PySem PySem.Spec PyProof.Rows L2 Ev
def top (i : Nat) : Stmt := PySem.Challenge.pw_lendland_k80_whole_round_words.main.body.getD i (.Pass ⟨0, 0, 0, 0⟩)
theorem chk_determinant [TheK] : chkSs (namesOf d_determinant.N) ⟨defScope (top 1), fun _ => true, false⟩ d_determinant.body (defBody (top 1)) = true := by decide +kernel
theorem sc_determinant : FnScope (namesOf d_determinant.N) (namesOf ["table"]) (defScope (top 1)) := ⟨rfl, rfl, rfl, by decide +kernel, rfl, by decide +kernel, by decide +kernel⟩
theorem chk_arrows_out [TheK] : chkSs (namesOf d_arrows_out.N) ⟨defScope (top 3), fun _ => true, false⟩ d_arrows_out.body (defBody (top 3)) = true := by decide +kernel
theorem sc_arrows_out : FnScope (namesOf d_arrows_out.N) (namesOf ["net", "house"]) (defScope (top 3)) := ⟨rfl, rfl, rfl, by decide +kernel, rfl, by decide +kernel, by decide +kernel⟩
theorem chk_arrows_in [TheK] : chkSs (namesOf d_arrows_in.N) ⟨defScope (top 4), fun _ => true, false⟩ d_arrows_in.body (defBody (top 4)) = true := by decide +kernel
theorem sc_arrows_in : FnScope (namesOf d_arrows_in.N) (namesOf ["net", "house"]) (defScope (top 4)) := ⟨rfl, rfl, rfl, by decide +kernel, rfl, by decide +kernel, by decide +kernel⟩
theorem chk_net_reach [TheK] : chkSs (namesOf d_net_reach.N) ⟨defScope (top 5), fun _ => true, false⟩ d_net_reach.body (defBody (top 5)) = true := by decide +kernel
theorem sc_net_reach : FnScope (namesOf d_net_reach.N) (namesOf ["net", "start", "ahead"]) (defScope (top 5)) := ⟨rfl, rfl, rfl, by decide +kernel, rfl, by decide +kernel, by decide +kernel⟩
theorem chk_is_balanced [TheK] : chkSs (namesOf d_is_balanced.N) ⟨defScope (top 6), fun _ => true, false⟩ d_is_balanced.body (defBody (top 6)) = true := by decide +kernel
theorem sc_is_balanced : FnScope (namesOf d_is_balanced.N) (namesOf ["net"]) (defScope (top 6)) := ⟨rfl, rfl, rfl, by decide +kernel, rfl, by decide +kernel, by decide +kernel⟩
theorem chk_net_matrix [TheK] : chkSs (namesOf d_net_matrix.N) ⟨defScope (top 7), fun _ => true, false⟩ d_net_matrix.body (defBody (top 7)) = true := by decide +kernel
theorem sc_net_matrix : FnScope (namesOf d_net_matrix.N) (namesOf ["net"]) (defScope (top 7)) := ⟨rfl, rfl, rfl, by decide +kernel, rfl, by decide +kernel, by decide +kernel⟩
theorem chk_trees_into [TheK] : chkSs (namesOf d_trees_into.N) ⟨defScope (top 8), fun _ => true, false⟩ d_trees_into.body (defBody (top 8)) = true := by decide +kernel
theorem sc_trees_into : FnScope (namesOf d_trees_into.N) (namesOf ["net", "goal"]) (defScope (top 8)) := ⟨rfl, rfl, rfl, by decide +kernel, rfl, by decide +kernel, by decide +kernel⟩
theorem chk_factorial_of [TheK] : chkSs (namesOf d_factorial_of.N) ⟨defScope (top 9), fun _ => true, false⟩ d_factorial_of.body (defBody (top 9)) = true := by decide +kernel
theorem sc_factorial_of : FnScope (namesOf d_factorial_of.N) (namesOf ["many"]) (defScope (top 9)) := ⟨rfl, rfl, rfl, by decide +kernel, rfl, by decide +kernel, by decide +kernel⟩
theorem chk_tour_count [TheK] : chkSs (namesOf d_tour_count.N) ⟨defScope (top 10), fun _ => true, false⟩ d_tour_count.body (defBody (top 10)) = true := by decide +kernel
theorem sc_tour_count : FnScope (namesOf d_tour_count.N) (namesOf ["net"]) (defScope (top 10)) := ⟨rfl, rfl, rfl, by decide +kernel, rfl, by decide +kernel, by decide +kernel⟩
theorem chk_towards [TheK] : chkSs (namesOf d_towards.N) ⟨defScope (top 11), fun _ => true, false⟩ d_towards.body (defBody (top 11)) = true := by decide +kernel
theorem sc_towards : FnScope (namesOf d_towards.N) (namesOf ["net", "goal"]) (defScope (top 11)) := ⟨rfl, rfl, rfl, by decide +kernel, rfl, by decide +kernel, by decide +kernel⟩
theorem chk_tour [TheK] : chkSs (namesOf d_tour.N) ⟨defScope (top 12), fun _ => true, false⟩ d_tour.body (defBody (top 12)) = true := by decide +kernel
theorem sc_tour : FnScope (namesOf d_tour.N) (namesOf ["net"]) (defScope (top 12)) := ⟨rfl, rfl, rfl, by decide +kernel, rfl, by decide +kernel, by decide +kernel⟩
theorem chk_words_of [TheK] : chkSs (namesOf d_words_of.N) ⟨defScope (top 14), fun _ => true, false⟩ d_words_of.body (defBody (top 14)) = true := by decide +kernel
theorem sc_words_of : FnScope (namesOf d_words_of.N) (namesOf ["letters", "length"]) (defScope (top 14)) := ⟨rfl, rfl, rfl, by decide +kernel, rfl, by decide +kernel, by decide +kernel⟩
theorem chk_word_net [TheK] : chkSs (namesOf d_word_net.N) ⟨defScope (top 15), fun _ => true, false⟩ d_word_net.body (defBody (top 15)) = true := by decide +kernel
theorem sc_word_net : FnScope (namesOf d_word_net.N) (namesOf ["letters", "length"]) (defScope (top 15)) := ⟨rfl, rfl, rfl, by decide +kernel, rfl, by decide +kernel, by decide +kernel⟩
theorem chk_round_word [TheK] : chkSs (namesOf d_round_word.N) ⟨defScope (top 16), fun _ => true, false⟩ d_round_word.body (defBody (top 16)) = true := by decide +kernel
theorem sc_round_word : FnScope (namesOf d_round_word.N) (namesOf ["letters", "length"]) (defScope (top 16)) := ⟨rfl, rfl, rfl, by decide +kernel, rfl, by decide +kernel, by decide +kernel⟩
theorem chk_parts_round [TheK] : chkSs (namesOf d_parts_round.N) ⟨defScope (top 17), fun _ => true, false⟩ d_parts_round.body (defBody (top 17)) = true := by decide +kernel
theorem sc_parts_round : FnScope (namesOf d_parts_round.N) (namesOf ["word", "length"]) (defScope (top 17)) := ⟨rfl, rfl, rfl, by decide +kernel, rfl, by decide +kernel, by decide +kernel⟩
theorem chk_is_round_word [TheK] : chkSs (namesOf d_is_round_word.N) ⟨defScope (top 18), fun _ => true, false⟩ d_is_round_word.body (defBody (top 18)) = true := by decide +kernel
theorem sc_is_round_word : FnScope (namesOf d_is_round_word.N) (namesOf ["word", "letters", "length"]) (defScope (top 18)) := ⟨rfl, rfl, rfl, by decide +kernel, rfl, by decide +kernel, by decide +kernel⟩
theorem chk_round_count [TheK] : chkSs (namesOf d_round_count.N) ⟨defScope (top 19), fun _ => true, false⟩ d_round_count.body (defBody (top 19)) = true := by decide +kernel
theorem sc_round_count : FnScope (namesOf d_round_count.N) (namesOf ["letters", "length"]) (defScope (top 19)) := ⟨rfl, rfl, rfl, by decide +kernel, rfl, by decide +kernel, by decide +kernel⟩
theorem chk_least_round [TheK] : chkSs (namesOf d_least_round.N) ⟨defScope (top 20), fun _ => true, false⟩ d_least_round.body (defBody (top 20)) = true := by decide +kernel
theorem sc_least_round : FnScope (namesOf d_least_round.N) (namesOf ["word"]) (defScope (top 20)) := ⟨rfl, rfl, rfl, by decide +kernel, rfl, by decide +kernel, by decide +kernel⟩
theorem chk_place_of [TheK] : chkSs (namesOf d_place_of.N) ⟨defScope (top 21), fun _ => true, false⟩ d_place_of.body (defBody (top 21)) = true := by decide +kernel
theorem sc_place_of : FnScope (namesOf d_place_of.N) (namesOf ["word", "part"]) (defScope (top 21)) := ⟨rfl, rfl, rfl, by decide +kernel, rfl, by decide +kernel, by decide +kernel⟩
theorem chk_u_law_cell [TheK] : chkSs (namesOf d_u_law_cell.N) ⟨defScope (top 23), fun _ => true, false⟩ d_u_law_cell.body (defBody (top 23)) = true := by decide +kernel
theorem sc_u_law_cell : FnScope (namesOf d_u_law_cell.N) (namesOf ["script", "k"]) (defScope (top 23)) := ⟨rfl, rfl, rfl, by decide +kernel, rfl, by decide +kernel, by decide +kernel⟩
theorem chk_u_law_digits [TheK] : chkSs (namesOf d_u_law_digits.N) ⟨defScope (top 24), fun _ => true, false⟩ d_u_law_digits.body (defBody (top 24)) = true := by decide +kernel
theorem sc_u_law_digits : FnScope (namesOf d_u_law_digits.N) (namesOf ["script", "last"]) (defScope (top 24)) := ⟨rfl, rfl, rfl, by decide +kernel, rfl, by decide +kernel, by decide +kernel⟩
theorem chk_u_law_draw [TheK] : chkSs (namesOf d_u_law_draw.N) ⟨defScope (top 25), fun _ => true, false⟩ d_u_law_draw.body (defBody (top 25)) = true := by decide +kernel
theorem sc_u_law_draw : FnScope (namesOf d_u_law_draw.N) (namesOf ["box", "many"]) (defScope (top 25)) := ⟨rfl, rfl, rfl, by decide +kernel, rfl, by decide +kernel, by decide +kernel⟩
theorem chk_u_law_mixed [TheK] : chkSs (namesOf d_u_law_mixed.N) ⟨defScope (top 26), fun _ => true, false⟩ d_u_law_mixed.body (defBody (top 26)) = true := by decide +kernel
theorem sc_u_law_mixed : FnScope (namesOf d_u_law_mixed.N) (namesOf ["box", "row"]) (defScope (top 26)) := ⟨rfl, rfl, rfl, by decide +kernel, rfl, by decide +kernel, by decide +kernel⟩
theorem chk_u_law_same [TheK] : chkSs (namesOf d_u_law_same.N) ⟨defScope (top 27), fun _ => true, false⟩ d_u_law_same.body (defBody (top 27)) = true := by decide +kernel
theorem sc_u_law_same : FnScope (namesOf d_u_law_same.N) (namesOf ["told", "due"]) (defScope (top 27)) := ⟨rfl, rfl, rfl, by decide +kernel, rfl, by decide +kernel, by decide +kernel⟩
theorem chk_u_law_power [TheK] : chkSs (namesOf d_u_law_power.N) ⟨defScope (top 28), fun _ => true, false⟩ d_u_law_power.body (defBody (top 28)) = true := by decide +kernel
theorem sc_u_law_power : FnScope (namesOf d_u_law_power.N) (namesOf ["base", "many"]) (defScope (top 28)) := ⟨rfl, rfl, rfl, by decide +kernel, rfl, by decide +kernel, by decide +kernel⟩
theorem chk_u_law_words [TheK] : chkSs (namesOf d_u_law_words.N) ⟨defScope (top 29), fun _ => true, false⟩ d_u_law_words.body (defBody (top 29)) = true := by decide +kernel
theorem sc_u_law_words : FnScope (namesOf d_u_law_words.N) (namesOf ["letters", "length"]) (defScope (top 29)) := ⟨rfl, rfl, rfl, by decide +kernel, rfl, by decide +kernel, by decide +kernel⟩
theorem chk_u_law_parts [TheK] : chkSs (namesOf d_u_law_parts.N) ⟨defScope (top 30), fun _ => true, false⟩ d_u_law_parts.body (defBody (top 30)) = true := by decide +kernel
theorem sc_u_law_parts : FnScope (namesOf d_u_law_parts.N) (namesOf ["word", "length"]) (defScope (top 30)) := ⟨rfl, rfl, rfl, by decide +kernel, rfl, by decide +kernel, by decide +kernel⟩
theorem chk_u_law_round [TheK] : chkSs (namesOf d_u_law_round.N) ⟨defScope (top 31), fun _ => true, false⟩ d_u_law_round.body (defBody (top 31)) = true := by decide +kernel
theorem sc_u_law_round : FnScope (namesOf d_u_law_round.N) (namesOf ["word", "letters", "length"]) (defScope (top 31)) := ⟨rfl, rfl, rfl, by decide +kernel, rfl, by decide +kernel, by decide +kernel⟩
theorem chk_u_law_greatest [TheK] : chkSs (namesOf d_u_law_greatest.N) ⟨defScope (top 32), fun _ => true, false⟩ d_u_law_greatest.body (defBody (top 32)) = true := by decide +kernel
theorem sc_u_law_greatest : FnScope (namesOf d_u_law_greatest.N) (namesOf ["letters", "length"]) (defScope (top 32)) := ⟨rfl, rfl, rfl, by decide +kernel, rfl, by decide +kernel, by decide +kernel⟩
theorem chk_u_law_count [TheK] : chkSs (namesOf d_u_law_count.N) ⟨defScope (top 33), fun _ => true, false⟩ d_u_law_count.body (defBody (top 33)) = true := by decide +kernel
theorem sc_u_law_count : FnScope (namesOf d_u_law_count.N) (namesOf ["letters", "length"]) (defScope (top 33)) := ⟨rfl, rfl, rfl, by decide +kernel, rfl, by decide +kernel, by decide +kernel⟩
theorem chk_u_law_judge [TheK] : chkSs (namesOf d_u_law_judge.N) ⟨defScope (top 34), fun _ => true, false⟩ d_u_law_judge.body (defBody (top 34)) = true := by decide +kernel
theorem sc_u_law_judge : FnScope (namesOf d_u_law_judge.N) (namesOf ["box", "word", "letters", "length"]) (defScope (top 34)) := ⟨rfl, rfl, rfl, by decide +kernel, rfl, by decide +kernel, by decide +kernel⟩
theorem chk_u_law_all [TheK] : chkSs (namesOf d_u_law_all.N) ⟨defScope (top 35), fun _ => true, false⟩ d_u_law_all.body (defBody (top 35)) = true := by decide +kernel
theorem sc_u_law_all : FnScope (namesOf d_u_law_all.N) (namesOf ["box"]) (defScope (top 35)) := ⟨rfl, rfl, rfl, by decide +kernel, rfl, by decide +kernel, by decide +kernel⟩
theorem chk_u_law_places [TheK] : chkSs (namesOf d_u_law_places.N) ⟨defScope (top 36), fun _ => true, false⟩ d_u_law_places.body (defBody (top 36)) = true := by decide +kernel
theorem sc_u_law_places : FnScope (namesOf d_u_law_places.N) (namesOf ["box"]) (defScope (top 36)) := ⟨rfl, rfl, rfl, by decide +kernel, rfl, by decide +kernel, by decide +kernel⟩
theorem chk_law [TheK] : chkSs (namesOf d_law.N) ⟨defScope (top 37), fun _ => true, false⟩ d_law.body (defBody (top 37)) = true := by decide +kernel
theorem sc_law : FnScope (namesOf d_law.N) (namesOf ["script"]) (defScope (top 37)) := ⟨rfl, rfl, rfl, by decide +kernel, rfl, by decide +kernel, by decide +kernel⟩
def x_determinant : He.DefD := ⟨(Str.ofString "determinant", none), Str.ofString "determinant", Str.ofString "determinant", defArgs (top 1), defBody (top 1), defScope (top 1), [], []⟩
def x_arrows_out : He.DefD := ⟨(Str.ofString "arrows_out", none), Str.ofString "arrows_out", Str.ofString "arrows_out", defArgs (top 3), defBody (top 3), defScope (top 3), [], []⟩
def x_arrows_in : He.DefD := ⟨(Str.ofString "arrows_in", none), Str.ofString "arrows_in", Str.ofString "arrows_in", defArgs (top 4), defBody (top 4), defScope (top 4), [], []⟩
def x_net_reach : He.DefD := ⟨(Str.ofString "net_reach", none), Str.ofString "net_reach", Str.ofString "net_reach", defArgs (top 5), defBody (top 5), defScope (top 5), [], []⟩
def x_is_balanced : He.DefD := ⟨(Str.ofString "is_balanced", none), Str.ofString "is_balanced", Str.ofString "is_balanced", defArgs (top 6), defBody (top 6), defScope (top 6), [], []⟩
def x_net_matrix : He.DefD := ⟨(Str.ofString "net_matrix", none), Str.ofString "net_matrix", Str.ofString "net_matrix", defArgs (top 7), defBody (top 7), defScope (top 7), [], []⟩
def x_trees_into : He.DefD := ⟨(Str.ofString "trees_into", none), Str.ofString "trees_into", Str.ofString "trees_into", defArgs (top 8), defBody (top 8), defScope (top 8), [], []⟩
def x_factorial_of : He.DefD := ⟨(Str.ofString "factorial_of", none), Str.ofString "factorial_of", Str.ofString "factorial_of", defArgs (top 9), defBody (top 9), defScope (top 9), [], []⟩
def x_tour_count : He.DefD := ⟨(Str.ofString "tour_count", none), Str.ofString "tour_count", Str.ofString "tour_count", defArgs (top 10), defBody (top 10), defScope (top 10), [], []⟩
def x_towards : He.DefD := ⟨(Str.ofString "towards", none), Str.ofString "towards", Str.ofString "towards", defArgs (top 11), defBody (top 11), defScope (top 11), [], []⟩
def x_tour : He.DefD := ⟨(Str.ofString "tour", none), Str.ofString "tour", Str.ofString "tour", defArgs (top 12), defBody (top 12), defScope (top 12), [], []⟩
def x_words_of : He.DefD := ⟨(Str.ofString "words_of", none), Str.ofString "words_of", Str.ofString "words_of", defArgs (top 14), defBody (top 14), defScope (top 14), [], []⟩
def x_word_net : He.DefD := ⟨(Str.ofString "word_net", none), Str.ofString "word_net", Str.ofString "word_net", defArgs (top 15), defBody (top 15), defScope (top 15), [], []⟩
def x_round_word : He.DefD := ⟨(Str.ofString "round_word", none), Str.ofString "round_word", Str.ofString "round_word", defArgs (top 16), defBody (top 16), defScope (top 16), [], []⟩
def x_parts_round : He.DefD := ⟨(Str.ofString "parts_round", none), Str.ofString "parts_round", Str.ofString "parts_round", defArgs (top 17), defBody (top 17), defScope (top 17), [], []⟩
def x_is_round_word : He.DefD := ⟨(Str.ofString "is_round_word", none), Str.ofString "is_round_word", Str.ofString "is_round_word", defArgs (top 18), defBody (top 18), defScope (top 18), [], []⟩
def x_round_count : He.DefD := ⟨(Str.ofString "round_count", none), Str.ofString "round_count", Str.ofString "round_count", defArgs (top 19), defBody (top 19), defScope (top 19), [], []⟩
def x_least_round : He.DefD := ⟨(Str.ofString "least_round", none), Str.ofString "least_round", Str.ofString "least_round", defArgs (top 20), defBody (top 20), defScope (top 20), [], []⟩
def x_place_of : He.DefD := ⟨(Str.ofString "place_of", none), Str.ofString "place_of", Str.ofString "place_of", defArgs (top 21), defBody (top 21), defScope (top 21), [], []⟩
def x_u_law_cell : He.DefD := ⟨(Str.ofString "_law_cell", none), Str.ofString "_law_cell", Str.ofString "_law_cell", defArgs (top 23), defBody (top 23), defScope (top 23), [], []⟩
def x_u_law_digits : He.DefD := ⟨(Str.ofString "_law_digits", none), Str.ofString "_law_digits", Str.ofString "_law_digits", defArgs (top 24), defBody (top 24), defScope (top 24), [], []⟩
def x_u_law_draw : He.DefD := ⟨(Str.ofString "_law_draw", none), Str.ofString "_law_draw", Str.ofString "_law_draw", defArgs (top 25), defBody (top 25), defScope (top 25), [], []⟩
def x_u_law_mixed : He.DefD := ⟨(Str.ofString "_law_mixed", none), Str.ofString "_law_mixed", Str.ofString "_law_mixed", defArgs (top 26), defBody (top 26), defScope (top 26), [], []⟩
def x_u_law_same : He.DefD := ⟨(Str.ofString "_law_same", none), Str.ofString "_law_same", Str.ofString "_law_same", defArgs (top 27), defBody (top 27), defScope (top 27), [], []⟩
def x_u_law_power : He.DefD := ⟨(Str.ofString "_law_power", none), Str.ofString "_law_power", Str.ofString "_law_power", defArgs (top 28), defBody (top 28), defScope (top 28), [], []⟩
def x_u_law_words : He.DefD := ⟨(Str.ofString "_law_words", none), Str.ofString "_law_words", Str.ofString "_law_words", defArgs (top 29), defBody (top 29), defScope (top 29), [], []⟩
def x_u_law_parts : He.DefD := ⟨(Str.ofString "_law_parts", none), Str.ofString "_law_parts", Str.ofString "_law_parts", defArgs (top 30), defBody (top 30), defScope (top 30), [], []⟩
def x_u_law_round : He.DefD := ⟨(Str.ofString "_law_round", none), Str.ofString "_law_round", Str.ofString "_law_round", defArgs (top 31), defBody (top 31), defScope (top 31), [], []⟩
def x_u_law_greatest : He.DefD := ⟨(Str.ofString "_law_greatest", none), Str.ofString "_law_greatest", Str.ofString "_law_greatest", defArgs (top 32), defBody (top 32), defScope (top 32), [], []⟩
def x_u_law_count : He.DefD := ⟨(Str.ofString "_law_count", none), Str.ofString "_law_count", Str.ofString "_law_count", defArgs (top 33), defBody (top 33), defScope (top 33), [], []⟩
def x_u_law_judge : He.DefD := ⟨(Str.ofString "_law_judge", none), Str.ofString "_law_judge", Str.ofString "_law_judge", defArgs (top 34), defBody (top 34), defScope (top 34), [], []⟩
def x_u_law_all : He.DefD := ⟨(Str.ofString "_law_all", none), Str.ofString "_law_all", Str.ofString "_law_all", defArgs (top 35), defBody (top 35), defScope (top 35), [], []⟩
def x_u_law_places : He.DefD := ⟨(Str.ofString "_law_places", none), Str.ofString "_law_places", Str.ofString "_law_places", defArgs (top 36), defBody (top 36), defScope (top 36), [], []⟩
def x_law : He.DefD := ⟨(Str.ofString "law", none), Str.ofString "law", Str.ofString "law", defArgs (top 37), defBody (top 37), defScope (top 37), [], []⟩
def fn : List He.DefD := [x_determinant, x_arrows_out, x_arrows_in, x_net_reach, x_is_balanced, x_net_matrix, x_trees_into, x_factorial_of, x_tour_count, x_towards, x_tour, x_words_of, x_word_net, x_round_word, x_parts_round, x_is_round_word, x_round_count, x_least_round, x_place_of, x_u_law_cell, x_u_law_digits, x_u_law_draw, x_u_law_mixed, x_u_law_same, x_u_law_power, x_u_law_words, x_u_law_parts, x_u_law_round, x_u_law_greatest, x_u_law_count, x_u_law_judge, x_u_law_all, x_u_law_places, x_law]
def fa : List He.Fa := (T.map fun d => He.Fa.glo (Str.ofString d.name)) ++ bltNames.map fun x => He.Fa.free (Str.ofString x)
abbrev R : PySem.W.OpenRow := PySem.W.OpenLaw.row PySem.Challenge.rw_lendland_k80_whole_round_words
abbrev V0 : Program := PySem.W.view R.prog [37]
def loose : List Str := [Str.ofString "__name__", Str.ofString "determinant", Str.ofString "arrows_out", Str.ofString "arrows_in", Str.ofString "net_reach", Str.ofString "is_balanced", Str.ofString "net_matrix", Str.ofString "trees_into", Str.ofString "factorial_of", Str.ofString "tour_count", Str.ofString "towards", Str.ofString "tour", Str.ofString "words_of", Str.ofString "word_net", Str.ofString "round_word", Str.ofString "parts_round", Str.ofString "is_round_word", Str.ofString "round_count", Str.ofString "least_round", Str.ofString "place_of", Str.ofString "_law_cell", Str.ofString "_law_digits", Str.ofString "_law_draw", Str.ofString "_law_mixed", Str.ofString "_law_same", Str.ofString "_law_power", Str.ofString "_law_words", Str.ofString "_law_parts", Str.ofString "_law_round", Str.ofString "_law_greatest", Str.ofString "_law_count", Str.ofString "_law_judge", Str.ofString "_law_all", Str.ofString "_law_places"]
abbrev hk : PySem.W.Hook := Ev.hookG 4 fa fn false
def ob (s : PySem.W.SharedT) : hk.α := Ev.obsGG 4 fa fn false (HandSHeadRun.getT s)
theorem ob_eq (s : PySem.W.SharedT) : ob s = hk.obs s.abs := Ev.obsGG_eq (HandSHeadRun.getT_eq s)
theorem run (w : World) : HandSHeadRun.RunEq R V0 hk ob 2000 loose w := by
  intro os
  kernel_rfl
section
variable {K : PySem.W.Frag} {h : Heap} {mg : Str → Option Value} [TheK]
theorem gl (X : K.In h) (G : h.Ns mainGlobals mg) (c : Ev.SaysG fa fn false K) (i : Nat) (d : Def) (e : T[i]? = some d) : mg (Str.ofString d.name) = some (.ref (He.ga K (Str.ofString d.name))) :=
  He.glo_ok X G (c.1.fact i (f := .glo (Str.ofString d.name)) (by unfold fa; rw [List.getElem?_append_left (by rw [List.length_map]; exact (List.getElem?_eq_some_iff.mp e).1), List.getElem?_map, e]; rfl))
theorem ok_determinant (X : K.In h) (G : h.Ns mainGlobals mg) (c : Ev.SaysG fa fn false K) : ∃ fd, (∀ (s : Shared) (us : List Value), us.length = 1 → BindsTo s fd ⟨us, []⟩ ((namesOf ["table"]).zip us)) ∧ DefOk K mg false d_determinant (top 1) (namesOf ["table"]) (He.ga K (Str.ofString "determinant")) fd := by
  obtain ⟨fd, F⟩ := c.1.def_ 0 (d := x_determinant) rfl
  have b := F.bindsN (ps := namesOf ["table"]) fun _ _ _ _ _ _ us hl => match us, hl with | [_], _ => rfl
  have b2 := F.bindsA (ps := namesOf ["table"]) fun _ _ _ _ _ _ us hl => match us, hl with | [_], _ => rfl
  exact ⟨fd, fun s us hl => b2 s us hl, gl X G c 0 _ rfl, F, b, sc_determinant, rfl, by decide, chk_determinant⟩
theorem ok_arrows_out (X : K.In h) (G : h.Ns mainGlobals mg) (c : Ev.SaysG fa fn false K) : ∃ fd, (∀ (s : Shared) (us : List Value), us.length = 2 → BindsTo s fd ⟨us, []⟩ ((namesOf ["net", "house"]).zip us)) ∧ DefOk K mg false d_arrows_out (top 3) (namesOf ["net", "house"]) (He.ga K (Str.ofString "arrows_out")) fd := by
  obtain ⟨fd, F⟩ := c.1.def_ 1 (d := x_arrows_out) rfl
  have b := F.bindsN (ps := namesOf ["net", "house"]) fun _ _ _ _ _ _ us hl => match us, hl with | [_, _], _ => rfl
  have b2 := F.bindsA (ps := namesOf ["net", "house"]) fun _ _ _ _ _ _ us hl => match us, hl with | [_, _], _ => rfl
  exact ⟨fd, fun s us hl => b2 s us hl, gl X G c 1 _ rfl, F, b, sc_arrows_out, rfl, by decide, chk_arrows_out⟩
theorem ok_arrows_in (X : K.In h) (G : h.Ns mainGlobals mg) (c : Ev.SaysG fa fn false K) : ∃ fd, (∀ (s : Shared) (us : List Value), us.length = 2 → BindsTo s fd ⟨us, []⟩ ((namesOf ["net", "house"]).zip us)) ∧ DefOk K mg false d_arrows_in (top 4) (namesOf ["net", "house"]) (He.ga K (Str.ofString "arrows_in")) fd := by
  obtain ⟨fd, F⟩ := c.1.def_ 2 (d := x_arrows_in) rfl
  have b := F.bindsN (ps := namesOf ["net", "house"]) fun _ _ _ _ _ _ us hl => match us, hl with | [_, _], _ => rfl
  have b2 := F.bindsA (ps := namesOf ["net", "house"]) fun _ _ _ _ _ _ us hl => match us, hl with | [_, _], _ => rfl
  exact ⟨fd, fun s us hl => b2 s us hl, gl X G c 2 _ rfl, F, b, sc_arrows_in, rfl, by decide, chk_arrows_in⟩
theorem ok_net_reach (X : K.In h) (G : h.Ns mainGlobals mg) (c : Ev.SaysG fa fn false K) : ∃ fd, (∀ (s : Shared) (us : List Value), us.length = 3 → BindsTo s fd ⟨us, []⟩ ((namesOf ["net", "start", "ahead"]).zip us)) ∧ DefOk K mg false d_net_reach (top 5) (namesOf ["net", "start", "ahead"]) (He.ga K (Str.ofString "net_reach")) fd := by
  obtain ⟨fd, F⟩ := c.1.def_ 3 (d := x_net_reach) rfl
  have b := F.bindsN (ps := namesOf ["net", "start", "ahead"]) fun _ _ _ _ _ _ us hl => match us, hl with | [_, _, _], _ => rfl
  have b2 := F.bindsA (ps := namesOf ["net", "start", "ahead"]) fun _ _ _ _ _ _ us hl => match us, hl with | [_, _, _], _ => rfl
  exact ⟨fd, fun s us hl => b2 s us hl, gl X G c 3 _ rfl, F, b, sc_net_reach, rfl, by decide, chk_net_reach⟩
theorem ok_is_balanced (X : K.In h) (G : h.Ns mainGlobals mg) (c : Ev.SaysG fa fn false K) : ∃ fd, (∀ (s : Shared) (us : List Value), us.length = 1 → BindsTo s fd ⟨us, []⟩ ((namesOf ["net"]).zip us)) ∧ DefOk K mg false d_is_balanced (top 6) (namesOf ["net"]) (He.ga K (Str.ofString "is_balanced")) fd := by
  obtain ⟨fd, F⟩ := c.1.def_ 4 (d := x_is_balanced) rfl
  have b := F.bindsN (ps := namesOf ["net"]) fun _ _ _ _ _ _ us hl => match us, hl with | [_], _ => rfl
  have b2 := F.bindsA (ps := namesOf ["net"]) fun _ _ _ _ _ _ us hl => match us, hl with | [_], _ => rfl
  exact ⟨fd, fun s us hl => b2 s us hl, gl X G c 4 _ rfl, F, b, sc_is_balanced, rfl, by decide, chk_is_balanced⟩
theorem ok_net_matrix (X : K.In h) (G : h.Ns mainGlobals mg) (c : Ev.SaysG fa fn false K) : ∃ fd, (∀ (s : Shared) (us : List Value), us.length = 1 → BindsTo s fd ⟨us, []⟩ ((namesOf ["net"]).zip us)) ∧ DefOk K mg false d_net_matrix (top 7) (namesOf ["net"]) (He.ga K (Str.ofString "net_matrix")) fd := by
  obtain ⟨fd, F⟩ := c.1.def_ 5 (d := x_net_matrix) rfl
  have b := F.bindsN (ps := namesOf ["net"]) fun _ _ _ _ _ _ us hl => match us, hl with | [_], _ => rfl
  have b2 := F.bindsA (ps := namesOf ["net"]) fun _ _ _ _ _ _ us hl => match us, hl with | [_], _ => rfl
  exact ⟨fd, fun s us hl => b2 s us hl, gl X G c 5 _ rfl, F, b, sc_net_matrix, rfl, by decide, chk_net_matrix⟩
theorem ok_trees_into (X : K.In h) (G : h.Ns mainGlobals mg) (c : Ev.SaysG fa fn false K) : ∃ fd, (∀ (s : Shared) (us : List Value), us.length = 2 → BindsTo s fd ⟨us, []⟩ ((namesOf ["net", "goal"]).zip us)) ∧ DefOk K mg false d_trees_into (top 8) (namesOf ["net", "goal"]) (He.ga K (Str.ofString "trees_into")) fd := by
  obtain ⟨fd, F⟩ := c.1.def_ 6 (d := x_trees_into) rfl
  have b := F.bindsN (ps := namesOf ["net", "goal"]) fun _ _ _ _ _ _ us hl => match us, hl with | [_, _], _ => rfl
  have b2 := F.bindsA (ps := namesOf ["net", "goal"]) fun _ _ _ _ _ _ us hl => match us, hl with | [_, _], _ => rfl
  exact ⟨fd, fun s us hl => b2 s us hl, gl X G c 6 _ rfl, F, b, sc_trees_into, rfl, by decide, chk_trees_into⟩
theorem ok_factorial_of (X : K.In h) (G : h.Ns mainGlobals mg) (c : Ev.SaysG fa fn false K) : ∃ fd, (∀ (s : Shared) (us : List Value), us.length = 1 → BindsTo s fd ⟨us, []⟩ ((namesOf ["many"]).zip us)) ∧ DefOk K mg false d_factorial_of (top 9) (namesOf ["many"]) (He.ga K (Str.ofString "factorial_of")) fd := by
  obtain ⟨fd, F⟩ := c.1.def_ 7 (d := x_factorial_of) rfl
  have b := F.bindsN (ps := namesOf ["many"]) fun _ _ _ _ _ _ us hl => match us, hl with | [_], _ => rfl
  have b2 := F.bindsA (ps := namesOf ["many"]) fun _ _ _ _ _ _ us hl => match us, hl with | [_], _ => rfl
  exact ⟨fd, fun s us hl => b2 s us hl, gl X G c 7 _ rfl, F, b, sc_factorial_of, rfl, by decide, chk_factorial_of⟩
theorem ok_tour_count (X : K.In h) (G : h.Ns mainGlobals mg) (c : Ev.SaysG fa fn false K) : ∃ fd, (∀ (s : Shared) (us : List Value), us.length = 1 → BindsTo s fd ⟨us, []⟩ ((namesOf ["net"]).zip us)) ∧ DefOk K mg false d_tour_count (top 10) (namesOf ["net"]) (He.ga K (Str.ofString "tour_count")) fd := by
  obtain ⟨fd, F⟩ := c.1.def_ 8 (d := x_tour_count) rfl
  have b := F.bindsN (ps := namesOf ["net"]) fun _ _ _ _ _ _ us hl => match us, hl with | [_], _ => rfl
  have b2 := F.bindsA (ps := namesOf ["net"]) fun _ _ _ _ _ _ us hl => match us, hl with | [_], _ => rfl
  exact ⟨fd, fun s us hl => b2 s us hl, gl X G c 8 _ rfl, F, b, sc_tour_count, rfl, by decide, chk_tour_count⟩
theorem ok_towards (X : K.In h) (G : h.Ns mainGlobals mg) (c : Ev.SaysG fa fn false K) : ∃ fd, (∀ (s : Shared) (us : List Value), us.length = 2 → BindsTo s fd ⟨us, []⟩ ((namesOf ["net", "goal"]).zip us)) ∧ DefOk K mg false d_towards (top 11) (namesOf ["net", "goal"]) (He.ga K (Str.ofString "towards")) fd := by
  obtain ⟨fd, F⟩ := c.1.def_ 9 (d := x_towards) rfl
  have b := F.bindsN (ps := namesOf ["net", "goal"]) fun _ _ _ _ _ _ us hl => match us, hl with | [_, _], _ => rfl
  have b2 := F.bindsA (ps := namesOf ["net", "goal"]) fun _ _ _ _ _ _ us hl => match us, hl with | [_, _], _ => rfl
  exact ⟨fd, fun s us hl => b2 s us hl, gl X G c 9 _ rfl, F, b, sc_towards, rfl, by decide, chk_towards⟩
theorem ok_tour (X : K.In h) (G : h.Ns mainGlobals mg) (c : Ev.SaysG fa fn false K) : ∃ fd, (∀ (s : Shared) (us : List Value), us.length = 1 → BindsTo s fd ⟨us, []⟩ ((namesOf ["net"]).zip us)) ∧ DefOk K mg false d_tour (top 12) (namesOf ["net"]) (He.ga K (Str.ofString "tour")) fd := by
  obtain ⟨fd, F⟩ := c.1.def_ 10 (d := x_tour) rfl
  have b := F.bindsN (ps := namesOf ["net"]) fun _ _ _ _ _ _ us hl => match us, hl with | [_], _ => rfl
  have b2 := F.bindsA (ps := namesOf ["net"]) fun _ _ _ _ _ _ us hl => match us, hl with | [_], _ => rfl
  exact ⟨fd, fun s us hl => b2 s us hl, gl X G c 10 _ rfl, F, b, sc_tour, rfl, by decide, chk_tour⟩
theorem ok_words_of (X : K.In h) (G : h.Ns mainGlobals mg) (c : Ev.SaysG fa fn false K) : ∃ fd, (∀ (s : Shared) (us : List Value), us.length = 2 → BindsTo s fd ⟨us, []⟩ ((namesOf ["letters", "length"]).zip us)) ∧ DefOk K mg false d_words_of (top 14) (namesOf ["letters", "length"]) (He.ga K (Str.ofString "words_of")) fd := by
  obtain ⟨fd, F⟩ := c.1.def_ 11 (d := x_words_of) rfl
  have b := F.bindsN (ps := namesOf ["letters", "length"]) fun _ _ _ _ _ _ us hl => match us, hl with | [_, _], _ => rfl
  have b2 := F.bindsA (ps := namesOf ["letters", "length"]) fun _ _ _ _ _ _ us hl => match us, hl with | [_, _], _ => rfl
  exact ⟨fd, fun s us hl => b2 s us hl, gl X G c 11 _ rfl, F, b, sc_words_of, rfl, by decide, chk_words_of⟩
theorem ok_word_net (X : K.In h) (G : h.Ns mainGlobals mg) (c : Ev.SaysG fa fn false K) : ∃ fd, (∀ (s : Shared) (us : List Value), us.length = 2 → BindsTo s fd ⟨us, []⟩ ((namesOf ["letters", "length"]).zip us)) ∧ DefOk K mg false d_word_net (top 15) (namesOf ["letters", "length"]) (He.ga K (Str.ofString "word_net")) fd := by
  obtain ⟨fd, F⟩ := c.1.def_ 12 (d := x_word_net) rfl
  have b := F.bindsN (ps := namesOf ["letters", "length"]) fun _ _ _ _ _ _ us hl => match us, hl with | [_, _], _ => rfl
  have b2 := F.bindsA (ps := namesOf ["letters", "length"]) fun _ _ _ _ _ _ us hl => match us, hl with | [_, _], _ => rfl
  exact ⟨fd, fun s us hl => b2 s us hl, gl X G c 12 _ rfl, F, b, sc_word_net, rfl, by decide, chk_word_net⟩
theorem ok_round_word (X : K.In h) (G : h.Ns mainGlobals mg) (c : Ev.SaysG fa fn false K) : ∃ fd, (∀ (s : Shared) (us : List Value), us.length = 2 → BindsTo s fd ⟨us, []⟩ ((namesOf ["letters", "length"]).zip us)) ∧ DefOk K mg false d_round_word (top 16) (namesOf ["letters", "length"]) (He.ga K (Str.ofString "round_word")) fd := by
  obtain ⟨fd, F⟩ := c.1.def_ 13 (d := x_round_word) rfl
  have b := F.bindsN (ps := namesOf ["letters", "length"]) fun _ _ _ _ _ _ us hl => match us, hl with | [_, _], _ => rfl
  have b2 := F.bindsA (ps := namesOf ["letters", "length"]) fun _ _ _ _ _ _ us hl => match us, hl with | [_, _], _ => rfl
  exact ⟨fd, fun s us hl => b2 s us hl, gl X G c 13 _ rfl, F, b, sc_round_word, rfl, by decide, chk_round_word⟩
theorem ok_parts_round (X : K.In h) (G : h.Ns mainGlobals mg) (c : Ev.SaysG fa fn false K) : ∃ fd, (∀ (s : Shared) (us : List Value), us.length = 2 → BindsTo s fd ⟨us, []⟩ ((namesOf ["word", "length"]).zip us)) ∧ DefOk K mg false d_parts_round (top 17) (namesOf ["word", "length"]) (He.ga K (Str.ofString "parts_round")) fd := by
  obtain ⟨fd, F⟩ := c.1.def_ 14 (d := x_parts_round) rfl
  have b := F.bindsN (ps := namesOf ["word", "length"]) fun _ _ _ _ _ _ us hl => match us, hl with | [_, _], _ => rfl
  have b2 := F.bindsA (ps := namesOf ["word", "length"]) fun _ _ _ _ _ _ us hl => match us, hl with | [_, _], _ => rfl
  exact ⟨fd, fun s us hl => b2 s us hl, gl X G c 14 _ rfl, F, b, sc_parts_round, rfl, by decide, chk_parts_round⟩
theorem ok_is_round_word (X : K.In h) (G : h.Ns mainGlobals mg) (c : Ev.SaysG fa fn false K) : ∃ fd, (∀ (s : Shared) (us : List Value), us.length = 3 → BindsTo s fd ⟨us, []⟩ ((namesOf ["word", "letters", "length"]).zip us)) ∧ DefOk K mg false d_is_round_word (top 18) (namesOf ["word", "letters", "length"]) (He.ga K (Str.ofString "is_round_word")) fd := by
  obtain ⟨fd, F⟩ := c.1.def_ 15 (d := x_is_round_word) rfl
  have b := F.bindsN (ps := namesOf ["word", "letters", "length"]) fun _ _ _ _ _ _ us hl => match us, hl with | [_, _, _], _ => rfl
  have b2 := F.bindsA (ps := namesOf ["word", "letters", "length"]) fun _ _ _ _ _ _ us hl => match us, hl with | [_, _, _], _ => rfl
  exact ⟨fd, fun s us hl => b2 s us hl, gl X G c 15 _ rfl, F, b, sc_is_round_word, rfl, by decide, chk_is_round_word⟩
theorem ok_round_count (X : K.In h) (G : h.Ns mainGlobals mg) (c : Ev.SaysG fa fn false K) : ∃ fd, (∀ (s : Shared) (us : List Value), us.length = 2 → BindsTo s fd ⟨us, []⟩ ((namesOf ["letters", "length"]).zip us)) ∧ DefOk K mg false d_round_count (top 19) (namesOf ["letters", "length"]) (He.ga K (Str.ofString "round_count")) fd := by
  obtain ⟨fd, F⟩ := c.1.def_ 16 (d := x_round_count) rfl
  have b := F.bindsN (ps := namesOf ["letters", "length"]) fun _ _ _ _ _ _ us hl => match us, hl with | [_, _], _ => rfl
  have b2 := F.bindsA (ps := namesOf ["letters", "length"]) fun _ _ _ _ _ _ us hl => match us, hl with | [_, _], _ => rfl
  exact ⟨fd, fun s us hl => b2 s us hl, gl X G c 16 _ rfl, F, b, sc_round_count, rfl, by decide, chk_round_count⟩
theorem ok_least_round (X : K.In h) (G : h.Ns mainGlobals mg) (c : Ev.SaysG fa fn false K) : ∃ fd, (∀ (s : Shared) (us : List Value), us.length = 1 → BindsTo s fd ⟨us, []⟩ ((namesOf ["word"]).zip us)) ∧ DefOk K mg false d_least_round (top 20) (namesOf ["word"]) (He.ga K (Str.ofString "least_round")) fd := by
  obtain ⟨fd, F⟩ := c.1.def_ 17 (d := x_least_round) rfl
  have b := F.bindsN (ps := namesOf ["word"]) fun _ _ _ _ _ _ us hl => match us, hl with | [_], _ => rfl
  have b2 := F.bindsA (ps := namesOf ["word"]) fun _ _ _ _ _ _ us hl => match us, hl with | [_], _ => rfl
  exact ⟨fd, fun s us hl => b2 s us hl, gl X G c 17 _ rfl, F, b, sc_least_round, rfl, by decide, chk_least_round⟩
theorem ok_place_of (X : K.In h) (G : h.Ns mainGlobals mg) (c : Ev.SaysG fa fn false K) : ∃ fd, (∀ (s : Shared) (us : List Value), us.length = 2 → BindsTo s fd ⟨us, []⟩ ((namesOf ["word", "part"]).zip us)) ∧ DefOk K mg false d_place_of (top 21) (namesOf ["word", "part"]) (He.ga K (Str.ofString "place_of")) fd := by
  obtain ⟨fd, F⟩ := c.1.def_ 18 (d := x_place_of) rfl
  have b := F.bindsN (ps := namesOf ["word", "part"]) fun _ _ _ _ _ _ us hl => match us, hl with | [_, _], _ => rfl
  have b2 := F.bindsA (ps := namesOf ["word", "part"]) fun _ _ _ _ _ _ us hl => match us, hl with | [_, _], _ => rfl
  exact ⟨fd, fun s us hl => b2 s us hl, gl X G c 18 _ rfl, F, b, sc_place_of, rfl, by decide, chk_place_of⟩
theorem ok_u_law_cell (X : K.In h) (G : h.Ns mainGlobals mg) (c : Ev.SaysG fa fn false K) : ∃ fd, (∀ (s : Shared) (us : List Value), us.length = 2 → BindsTo s fd ⟨us, []⟩ ((namesOf ["script", "k"]).zip us)) ∧ DefOk K mg false d_u_law_cell (top 23) (namesOf ["script", "k"]) (He.ga K (Str.ofString "_law_cell")) fd := by
  obtain ⟨fd, F⟩ := c.1.def_ 19 (d := x_u_law_cell) rfl
  have b := F.bindsN (ps := namesOf ["script", "k"]) fun _ _ _ _ _ _ us hl => match us, hl with | [_, _], _ => rfl
  have b2 := F.bindsA (ps := namesOf ["script", "k"]) fun _ _ _ _ _ _ us hl => match us, hl with | [_, _], _ => rfl
  exact ⟨fd, fun s us hl => b2 s us hl, gl X G c 19 _ rfl, F, b, sc_u_law_cell, rfl, by decide, chk_u_law_cell⟩
theorem ok_u_law_digits (X : K.In h) (G : h.Ns mainGlobals mg) (c : Ev.SaysG fa fn false K) : ∃ fd, (∀ (s : Shared) (us : List Value), us.length = 2 → BindsTo s fd ⟨us, []⟩ ((namesOf ["script", "last"]).zip us)) ∧ DefOk K mg false d_u_law_digits (top 24) (namesOf ["script", "last"]) (He.ga K (Str.ofString "_law_digits")) fd := by
  obtain ⟨fd, F⟩ := c.1.def_ 20 (d := x_u_law_digits) rfl
  have b := F.bindsN (ps := namesOf ["script", "last"]) fun _ _ _ _ _ _ us hl => match us, hl with | [_, _], _ => rfl
  have b2 := F.bindsA (ps := namesOf ["script", "last"]) fun _ _ _ _ _ _ us hl => match us, hl with | [_, _], _ => rfl
  exact ⟨fd, fun s us hl => b2 s us hl, gl X G c 20 _ rfl, F, b, sc_u_law_digits, rfl, by decide, chk_u_law_digits⟩
theorem ok_u_law_draw (X : K.In h) (G : h.Ns mainGlobals mg) (c : Ev.SaysG fa fn false K) : ∃ fd, (∀ (s : Shared) (us : List Value), us.length = 2 → BindsTo s fd ⟨us, []⟩ ((namesOf ["box", "many"]).zip us)) ∧ DefOk K mg false d_u_law_draw (top 25) (namesOf ["box", "many"]) (He.ga K (Str.ofString "_law_draw")) fd := by
  obtain ⟨fd, F⟩ := c.1.def_ 21 (d := x_u_law_draw) rfl
  have b := F.bindsN (ps := namesOf ["box", "many"]) fun _ _ _ _ _ _ us hl => match us, hl with | [_, _], _ => rfl
  have b2 := F.bindsA (ps := namesOf ["box", "many"]) fun _ _ _ _ _ _ us hl => match us, hl with | [_, _], _ => rfl
  exact ⟨fd, fun s us hl => b2 s us hl, gl X G c 21 _ rfl, F, b, sc_u_law_draw, rfl, by decide, chk_u_law_draw⟩
theorem ok_u_law_mixed (X : K.In h) (G : h.Ns mainGlobals mg) (c : Ev.SaysG fa fn false K) : ∃ fd, (∀ (s : Shared) (us : List Value), us.length = 2 → BindsTo s fd ⟨us, []⟩ ((namesOf ["box", "row"]).zip us)) ∧ DefOk K mg false d_u_law_mixed (top 26) (namesOf ["box", "row"]) (He.ga K (Str.ofString "_law_mixed")) fd := by
  obtain ⟨fd, F⟩ := c.1.def_ 22 (d := x_u_law_mixed) rfl
  have b := F.bindsN (ps := namesOf ["box", "row"]) fun _ _ _ _ _ _ us hl => match us, hl with | [_, _], _ => rfl
  have b2 := F.bindsA (ps := namesOf ["box", "row"]) fun _ _ _ _ _ _ us hl => match us, hl with | [_, _], _ => rfl
  exact ⟨fd, fun s us hl => b2 s us hl, gl X G c 22 _ rfl, F, b, sc_u_law_mixed, rfl, by decide, chk_u_law_mixed⟩
theorem ok_u_law_same (X : K.In h) (G : h.Ns mainGlobals mg) (c : Ev.SaysG fa fn false K) : ∃ fd, (∀ (s : Shared) (us : List Value), us.length = 2 → BindsTo s fd ⟨us, []⟩ ((namesOf ["told", "due"]).zip us)) ∧ DefOk K mg false d_u_law_same (top 27) (namesOf ["told", "due"]) (He.ga K (Str.ofString "_law_same")) fd := by
  obtain ⟨fd, F⟩ := c.1.def_ 23 (d := x_u_law_same) rfl
  have b := F.bindsN (ps := namesOf ["told", "due"]) fun _ _ _ _ _ _ us hl => match us, hl with | [_, _], _ => rfl
  have b2 := F.bindsA (ps := namesOf ["told", "due"]) fun _ _ _ _ _ _ us hl => match us, hl with | [_, _], _ => rfl
  exact ⟨fd, fun s us hl => b2 s us hl, gl X G c 23 _ rfl, F, b, sc_u_law_same, rfl, by decide, chk_u_law_same⟩
theorem ok_u_law_power (X : K.In h) (G : h.Ns mainGlobals mg) (c : Ev.SaysG fa fn false K) : ∃ fd, (∀ (s : Shared) (us : List Value), us.length = 2 → BindsTo s fd ⟨us, []⟩ ((namesOf ["base", "many"]).zip us)) ∧ DefOk K mg false d_u_law_power (top 28) (namesOf ["base", "many"]) (He.ga K (Str.ofString "_law_power")) fd := by
  obtain ⟨fd, F⟩ := c.1.def_ 24 (d := x_u_law_power) rfl
  have b := F.bindsN (ps := namesOf ["base", "many"]) fun _ _ _ _ _ _ us hl => match us, hl with | [_, _], _ => rfl
  have b2 := F.bindsA (ps := namesOf ["base", "many"]) fun _ _ _ _ _ _ us hl => match us, hl with | [_, _], _ => rfl
  exact ⟨fd, fun s us hl => b2 s us hl, gl X G c 24 _ rfl, F, b, sc_u_law_power, rfl, by decide, chk_u_law_power⟩
theorem ok_u_law_words (X : K.In h) (G : h.Ns mainGlobals mg) (c : Ev.SaysG fa fn false K) : ∃ fd, (∀ (s : Shared) (us : List Value), us.length = 2 → BindsTo s fd ⟨us, []⟩ ((namesOf ["letters", "length"]).zip us)) ∧ DefOk K mg false d_u_law_words (top 29) (namesOf ["letters", "length"]) (He.ga K (Str.ofString "_law_words")) fd := by
  obtain ⟨fd, F⟩ := c.1.def_ 25 (d := x_u_law_words) rfl
  have b := F.bindsN (ps := namesOf ["letters", "length"]) fun _ _ _ _ _ _ us hl => match us, hl with | [_, _], _ => rfl
  have b2 := F.bindsA (ps := namesOf ["letters", "length"]) fun _ _ _ _ _ _ us hl => match us, hl with | [_, _], _ => rfl
  exact ⟨fd, fun s us hl => b2 s us hl, gl X G c 25 _ rfl, F, b, sc_u_law_words, rfl, by decide, chk_u_law_words⟩
theorem ok_u_law_parts (X : K.In h) (G : h.Ns mainGlobals mg) (c : Ev.SaysG fa fn false K) : ∃ fd, (∀ (s : Shared) (us : List Value), us.length = 2 → BindsTo s fd ⟨us, []⟩ ((namesOf ["word", "length"]).zip us)) ∧ DefOk K mg false d_u_law_parts (top 30) (namesOf ["word", "length"]) (He.ga K (Str.ofString "_law_parts")) fd := by
  obtain ⟨fd, F⟩ := c.1.def_ 26 (d := x_u_law_parts) rfl
  have b := F.bindsN (ps := namesOf ["word", "length"]) fun _ _ _ _ _ _ us hl => match us, hl with | [_, _], _ => rfl
  have b2 := F.bindsA (ps := namesOf ["word", "length"]) fun _ _ _ _ _ _ us hl => match us, hl with | [_, _], _ => rfl
  exact ⟨fd, fun s us hl => b2 s us hl, gl X G c 26 _ rfl, F, b, sc_u_law_parts, rfl, by decide, chk_u_law_parts⟩
theorem ok_u_law_round (X : K.In h) (G : h.Ns mainGlobals mg) (c : Ev.SaysG fa fn false K) : ∃ fd, (∀ (s : Shared) (us : List Value), us.length = 3 → BindsTo s fd ⟨us, []⟩ ((namesOf ["word", "letters", "length"]).zip us)) ∧ DefOk K mg false d_u_law_round (top 31) (namesOf ["word", "letters", "length"]) (He.ga K (Str.ofString "_law_round")) fd := by
  obtain ⟨fd, F⟩ := c.1.def_ 27 (d := x_u_law_round) rfl
  have b := F.bindsN (ps := namesOf ["word", "letters", "length"]) fun _ _ _ _ _ _ us hl => match us, hl with | [_, _, _], _ => rfl
  have b2 := F.bindsA (ps := namesOf ["word", "letters", "length"]) fun _ _ _ _ _ _ us hl => match us, hl with | [_, _, _], _ => rfl
  exact ⟨fd, fun s us hl => b2 s us hl, gl X G c 27 _ rfl, F, b, sc_u_law_round, rfl, by decide, chk_u_law_round⟩
theorem ok_u_law_greatest (X : K.In h) (G : h.Ns mainGlobals mg) (c : Ev.SaysG fa fn false K) : ∃ fd, (∀ (s : Shared) (us : List Value), us.length = 2 → BindsTo s fd ⟨us, []⟩ ((namesOf ["letters", "length"]).zip us)) ∧ DefOk K mg false d_u_law_greatest (top 32) (namesOf ["letters", "length"]) (He.ga K (Str.ofString "_law_greatest")) fd := by
  obtain ⟨fd, F⟩ := c.1.def_ 28 (d := x_u_law_greatest) rfl
  have b := F.bindsN (ps := namesOf ["letters", "length"]) fun _ _ _ _ _ _ us hl => match us, hl with | [_, _], _ => rfl
  have b2 := F.bindsA (ps := namesOf ["letters", "length"]) fun _ _ _ _ _ _ us hl => match us, hl with | [_, _], _ => rfl
  exact ⟨fd, fun s us hl => b2 s us hl, gl X G c 28 _ rfl, F, b, sc_u_law_greatest, rfl, by decide, chk_u_law_greatest⟩
theorem ok_u_law_count (X : K.In h) (G : h.Ns mainGlobals mg) (c : Ev.SaysG fa fn false K) : ∃ fd, (∀ (s : Shared) (us : List Value), us.length = 2 → BindsTo s fd ⟨us, []⟩ ((namesOf ["letters", "length"]).zip us)) ∧ DefOk K mg false d_u_law_count (top 33) (namesOf ["letters", "length"]) (He.ga K (Str.ofString "_law_count")) fd := by
  obtain ⟨fd, F⟩ := c.1.def_ 29 (d := x_u_law_count) rfl
  have b := F.bindsN (ps := namesOf ["letters", "length"]) fun _ _ _ _ _ _ us hl => match us, hl with | [_, _], _ => rfl
  have b2 := F.bindsA (ps := namesOf ["letters", "length"]) fun _ _ _ _ _ _ us hl => match us, hl with | [_, _], _ => rfl
  exact ⟨fd, fun s us hl => b2 s us hl, gl X G c 29 _ rfl, F, b, sc_u_law_count, rfl, by decide, chk_u_law_count⟩
theorem ok_u_law_judge (X : K.In h) (G : h.Ns mainGlobals mg) (c : Ev.SaysG fa fn false K) : ∃ fd, (∀ (s : Shared) (us : List Value), us.length = 4 → BindsTo s fd ⟨us, []⟩ ((namesOf ["box", "word", "letters", "length"]).zip us)) ∧ DefOk K mg false d_u_law_judge (top 34) (namesOf ["box", "word", "letters", "length"]) (He.ga K (Str.ofString "_law_judge")) fd := by
  obtain ⟨fd, F⟩ := c.1.def_ 30 (d := x_u_law_judge) rfl
  have b := F.bindsN (ps := namesOf ["box", "word", "letters", "length"]) fun _ _ _ _ _ _ us hl => match us, hl with | [_, _, _, _], _ => rfl
  have b2 := F.bindsA (ps := namesOf ["box", "word", "letters", "length"]) fun _ _ _ _ _ _ us hl => match us, hl with | [_, _, _, _], _ => rfl
  exact ⟨fd, fun s us hl => b2 s us hl, gl X G c 30 _ rfl, F, b, sc_u_law_judge, rfl, by decide, chk_u_law_judge⟩
theorem ok_u_law_all (X : K.In h) (G : h.Ns mainGlobals mg) (c : Ev.SaysG fa fn false K) : ∃ fd, (∀ (s : Shared) (us : List Value), us.length = 1 → BindsTo s fd ⟨us, []⟩ ((namesOf ["box"]).zip us)) ∧ DefOk K mg false d_u_law_all (top 35) (namesOf ["box"]) (He.ga K (Str.ofString "_law_all")) fd := by
  obtain ⟨fd, F⟩ := c.1.def_ 31 (d := x_u_law_all) rfl
  have b := F.bindsN (ps := namesOf ["box"]) fun _ _ _ _ _ _ us hl => match us, hl with | [_], _ => rfl
  have b2 := F.bindsA (ps := namesOf ["box"]) fun _ _ _ _ _ _ us hl => match us, hl with | [_], _ => rfl
  exact ⟨fd, fun s us hl => b2 s us hl, gl X G c 31 _ rfl, F, b, sc_u_law_all, rfl, by decide, chk_u_law_all⟩
theorem ok_u_law_places (X : K.In h) (G : h.Ns mainGlobals mg) (c : Ev.SaysG fa fn false K) : ∃ fd, (∀ (s : Shared) (us : List Value), us.length = 1 → BindsTo s fd ⟨us, []⟩ ((namesOf ["box"]).zip us)) ∧ DefOk K mg false d_u_law_places (top 36) (namesOf ["box"]) (He.ga K (Str.ofString "_law_places")) fd := by
  obtain ⟨fd, F⟩ := c.1.def_ 32 (d := x_u_law_places) rfl
  have b := F.bindsN (ps := namesOf ["box"]) fun _ _ _ _ _ _ us hl => match us, hl with | [_], _ => rfl
  have b2 := F.bindsA (ps := namesOf ["box"]) fun _ _ _ _ _ _ us hl => match us, hl with | [_], _ => rfl
  exact ⟨fd, fun s us hl => b2 s us hl, gl X G c 32 _ rfl, F, b, sc_u_law_places, rfl, by decide, chk_u_law_places⟩
theorem ok_law (X : K.In h) (G : h.Ns mainGlobals mg) (c : Ev.SaysG fa fn false K) : ∃ fd, (∀ (s : Shared) (us : List Value), us.length = 1 → BindsTo s fd ⟨us, []⟩ ((namesOf ["script"]).zip us)) ∧ DefOk K mg false d_law (top 37) (namesOf ["script"]) (He.ga K (Str.ofString "law")) fd := by
  obtain ⟨fd, F⟩ := c.1.def_ 33 (d := x_law) rfl
  have b := F.bindsN (ps := namesOf ["script"]) fun _ _ _ _ _ _ us hl => match us, hl with | [_], _ => rfl
  have b2 := F.bindsA (ps := namesOf ["script"]) fun _ _ _ _ _ _ us hl => match us, hl with | [_], _ => rfl
  exact ⟨fd, fun s us hl => b2 s us hl, gl X G c 33 _ rfl, F, b, sc_law, rfl, by decide, chk_law⟩
theorem tab (X : K.In h) (G : h.Ns mainGlobals mg) (c : Ev.SaysG fa fn false K) : TabOk K mg false T := by
  intro d hd
  unfold T at hd
  rcases List.mem_cons.mp hd with e | hd
  · subst e; obtain ⟨fd, _, o⟩ := ok_determinant X G c; exact ⟨_, _, _, fd, o⟩
  rcases List.mem_cons.mp hd with e | hd
  · subst e; obtain ⟨fd, _, o⟩ := ok_arrows_out X G c; exact ⟨_, _, _, fd, o⟩
  rcases List.mem_cons.mp hd with e | hd
  · subst e; obtain ⟨fd, _, o⟩ := ok_arrows_in X G c; exact ⟨_, _, _, fd, o⟩
  rcases List.mem_cons.mp hd with e | hd
  · subst e; obtain ⟨fd, _, o⟩ := ok_net_reach X G c; exact ⟨_, _, _, fd, o⟩
  rcases List.mem_cons.mp hd with e | hd
  · subst e; obtain ⟨fd, _, o⟩ := ok_is_balanced X G c; exact ⟨_, _, _, fd, o⟩
  rcases List.mem_cons.mp hd with e | hd
  · subst e; obtain ⟨fd, _, o⟩ := ok_net_matrix X G c; exact ⟨_, _, _, fd, o⟩
  rcases List.mem_cons.mp hd with e | hd
  · subst e; obtain ⟨fd, _, o⟩ := ok_trees_into X G c; exact ⟨_, _, _, fd, o⟩
  rcases List.mem_cons.mp hd with e | hd
  · subst e; obtain ⟨fd, _, o⟩ := ok_factorial_of X G c; exact ⟨_, _, _, fd, o⟩
  rcases List.mem_cons.mp hd with e | hd
  · subst e; obtain ⟨fd, _, o⟩ := ok_tour_count X G c; exact ⟨_, _, _, fd, o⟩
  rcases List.mem_cons.mp hd with e | hd
  · subst e; obtain ⟨fd, _, o⟩ := ok_towards X G c; exact ⟨_, _, _, fd, o⟩
  rcases List.mem_cons.mp hd with e | hd
  · subst e; obtain ⟨fd, _, o⟩ := ok_tour X G c; exact ⟨_, _, _, fd, o⟩
  rcases List.mem_cons.mp hd with e | hd
  · subst e; obtain ⟨fd, _, o⟩ := ok_words_of X G c; exact ⟨_, _, _, fd, o⟩
  rcases List.mem_cons.mp hd with e | hd
  · subst e; obtain ⟨fd, _, o⟩ := ok_word_net X G c; exact ⟨_, _, _, fd, o⟩
  rcases List.mem_cons.mp hd with e | hd
  · subst e; obtain ⟨fd, _, o⟩ := ok_round_word X G c; exact ⟨_, _, _, fd, o⟩
  rcases List.mem_cons.mp hd with e | hd
  · subst e; obtain ⟨fd, _, o⟩ := ok_parts_round X G c; exact ⟨_, _, _, fd, o⟩
  rcases List.mem_cons.mp hd with e | hd
  · subst e; obtain ⟨fd, _, o⟩ := ok_is_round_word X G c; exact ⟨_, _, _, fd, o⟩
  rcases List.mem_cons.mp hd with e | hd
  · subst e; obtain ⟨fd, _, o⟩ := ok_round_count X G c; exact ⟨_, _, _, fd, o⟩
  rcases List.mem_cons.mp hd with e | hd
  · subst e; obtain ⟨fd, _, o⟩ := ok_least_round X G c; exact ⟨_, _, _, fd, o⟩
  rcases List.mem_cons.mp hd with e | hd
  · subst e; obtain ⟨fd, _, o⟩ := ok_place_of X G c; exact ⟨_, _, _, fd, o⟩
  rcases List.mem_cons.mp hd with e | hd
  · subst e; obtain ⟨fd, _, o⟩ := ok_u_law_cell X G c; exact ⟨_, _, _, fd, o⟩
  rcases List.mem_cons.mp hd with e | hd
  · subst e; obtain ⟨fd, _, o⟩ := ok_u_law_digits X G c; exact ⟨_, _, _, fd, o⟩
  rcases List.mem_cons.mp hd with e | hd
  · subst e; obtain ⟨fd, _, o⟩ := ok_u_law_draw X G c; exact ⟨_, _, _, fd, o⟩
  rcases List.mem_cons.mp hd with e | hd
  · subst e; obtain ⟨fd, _, o⟩ := ok_u_law_mixed X G c; exact ⟨_, _, _, fd, o⟩
  rcases List.mem_cons.mp hd with e | hd
  · subst e; obtain ⟨fd, _, o⟩ := ok_u_law_same X G c; exact ⟨_, _, _, fd, o⟩
  rcases List.mem_cons.mp hd with e | hd
  · subst e; obtain ⟨fd, _, o⟩ := ok_u_law_power X G c; exact ⟨_, _, _, fd, o⟩
  rcases List.mem_cons.mp hd with e | hd
  · subst e; obtain ⟨fd, _, o⟩ := ok_u_law_words X G c; exact ⟨_, _, _, fd, o⟩
  rcases List.mem_cons.mp hd with e | hd
  · subst e; obtain ⟨fd, _, o⟩ := ok_u_law_parts X G c; exact ⟨_, _, _, fd, o⟩
  rcases List.mem_cons.mp hd with e | hd
  · subst e; obtain ⟨fd, _, o⟩ := ok_u_law_round X G c; exact ⟨_, _, _, fd, o⟩
  rcases List.mem_cons.mp hd with e | hd
  · subst e; obtain ⟨fd, _, o⟩ := ok_u_law_greatest X G c; exact ⟨_, _, _, fd, o⟩
  rcases List.mem_cons.mp hd with e | hd
  · subst e; obtain ⟨fd, _, o⟩ := ok_u_law_count X G c; exact ⟨_, _, _, fd, o⟩
  rcases List.mem_cons.mp hd with e | hd
  · subst e; obtain ⟨fd, _, o⟩ := ok_u_law_judge X G c; exact ⟨_, _, _, fd, o⟩
  rcases List.mem_cons.mp hd with e | hd
  · subst e; obtain ⟨fd, _, o⟩ := ok_u_law_all X G c; exact ⟨_, _, _, fd, o⟩
  rcases List.mem_cons.mp hd with e | hd
  · subst e; obtain ⟨fd, _, o⟩ := ok_u_law_places X G c; exact ⟨_, _, _, fd, o⟩
  rcases List.mem_cons.mp hd with e | hd
  · subst e; obtain ⟨fd, _, o⟩ := ok_law X G c; exact ⟨_, _, _, fd, o⟩
  cases hd
end
end K80
open PySem PySem.W PySem.Calls PyProof.Rows Ev
theorem K80.holds (law : ∀ ns : List Int, ns.length ≤ 63 → runD (callF K80.T 39) K80.d_law [.ro (ns.map .int)] = some (.fr (.bool true), [])) : PySem.Challenge.rw_lendland_k80_whole_round_words.Holds := by
  w_on; o_law
  refine HandSHeadRun.head_any (r := K80.R) (q := K80.V0) (H := K80.hk) (ob := K80.ob) (M := 2000) (loose := K80.loose) (d := HandSHeadRun.topDef K80.R.prog 37) (kwd := []) K80.ob_eq
    (by kernel_rfl) (fun s => by kernel_rfl) K80.run (by kernel_rfl) (by kernel_rfl) (by kernel_rfl) (by rfl) (by first | assumption | decide +kernel) (by decide +kernel) ⟨rfl, rfl, rfl, rfl, rfl, by decide +kernel⟩ ?hw ?hc
  case hw => w_witness2
  case hc =>
    refine L2.walk_ofE (l := PySem.Challenge.rw_lendland_k80_whole_round_words) (n := 63) (k := 40) (x := "script") (CX := L2.CX0) rfl (by decide) (by kernel_rfl) ⟨rfl, by decide, by decide⟩ ?F (fun _ _ _ _ z => z)
    intro w mg fa h Y G hmg0
    obtain ⟨K, KX, c⟩ := Y
    letI : TheK := ⟨K⟩
    have hmg : mg ("law" : PySem.Str) = some (.ref fa) := by
      have e : (HandSHeadRun.topDef K80.R.prog 37).name = ("law" : PySem.Str) := by kernel_rfl
      rw [← e]
      exact hmg0
    have M : ModOk K mg false := Ev.mod_ok rfl KX G c (fun x hx => by
      obtain ⟨i, hi⟩ := List.mem_iff_getElem?.mp hx
      refine ⟨34 + i, ?_⟩
      unfold K80.fa
      rw [List.getElem?_append_right (by show 34 ≤ 34 + i; omega)]
      show (bltNames.map fun x => He.Fa.free (Str.ofString x))[34 + i - 34]? = _
      rw [Nat.add_sub_cancel_left, List.getElem?_map, hi]
      rfl)
    have TB := K80.tab KX G c
    obtain ⟨fd, hb, o⟩ := K80.ok_law KX G c
    have ea : fa = He.ga K (Str.ofString "law") := by
      have := hmg.symm.trans o.at_
      cases this
      rfl
    subst ea
    exact ⟨K, fd, spOf [.B] (runD (callF K80.T 39) K80.d_law), KX, fun s u => hb s [u] rfl, fun H a ns hl hO hS => law_sp rfl (Nat.le_trans hl (by decide)) hO hS (law ns hl), fun base _ _ => law_fn M TB o⟩

theorem PySem.Challenge.cw_lendland_k80_whole_round_words_holds : PySem.Challenge.rw_lendland_k80_whole_round_words.Holds := by
  exact K80.holds fun ns _ => K80.r_law 34 ns
