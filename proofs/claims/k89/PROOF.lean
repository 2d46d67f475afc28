import PyProof.Rows.All
import Wide.All
import OpenK.AllK
import Wide.FinOn
import PySem.Challenge.RW_lendland_k89_whole_colours_of_lanes
import HandS.Iter
import KE.GoesMore
import PyProof.Draws
import HandS.List
import HandS.Style
import HandS.SortInts
import HandS.ForMost
import HandS.Wide
import HandS.Deep
import HandS.Conv
import HandS.IsInst
import HandS.RaiseMore
import HandS.TupLe
import HandS.TupAny
import KE.DataCmp
import KE.SortData
import KE.DataMinMax
import HandS.RevRange
import HandS.Gcd
import KE.DataFind
import HandS.SetFor
import HandS.More
import HandS.Zip
import HandS.Rev
import HandS.SetBool
import HandS.Strs
import HandS.Dict
import HandS.Defaults
import HandS.Head0
import HandS.Head1
import HandS.Head2
import HandS.HeadEnd
import HandS.HeadHook1
import HandS.HeadHook2
import KE.KStateDown
import Lean
import HandS.Base
import HandS.Call
import HandS.Ends
set_option Elab.async false
set_option linter.all false
set_option maxRecDepth 100000
set_option maxHeartbeats 2000000
/-! EvT: enumerate over a tuple. -/
namespace PySem
open Sem (wp)
open AutoSeq1 (wpAny_loadPart')
theorem enT_new (l : Addr) (items : Array Value) (n : Nat) (dct : Option Addr) (sl : Array (Option Value)) :
    Meets (Builtin.«enumerate.__new__» ⟨[.type "enumerate", .ref l], []⟩) (fun _ R s => s.heap.get? l = some { cls := .type "tuple", dict := dct, data := .seq items n, slots := sl } ∧
      R (.ok (.ret (.ref (s.heap.push { cls := .type "tuple_iterator", data := .fields #[.ref l, .int 0 0] }).objs.size)))
        { s with heap := (s.heap.push { cls := .type "tuple_iterator", data := .fields #[.ref l, .int 0 0] }).push { cls := .type "enumerate", data := .fields #[.none, .bool false, .ref s.heap.objs.size, rawInt 0, .none, .none] } }) :=
  .of_wp fun prog w A R s h => by
    obtain ⟨hp, g, d, tk, os⟩ := s; obtain ⟨hl, h⟩ := h
    have hsub := sub_enumerate
    have hL : Heap.IsTuple (Shared.heap ⟨hp, g, d, tk, os⟩) l items := ⟨_, hl, rfl, n, rfl⟩
    wp_walk using wpAny_loadPart' hl
    refine wpAny_stack_any fun st => wpAny_pure ?_
    split
    · rename_i c _ _ _ _ _
      cases (c == Value.type "enumerate")
      · wp_walk using wpAny_loadPart' hl, wpAny_pyIter_tuple hL
        exact ⟨_, rfl, h⟩
      · wp_walk using wpAny_loadPart' hl, wpAny_pyIter_tuple hL
        exact ⟨_, rfl, h⟩
    · wp_walk using wpAny_loadPart' hl, wpAny_pyIter_tuple hL
      exact ⟨_, rfl, h⟩
section
variable {prog : Program} {w : World} {A : Around} {E : Value → Shared → Prop} {s : Shared}
theorem enT_call {l : Addr} {items : Array Value} {Q : Value → Shared → Prop} (hL : s.heap.IsTuple l items)
    (h : ∀ h', IsEnum h' (s.heap.objs.size + 1) s.heap.objs.size 0 .none → h'.IsTupleIter s.heap.objs.size l 0 → h'.objs.size = s.heap.objs.size + 2 →
      (∀ b o, s.heap.get? b = some o → h'.get? b = some o) → Q (.ref (s.heap.objs.size + 1)) { s with heap := h' }) :
    wpAny (model prog w) A (call (.type "enumerate") [.ref l]) Q E s := by
  obtain ⟨⟨c, dct, dt, sl⟩, hl, hc, n, hd⟩ := hL
  replace hc : c = .type "tuple" := hc
  replace hd : dt = .seq items n := hd
  subst hc hd
  refine callType_new F.called_enumerate (by decide) (F.typeCall_enumerate_1 _) (F.newCall_enumerate_1 _) (fun obj => F.args_object_init_2 obj _) F.entry_enumerate_new
    (enT_new l items n dct sl) ⟨hl, ?_⟩
  have hz : (s.heap.push { cls := .type "tuple_iterator", data := .fields #[.ref l, .int 0 0] }).objs.size = s.heap.objs.size + 1 := Heap.size_push ..
  show _ ∧ _
  rw [hz]
  have he : IsEnum ((s.heap.push { cls := .type "tuple_iterator", data := .fields #[.ref l, .int 0 0] }).push
      { cls := .type "enumerate", data := .fields #[.none, .bool false, .ref s.heap.objs.size, rawInt 0, .none, .none] }) (s.heap.objs.size + 1) s.heap.objs.size 0 .none := by
    have := Heap.get?_push_size (s.heap.push { cls := .type "tuple_iterator", data := .fields #[.ref l, .int 0 0] })
      (o := { cls := .type "enumerate", data := .fields #[.none, .bool false, .ref s.heap.objs.size, rawInt 0, .none, .none] }) rfl
    rw [hz] at this; exact this
  exact ⟨⟨_, he, rfl⟩, h _ he ⟨_, Heap.get?_push_of_some _ (Heap.get?_push_size _ rfl), rfl, rfl⟩ (by rw [Heap.size_push, hz]) fun b o x => Heap.get?_push_of_some _ (Heap.get?_push_of_some _ x)⟩
end
end PySem
namespace Ev
open PySem PySem.Spec PyProof.Rows L2
/-- the tuple at a as it stands at each turn, each item in a new pair -/
def IteT (K : PySem.W.Frag) (a : Addr) : It :=
  ⟨fun i H => ∃ (xs : List V) (x : V), SqT K H a xs ∧ xs[i]? = some x, fun i H v H' => ∃ T x, v = .ref T ∧ H T = none ∧ H' = upd H T (.tup [.int (i : Nat), x]) ∧ ∀ xs, SqT K H a xs → xs[i]? = some x, fun i H => ∃ xs : List V, SqT K H a xs ∧ xs.length ≤ i⟩
theorem enT_apart {h : Heap} {e it a : Addr} {c : Int} {old : Value} {i : Nat} {items : Array Value} (he : IsEnum h e it c old) (hi : h.IsTupleIter it a i) (ht : h.IsTuple a items) : e ≠ a ∧ a ≠ it := by
  obtain ⟨o, ho, hc, _⟩ := ht
  obtain ⟨o2, ho2, hc2, _⟩ := hi
  refine ⟨fun z => ?_, fun z => ?_⟩
  · subst z
    rw [he] at ho
    cases ho
    have hc : Value.type "enumerate" = Value.type "tuple" := hc
    injection hc with h1
    exact absurd h1 (by decide)
  · subst z
    rw [ho2] at ho
    cases ho
    rw [hc2] at hc
    injection hc with h1
    exact absurd h1 (by decide)
theorem turn_enumT {P : Program} {w : World} {K : PySem.W.Frag} {elts : List Expr} {kk : Nat} {tpos : Pos} (a e it : Addr) :
    Turn P w K (.Tuple elts kk tpos) (IteT K a) [e, it] e (fun i h => (∃ old, IsEnum h e it ((i : Nat) : Int) old) ∧ h.IsTupleIter it a i ∧ e ≠ it) where
  mem := by simp
  obj := fun i h st b hb => by
    obtain ⟨⟨old, he⟩, ⟨o, ho, hc, hd⟩, _⟩ := st
    have e' : b = e ∨ b = it := by simpa using hb
    rcases e' with z | z
    · rw [z]; exact ⟨_, he, fun v q => nomatch q⟩
    · rw [z]; exact ⟨o, ho, fun v q => by rw [hd] at q; cases q⟩
  keep := fun i h h' st k => let ⟨⟨old, he⟩, hi, hne⟩ := st; ⟨⟨old, k e (by simp) _ he⟩, hi.at fun o q => k it (by simp) o q, hne⟩
  item := by
    intro X hP hw hK hc i pins s σ H E I hf st hg
    subst hP hw hK
    obtain ⟨⟨old, he⟩, hit, hne⟩ := st
    obtain ⟨xs, x, hq, hx⟩ := hg
    obtain ⟨its, rv, p, hz⟩ := I.tuple hq
    obtain ⟨u, hu, ru⟩ := rv.get hx
    have hel : e < s.heap.objs.size := Heap.lt_size he
    have hil : it < s.heap.objs.size := by obtain ⟨_, q, _⟩ := hit; exact Heap.lt_size q
    have pt : s.heap.IsTuple a its.toArray := p
    obtain ⟨nea, nai⟩ := enT_apart he hit pt
    have hlt : i < its.toArray.size := by
      have := (List.getElem?_eq_some_iff.mp hu).1
      simpa using this
    have D := Draws.tuple (prog := X.prog) (w := X.w) (A := X.A.in1) (I.ok.hd hc) it a nai its.toArray
    refine wpAny_pyNext_enum_itemD D he ⟨hit, pt⟩ hlt hne (by simp [hne, nea]) fun x' h' tk hP ho st' hT hsz hk => ?_
    have ex : x' = u := by
      rw [show its.toArray[i]? = some u by simpa using hu] at hP
      cases hP; rfl
    subst ex
    refine ⟨_, rfl, wpAny_letOwnedTupleGo_enum (s := { s with heap := h', toks := tk + 1 }) ho fun h'' he' sb => ?_⟩
    have hT2 : h''.get? s.heap.objs.size = some { cls := .type "tuple", data := .seq #[.int i tk, x'] } := (sb.2 _ (Nat.ne_of_gt hel)).trans hT
    have new : ObjOk X.prog X.w (upd H s.heap.objs.size (.tup [.int (i : Nat), x])) h'' s.heap.objs.size (.tup [.int (i : Nat), x]) :=
      ⟨by show 2 ≤ sizeLine; decide, [.int i tk, x'], .cons ⟨_, rfl⟩ (.cons ru .nil), ⟨_, hT2, rfl, _, rfl⟩⟩
    have I1 : Inv X pins σ (upd H s.heap.objs.size (.tup [.int (i : Nat), x])) { s with heap := h'', toks := tk + 1 } :=
      I.turnedNew (ch := [e, it]) (fun b ob hb q => (sb.2 b (fun z => hb (by simp [z]))).trans (hk b ob (fun z => hb (by simp [z])) (fun z => hb (by simp [z])) q)) hf (Nat.le_refl _) new
    refine ⟨.ref s.heap.objs.size, _, I1, rfl, ⟨_, x, rfl, I.hok.fresh (Nat.le_refl _), rfl, fun ys hy => by rw [I.tuple_inj hy hq]; exact hx⟩, ⟨⟨x', ?_⟩, st'.1.at fun o q => (sb.2 it (Ne.symm hne)).trans q, hne⟩, fun b hb => ?_⟩
    · have e1 : ((i + 1 : Nat) : Int) = (i : Int) + 1 := by omega
      rw [e1]; exact he'
    · have hb' : b < s.heap.objs.size := by
        have e' : b = e ∨ b = it := by simpa using hb
        rcases e' with z | z
        · rw [z]; exact hel
        · rw [z]; exact hil
      rw [upd_ne (Nat.ne_of_lt hb')]
      exact (hf b hb).1
  done := by
    intro X hP hw hK hc i pins s σ H E I hf st hg
    subst hP hw hK
    obtain ⟨⟨old, he⟩, hit, hne⟩ := st
    obtain ⟨xs, hq, hx⟩ := hg
    obtain ⟨its, rv, p, hz⟩ := I.tuple hq
    have pt : s.heap.IsTuple a its.toArray := p
    obtain ⟨nea, nai⟩ := enT_apart he hit pt
    obtain ⟨f0, f1, f2, f3, f4, f5⟩ := hf it (by simp)
    have hl := rv.length
    have hT : s.TypeIs (.ref e) "enumerate" := ⟨_, he, rfl⟩
    unfold pyNext
    refine wpAny_bind (wpAny_attempt (wpAny_callSpecial?_slot (name := Str.ofString "__next__") hT F.slot_enumerate_next
      (wpAny_call_entry F.slot_enumerate_next hT F.entry_enumerate_next ?_ (F.args_enumerate_next_1 _))))
    show wpAny _ _ (field (.ref e) 2 >>= _) _ _ _
    refine wpAny_bind (wpAny_field he rfl (x := .ref it) rfl ?_)
    refine wpAny_bind (wpAny_nextOf_tuple_end (A := X.A.in1) (I.ok.hd hc) hit pt (by simp; omega) fun h' x he' hx' => ?_)
    obtain ⟨o, ho, hc'⟩ := hx'
    refine wpAny_bind (wpAny_isInstance (T := "StopIteration") (b := true) ⟨o, ho, hc'⟩ isSubtype_stop ?_)
    exact wpAny_pure ⟨rfl, I.turned (t' := s.toks) (fun b o hb q => he' b o hb q) f0 f1 f3 f4 f5⟩
  self := fun A i s Q E st h => let ⟨⟨_, he⟩, _⟩ := st; wpAny_pyIter_enum he h
/-- enumerate of a list or of a tuple -/
def iEnumA (K : PySem.W.Frag) (ta : TA) : TI := fun σ H R => ta σ H fun vs H1 => ∃ a xs, vs = [.ref a] ∧ ((SqL K H1 a xs ∧ R (Ite K a) H1) ∨ (SqT K H1 a xs ∧ R (IteT K a) H1))
theorem pi_enumA {X : Cx} {e : Expr} {ta : TA} {p pos tpos : Pos} {elts : List Expr} {kk : Nat} (hg : Gl X "enumerate") (hm : X.mg "enumerate" = none) (ha : PA X [e] ta) (hs : starEach [e] X.env = [(false, eval e X.env)]) :
    PI X (.Tuple elts kk tpos) (.Call (.Name "enumerate" p) [e] [] pos) (iEnumA X.K ta) := by
  refine ⟨fun pins s σ H R I h => ?_⟩
  refine Call_ (ld_blt I hg hm boot_enumerate (PyProof.Rows.callWith_type1 (thn (ha.run pos pins s σ H _ I h) fun us s1 ⟨vs, H1, I1, r1, q1⟩ => ?_) hs rfl))
  obtain ⟨a, xs, ex, q⟩ := q1
  subst ex
  cases r1 with
  | cons r rr =>
    cases rr
    cases r
    have fin : ∀ (h' : Heap), (∀ b ∈ [s1.heap.objs.size + 1, s1.heap.objs.size], s1.heap.objs.size ≤ b) := fun _ b hb => by
      have e' : b = s1.heap.objs.size + 1 ∨ b = s1.heap.objs.size := by simpa using hb
      rcases e' with z | z
      · rw [z]; exact Nat.le_add_right _ _
      · rw [z]; exact Nat.le_refl _
    rcases q with ⟨hq, q⟩ | ⟨hq, q⟩
    · obtain ⟨its, rv, p', hz⟩ := I1.list hq
      refine call_enumerate_list p'.isList fun h' he hit hsz hk => wpAny_pyIter_enum he ?_
      have I2 : Inv X pins σ H1 { s1 with heap := h' } := I1.kept (t' := s1.toks) hk
      exact ⟨s1.heap.objs.size + 1, [s1.heap.objs.size + 1, s1.heap.objs.size], _, _, H1, rfl, I2, turn_enum a (s1.heap.objs.size + 1) s1.heap.objs.size, ⟨⟨.none, he⟩, hit, Nat.succ_ne_self _⟩, fun b hb => I1.fpOk (fin h' b hb) (I1.hok.fresh (fin h' b hb)), q⟩
    · obtain ⟨its, rv, p', hz⟩ := I1.tuple hq
      refine enT_call (show s1.heap.IsTuple a its.toArray from p') fun h' he hit hsz hk => wpAny_pyIter_enum he ?_
      have I2 : Inv X pins σ H1 { s1 with heap := h' } := I1.kept (t' := s1.toks) hk
      exact ⟨s1.heap.objs.size + 1, [s1.heap.objs.size + 1, s1.heap.objs.size], _, _, H1, rfl, I2, turn_enumT a (s1.heap.objs.size + 1) s1.heap.objs.size, ⟨⟨.none, he⟩, hit, Nat.succ_ne_self _⟩, fun b hb => I1.fpOk (fin h' b hb) (I1.hok.fresh (fin h' b hb)), q⟩
end Ev

set_option maxRecDepth 100000
set_option maxHeartbeats 2000000
/-! EvU: sorted(a tuple of whole numbers); x[::-1] of a list or of a tuple. -/
namespace PyProof.Rows
open PySem PySem.Spec
section
variable {prog : Program} {w : World} {A : Around} {E : Value → Shared → Prop} {s : Shared}
theorem collectT {l : Addr} {vs : List Value} {Q : List Value → Shared → Prop} (hl : s.heap.IsTuple l vs.toArray)
    (h : Q vs { s with heap := (s.heap.push (seqObj "list" #[] 0)).update s.heap.objs.size (Obj.mapSeq (· ++ vs.toArray)) }) (hsz : vs.length ≤ sizeLine) :
    wpAny (model prog w) A (collect (.ref l)) Q E s := by
  obtain ⟨o, ho, hc, n, hd⟩ := id hl
  unfold collect
  refine wpAny_bind (wpAny_runValue (codeAny_builtin entry_proto_collect' ?_))
  show wpAny _ _ (do again (.builtin "list.__iadd__" ⟨[← newList [], .ref l], []⟩)) _ _ s
  refine wpAny_bind (wpAny_newList (wpAny_pure ⟨Code.quiet_builtin _ (by decide +kernel), codeAny_builtin entry_list_iadd' ?_⟩))
  show wpAny _ _ (Builtin.List.listExtendWith (.ref s.heap.objs.size) (.ref l) (.ref s.heap.objs.size)) _ _ { s with heap := s.heap.push (seqObj "list" #[] 0) }
  unfold Builtin.List.listExtendWith
  have ho' : (s.heap.push (seqObj "list" #[] 0)).get? l = some o := Heap.get?_push_of_some _ ho
  refine wpAny_bind (wpAny_typeOf (T := "tuple") ⟨o, ho', hc⟩ ?_)
  have ht : (Value.type "tuple" == Value.type "tuple") = true := by rfl
  rw [if_pos (by rw [ht]; simp)]
  refine wpAny_bind (listItems_at ho' hd ?_)
  refine wpAny_bind (listItems_at (xs := #[]) (n := 0) (Heap.get?_push_size _ rfl) rfl ?_)
  rw [if_neg (by simp)]
  refine wpAny_bind (listUpdate_at (xs := #[]) (n := 0) (Heap.get?_push_size _ rfl) rfl ?_ (Nat.zero_le _) (by show (#[] ++ vs.toArray).size ≤ sizeLine + 1; simp only [Array.size_append, List.size_toArray, List.length_nil]; omega))
  refine wpAny_pure ?_
  show wpAny (model prog w) A (do
      let o ← load s.heap.objs.size
      match o.data with
      | .seq xs _ => pure xs.toList
      | _ => unsupported "internal:collect") Q E { s with heap := (s.heap.push (seqObj "list" #[] 0)).update s.heap.objs.size (Obj.mapSeq (· ++ vs.toArray)) }
  refine wpAny_bind (wpAny_load (get?_update_seq (Heap.get?_push_size _ rfl) _) ?_)
  show wpAny _ _ (pure ((#[] : Array Value) ++ vs.toArray).toList) Q E _
  rw [show ((#[] : Array Value) ++ vs.toArray).toList = vs by simp]
  exact wpAny_pure h
end
end PyProof.Rows
namespace SrtO
open PySem PySem.Spec PyProof.Rows
section
variable {prog : Program} {w : World} {A : Around} {E : Value → Shared → Prop} {s : Shared}
theorem sortedT_ord {l : Addr} {vs : List Value} {ltv : Value → Value → Bool} {Q : Value → Shared → Prop} (O : Swo ltv) (hl : s.heap.IsTuple l vs.toArray) (hz : vs.length ≤ sizeLine)
    (hS : 2 ≤ vs.length → ∀ (h₁ : Heap) (a : Addr), h₁.get? a = some (seqObj "list" vs.toArray 0) → (∀ b o, s.heap.get? b = some o → b ≠ a ∧ h₁.get? b = some o) → SortableO prog w A.in1.in1 { s with heap := h₁ } a vs ltv)
    (h : ∀ out : List Value, Srtd ltv out → Stb ltv out vs → Q (.ref (s.heap.objs.size + 1)) { s with heap := sortedAll s.heap vs out.toArray }) :
    wpAny (model prog w) A (call (.builtin "sorted") [.ref l]) Q E s := by
  refine Calls.call_function_entry kind_sorted plain_sorted entry_sorted (args_sorted1 _) ?_
  unfold Builtin.«sorted»
  refine wpAny_bind (m := checkCount "sorted" 1 1 _) (wpAny_pure ?_)
  refine wpAny_bind (collectT hl ?_ hz)
  refine wpAny_bind (wpAny_newList ?_ hz)
  have hsz : ((s.heap.push (seqObj "list" #[] 0)).update s.heap.objs.size (Obj.mapSeq (· ++ vs.toArray))).objs.size = s.heap.objs.size + 1 := by
    rw [Heap.size_update, size_push']
  have hoL : (((s.heap.push (seqObj "list" #[] 0)).update s.heap.objs.size (Obj.mapSeq (· ++ vs.toArray))).push (seqObj "list" vs.toArray 0)).get? (s.heap.objs.size + 1) = some (seqObj "list" vs.toArray 0) := by
    rw [← hsz]; exact Heap.get?_push_size _ rfl
  have keep : ∀ b o, s.heap.get? b = some o → b ≠ s.heap.objs.size + 1 ∧ (((s.heap.push (seqObj "list" #[] 0)).update s.heap.objs.size (Obj.mapSeq (· ++ vs.toArray))).push (seqObj "list" vs.toArray 0)).get? b = some o := fun b o q => by
    have hlt : b < s.heap.objs.size := Heap.lt_size q
    refine ⟨Nat.ne_of_lt (Nat.lt_succ_of_lt hlt), Heap.get?_push_of_some _ ?_⟩
    rw [Heap.get?_update_ne _ _ _ _ (Nat.ne_of_lt hlt)]
    exact Heap.get?_push_of_some _ q
  show wpAny _ _ _ _ _ { s with heap := ((s.heap.push (seqObj "list" #[] 0)).update s.heap.objs.size (Obj.mapSeq (· ++ vs.toArray))).push (seqObj "list" vs.toArray 0) }
  rw [hsz]
  refine wpAny_bind (wpAny_holding (wpAny_call_entry slot_list_sort ⟨_, hoL, rfl⟩ entry_list_sort (list_sort_ord O hoL hz (fun h2 => hS h2 _ _ hoL keep) fun out hs hb => ⟨_, rfl, ?_⟩) (args_list_sort _)))
  exact wpAny_pure ⟨_, rfl, h out hs hb⟩
end
end SrtO
namespace HT
open PySem PySem.Spec PyProof.Rows L2
section
variable {prog : Program} {w : World} {A : Around} {E : Value → Shared → Prop} {s : Shared}
theorem revApplied {sl : Addr} {vl vu vs : Value} {n : Nat} {Q : Int × Int × Nat → Shared → Prop} (hs : s.heap.IsSliceOf sl vl vu vs) (pl : IsPart vl none) (pu : IsPart vu none) (ps : IsPart vs (some (-1)))
    (h : Q ((n : Int) - 1, -1, n) s) : wpAny (model prog w) A (Builtin.Slice.sliceApplied (.ref sl) (pure (n : Int))) Q E s := by
  obtain ⟨os, hos, hcs, hds⟩ := id hs
  unfold Builtin.Slice.sliceApplied Builtin.Slice.sliceFields
  refine wpAny_bind (wpAny_bind (wpAny_field hos hds (x := vl) rfl (wpAny_bind (wpAny_field hos hds (x := vu) rfl (wpAny_bind (wpAny_field hos hds (x := vs) rfl (wpAny_pure ?_)))))))
  refine wpAny_bind (slicePart_ ps ?_)
  show wpAny _ _ (if ((-1 : Int) == 0) = true then _ else _) _ _ s
  rw [if_neg (by decide)]
  refine wpAny_bind (slicePart_ pl (wpAny_bind (slicePart_ pu (wpAny_bind (wpAny_pure ?_)))))
  show wpAny _ _ (match Builtin.Slice.sliceAdjust none none (-1) (n : Int) with | (lo, hi) => pure (lo, (-1 : Int), Builtin.Slice.slicePlaces lo hi (-1))) _ _ s
  have e : Builtin.Slice.sliceAdjust none none (-1) (n : Int) = ((n : Int) - 1, -1) := rfl
  rw [e]
  show wpAny _ _ (pure ((n : Int) - 1, (-1 : Int), Builtin.Slice.slicePlaces ((n : Int) - 1) (-1) (-1))) _ _ s
  have e2 : Builtin.Slice.slicePlaces ((n : Int) - 1) (-1) (-1) = n := by
    unfold Builtin.Slice.slicePlaces
    have h1 : ¬ ((-1 : Int) > 0) := by omega
    simp only [h1, if_false]
    have h2 : (-(-1 : Int)) = 1 := rfl
    rw [h2, Int.ediv_one]
    split <;> omega
  rw [e2]
  exact wpAny_pure h
theorem pick_rev (xs : List Value) : (List.range xs.length).filterMap (fun (m : Nat) => xs.toArray[((xs.length : Int) - 1 + (m : Int) * (-1)).toNat]?) = xs.reverse := by
  have e : ∀ m, m ∈ List.range xs.length → xs.toArray[((xs.length : Int) - 1 + (m : Int) * (-1)).toNat]? = some (xs.reverse.getD m Value.none) := by
    intro m hm
    have hm : m < xs.length := by simpa using hm
    have h1 : ((xs.length : Int) - 1 + (m : Int) * (-1)).toNat = xs.length - 1 - m := by omega
    rw [h1]
    have h2 : xs.length - 1 - m < xs.length := by omega
    have h3 : m < xs.reverse.length := by simpa using hm
    rw [List.getD_eq_getElem?_getD, List.getElem?_eq_getElem h3, Option.getD_some, List.getElem_reverse]
    simp [h2]
  have e2 : (List.range xs.length).filterMap (fun (m : Nat) => xs.toArray[((xs.length : Int) - 1 + (m : Int) * (-1)).toNat]?) = (List.range xs.length).map fun m => xs.reverse.getD m Value.none := by
    have gen : ∀ (l : List Nat) (f : Nat → Option Value) (g : Nat → Value), (∀ m, m ∈ l → f m = some (g m)) → l.filterMap f = l.map g := by
      intro l f g
      induction l with
      | nil => intro _; rfl
      | cons a l ih => intro h; rw [List.filterMap_cons, h a (by simp), List.map_cons, ih fun m hm => h m (by simp [hm])]
    exact gen _ _ _ e
  rw [e2]
  apply List.ext_getElem
  · simp
  · intro i h1 h2
    have : i < xs.length := by simpa using h1
    simp [this]
theorem getItem_tuple_rev {t sl : Addr} {its : List Value} {vl vu vs : Value} {Q : Value → Shared → Prop} (ht : IsTup s.heap t its.toArray) (hs : s.heap.IsSliceOf sl vl vu vs) (pl : IsPart vl none) (pu : IsPart vu none) (ps : IsPart vs (some (-1)))
    (h : Q (.ref s.heap.objs.size) { s with heap := s.heap.push { cls := .type "tuple", data := .seq its.reverse.toArray } })
    (hsz : its.length ≤ sizeLine) : wpAny (model prog w) A (getItem (.ref t) (.ref sl)) Q E s := by
  have htake : sizeOk (.seq its.reverse.toArray) := by
    show its.reverse.toArray.size ≤ sizeLine
    rw [List.size_toArray, List.length_reverse]; exact hsz
  obtain ⟨os, hos, hcs, hds⟩ := id hs
  have hTs : s.TypeIs (.ref sl) "slice" := ⟨os, hos, hcs⟩
  unfold getItem
  try with_reducible refine wpAny_holding ?_
  first | refine wpAny_bind (wpAny_pure ?_) | skip
  refine wpAny_bind (wpAny_sequenceKey ht.typeIs (by decide) ?_)
  refine wpAny_bind (wpAny_callSpecial?_slot (name := Str.ofString "__getitem__") ht.typeIs PyProof.Rows.slot_tuple_getitem
    (wpAny_call_entry PyProof.Rows.slot_tuple_getitem ht.typeIs entry_tuple_getitem ?_ (args_tuple_getitem _ _)))
  show wpAny _ _ (Builtin.Tuple.tupleItemsOf (.ref t) >>= _) _ _ s
  refine wpAny_bind (tupleItemsOf_ ht ?_)
  refine wpAny_bind (wpAny_typeOf hTs ?_)
  rw [if_pos (by decide)]
  rw [show its.toArray.size = its.length by simp]
  refine wpAny_bind (revApplied (n := its.length) hs pl pu ps ?_)
  have hno : ¬ ((((its.length : Int) - 1) == 0 && (-1 : Int) == 1 && its.length == its.length) = true) := by
    intro q
    rw [Bool.and_eq_true, Bool.and_eq_true] at q
    exact absurd q.1.2 (by decide)
  show wpAny _ _ (if (((its.length : Int) - 1) == 0 && (-1 : Int) == 1 && its.length == its.length) = true then _ else _) _ _ s
  rw [if_neg hno, pick_rev]
  first
    | exact wpAny_bind (m := Builtin.Tuple.tupleExact _) (wpAny_newObj_type (wpAny_pure ⟨_, rfl, wpAny_pure h⟩) htake)
    | exact wpAny_bind (m := Builtin.Tuple.tupleExact _) (wpAny_newObj_type (wpAny_bind (wpAny_pure (wpAny_pure ⟨_, rfl, wpAny_pure h⟩))) htake)
    | exact wpAny_bind (wpAny_bind (m := Builtin.Tuple.tupleExact _) (wpAny_newObj_type (wpAny_pure (wpAny_pure ⟨_, rfl, wpAny_pure h⟩)) htake))
    | exact wpAny_bind (wpAny_bind (m := Builtin.Tuple.tupleExact _) (wpAny_newObj_type (wpAny_pure ⟨_, rfl, wpAny_pure h⟩) htake))
end
end HT
namespace Ev
open PySem PySem.Spec PyProof.Rows L2
section
variable {X : Cx}
/-- sorted(xs), a list or a tuple of ints -/
def rSortedA (K : PySem.W.Frag) : List V → Hp → VK → Prop := fun vs H Q => ∃ (a : Addr) (ns : List Int), vs = [V.ref a] ∧ (SqL K H a (ns.map V.int) ∨ SqT K H a (ns.map V.int)) ∧
  ∀ (ns' : List Int) (p : Addr), ns'.Perm ns → ns'.Pairwise (· ≤ ·) → H p = none → Q (.ref p) (upd H p (.lst (ns'.map V.int)))
theorem cr_sortedA : CallR X (.builtin "sorted") (rSortedA X.K) := by
  intro pins s σ H vs us Q I r h
  obtain ⟨a, ns, rfl, hs | hs, q⟩ := h
  · exact cr_sortedI pins s σ H _ us Q I r ⟨a, ns, rfl, hs, q⟩
  · obtain ⟨its, rv, hl, hz⟩ := I.tuple hs
    rw [Vals.ref1 r]
    have hi := rv.ints
    refine SrtO.sortedT_ord SrtO.swo_int (show s.heap.IsTuple a its.toArray from hl) (by rw [← rv.length]; exact hz) (fun h2 h₁ a' _ _ => SrtO.ints_sortable hi h2) fun out h1 h2 => ?_
    obtain ⟨k1, k2, k3⟩ := SrtO.ints_out hi h1 h2
    obtain ⟨ep, he'⟩ := PyProof.Rows.sortedAll_at s.heap its out.toArray
    have hlen : ((out.map SrtO.iv).map V.int).length ≤ sizeLine := by
      rw [List.length_map, k2.length_eq]
      rw [List.length_map] at hz
      exact hz
    exact ⟨.ref _, upd H (s.heap.objs.size + 1) (.lst ((out.map SrtO.iv).map V.int)), I.laid (t' := s.toks) (fun _ _ => PyProof.Rows.sortedAll_old) (Nat.le_succ _) ⟨hlen, out, ep, vals_of_ints k1, he'⟩, rfl, q _ _ k2 k3 (I.hok.fresh (Nat.le_succ _))⟩
/-- x[::-1] -/
def tRevA (K : PySem.W.Frag) (te : TE) : TE := fun σ H Q => te σ H fun x H1 => ∃ a xs, x = .ref a ∧ ((SqL K H1 a xs ∧ ∀ p, H1 p = none → Q (.ref p) (upd H1 p (.lst xs.reverse))) ∨ (SqT K H1 a xs ∧ ∀ p, H1 p = none → Q (.ref p) (upd H1 p (.tup xs.reverse))))
theorem pe_revA {e : Expr} {te : TE} {k : Nat} {p1 p2 p3 pos : Pos} (he : PE X e te) : PE X (.Subscript e (.Slice none none (some (.UnaryOp .USub (.Constant (.int 1) k p1) p2)) p3) pos) (tRevA X.K te) := by
  refine ⟨fun pins s σ H Q I h => ?_⟩
  refine Subscript_ (thn (he.run pins s σ H _ I h) fun v s1 ⟨x, H1, I1, r1, q1⟩ => ?_)
  obtain ⟨a, xs, ex, q⟩ := q1
  subst ex
  cases r1
  have hst : PO X (some (.UnaryOp .USub (.Constant (.int 1) k p1) p2)) (tPart (tUn (rU fun i => .int (-i)) (tC (.int 1)))) := po_some (pe_un un_neg pe_int)
  refine wpAny_Slice (thn (po_none.run pins s1 σ H1 (fun o H2 => o = none ∧ H2 = H1) I1 ⟨rfl, rfl⟩) fun vl s2 ⟨l, H2, I2, pl, el, e2⟩ => ?_)
  subst el e2
  refine thn (po_none.run pins s2 σ H2 (fun o H3 => o = none ∧ H3 = H2) I2 ⟨rfl, rfl⟩) fun vu s3 ⟨u, H3, I3, pu, eu, e3⟩ => ?_
  subst eu e3
  refine thn (hst.run pins s3 σ H3 (fun o H4 => o = some (-1) ∧ H4 = H3) I3 ⟨1, rfl, -1, rfl, rfl, rfl⟩) fun vs s4 ⟨o, H4, I4, ps, eo, e4⟩ => ?_
  subst eo e4
  have I5 : Inv X pins σ H4 { s4 with heap := s4.heap.push { cls := .type "slice", data := .fields #[vl, vu, vs] } } := I4.kept (t' := s4.toks) fun b ob q => Heap.get?_push_of_some _ q
  show wpAny (model X.prog X.w) X.A (subscriptTail e (.Slice none none (some (.UnaryOp .USub (.Constant (.int 1) k p1) p2)) p3) (.ref a) (.ref s4.heap.objs.size)) (EP X pins σ Q) X.xe { s4 with heap := s4.heap.push { cls := .type "slice", data := .fields #[vl, vu, vs] } }
  rcases q with ⟨hx, q⟩ | ⟨hx, q⟩
  · obtain ⟨its, r, ht, hz⟩ := I5.list hx
    have hlen := r.length
    refine tail_any (ops := [.ref a, .ref s4.heap.objs.size]) ht.isList.typeIs (PySem.slot_list_getitem.lookup) ?_ (by with_unfolding_all rfl)
    refine wpAny_getItem_list_slice ht.isList (Heap.IsSliceOf.new _ vl vu vs) pl pu ps (by decide) ?_ (by rw [List.size_toArray]; omega)
    rw [PySem.W.krv_pick]
    refine ⟨.ref _, _, I5.laid (t' := s4.toks) (o := .lst xs.reverse) (fun b ob q => Heap.get?_push_of_some _ q) (Nat.le_refl _) ?_, rfl, q _ (I5.hok.fresh (Nat.le_refl _))⟩
    exact ⟨by rw [List.length_reverse]; exact hz, _, 0, r.reverse, Heap.get?_push_size _ rfl⟩
  · obtain ⟨its, r, ht, hz⟩ := I5.tuple hx
    have hlen := r.length
    refine tail_any (ops := [.ref a, .ref s4.heap.objs.size]) ht.typeIs (PyProof.Rows.slot_tuple_getitem.lookup) ?_ (by with_unfolding_all rfl)
    refine HT.getItem_tuple_rev ht (Heap.IsSliceOf.new _ vl vu vs) pl pu ps ?_ (by omega)
    refine ⟨.ref _, _, I5.laid (t' := s4.toks) (o := .tup xs.reverse) (fun b ob q => Heap.get?_push_of_some _ q) (Nat.le_refl _) ?_, rfl, q _ (I5.hok.fresh (Nat.le_refl _))⟩
    exact ⟨by rw [List.length_reverse]; exact hz, _, r.reverse, IsTup.new _ _⟩
end
end Ev

set_option maxRecDepth 100000
/-! Ev1: the IR, the data, the evaluator with value semantics. -/
namespace Ev
open PySem L2
/-- the written part of the program that is walked -/
class TheK where
  K : PySem.W.Frag

abbrev D := PyData

/-- what an expression gives: frozen data, or a list that nobody else holds -/
inductive Res where
  | fr (d : D)
  | nw (ds : List D)
def Res.d : Res → D
  | .fr d => d
  | .nw ds => .list ds

/-- a local name: unset; frozen data; a list of its own; the same while a loop walks it; a borrowed list; a list parameter that may be changed -/
inductive Slot where
  | un
  | fz (d : D)
  | own (ds : List D)
  | lent (ds : List D)
  | bor (ds : List D)
  | mu (ds : List D)
  | ro (ds : List D)
  | dct (kvs : List (Int × D))
abbrev Env := List Slot
def Slot.d? : Slot → Option D
  | .un => none
  | .fz d => some d
  | .own ds => some (.list ds)
  | .lent ds => some (.list ds)
  | .bor ds => some (.list ds)
  | .mu ds => some (.list ds)
  | .ro _ => none
  | .dct _ => none
/-- .. also the script's list, which is only indexed, measured and walked -/
def Slot.dr? : Slot → Option D
  | .ro ds => some (.list ds)
  | s => s.d?

inductive Bop where
  | add | sub | mul | fdiv | mod | pow
  deriving DecidableEq
inductive Cop where
  | eq | ne | lt | le | gt | ge | inn | nin | is | isn
  deriving DecidableEq
/-- builtins that take values and change nothing -/
inductive Blt where
  | abs | int | str | repr | sum | max | min | max2 | min2 | all | any | sorted | list | tuple | gcd
  deriving DecidableEq
/-- methods that change nothing -/
inductive Mth where
  | count | index
  deriving DecidableEq
/-- methods that change a list -/
inductive Cth where
  | append | pop | popAt | insert | extend | remove | reverse
  deriving DecidableEq
inductive Ty where
  | int | bool | str | tuple | list
  deriving DecidableEq

mutual
inductive T where
  | name (i : Nat)
  | tup (ts : Ts)
inductive Ts where
  | nil
  | cons (t : T) (ts : Ts)
end

mutual
inductive E where
  | var (i : Nat) | int (n : Int) | bl (b : Bool) | non | str (s : String)
  | bin (o : Bop) (a b : E) | neg (a : E) | no (a : E)
  | cmp (o : Cop) (a b : E) | cmp2 (o p : Cop) (a b c : E)
  | and (a b : E) | or (a b : E) | ite (c a b : E)
  | idx (a i : E) | slc (a : E) (lo hi : OE) | rvs (a : E)
  | dget (i : Nat) (k : E) | din (neg : Bool) (i : Nat) (k : E)
  | tup (es : Es) | lst (es : Es)
  | comp (elt : E) (t : T) (it : Wk) (c : OE) (vs : List Nat)
  | comp2 (elt : E) (t : T) (it : Wk) (c0 : OE) (t1 : T) (it1 : Wk) (c : OE) (vs vs1 : List Nat)
  | setc (srt : Bool) (elt : E) (t : T) (it : Wk) (c : OE) (vs : List Nat)
  | call (f : String) (es : Es)
  | pcall (f : String) (es : Es)
  | blt (b : Blt) (es : Es)
  | isi (a : E) (t : Ty)
  | len (a : E)
  | rngs (t : Bool) (it : Wk)
  | meth (m : Mth) (o a : E)
  | chg (m : Cth) (i : Nat) (es : Es)
inductive OE where
  | none
  | some (e : E)
inductive Wk where
  | seq (e : E) | rng1 (a : E) | rng2 (a b : E) | enm (a : E) | zip (a b : E) | rev (a : E) | rrng1 (a : E) | rrng2 (a b : E) | dwn (a b : E)
inductive Es where
  | nil
  | cons (e : E) (es : Es)
end

mutual
inductive S where
  | asg (t : T) (e : E)
  | par (i j : Nat) (a b : E)
  | aug (o : Bop) (i : Nat) (e : E)
  | setIx (i : Nat) (ix e : E)
  | dnew (i : Nat) (k v : E) | dput (i : Nat) (k v : E) | rse
  | augIx (o : Bop) (i : Nat) (ix e : E)
  | ex (e : E)
  | ret (e : E) | retN | brk | cont | pass
  | ife (c : E) (a b : Ss)
  | whl (fuel : Nat) (c : E) (b : Ss)
  | forr (t : T) (it : Wk) (b : Ss)
inductive Ss where
  | nil
  | cons (s : S) (ss : Ss)
end

/-! ### operations on data -/
def isFlat : D → Bool
  | .none | .bool _ | .int _ | .str _ => true
  | _ => false
def intOf : D → Option Int
  | .int i => some i
  | _ => none
def boolOf : D → Option Bool
  | .bool b => some b
  | _ => none
def seqOf : D → Option (List D)
  | .list ds => some ds
  | .tuple ds => some ds
  | _ => none
def allInts : List D → Option (List Int)
  | [] => some []
  | .int i :: r => (allInts r).map (i :: ·)
  | _ :: _ => none
def allBools : List D → Option (List Bool)
  | [] => some []
  | .bool i :: r => (allBools r).map (i :: ·)
  | _ :: _ => none

instance {i j : Int} : Decidable (CMul i j) := by unfold CMul; exact inferInstance
instance {i j : Int} : Decidable (CMulW i j) := by unfold CMulW; exact inferInstance
instance {i j : Int} : Decidable (CPow i j) := by unfold CPow; exact inferInstance
def dBin : Bop → D → D → Option Res
  | .add, .int i, .int j => some (.fr (.int (i + j)))
  | .add, .str x, .str y => if x.length + y.length ≤ sizeLine then some (.fr (.str (x ++ y))) else none
  | .add, .list x, .list y => if x.length + y.length ≤ sizeLine then some (.nw (x ++ y)) else none
  | .add, .tuple x, .tuple y => if x.length + y.length ≤ sizeLine then some (.fr (.tuple (x ++ y))) else none
  | .sub, .int i, .int j => some (.fr (.int (i - j)))
  | .mul, .int i, .int j => if CMul i j ∨ CMulW i j then some (.fr (.int (i * j))) else none
  | .mul, .list x, .int j => if -(2 ^ 63) ≤ j ∧ j < 2 ^ 63 ∧ x.length * j.toNat ≤ sizeLine then some (.nw (List.replicate j.toNat x).flatten) else none
  | .fdiv, .int i, .int j => if j ≠ 0 ∧ j.natAbs.log2 < 9000 then some (.fr (.int (i.fdiv j))) else none
  | .mod, .int i, .int j => if j ≠ 0 then some (.fr (.int (i.fmod j))) else none
  | .pow, .int i, .int j => if CPow i j then some (.fr (.int (i ^ j.toNat))) else none
  | _, _, _ => none

def maxI : Int → List Int → Int
  | m, [] => m
  | m, x :: r => maxI (if x > m then x else m) r
def minI : Int → List Int → Int
  | m, [] => m
  | m, x :: r => minI (if x < m then x else m) r
def insI (x : Int) : List Int → List Int
  | [] => [x]
  | y :: r => if x ≤ y then x :: y :: r else y :: insI x r
def sortI : List Int → List Int
  | [] => []
  | x :: r => insI x (sortI r)
def lexLtI : List Int → List Int → Bool := HT.lexLt
/-! the order of data that are alike -/
def ordOk (d e : D) : Bool := PySem.W.alike d e && decide (min d.depth e.depth ≤ 60) && (match d with | .none => false | _ => true)
def ordC (d e : D) (b : Bool) : Option Bool := if ordOk d e = true then some b else none
def insD (x : D) : List D → List D
  | [] => [x]
  | y :: r => if PySem.W.dataLt y x = true then y :: insD x r else x :: y :: r
def sortD : List D → List D
  | [] => []
  | x :: r => insD x (sortD r)
def notTupD : D → Bool
  | .tuple _ => false
  | .none => false
  | _ => true
def tupD1 : D → Bool
  | .tuple (_ :: _) => true
  | _ => false
def alikeB (xs : List D) : Bool := xs.all fun d => xs.all fun e => PySem.W.alike d e
def sortOk (xs : List D) : Bool := alikeB xs && (xs.all fun d => decide (d.depth ≤ 60)) && (xs.all tupD1 || xs.all notTupD)
def sortG (xs : List D) : Option Res := if sortOk xs = true then some (.nw (sortD xs)) else none
def mmOk (xs : List D) : Bool := alikeB xs && decide (PyData.depthAll xs ≤ 60) && (xs.all fun d => match d with | .none => false | _ => true)
def srtR : Option (List Int) → List D → Option Res
  | some ns, _ => some (.nw ((sortI ns).map .int))
  | none, xs => sortG xs
def mxR : Option (List Int) → List D → Option Res
  | some [], _ => none
  | some (x :: r), _ => some (.fr (.int (maxI x r)))
  | none, [] => none
  | none, x :: r => if mmOk (x :: r) = true then some (.fr (PySem.W.maxD x r)) else none
def mnR : Option (List Int) → List D → Option Res
  | some [], _ => none
  | some (x :: r), _ => some (.fr (.int (minI x r)))
  | none, [] => none
  | none, x :: r => if mmOk (x :: r) = true then some (.fr (PySem.W.minD x r)) else none
def dCmp : Cop → D → D → Option Bool
  | .lt, .int i, .int j => some (decide (i < j))
  | .le, .int i, .int j => some (decide (i ≤ j))
  | .gt, .int i, .int j => some (decide (j < i))
  | .ge, .int i, .int j => some (decide (j ≤ i))
  | .lt, d, e => ordC d e (PySem.W.dataLt d e)
  | .gt, d, e => ordC d e (PySem.W.dataLt e d)
  | .le, d, e => ordC d e (!PySem.W.dataLt e d)
  | .ge, d, e => ordC d e (!PySem.W.dataLt d e)
  | .eq, d, e => if SeqAt.shaped d && SeqAt.shaped e then some (PyData.eqv d e) else none
  | .ne, d, e => if SeqAt.shaped d && SeqAt.shaped e then some (!PyData.eqv d e) else none
  | .inn, d, .list ds => if SeqAt.shaped d && SeqAt.shaped (.list ds) then some (ds.any fun z => PyData.eqv z d) else none
  | .nin, d, .list ds => if SeqAt.shaped d && SeqAt.shaped (.list ds) then some (!ds.any fun z => PyData.eqv z d) else none
  | .inn, d, .tuple ds => if isFlat d && ds.all isFlat then some (ds.any fun z => PyData.eqv z d) else none
  | .nin, d, .tuple ds => if isFlat d && ds.all isFlat then some (!ds.any fun z => PyData.eqv z d) else none
  | .is, d, .none => some (match d with | .none => true | _ => false)
  | .isn, d, .none => some (match d with | .none => false | _ => true)
  | .is, d, .bool b => some (match d with | .bool c => b == c | _ => false)
  | .isn, d, .bool b => some (match d with | .bool c => b != c | _ => true)
  | _, _, _ => none

def dIdx : D → D → Option D
  | .list xs, .int i => atI xs i
  | .tuple xs, .int i => atI xs i
  | .str z, .int i => if z.length ≤ sizeLine then (atI z.cps.toList i).map fun c => .str ⟨#[c]⟩ else none
  | _, _ => none
def cutD (xs : List D) (lo hi : Option Int) : List D := (xs.drop (HT.sIx xs.length 0 lo)).take (HT.sIx xs.length xs.length hi - HT.sIx xs.length 0 lo)
def dSlc : D → Option Int → Option Int → Option Res
  | .list xs, lo, hi => some (.nw (cutD xs lo hi))
  | .tuple xs, lo, hi => some (.fr (.tuple (cutD xs lo hi)))
  | .str z, lo, hi => if z.length ≤ sizeLine then some (.fr (.str (cutS z lo hi))) else none
  | _, _, _ => none

def dRev : D → Option Res
  | .list xs => some (.nw xs.reverse)
  | .tuple xs => some (.fr (.tuple xs.reverse))
  | _ => none
def dLen : D → Option D
  | .list xs => some (.int xs.length)
  | .tuple xs => some (.int xs.length)
  | .str z => if z.length ≤ sizeLine then some (.int z.length) else none
  | _ => none
def dBlt : Blt → List D → Option Res
  | .abs, [.int i] => some (.fr (.int i.natAbs))
  | .int, [.int i] => some (.fr (.int i))
  | .int, [.bool b] => some (.fr (.int (if b then 1 else 0)))
  | .str, [.int i] => if i.natAbs.log2 < 1920 then some (.fr (.str (toString i))) else none
  | .repr, [.int i] => if i.natAbs.log2 < 1920 then some (.fr (.str (toString i))) else none
  | .sum, [.list xs] => (allInts xs).map fun ns => .fr (.int ns.sum)
  | .max, [.list xs] => mxR (allInts xs) xs
  | .min, [.list xs] => mnR (allInts xs) xs
  | .max, [.tuple xs] => mxR (allInts xs) xs
  | .min, [.tuple xs] => mnR (allInts xs) xs
  | .max2, [.int i, .int j] => some (.fr (.int (if j > i then j else i)))
  | .min2, [.int i, .int j] => some (.fr (.int (if j < i then j else i)))
  | .all, [.list xs] => (allBools xs).map fun bs => .fr (.bool (bs.all id))
  | .any, [.list xs] => (allBools xs).map fun bs => .fr (.bool (bs.any id))
  | .sorted, [.list xs] => srtR (allInts xs) xs
  | .sorted, [.tuple xs] => (allInts xs).map fun ns => .nw ((sortI ns).map .int)
  | .list, [.list xs] => some (.nw xs)
  | .list, [.tuple xs] => some (.nw xs)
  | .tuple, [.list xs] => some (.fr (.tuple xs))
  | .tuple, [.tuple xs] => some (.fr (.tuple xs))
  | .gcd, [.int a, .int b] => some (.fr (.int (Nat.gcd a.natAbs b.natAbs : Nat)))
  | _, _ => none

def pairD (xs ys : List D) : List D := (xs.zip ys).map fun p => .tuple [p.1, p.2]
def enumD (xs : List D) : List D := xs.zipIdx.map fun p => .tuple [.int (p.2 : Nat), p.1]
def rngD (a b : Int) : List D := (List.range (b - a).toNat).map fun (i : Nat) => .int (a + i)
def dwnD (a b : Int) : List D := (List.range (a - b).toNat).map fun (i : Nat) => .int (a - i)
def tyIs : Ty → D → Bool
  | .int, .int _ => true
  | .int, .bool _ => true
  | .bool, .bool _ => true
  | .str, .str _ => true
  | .tuple, .tuple _ => true
  | .list, .list _ => true
  | _, _ => false

def countD (d : D) (xs : List D) : Nat := (xs.filter fun z => PyData.eqv z d).length
def indexD (d : D) : List D → Option Nat
  | [] => none
  | x :: r => if PyData.eqv x d then some 0 else (indexD d r).map (· + 1)
def dMth : Mth → D → D → Option D
  | .count, .list xs, .int i => (allInts xs).map fun ns => .int (ns.count i)
  | .index, .list xs, d => if SeqAt.shaped d && SeqAt.shaped (.list xs) then (indexD d xs).map fun n => .int n else none
  | _, _, _ => none
/-- the list behind a change, and the answer -/
def dChg : Cth → List D → List D → Option (List D × D)
  | .append, xs, [d] => if xs.length < sizeLine then some (xs ++ [d], .none) else none
  | .pop, xs, [] => match xs.getLast? with | none => none | some z => some (xs.dropLast, z)
  | .popAt, xs, [.int i] => (ixN xs.length i).bind fun j => (xs[j]?).map fun z => (xs.eraseIdx j, z)
  | .insert, xs, [.int i, d] => if 0 ≤ i ∧ i < 2 ^ 63 ∧ xs.length < sizeLine then some (xs.take i.toNat ++ [d] ++ xs.drop i.toNat, .none) else none
  | .extend, xs, [.list ys] => if xs.length + ys.length ≤ sizeLine then some (xs ++ ys, .none) else none
  | .remove, xs, [d] => if SeqAt.shaped d && SeqAt.shaped (.list xs) then (indexD d xs).map fun j => (xs.eraseIdx j, .none) else none
  | .reverse, xs, [] => some (xs.reverse, .none)
  | _, _, _ => none

/-- the different ones -/
def dd : List Int → List Int
  | [] => []
  | x :: r => if x ∈ r then dd r else x :: dd r
/-- a set of whole numbers, sorted or measured -/
def setR (srt : Bool) (r : List D) : Option Res := match allInts r with
  | none => none
  | some ns => if ns.length < 4095 then (match srt with
    | true => if (dd ns).length < 64 then some (.nw ((sortI (dd ns)).map .int)) else none
    | false => some (.fr (.int ((dd ns).length : Nat)))) else none

/-! ### the evaluator -/
inductive PK where
  | B | I | M
  deriving DecidableEq
abbrev Fn := List Slot → Option (Res × List (List D))
abbrev FT := String → Option (List PK × Fn)

inductive Opd where
  | v (d : D)
  | sl (i : Nat)
def rd (ρ : Env) (i : Nat) : Option D := match ρ[i]? with
  | some s => s.d?
  | none => none
def rdr (ρ : Env) (i : Nat) : Option D := match ρ[i]? with
  | some s => s.dr?
  | none => none
def Opd.getR (ρ : Env) : Opd → Option D
  | .v d => some d
  | .sl i => rdr ρ i
def Opd.get (ρ : Env) : Opd → Option D
  | .v d => some d
  | .sl i => rd ρ i
def opd (a : E) (eva : Env → Option (Res × Env)) (ρ : Env) : Option (Opd × Env) := match a with
  | .var i => match ρ[i]? with
    | some (.fz d) => some (.v d, ρ)
    | some .un => none
    | some _ => some (.sl i, ρ)
    | none => none
  | _ => match eva ρ with
    | some (r, ρ') => some (.v r.d, ρ')
    | none => none
def freeze (i : Nat) (ρ : Env) : Option (Res × Env) := match ρ[i]? with
  | some (.fz d) => some (.fr d, ρ)
  | some (.own ds) => some (.fr (.list ds), ρ.set i (.fz (.list ds)))
  | some (.lent ds) => some (.fr (.list ds), ρ.set i (.fz (.list ds)))
  | _ => none
def slotOf : Res → Slot
  | .fr d => .fz d
  | .nw ds => .own ds
def put (i : Nat) (s : Slot) (ρ : Env) : Option Env := match ρ[i]? with
  | some (.mu _) => none
  | some _ => some (ρ.set i s)
  | none => none
mutual
def asgT : T → D → Env → Option Env
  | .name i, d, ρ => put i (.fz d) ρ
  | .tup ts, .tuple ds, ρ => asgTs ts ds ρ
  | .tup _, _, _ => none
def asgTs : Ts → List D → Env → Option Env
  | .nil, [], ρ => some ρ
  | .cons t ts, d :: ds, ρ => match asgT t d ρ with
    | some ρ1 => asgTs ts ds ρ1
    | none => none
  | _, _, _ => none
end
def asgR : T → Res → Env → Option Env
  | .name i, r, ρ => put i (slotOf r) ρ
  | t, r, ρ => asgT t r.d ρ

/-- while a loop walks a list of one's own it may not be changed -/
def lendL : List Nat → Env → Env
  | [], ρ => ρ
  | i :: r, ρ => match ρ[i]? with
    | some (.own ds) => lendL r (ρ.set i (.lent ds))
    | _ => lendL r ρ
/-- a parameter that may be changed is not walked -/
def noMu (o : Opd) (ρ : Env) : Bool := match o with
  | .v _ => true
  | .sl i => match ρ[i]? with
    | some (.mu _) => false
    | _ => true
def lends (o : Opd) (ρ : Env) : List Nat := match o with
  | .v _ => []
  | .sl i => match ρ[i]? with
    | some (.own ds) => [i]
    | _ => []
def unlend : List Nat → Env → Env
  | [], ρ => ρ
  | i :: r, ρ => match ρ[i]? with
    | some (.lent ds) => unlend r (ρ.set i (.own ds))
    | _ => unlend r ρ
def wipeE (vs : List Nat) (ρ : Env) : Env := match vs with
  | [] => ρ
  | v :: r => (wipeE r ρ).set v .un
def quietS : Slot → Bool
  | .un => true
  | .fz _ => true
  | _ => false
def backE (vs : List Nat) (ρ0 ρ : Env) : Env := match vs with
  | [] => ρ
  | v :: r => match ρ0[v]? with
    | some s => (backE r ρ0 ρ).set v s
    | none => backE r ρ0 ρ
def compL (step : D → Env → Option (Option D × Env)) : List D → Env → Option (List D × Env)
  | [], ρ => some ([], ρ)
  | d :: ds, ρ => match step d ρ with
    | none => none
    | some (o, ρ1) => match compL step ds ρ1 with
      | none => none
      | some (r, ρ2) => some ((match o with | some y => y :: r | none => r), ρ2)
def compL2 (step : D → Env → Option (List D × Env)) : List D → Env → Option (List D × Env)
  | [], ρ => some ([], ρ)
  | d :: ds, ρ => match step d ρ with
    | none => none
    | some (o, ρ1) => match compL2 step ds ρ1 with
      | none => none
      | some (r, ρ2) => some (o ++ r, ρ2)
/-- an argument as the callee sees it -/
def argOf (ρ : Env) : PK → Opd → Option Slot
  | .B, .v d => some (.fz d)
  | .B, .sl i => match ρ[i]? with
    | some (.fz d) => some (.fz d)
    | some (.own ds) => some (.bor ds)
    | some (.lent ds) => some (.bor ds)
    | some (.bor ds) => some (.bor ds)
    | some (.mu ds) => some (.bor ds)
    | some (.ro ds) => some (.ro ds)
    | _ => none
  | .I, .v d => some (.fz d)
  | .I, .sl _ => none
  | .M, .v _ => none
  | .M, .sl i => match ρ[i]? with
    | some (.own ds) => some (.mu ds)
    | some (.mu ds) => some (.mu ds)
    | _ => none
def argsOf (ρ : Env) : List PK → List Opd → Option (List Slot)
  | [], [] => some []
  | k :: ks, o :: os => match argOf ρ k o with
    | none => none
    | some s => match argsOf ρ ks os with
      | none => none
      | some ss => some (s :: ss)
  | _, _ => none
/-- the slots that are handed over to be changed -/
def muts : List PK → List Opd → List Nat
  | .M :: ks, .sl i :: os => i :: muts ks os
  | _ :: ks, _ :: os => muts ks os
  | _, _ => []
/-- what is handed over to be changed is handed over once -/
def okPair (p p' : PK × Opd) : Bool := match p.2, p'.2 with
  | .sl i, .sl j => if p.1 = .M ∨ p'.1 = .M then i != j else true
  | _, _ => true
def apartB (ks : List PK) (os : List Opd) : Bool := decide ((ks.zip os).Pairwise fun p p' => okPair p p' = true)
def outsIn : List Nat → List (List D) → Env → Option Env
  | [], [], ρ => some ρ
  | i :: is, ds :: r, ρ => match ρ[i]? with
    | some (.own _) => outsIn is r (ρ.set i (.own ds))
    | some (.mu _) => outsIn is r (ρ.set i (.mu ds))
    | _ => none
  | _, _, _ => none

def isLB : Option D → Bool
  | some (.list _) => true
  | _ => false
/-! ### a dict of one's own, by ints -/
def kvGet (kvs : List (Int × D)) (k : Int) : Option D := (kvs.find? fun p => decide (p.1 = k)).map (·.2)
def kvPut (kvs : List (Int × D)) (k : Int) (d : D) : List (Int × D) :=
  if (kvs.any fun p => decide (p.1 = k)) = true then kvs.map (fun p => if p.1 = k then (p.1, d) else p) else kvs ++ [(k, d)]
def dctB (ρ : Env) (i : Nat) : Bool := match ρ[i]? with
  | some (.dct _) => true
  | _ => false
def dGetS (ρ : Env) (i : Nat) (k : Int) : Option D := match ρ[i]? with
  | some (.dct kvs) => kvGet kvs k
  | _ => none
def dInS (ρ : Env) (i : Nat) (k : Int) : Option Bool := match ρ[i]? with
  | some (.dct kvs) => some (kvGet kvs k).isSome
  | _ => none
def dPutS (ρ : Env) (i : Nat) (k : Int) (d : D) : Option Env := match ρ[i]? with
  | some (.dct kvs) => if kvs.length < sizeLine then some (ρ.set i (.dct (kvPut kvs k d))) else none
  | _ => none
/-! what may be looked at without being frozen -/
mutual
def pk (ρ : Env) : E → Option D
  | .var i => rd ρ i
  | .int n => some (.int n)
  | .tup es => match pks ρ es with
    | some ds => if ds.length ≤ sizeLine then some (.tuple ds) else none
    | none => none
  | _ => none
def pks (ρ : Env) : Es → Option (List D)
  | .nil => some []
  | .cons e es => match pk ρ e with
    | some d => match pks ρ es with
      | some ds => some (d :: ds)
      | none => none
    | none => none
end
def notM : PK → Bool
  | .M => false
  | _ => true
/-- what such a call gives: flat data -/
def flatO (ρ : Env) : Option (Res × List (List D)) → Option (Res × Env)
  | some (.fr d, []) => if isFlat d = true then some (.fr d, ρ) else none
  | _ => none
inductive Out where
  | next | brk | cont | ret (r : Res)

mutual
def ev (F : FT) : E → Env → Option (Res × Env)
  | .var i, ρ => freeze i ρ
  | .int n, ρ => some (.fr (.int n), ρ)
  | .bl b, ρ => some (.fr (.bool b), ρ)
  | .non, ρ => some (.fr .none, ρ)
  | .str s, ρ => some (.fr (.str (Str.ofString s)), ρ)
  | .bin o a b, ρ => match opd a (ev F a) ρ with
    | none => none
    | some (oa, ρ1) => match opd b (ev F b) ρ1 with
      | none => none
      | some (ob, ρ2) => match oa.get ρ2, ob.get ρ2 with
        | some da, some db => (dBin o da db).map fun r => (r, ρ2)
        | _, _ => none
  | .neg a, ρ => match ev F a ρ with
    | some (.fr (.int i), ρ1) => some (.fr (.int (-i)), ρ1)
    | _ => none
  | .no a, ρ => match ev F a ρ with
    | some (.fr (.bool i), ρ1) => some (.fr (.bool (!i)), ρ1)
    | _ => none
  | .cmp o a b, ρ => match opd a (ev F a) ρ with
    | none => none
    | some (oa, ρ1) => match opd b (ev F b) ρ1 with
      | none => none
      | some (ob, ρ2) => match oa.get ρ2, ob.get ρ2 with
        | some da, some db => (dCmp o da db).map fun r => (.fr (.bool r), ρ2)
        | _, _ => none
  | .cmp2 o p a b c, ρ => match ev F a ρ with
    | none => none
    | some (ra, ρ1) => match ev F b ρ1 with
      | none => none
      | some (rb, ρ2) => match dCmp o ra.d rb.d with
        | none => none
        | some false => some (.fr (.bool false), ρ2)
        | some true => match ev F c ρ2 with
          | none => none
          | some (rc, ρ3) => (dCmp p rb.d rc.d).map fun r => (.fr (.bool r), ρ3)
  | .and a b, ρ => match ev F a ρ with
    | some (.fr (.bool false), ρ1) => some (.fr (.bool false), ρ1)
    | some (.fr (.bool true), ρ1) => ev F b ρ1
    | _ => none
  | .or a b, ρ => match ev F a ρ with
    | some (.fr (.bool true), ρ1) => some (.fr (.bool true), ρ1)
    | some (.fr (.bool false), ρ1) => ev F b ρ1
    | _ => none
  | .ite c a b, ρ => match ev F c ρ with
    | some (.fr (.bool true), ρ1) => ev F a ρ1
    | some (.fr (.bool false), ρ1) => ev F b ρ1
    | _ => none
  | .idx a i, ρ => match opd a (ev F a) ρ with
    | none => none
    | some (oa, ρ1) => match ev F i ρ1 with
      | none => none
      | some (ri, ρ2) => match oa.getR ρ2 with
        | some da => (dIdx da ri.d).map fun d => (.fr d, ρ2)
        | none => none
  | .slc a lo hi, ρ => match opd a (ev F a) ρ with
    | none => none
    | some (oa, ρ1) => match evO F lo ρ1 with
      | none => none
      | some (l, ρ2) => match evO F hi ρ2 with
        | none => none
        | some (h, ρ3) => match oa.get ρ3 with
          | some da => (dSlc da l h).map fun r => (r, ρ3)
          | none => none
  | .dget i k, ρ => match dctB ρ i with
    | false => none
    | true => match ev F k ρ with
      | some (.fr (.int j), ρ1) => (dGetS ρ1 i j).map fun d => (.fr d, ρ1)
      | _ => none
  | .din neg i k, ρ => match ev F k ρ with
    | some (.fr (.int j), ρ1) => (dInS ρ1 i j).map fun b => (.fr (.bool (neg != b)), ρ1)
    | _ => none
  | .rvs a, ρ => match opd a (ev F a) ρ with
    | none => none
    | some (oa, ρ1) => match oa.get ρ1 with
      | some d => (dRev d).map fun r => (r, ρ1)
      | none => none
  | .tup es, ρ => match evs F es ρ with
    | none => none
    | some (ds, ρ1) => if ds.length ≤ sizeLine then some (.fr (.tuple ds), ρ1) else none
  | .lst es, ρ => match evs F es ρ with
    | none => none
    | some (ds, ρ1) => if ds.length ≤ sizeLine then some (.nw ds, ρ1) else none
  | .comp elt t it c vs, ρ => match evI F it ρ with
    | none => none
    | some (ds, ρ0, ls) => if (vs.all fun v => match (lendL ls ρ0)[v]? with | some s => quietS s | none => false) = false then none else
      match compL (fun d ρ => match asgT t d ρ with
        | none => none
        | some ρa => match evC F c ρa with
          | none => none
          | some (false, ρb) => some (none, wipeE vs ρb)
          | some (true, ρb) => match ev F elt ρb with
            | none => none
            | some (r, ρc) => some (some r.d, wipeE vs ρc)) ds (wipeE vs (lendL ls ρ0)) with
      | none => none
      | some (r, ρ2) => some (.nw r, unlend ls (backE vs (lendL ls ρ0) ρ2))
  | .comp2 elt t it c0 t1 it1 c vs vs1, ρ => match evI F it ρ with
    | none => none
    | some (ds, ρ0, ls) => if (vs.all fun v => match (lendL ls ρ0)[v]? with | some s => quietS s | none => false) = false then none else
      match compL2 (fun d ρ => match asgT t d ρ with
        | none => none
        | some ρa => match evC F c0 ρa with
          | none => none
          | some (false, ρb) => some ([], wipeE vs ρb)
          | some (true, ρb) => match evI F it1 ρb with
            | some (ds1, ρ1, []) => if (vs1.all fun v => match ρ1[v]? with | some s => quietS s | none => false) = false then none else
              match compL (fun d ρ => match asgT t1 d ρ with
                | none => none
                | some ρa => match evC F c ρa with
                  | none => none
                  | some (false, ρb) => some (none, wipeE vs1 ρb)
                  | some (true, ρb) => match ev F elt ρb with
                    | none => none
                    | some (r, ρc) => some (some r.d, wipeE vs1 ρc)) ds1 (wipeE vs1 ρ1) with
              | none => none
              | some (r, ρ2) => some (r, wipeE vs ρ2)
            | _ => none) ds (wipeE vs (lendL ls ρ0)) with
      | none => none
      | some (r, ρ2) => if r.length ≤ sizeLine then some (.nw r, unlend ls (backE vs (lendL ls ρ0) ρ2)) else none
  | .setc srt elt t it c vs, ρ => match evI F it ρ with
    | none => none
    | some (ds, ρ0, ls) => if (vs.all fun v => match (lendL ls ρ0)[v]? with | some s => quietS s | none => false) = false then none else
      match compL (fun d ρ => match asgT t d ρ with
        | none => none
        | some ρa => match evC F c ρa with
          | none => none
          | some (false, ρb) => some (none, wipeE vs ρb)
          | some (true, ρb) => match ev F elt ρb with
            | none => none
            | some (r, ρc) => some (some r.d, wipeE vs ρc)) ds (wipeE vs (lendL ls ρ0)) with
      | none => none
      | some (r, ρ2) => (setR srt r).map fun x => (x, unlend ls (backE vs (lendL ls ρ0) ρ2))
  | .call f es, ρ => match F f with
    | none => none
    | some (ks, fn) => match evA F ks es ρ with
      | none => none
      | some (os, ρ1) => if apartB ks os = false then none else
        match argsOf ρ1 ks os with
        | none => none
        | some ss => match fn ss with
          | none => none
          | some (r, outs) => match outsIn (muts ks os) outs ρ1 with
            | none => none
            | some ρ2 => some (r, ρ2)
  | .pcall f es, ρ => match F f with
    | none => none
    | some (ks, fn) => match pks ρ es with
      | none => none
      | some ds => if (ks.all notM && decide (ds.length = ks.length)) = true then flatO ρ (fn (ds.map .fz)) else none
  | .blt b es, ρ => match evP F es ρ with
    | none => none
    | some (os, ρ1) => match os.mapM (Opd.get ρ1) with
      | none => none
      | some ds => (dBlt b ds).map fun r => (r, ρ1)
  | .isi a t, ρ => match opd a (ev F a) ρ with
    | none => none
    | some (oa, ρ1) => (oa.get ρ1).map fun d => (.fr (.bool (tyIs t d)), ρ1)
  | .len a, ρ => match opd a (ev F a) ρ with
    | none => none
    | some (oa, ρ1) => match oa.getR ρ1 with
      | some d => (dLen d).map fun r => (.fr r, ρ1)
      | none => none
  | .rngs t it, ρ => match evI F it ρ with
    | some (ds, ρ1, _) => some (if t then .fr (.tuple ds) else .nw ds, ρ1)
    | none => none
  | .meth m o a, ρ => match opd o (ev F o) ρ with
    | none => none
    | some (oo, ρ1) => match isLB (oo.get ρ1) with
      | false => none
      | true => match ev F a ρ1 with
        | none => none
        | some (ra, ρ2) => match oo.get ρ2 with
          | none => none
          | some d => (dMth m d ra.d).map fun r => (.fr r, ρ2)
  | .chg m i es, ρ => match rd ρ i with
    | some (.list _) => match evs F es ρ with
      | none => none
      | some (ds, ρ1) => match ρ1[i]? with
        | some (.own xs) => (dChg m xs ds).map fun p => (.fr p.2, ρ1.set i (.own p.1))
        | some (.mu xs) => (dChg m xs ds).map fun p => (.fr p.2, ρ1.set i (.mu p.1))
        | _ => none
    | _ => none
def evO (F : FT) : OE → Env → Option (Option Int × Env)
  | .none, ρ => some (none, ρ)
  | .some e, ρ => match ev F e ρ with
    | some (.fr (.int i), ρ1) => some (some i, ρ1)
    | _ => none
def evC (F : FT) : OE → Env → Option (Bool × Env)
  | .none, ρ => some (true, ρ)
  | .some e, ρ => match ev F e ρ with
    | some (.fr (.bool i), ρ1) => some (i, ρ1)
    | _ => none
/-- what is walked: the items, the slots behind, those to be lent -/
def evI (F : FT) : Wk → Env → Option (List D × Env × List Nat)
  | .seq a, ρ => match opd a (ev F a) ρ with
    | none => none
    | some (oa, ρ1) => if noMu oa ρ1 = false then none else match (oa.get ρ1).bind seqOf with
      | none => none
      | some ds => some (ds, ρ1, lends oa ρ1)
  | .rng1 a, ρ => match ev F a ρ with
    | some (.fr (.int i), ρ1) => if -(2 ^ 62) ≤ i ∧ i ≤ (sizeLine : Int) then some (rngD 0 i, ρ1, []) else none
    | _ => none
  | .rng2 a b, ρ => match ev F a ρ with
    | some (.fr (.int i), ρ1) => match ev F b ρ1 with
      | some (.fr (.int j), ρ2) => if -(2 ^ 62) ≤ i ∧ i < 2 ^ 62 ∧ j < 2 ^ 62 ∧ -(2 ^ 62) ≤ j ∧ j - i ≤ (sizeLine : Int) then some (rngD i j, ρ2, []) else none
      | _ => none
    | _ => none
  | .enm a, ρ => match opd a (ev F a) ρ with
    | none => none
    | some (oa, ρ1) => if noMu oa ρ1 = false then none else match (oa.get ρ1).bind seqOf with
      | some ds => some (enumD ds, ρ1, lends oa ρ1)
      | none => none
  | .zip a b, ρ => match opd a (ev F a) ρ with
    | none => none
    | some (oa, ρ1) => match opd b (ev F b) ρ1 with
      | none => none
      | some (ob, ρ2) => if noMu oa ρ2 = false then none else if noMu ob ρ2 = false then none else match oa.get ρ2 with
        | some (.list xs) => (match ob.get ρ2 with
          | some (.list ys) => some (pairD xs ys, ρ2, lends oa ρ2 ++ lends ob ρ2)
          | _ => none)
        | some (.tuple xs) => (match ob.get ρ2 with
          | some (.tuple ys) => some (pairD xs ys, ρ2, lends oa ρ2 ++ lends ob ρ2)
          | _ => none)
        | _ => none
  | .rev a, ρ => match opd a (ev F a) ρ with
    | none => none
    | some (oa, ρ1) => if noMu oa ρ1 = false then none else match (oa.get ρ1).bind seqOf with
      | none => none
      | some ds => some (ds.reverse, ρ1, lends oa ρ1)
  | .rrng1 a, ρ => match ev F a ρ with
    | some (.fr (.int i), ρ1) => if -(2 ^ 62) ≤ i ∧ i ≤ (sizeLine : Int) then some ((rngD 0 i).reverse, ρ1, []) else none
    | _ => none
  | .rrng2 a b, ρ => match ev F a ρ with
    | some (.fr (.int i), ρ1) => match ev F b ρ1 with
      | some (.fr (.int j), ρ2) => if -(2 ^ 62) ≤ i ∧ i < 2 ^ 62 ∧ j < 2 ^ 62 ∧ -(2 ^ 62) ≤ j ∧ j - i ≤ (sizeLine : Int) then some ((rngD i j).reverse, ρ2, []) else none
      | _ => none
    | _ => none
  | .dwn a b, ρ => match ev F a ρ with
    | some (.fr (.int i), ρ1) => match ev F b ρ1 with
      | some (.fr (.int j), ρ2) => if -(2 ^ 62) ≤ i ∧ i < 2 ^ 62 ∧ j < 2 ^ 62 ∧ -(2 ^ 62) ≤ j ∧ i - j ≤ (sizeLine : Int) then some (dwnD i j, ρ2, []) else none
      | _ => none
    | _ => none
def evs (F : FT) : Es → Env → Option (List D × Env)
  | .nil, ρ => some ([], ρ)
  | .cons e es, ρ => match ev F e ρ with
    | none => none
    | some (r, ρ1) => match evs F es ρ1 with
      | none => none
      | some (ds, ρ2) => some (r.d :: ds, ρ2)
def evP (F : FT) : Es → Env → Option (List Opd × Env)
  | .nil, ρ => some ([], ρ)
  | .cons e es, ρ => match opd e (ev F e) ρ with
    | none => none
    | some (o, ρ1) => match evP F es ρ1 with
      | none => none
      | some (os, ρ2) => some (o :: os, ρ2)
def evA (F : FT) : List PK → Es → Env → Option (List Opd × Env)
  | [], .nil, ρ => some ([], ρ)
  | .I :: ks, .cons e es, ρ => match ev F e ρ with
    | none => none
    | some (r, ρ1) => match evA F ks es ρ1 with
      | none => none
      | some (os, ρ2) => some (.v r.d :: os, ρ2)
  | _ :: ks, .cons e es, ρ => match opd e (ev F e) ρ with
    | none => none
    | some (o, ρ1) => match evA F ks es ρ1 with
      | none => none
      | some (os, ρ2) => some (o :: os, ρ2)
  | _, _, _ => none
end

def whileL (c : Env → Option (Res × Env)) (b : Env → Option (Out × Env)) : Nat → Env → Option (Out × Env)
  | 0, _ => none
  | n + 1, ρ => match c ρ with
    | some (.fr (.bool false), ρ1) => some (.next, ρ1)
    | some (.fr (.bool true), ρ1) => match b ρ1 with
      | none => none
      | some (.next, ρ2) => whileL c b n ρ2
      | some (.cont, ρ2) => whileL c b n ρ2
      | some (.brk, ρ2) => some (.next, ρ2)
      | some (.ret r, ρ2) => some (.ret r, ρ2)
    | _ => none
def forL (b : D → Env → Option (Out × Env)) : List D → Env → Option (Out × Env)
  | [], ρ => some (.next, ρ)
  | d :: ds, ρ => match b d ρ with
    | none => none
    | some (.next, ρ2) => forL b ds ρ2
    | some (.cont, ρ2) => forL b ds ρ2
    | some (.brk, ρ2) => some (.next, ρ2)
    | some (.ret r, ρ2) => some (.ret r, ρ2)
mutual
def ex (F : FT) : S → Env → Option (Out × Env)
  | .asg t e, ρ => match ev F e ρ with
    | none => none
    | some (r, ρ1) => (asgR t r ρ1).map fun ρ2 => (.next, ρ2)
  | .par i j a b, ρ => match ev F a ρ with
    | none => none
    | some (ra, ρ1) => match ev F b ρ1 with
      | none => none
      | some (rb, ρ2) => match put i (.fz ra.d) ρ2 with
        | none => none
        | some ρ3 => (put j (.fz rb.d) ρ3).map fun ρ4 => (.next, ρ4)
  | .aug o i e, ρ => match ρ[i]? with
    | some (.fz (.int x)) => match ev F e ρ with
      | some (.fr (.int y), ρ1) => match dBin o (.int x) (.int y) with
        | some (.fr (.int z)) => (put i (.fz (.int z)) ρ1).map fun ρ2 => (.next, ρ2)
        | _ => none
      | _ => none
    | _ => none
  | .dnew i k v, ρ => match ev F k ρ with
    | some (.fr (.int j), ρ1) => match ev F v ρ1 with
      | some (r, ρ2) => (put i (.dct [(j, r.d)]) ρ2).map fun ρ3 => (.next, ρ3)
      | none => none
    | _ => none
  | .dput i k v, ρ => match ev F v ρ with
    | some (r, ρ1) => match dctB ρ1 i with
      | false => none
      | true => match ev F k ρ1 with
        | some (.fr (.int j), ρ2) => (dPutS ρ2 i j r.d).map fun ρ3 => (.next, ρ3)
        | _ => none
    | none => none
  | .rse, _ => none
  | .setIx i ix e, ρ => match ev F e ρ with
    | none => none
    | some (r, ρ1) => match rd ρ1 i with
      | some (.list _) => match ev F ix ρ1 with
        | some (.fr (.int k), ρ2) => match ρ2[i]? with
          | some (.own xs) => (ixN xs.length k).map fun j => (.next, ρ2.set i (.own (xs.set j r.d)))
          | some (.mu xs) => (ixN xs.length k).map fun j => (.next, ρ2.set i (.mu (xs.set j r.d)))
          | _ => none
        | _ => none
      | _ => none
  | .augIx o i ix e, ρ => match rd ρ i with
    | some (.list _) => match ev F ix ρ with
      | some (.fr (.int k), ρ1) => match (match rd ρ1 i with | some (.list us) => atI us k | _ => none) with
        | some (.int x) => match ev F e ρ1 with
          | some (.fr (.int y), ρ2) => match dBin o (.int x) (.int y) with
            | some (.fr (.int z)) => match ρ2[i]? with
              | some (.own xs) => (ixN xs.length k).map fun j => (.next, ρ2.set i (.own (xs.set j (.int z))))
              | some (.mu xs) => (ixN xs.length k).map fun j => (.next, ρ2.set i (.mu (xs.set j (.int z))))
              | _ => none
            | _ => none
          | _ => none
        | _ => none
      | _ => none
    | _ => none
  | .ex e, ρ => (ev F e ρ).map fun p => (.next, p.2)
  | .ret (.var i), ρ => match ρ[i]? with
    | some (.fz d) => some (.ret (.fr d), ρ)
    | some (.own ds) => some (.ret (.nw ds), ρ)
    | _ => none
  | .ret e, ρ => (ev F e ρ).map fun p => (.ret p.1, p.2)
  | .retN, ρ => some (.ret (.fr .none), ρ)
  | .brk, ρ => some (.brk, ρ)
  | .cont, ρ => some (.cont, ρ)
  | .pass, ρ => some (.next, ρ)
  | .ife c a b, ρ => match ev F c ρ with
    | some (.fr (.bool true), ρ1) => exs F a ρ1
    | some (.fr (.bool false), ρ1) => exs F b ρ1
    | _ => none
  | .whl n c b, ρ => whileL (ev F c) (exs F b) n ρ
  | .forr t it b, ρ => match evI F it ρ with
    | none => none
    | some (ds, ρ1, ls) => match forL (fun d ρ => match asgT t d ρ with
        | none => none
        | some ρa => exs F b ρa) ds (lendL ls ρ1) with
      | none => none
      | some (o, ρ2) => some (o, unlend ls ρ2)
def exs (F : FT) : Ss → Env → Option (Out × Env)
  | .nil, ρ => some (.next, ρ)
  | .cons s ss, ρ => match ex F s ρ with
    | some (.next, ρ1) => exs F ss ρ1
    | x => x
end

/-! ### defs -/
structure Def where
  name : String
  at_ : Nat
  ks : List PK
  N : List String
  body : Ss
abbrev Tab := List Def
def find (T : Tab) (f : String) : Option Def := List.find? (fun d => d.name == f) T
def outsOf : List PK → Env → Option (List (List D))
  | [], _ => some []
  | .M :: ks, .mu ds :: ρ => (outsOf ks ρ).map (ds :: ·)
  | .M :: _, _ => none
  | _ :: ks, _ :: ρ => outsOf ks ρ
  | _ :: _, [] => none
/-- the arguments are of the kinds that the def says -/
def kindsB : List PK → List Slot → Bool
  | [], [] => true
  | .M :: ks, .mu _ :: r => kindsB ks r
  | .B :: ks, .fz _ :: r => kindsB ks r
  | .B :: ks, .bor _ :: r => kindsB ks r
  | .B :: ks, .ro _ :: r => kindsB ks r
  | .I :: ks, .fz _ :: r => kindsB ks r
  | _, _ => false
def runD (F : FT) (d : Def) (args : List Slot) : Option (Res × List (List D)) :=
  if kindsB d.ks args = false then none else
  match exs F d.body (args ++ List.replicate (d.N.length - args.length) .un) with
  | some (.ret r, ρ) => (outsOf d.ks ρ).map fun o => (r, o)
  | some (.next, ρ) => (outsOf d.ks ρ).map fun o => (.fr .none, o)
  | _ => none
def callF (T : Tab) : Nat → FT
  | 0, _ => none
  | k + 1, f => match find T f with
    | none => none
    | some d => some (d.ks, runD (callF T k) d)
end Ev


set_option maxRecDepth 100000
/-! Ev2: how data lie in the heap; the state; steps. -/
namespace Ev
open PySem L2
variable [TheK]

/-- a list that is known to the heap, or the text's own -/
def Ro (H : Hp) (a : Addr) (vs : List V) : Prop := (∃ o, H a = some (.frz o (.lst vs))) ∨
    ∃ (o : Obj) (its : Array Value) (n : Nat), TheK.K.lookup a = some o ∧ o.cls = .type "list" ∧ o.dict = none ∧ o.data = .seq its n ∧ its.size ≤ sizeLine ∧ Vals vs its.toList
theorem Ro.sq {H a vs} (h : Ro H a vs) : SqL TheK.K H a vs := by
  rcases h with ⟨o, h⟩ | h
  · exact .inl (.inr ⟨o, h⟩)
  · exact .inr h
theorem Ro.keep {H H' : Hp} {a vs} (h : Ro H a vs) (k : ∀ o u, H a = some (.frz o u) → H' a = some (.frz o u)) : Ro H' a vs := by
  rcases h with ⟨o, h⟩ | h
  · exact .inl ⟨o, k _ _ h⟩
  · exact .inr h
mutual
/-- the value v is the data d, all of whose objects are frozen (in A) -/
inductive Rep (A : Addr → Prop) (H : Hp) : V → D → Prop
  | none : Rep A H V.non PyData.none
  | bool {b} : Rep A H (V.bl b) (PyData.bool b)
  | int {i} : Rep A H (V.int i) (PyData.int i)
  | str {x} : Rep A H (V.str x) (PyData.str x)
  | lst {a vs ds} : A a → H a = some (HO.lst vs) → vs.length ≤ sizeLine → RepAll A H vs ds → Rep A H (V.ref a) (PyData.list ds)
  | tup {a vs ds} : A a → H a = some (HO.tup vs) → vs.length ≤ sizeLine → RepAll A H vs ds → Rep A H (V.ref a) (PyData.tuple ds)
inductive RepAll (A : Addr → Prop) (H : Hp) : List V → List D → Prop
  | nil : RepAll A H [] []
  | cons {v d vs ds} : Rep A H v d → RepAll A H vs ds → RepAll A H (v :: vs) (d :: ds)
end

/-- frozen things stay -/
def Keep (A : Addr → Prop) (H H' : Hp) : Prop := ∀ a o, A a → H a = some o → H' a = some o
theorem _root_.L2.Rd.keep {H H' : Hp} {a : Addr} {u : HO} (h : Rd H a u) (k : ∀ o, H a = some o → H' a = some o) : Rd H' a u := by
  rcases h with h | ⟨o, h⟩
  · exact .inl (k _ h)
  · exact .inr ⟨o, k _ h⟩
mutual
theorem Rep.mono {A A' : Addr → Prop} {H H' : Hp} (e : ∀ a, A a → A' a) (k : Keep A H H') : ∀ {v d}, Rep A H v d → Rep A' H' v d
  | _, _, .none => .none
  | _, _, .bool => .bool
  | _, _, .int => .int
  | _, _, .str => .str
  | _, _, .lst h1 h2 h3 h4 => .lst (e _ h1) (k _ _ h1 h2) h3 (RepAll.mono e k h4)
  | _, _, .tup h1 h2 h3 h4 => .tup (e _ h1) (k _ _ h1 h2) h3 (RepAll.mono e k h4)
theorem RepAll.mono {A A' : Addr → Prop} {H H' : Hp} (e : ∀ a, A a → A' a) (k : Keep A H H') : ∀ {vs ds}, RepAll A H vs ds → RepAll A' H' vs ds
  | _, _, .nil => .nil
  | _, _, .cons h1 h2 => .cons (Rep.mono e k h1) (RepAll.mono e k h2)
end
section
variable {A : Addr → Prop} {H : Hp} {vs ws : List V} {ds es : List D} {v : V} {d : D}
theorem RepAll.length : ∀ {vs ds}, RepAll A H vs ds → vs.length = ds.length
  | _, _, .nil => rfl
  | _, _, .cons _ h => by simp [RepAll.length h]
theorem RepAll.get : ∀ {vs ds} (i : Nat) {d}, RepAll A H vs ds → ds[i]? = some d → ∃ v, vs[i]? = some v ∧ Rep A H v d
  | _, _, i, d, .nil, e => by simp at e
  | _, _, 0, d, .cons h1 h2, e => by simp at e; subst e; exact ⟨_, rfl, h1⟩
  | _, _, i + 1, d, .cons h1 h2, e => by simpa using RepAll.get i h2 (by simpa using e)
theorem RepAll.getV : ∀ {vs ds} (i : Nat) {v}, RepAll A H vs ds → vs[i]? = some v → ∃ d, ds[i]? = some d ∧ Rep A H v d
  | _, _, i, d, .nil, e => by simp at e
  | _, _, 0, d, .cons h1 h2, e => by simp at e; subst e; exact ⟨_, rfl, h1⟩
  | _, _, i + 1, d, .cons h1 h2, e => by simpa using RepAll.getV i h2 (by simpa using e)
theorem RepAll.append : ∀ {vs ds ws es}, RepAll A H vs ds → RepAll A H ws es → RepAll A H (vs ++ ws) (ds ++ es)
  | _, _, _, _, .nil, h => h
  | _, _, _, _, .cons h1 h2, h => .cons h1 (RepAll.append h2 h)
theorem RepAll.one (h : Rep A H v d) : RepAll A H [v] [d] := .cons h .nil
theorem RepAll.take : ∀ {vs ds} (n : Nat), RepAll A H vs ds → RepAll A H (vs.take n) (ds.take n)
  | _, _, 0, _ => .nil
  | _, _, _ + 1, .nil => .nil
  | _, _, n + 1, .cons h1 h2 => .cons h1 (RepAll.take n h2)
theorem RepAll.drop : ∀ {vs ds} (n : Nat), RepAll A H vs ds → RepAll A H (vs.drop n) (ds.drop n)
  | _, _, 0, h => h
  | _, _, _ + 1, .nil => .nil
  | _, _, n + 1, .cons h1 h2 => RepAll.drop n h2
theorem RepAll.set (h : Rep A H v d) : ∀ {vs ds} (n : Nat), RepAll A H vs ds → RepAll A H (vs.set n v) (ds.set n d)
  | _, _, _, .nil => .nil
  | _, _, 0, .cons _ h2 => .cons h h2
  | _, _, n + 1, .cons h1 h2 => .cons h1 (RepAll.set h n h2)
theorem RepAll.erase : ∀ {vs ds} (n : Nat), RepAll A H vs ds → RepAll A H (vs.eraseIdx n) (ds.eraseIdx n)
  | _, _, _, .nil => .nil
  | _, _, 0, .cons _ h2 => h2
  | _, _, n + 1, .cons h1 h2 => .cons h1 (RepAll.erase n h2)
theorem RepAll.reverse (h : RepAll A H vs ds) : RepAll A H vs.reverse ds.reverse := by
  induction vs generalizing ds with
  | nil => cases h; exact .nil
  | cons x r ih => cases h with | cons h1 h2 => simpa using (ih h2).append (.one h1)
theorem RepAll.dropLast (h : RepAll A H vs ds) : RepAll A H vs.dropLast ds.dropLast := by
  rw [List.dropLast_eq_take, List.dropLast_eq_take, h.length]
  exact h.take _
theorem RepAll.rep (n : Nat) (h : RepAll A H vs ds) : RepAll A H (List.replicate n vs).flatten (List.replicate n ds).flatten := by
  induction n with
  | zero => exact .nil
  | succ n ih => simpa [List.replicate_succ] using h.append ih
theorem rep_ints : ∀ (ns : List Int), RepAll A H (ns.map V.int) (ns.map .int)
  | [] => .nil
  | _ :: r => .cons .int (rep_ints r)
theorem rep_of_ints : ∀ {vs ds ns}, RepAll A H vs ds → allInts ds = some ns → vs = ns.map V.int ∧ ds = ns.map .int
  | _, _, _, .nil, e => by simp [allInts] at e; subst e; exact ⟨rfl, rfl⟩
  | _, _, _, .cons h1 h2, e => by
    cases h1 <;> simp [allInts] at e
    obtain ⟨ms, e1, e2⟩ := e
    subst e2
    obtain ⟨e3, e4⟩ := rep_of_ints h2 e1
    subst e3 e4
    exact ⟨rfl, rfl⟩
theorem rep_of_bools : ∀ {vs ds bs}, RepAll A H vs ds → allBools ds = some bs → vs = bs.map V.bl ∧ ds = bs.map .bool
  | _, _, _, .nil, e => by simp [allBools] at e; subst e; exact ⟨rfl, rfl⟩
  | _, _, _, .cons h1 h2, e => by
    cases h1 <;> simp [allBools] at e
    obtain ⟨ms, e1, e2⟩ := e
    subst e2
    obtain ⟨e3, e4⟩ := rep_of_bools h2 e1
    subst e3 e4
    exact ⟨rfl, rfl⟩
end

/-! ### the slots -/
/-- a dict's pairs -/
def KvRep (A : Addr → Prop) (H : Hp) (ws : List (Key × V)) (kvs : List (Int × D)) : Prop := ws.map (·.1) = kvs.map (fun p => (Sum.inl p.1 : Key)) ∧ RepAll A H (ws.map (·.2)) (kvs.map (·.2))
theorem KvRep.mono {A A' : Addr → Prop} {H H' : Hp} {ws kvs} (e : ∀ a, A a → A' a) (k : Keep A H H') (h : KvRep A H ws kvs) : KvRep A' H' ws kvs := ⟨h.1, RepAll.mono e k h.2⟩
def SlotOk (A : Addr → Prop) (H : Hp) (ov : Option V) : Slot → Prop
  | .un => True
  | .fz d => ∃ v, ov = some v ∧ Rep A H v d
  | .own ds => ∃ a vs, ov = some (.ref a) ∧ H a = some (.lst vs) ∧ vs.length ≤ sizeLine ∧ RepAll A H vs ds ∧ ¬ A a
  | .lent ds => ∃ a vs, ov = some (.ref a) ∧ H a = some (.lst vs) ∧ vs.length ≤ sizeLine ∧ RepAll A H vs ds ∧ ¬ A a
  | .mu ds => ∃ a vs, ov = some (.ref a) ∧ H a = some (.lst vs) ∧ vs.length ≤ sizeLine ∧ RepAll A H vs ds ∧ ¬ A a
  | .dct kvs => ∃ a ws, ov = some (.ref a) ∧ H a = some (.dK ws) ∧ ws.length ≤ sizeLine ∧ KvRep A H ws kvs ∧ ¬ A a
  | .bor ds => ∃ a vs, ov = some (.ref a) ∧ H a = some (.lst vs) ∧ vs.length ≤ sizeLine ∧ RepAll A H vs ds
  | .ro ds => ∃ a vs, ov = some (.ref a) ∧ Ro H a vs ∧ vs.length ≤ sizeLine ∧ RepAll A H vs ds
def live : Slot → Bool
  | .own _ => true
  | .lent _ => true
  | .mu _ => true
  | .dct _ => true
  | _ => false
def liveB : Slot → Bool
  | .bor _ => true
  | s => live s
def mutS : Slot → Bool
  | .own _ => true
  | .mu _ => true
  | .dct _ => true
  | _ => false
/-- a list that may be changed -/
def mutL : Slot → Bool
  | .own _ => true
  | .mu _ => true
  | _ => false
theorem mutL_S {s} (h : mutL s = true) : mutS s = true := by cases s <;> first | rfl | cases h
def oldS : Slot → Bool
  | .lent _ => true
  | .bor _ => true
  | .ro _ => true
  | _ => false
/-- the addresses that may be changed -/
def Mut (σ : St) (ρ : Env) (a : Addr) : Prop := ∃ (i : Nat) (s : Slot), ρ[i]? = some s ∧ mutS s = true ∧ σ[i]? = some (some (.ref a))

structure Fit (A : Addr → Prop) (H : Hp) (σ : St) (ρ : Env) : Prop where
  len : σ.length = ρ.length
  slot : ∀ (i : Nat) (s : Slot) (ov : Option V), ρ[i]? = some s → σ[i]? = some ov → SlotOk A H ov s
  apart : ∀ (i j : Nat) (s t : Slot) (a : Addr), i ≠ j → ρ[i]? = some s → ρ[j]? = some t → live s = true → liveB t = true → σ[i]? = some (some (.ref a)) → σ[j]? = some (some (.ref a)) → False
  trk : ∀ a, A a → ∃ o, H a = some o

theorem Fit.at {A H σ} {ρ : Env} (f : Fit A H σ ρ) {i : Nat} {s : Slot} (h : ρ[i]? = some s) : ∃ ov, σ[i]? = some ov ∧ SlotOk A H ov s := by
  have h1 : i < ρ.length := (List.getElem?_eq_some_iff.mp h).1
  have h2 : i < σ.length := by rw [f.len]; exact h1
  exact ⟨σ[i], List.getElem?_eq_getElem h2, f.slot i s _ h (List.getElem?_eq_getElem h2)⟩

/-- one goes on from (A, H, σ, ρ) to (A', H', σ', ρ') -/
structure Stp (A : Addr → Prop) (H : Hp) (σ : St) (ρ : Env) (A' : Addr → Prop) (H' : Hp) (σ' : St) (ρ' : Env) : Prop where
  ext : ∀ a, A a → A' a
  frame : ∀ a o, H a = some o → ¬ Mut σ ρ a → H' a = some o
  dom : ∀ a, H' a = none → H a = none
  sub : ∀ a, Mut σ' ρ' a → Mut σ ρ a ∨ H a = none
  mus : ∀ (i : Nat) (ds : List D), ρ[i]? = some (Slot.mu ds) → σ'[i]? = σ[i]? ∧ ∃ ds', ρ'[i]? = some (Slot.mu ds')
  news : ∀ a, A' a → A a ∨ H a = none ∨ Mut σ ρ a ∨ ∃ (i : Nat) (ds : List D), ρ[i]? = some (Slot.lent ds) ∧ σ[i]? = some (some (V.ref a))
  lents : ∀ (i : Nat) (s : Slot), ρ'[i]? = some s → oldS s = true → ρ[i]? = some s ∧ σ'[i]? = σ[i]?
  fit : Fit A' H' σ' ρ'

theorem Fit.nomut {A H σ ρ} (f : Fit A H σ ρ) {a} (h : A a) : ¬ Mut σ ρ a := by
  rintro ⟨i, s, e1, e2, e3⟩
  have q := f.slot i s _ e1 e3
  cases s <;> simp [mutS] at e2 <;> obtain ⟨b, vs, e, _, _, _, n⟩ := q <;> cases e <;> exact n h
theorem Stp.keep {A H σ ρ A' H' σ' ρ'} (f : Fit A H σ ρ) (s : Stp A H σ ρ A' H' σ' ρ') : Keep A H H' := fun a o ha e => s.frame a o e (f.nomut ha)
theorem Fit.mut_at {A H σ ρ} (f : Fit A H σ ρ) {a} (h : Mut σ ρ a) : ∃ o, H a = some o := by
  obtain ⟨i, s, e1, e2, e3⟩ := h
  have q := f.slot i s _ e1 e3
  cases s <;> simp [mutS] at e2 <;> obtain ⟨b, vs, e, h, _⟩ := q <;> cases e <;> exact ⟨_, h⟩

/-- what an expression's value is: frozen data, or a new list -/
def ResOk (A : Addr → Prop) (Hs H : Hp) (σ : St) (ρ : Env) (v : V) : Res → Prop
  | .fr d => Rep A H v d
  | .nw ds => ∃ a vs, v = .ref a ∧ H a = some (.lst vs) ∧ vs.length ≤ sizeLine ∧ RepAll A H vs ds ∧ ¬ A a ∧ Hs a = none ∧ ∀ (i : Nat) s, ρ[i]? = some s → liveB s = true → σ[i]? ≠ some (some (.ref a))
/-- .. of an operand: data, or the slot's list -/
def OpdOk (A : Addr → Prop) (H : Hp) (σ : St) (v : V) : Opd → Prop
  | .v d => Rep A H v d
  | .sl i => σ[i]? = some (some v)
/-- what can be read of a value: its own list need not be frozen -/
def RepW (A : Addr → Prop) (H : Hp) (v : V) (d : D) : Prop :=
  Rep A H v d ∨ ∃ a vs ds, v = .ref a ∧ d = .list ds ∧ H a = some (.lst vs) ∧ vs.length ≤ sizeLine ∧ RepAll A H vs ds
/-- .. also the script's -/
def RepR (A : Addr → Prop) (H : Hp) (v : V) (d : D) : Prop :=
  Rep A H v d ∨ ∃ a vs ds, v = .ref a ∧ d = .list ds ∧ SqL TheK.K H a vs ∧ vs.length ≤ sizeLine ∧ RepAll A H vs ds
theorem RepW.r {A H v d} (h : RepW A H v d) : RepR A H v d := by
  rcases h with h | ⟨a, vs, ds, h1, h2, h3, h4, h5⟩
  · exact .inl h
  · exact .inr ⟨a, vs, ds, h1, h2, SqL.of h3, h4, h5⟩
theorem rd_ok {A H σ v d} {ρ : Env} {i : Nat} (f : Fit A H σ ρ) (h : σ[i]? = some (some v)) (e : rd ρ i = some d) : RepW A H v d := by
  simp only [rd] at e
  split at e
  · rename_i s hs
    have q := f.slot i s _ hs h
    cases s <;> simp only [Slot.d?, reduceCtorEq, Option.some.injEq] at e <;> subst e
    · obtain ⟨w, e, q⟩ := q; cases e; exact .inl q
    all_goals (obtain ⟨a, vs, e, q1, q2, q3⟩ := q; cases e; first | exact .inr ⟨_, _, _, rfl, rfl, q1, q2, q3⟩ | exact .inr ⟨_, _, _, rfl, rfl, q1, q2, q3.1⟩)
  · cases e
theorem Opd.ok {A H σ ρ v o d} (f : Fit A H σ ρ) (h : OpdOk A H σ v o) (e : o.get ρ = some d) : RepW A H v d := by
  cases o with
  | v d' => simp [Opd.get] at e; subst e; exact .inl h
  | sl i => exact rd_ok f h e
theorem Opd.okR {A H σ ρ v o d} (f : Fit A H σ ρ) (h : OpdOk A H σ v o) (e : o.getR ρ = some d) : RepR A H v d := by
  cases o with
  | v d' => simp [Opd.getR] at e; subst e; exact .inl h
  | sl i =>
    simp only [Opd.getR, rdr] at e
    split at e
    · rename_i s hs
      by_cases hr : ∃ ds, s = .ro ds
      · obtain ⟨ds, rfl⟩ := hr
        obtain ⟨a, vs, e1, q1, q2, q3⟩ := f.slot i _ _ hs h
        cases e1
        simp only [Slot.dr?, Option.some.injEq] at e
        subst e
        exact .inr ⟨_, _, _, rfl, rfl, q1.sq, q2, q3⟩
      · have e' : rd ρ i = some d := by
          simp only [rd, hs]
          cases s <;> first | exact e | exact absurd ⟨_, rfl⟩ hr
        exact (rd_ok f h e').r
    · cases e
theorem OpdOk.mono {A A' H H' σ v o} (e : ∀ a, A a → A' a) (k : Keep A H H') (h : OpdOk A H σ v o) : OpdOk A' H' σ v o := by
  cases o with
  | v d => exact Rep.mono e k h
  | sl i => exact h

/-! ### steps put together -/
theorem Stp.refl {A H σ ρ} (f : Fit A H σ ρ) : Stp A H σ ρ A H σ ρ :=
  ⟨fun _ h => h, fun _ _ h _ => h, fun _ h => h, fun _ h => .inl h, fun _ ds h => ⟨rfl, ds, h⟩, fun _ h => .inl h, fun _ _ h _ => ⟨h, rfl⟩, f⟩
theorem Stp.trans {A H σ ρ A1 H1 σ1 ρ1 A2 H2 σ2 ρ2} (a : Stp A H σ ρ A1 H1 σ1 ρ1) (b : Stp A1 H1 σ1 ρ1 A2 H2 σ2 ρ2) : Stp A H σ ρ A2 H2 σ2 ρ2 where
  ext := fun x h => b.ext x (a.ext x h)
  frame := fun x o h n => b.frame x o (a.frame x o h n) fun m => by
    rcases a.sub x m with q | q
    · exact n q
    · rw [h] at q; cases q
  dom := fun x h => a.dom x (b.dom x h)
  sub := fun x m => by
    rcases b.sub x m with q | q
    · exact a.sub x q
    · exact .inr (a.dom x q)
  mus := fun i ds h => by
    obtain ⟨e1, ds1, q1⟩ := a.mus i ds h
    obtain ⟨e2, ds2, q2⟩ := b.mus i ds1 q1
    exact ⟨e2.trans e1, ds2, q2⟩
  news := fun x h => by
    rcases b.news x h with q | q | q | ⟨i, ds, q1, q2⟩
    · exact a.news x q
    · exact .inr (.inl (a.dom x q))
    · rcases a.sub x q with z | z
      · exact .inr (.inr (.inl z))
      · exact .inr (.inl z)
    · obtain ⟨e1, e2⟩ := a.lents i _ q1 rfl
      exact .inr (.inr (.inr ⟨i, ds, e1, by rw [← e2]; exact q2⟩))
  lents := fun i s h o => by
    obtain ⟨e1, e2⟩ := b.lents i s h o
    obtain ⟨e3, e4⟩ := a.lents i s e1 o
    exact ⟨e3, e2.trans e4⟩
  fit := b.fit
theorem ResOk.start {A Hs Hs' H σ ρ v r} (h : ResOk A Hs H σ ρ v r) (d : ∀ a, Hs a = none → Hs' a = none) : ResOk A Hs' H σ ρ v r := by
  cases r with
  | fr _ => exact h
  | nw _ => obtain ⟨a, vs, h1, h2, h3, h4, h5, h6, h7⟩ := h; exact ⟨a, vs, h1, h2, h3, h4, h5, d _ h6, h7⟩
/-- a new list is frozen -/
theorem ResOk.fz {A Hs H σ ρ A0 ρ0 v r} (s : Stp A0 Hs σ ρ0 A H σ ρ) (h : ResOk A Hs H σ ρ v r) : ∃ A', Stp A0 Hs σ ρ0 A' H σ ρ ∧ Rep A' H v r.d := by
  cases r with
  | fr _ => exact ⟨A, s, h⟩
  | nw ds =>
    obtain ⟨a, vs, rfl, h2, h3, h4, h5, h6, h7⟩ := h
    have e : ∀ b, A b → A b ∨ b = a := fun _ h => .inl h
    have k : Keep A H H := fun _ _ _ h => h
    refine ⟨fun b => A b ∨ b = a, ⟨fun b hb => .inl (s.ext b hb), s.frame, s.dom, s.sub, s.mus, fun b hb => ?_, s.lents, ⟨s.fit.len, fun i sl ov e1 e2 => ?_, s.fit.apart, fun b hb => ?_⟩⟩, .lst (.inr rfl) h2 h3 (RepAll.mono e k h4)⟩
    · rcases hb with hb | rfl
      · exact s.news b hb
      · exact .inr (.inl h6)
    · have q := s.fit.slot i sl ov e1 e2
      cases sl with
      | un => trivial
      | fz d => obtain ⟨w, q1, q2⟩ := q; exact ⟨w, q1, Rep.mono e k q2⟩
      | own es => obtain ⟨b, ws, q1, q2, q3, q4, q5⟩ := q; subst q1; exact ⟨b, ws, rfl, q2, q3, RepAll.mono e k q4, fun z => z.elim q5 fun z => h7 i _ e1 rfl (by rw [e2, z])⟩
      | lent es => obtain ⟨b, ws, q1, q2, q3, q4, q5⟩ := q; subst q1; exact ⟨b, ws, rfl, q2, q3, RepAll.mono e k q4, fun z => z.elim q5 fun z => h7 i _ e1 rfl (by rw [e2, z])⟩
      | mu es => obtain ⟨b, ws, q1, q2, q3, q4, q5⟩ := q; subst q1; exact ⟨b, ws, rfl, q2, q3, RepAll.mono e k q4, fun z => z.elim q5 fun z => h7 i _ e1 rfl (by rw [e2, z])⟩
      | dct es => obtain ⟨b, ws, q1, q2, q3, q4, q5⟩ := q; subst q1; exact ⟨b, ws, rfl, q2, q3, KvRep.mono e k q4, fun z => z.elim q5 fun z => h7 i _ e1 rfl (by rw [e2, z])⟩
      | bor es => obtain ⟨b, ws, q1, q2, q3, q4⟩ := q; exact ⟨b, ws, q1, q2, q3, RepAll.mono e k q4⟩
      | ro es => obtain ⟨b, ws, q1, q2, q3, q4⟩ := q; exact ⟨b, ws, q1, q2, q3, RepAll.mono e k q4⟩
    · rcases hb with hb | rfl
      · exact s.fit.trk b hb
      · exact ⟨_, h2⟩

/-! ### what a piece of syntax does -/
def SndE (X : Cx) (e : Expr) (f : Env → Option (Res × Env)) : Prop := ∃ t : TE, PE X e t ∧
  ∀ A H σ ρ r ρ', Fit A H σ ρ → f ρ = some (r, ρ') → ∀ Q : VK, (∀ A' H' v, Stp A H σ ρ A' H' σ ρ' → ResOk A' H H' σ ρ' v r → Q v H') → t σ H Q
def SndD (X : Cx) (e : Expr) (f : Env → Option (Res × Env)) : Prop := ∃ t : TE, PE X e t ∧
  ∀ A H σ ρ r ρ', Fit A H σ ρ → f ρ = some (r, ρ') → ∀ Q : VK, (∀ A' H' v, Stp A H σ ρ A' H' σ ρ' → Rep A' H' v r.d → Q v H') → t σ H Q
theorem SndE.d {X e f} (h : SndE X e f) : SndD X e f := by
  obtain ⟨t, p, q⟩ := h
  refine ⟨t, p, fun A H σ ρ r ρ' ft e Q k => q A H σ ρ r ρ' ft e Q fun A' H' v s ok => ?_⟩
  obtain ⟨A2, s2, ok2⟩ := ok.fz s
  exact k A2 H' v s2 ok2
def SndO (X : Cx) (e : Expr) (f : Env → Option (Opd × Env)) : Prop := ∃ t : TE, PE X e t ∧
  ∀ A H σ ρ o ρ', Fit A H σ ρ → f ρ = some (o, ρ') → ∀ Q : VK, (∀ A' H' v, Stp A H σ ρ A' H' σ ρ' → OpdOk A' H' σ v o → Q v H') → t σ H Q
def SndT (X : Cx) (e : Expr) (f : Env → Option (Res × Env)) : Prop := ∃ t : TT, PT X e t ∧
  ∀ A H σ ρ b ρ', Fit A H σ ρ → f ρ = some (.fr (.bool b), ρ') → ∀ Q : Bool → Hp → Prop, (∀ A' H', Stp A H σ ρ A' H' σ ρ' → Q b H') → t σ H Q
/-- frozen arguments, operands -/
def SndA (X : Cx) (es : List Expr) (f : Env → Option (List D × Env)) : Prop := ∃ t : TA, PA X es t ∧
  ∀ A H σ ρ r ρ', Fit A H σ ρ → f ρ = some (r, ρ') → ∀ Q : List V → Hp → Prop, (∀ A' H' vs, Stp A H σ ρ A' H' σ ρ' → RepAll A' H' vs r → Q vs H') → t σ H Q
def OpdsOk (A : Addr → Prop) (H : Hp) (σ : St) : List V → List Opd → Prop
  | [], [] => True
  | v :: vs, o :: os => OpdOk A H σ v o ∧ OpdsOk A H σ vs os
  | _, _ => False
theorem OpdsOk.mono {A A' H H' σ} (e : ∀ a, A a → A' a) (k : Keep A H H') : ∀ {vs os}, OpdsOk A H σ vs os → OpdsOk A' H' σ vs os
  | [], [], _ => trivial
  | _ :: _, _ :: _, ⟨h1, h2⟩ => ⟨h1.mono e k, OpdsOk.mono e k h2⟩
def SndP (X : Cx) (es : List Expr) (f : Env → Option (List Opd × Env)) : Prop := ∃ t : TA, PA X es t ∧
  ∀ A H σ ρ r ρ', Fit A H σ ρ → f ρ = some (r, ρ') → ∀ Q : List V → Hp → Prop, (∀ A' H' vs, Stp A H σ ρ A' H' σ ρ' → OpdsOk A' H' σ vs r → Q vs H') → t σ H Q
end Ev

set_option maxRecDepth 100000
set_option maxHeartbeats 1000000
/-! EvO: the order of data that are alike: <, sorted, min, max. -/
namespace Ev
open PySem PySem.Spec PySem.W PyProof.Rows
mutual
theorem eqv_eq : ∀ (x y : PyData), alike x y = true → PyData.eqv x y = true → x = y
  | .none, y, h, e => by cases y <;> first | rfl | exact absurd h (by simp [alike])
  | .bool a, y, h, e => by
    cases y with
    | bool b =>
      have e' : a = b := by simpa [PyData.eqv] using e
      rw [e']
    | _ => exact absurd h (by simp [alike])
  | .int a, y, h, e => by
    cases y with
    | int b =>
      have e' : a = b := by simpa [PyData.eqv] using e
      rw [e']
    | _ => exact absurd h (by simp [alike])
  | .str a, y, h, e => by
    cases y with
    | str b =>
      have e' : a = b := by simpa [PyData.eqv] using e
      rw [e']
    | _ => exact absurd h (by simp [alike])
  | .list xs, y, h, e => by
    cases y with
    | list ys => rw [eqvAll_eq xs ys (by simpa [alike] using h) (by simpa [PyData.eqv] using e)]
    | _ => exact absurd h (by simp [alike])
  | .tuple xs, y, h, e => by
    cases y with
    | tuple ys => rw [eqvAll_eq xs ys (by simpa [alike] using h) (by simpa [PyData.eqv] using e)]
    | _ => exact absurd h (by simp [alike])
  | .dict _, y, h, e => absurd h (by cases y <;> simp [alike])
theorem eqvAll_eq : ∀ (xs ys : List PyData), alikeAll xs ys = true → PyData.eqvAll xs ys = true → xs = ys
  | [], [], _, _ => rfl
  | [], y :: ys, _, e => absurd e (by simp [PyData.eqvAll])
  | x :: xs, [], _, e => absurd e (by simp [PyData.eqvAll])
  | x :: xs, y :: ys, h, e => by
    rw [eqv_all_cons, Bool.and_eq_true] at e
    rw [eqv_eq x y (alike_all_cons h).1 e.1, eqvAll_eq xs ys (alike_all_cons h).2 e.2]
end
theorem lt_refl (x : PyData) : dataLt x x = false := lex_irrefl _
theorem lt_anti {x y : PyData} (h : alike x y = true) (h1 : dataLt x y = false) (h2 : dataLt y x = false) : x = y := by
  have e : keyToks x = keyToks y := lex_total (O := itemOrd) _ _ h1 h2
  cases hx : PyData.eqv x y with
  | true => exact eqv_eq x y h hx
  | false =>
    exfalso
    have z := (toks_eqv x y h).2 hx [] [.inl 0]
    rw [e] at z
    have a1 : PyProof.Rows.lexLt itemOrd (keyToks y ++ []) (keyToks y ++ [.inl 0]) = true := (lex_pre _ _ _).trans rfl
    rw [a1, lex_irrefl] at z
    cases z
theorem lt_trans' {x y z : PyData} (h1 : dataLt x y = true) (h2 : dataLt y z = true) : dataLt x z = true := lex_trans (O := itemOrd) _ _ _ h1 h2
theorem lt_neg {x y z : PyData} (h : dataLt x z = true) : dataLt x y = true ∨ dataLt y z = true := lex_negTrans (O := itemOrd) _ _ _ h
theorem lt_asymm {x y : PyData} (h1 : dataLt x y = true) : dataLt y x = false := by
  cases h : dataLt y x with
  | false => rfl
  | true => have := lt_trans' h1 h; rw [lt_refl] at this; cases this
theorem insD_perm (x : D) : ∀ r : List D, (insD x r).Perm (x :: r)
  | [] => .refl _
  | y :: r => by
    unfold insD
    split
    · exact ((insD_perm x r).cons y).trans (.swap x y r)
    · exact .refl _
theorem sortD_perm : ∀ r : List D, (sortD r).Perm r
  | [] => .refl _
  | x :: r => (insD_perm x _).trans ((sortD_perm r).cons x)
theorem insD_sorted (x : D) : ∀ r : List D, r.Pairwise (fun a b => dataLt b a = false) → (insD x r).Pairwise (fun a b => dataLt b a = false)
  | [], _ => by simp [insD]
  | y :: r, h => by
    unfold insD
    obtain ⟨h1, h2⟩ := List.pairwise_cons.mp h
    split
    · rename_i hz
      refine List.pairwise_cons.mpr ⟨fun a ha => ?_, insD_sorted x r h2⟩
      rcases List.mem_cons.mp ((insD_perm x r).mem_iff.mp ha) with rfl | ha
      · exact lt_asymm hz
      · exact h1 a ha
    · rename_i hz
      have hz : dataLt y x = false := by simpa using hz
      refine List.pairwise_cons.mpr ⟨fun a ha => ?_, h⟩
      rcases List.mem_cons.mp ha with rfl | ha
      · exact hz
      · cases e : dataLt a x with
        | false => rfl
        | true =>
          rcases lt_neg (y := y) e with z | z
          · rw [h1 a ha] at z; cases z
          · rw [hz] at z; cases z
theorem sortD_sorted : ∀ r : List D, (sortD r).Pairwise (fun a b => dataLt b a = false)
  | [] => .nil
  | x :: r => insD_sorted x _ (sortD_sorted r)
theorem sortD_uniq {l m : List D} (p : l.Perm m) (h : ∀ x ∈ l, ∀ y ∈ l, alike x y = true) (h1 : l.Pairwise (fun a b => dataLt b a = false)) (h2 : m.Pairwise (fun a b => dataLt b a = false)) : l = m :=
  p.eq_of_pairwise (fun a b ha hb h3 h4 => lt_anti (h a ha b (p.mem_iff.mpr hb)) h4 h3) h1 h2
theorem alikeB_iff {xs : List D} : alikeB xs = true ↔ ∀ x ∈ xs, ∀ y ∈ xs, alike x y = true := by
  simp only [alikeB, List.all_eq_true]
theorem mergeD (ds : List D) (h : alikeB ds = true) {α : Type} (ps : List α) (enc : α → D) (e : ps.map enc = ds) : (ps.mergeSort (dataLe false enc)).map enc = sortD ds := by
  have le : ∀ a b, dataLe false enc a b = !dataLt (enc b) (enc a) := fun a b => rfl
  have hp : ((ps.mergeSort (dataLe false enc)).map enc).Perm ds := by rw [← e]; exact (List.mergeSort_perm _ _).map _
  refine sortD_uniq (hp.trans (sortD_perm ds).symm) (fun x hx y hy => alikeB_iff.mp h x (hp.mem_iff.mp hx) y (hp.mem_iff.mp hy)) ?_ (sortD_sorted ds)
  rw [List.pairwise_map]
  refine List.Pairwise.imp (R := fun a b => dataLe false enc a b = true) (fun {a b} hab => by rw [le] at hab; simpa using hab) (List.pairwise_mergeSort (fun a b c h1 h2 => ?_) (fun a b => ?_) ps)
  · rw [le] at h1 h2 ⊢
    simp only [Bool.not_eq_true'] at h1 h2 ⊢
    cases z : dataLt (enc c) (enc a) with
    | false => rfl
    | true =>
      rcases lt_neg (y := enc b) z with q | q
      · rw [h2] at q; cases q
      · rw [h1] at q; cases q
  · rw [le, le]
    cases z : dataLt (enc b) (enc a) with
    | false => rfl
    | true => simp [lt_asymm z]
theorem minD_mem (x : D) : ∀ xs : List D, minD x xs ∈ x :: xs := by
  intro xs
  unfold minD
  induction xs generalizing x with
  | nil => simp
  | cons y ys ih =>
    rw [List.foldl_cons]
    have := ih (if dataLt y x = true then y else x)
    rcases List.mem_cons.mp this with h | h
    · rw [h]; split <;> simp
    · simp [h]
theorem maxD_mem (x : D) : ∀ xs : List D, maxD x xs ∈ x :: xs := by
  intro xs
  unfold maxD
  induction xs generalizing x with
  | nil => simp
  | cons y ys ih =>
    rw [List.foldl_cons]
    have := ih (if dataLt x y = true then y else x)
    rcases List.mem_cons.mp this with h | h
    · rw [h]; split <;> simp
    · simp [h]
end Ev
namespace Ev
open PySem PySem.Spec PyProof.Rows L2
section
variable {X : Cx}
/-- a test by the order -/
def rOrd (K : PySem.W.Frag) (g : D → D → Bool) : R2 := fun x y H Q => ∃ d e, Dp K H x d ∧ Dp K H y e ∧ ordOk d e = true ∧ Q (.bl (g d e)) H
theorem ordOk_iff {d e : D} (h : ordOk d e = true) : PySem.W.alike d e = true ∧ d ≠ .none ∧ min d.depth e.depth ≤ 60 := by
  unfold ordOk at h
  simp only [Bool.and_eq_true, decide_eq_true_eq] at h
  exact ⟨h.1.1, fun z => by (subst z; cases h.2), h.1.2⟩
theorem op_ltD (hu : X.A.units + 65 < cLine) : OpR X (compareOp .Lt) (rOrd X.K fun d e => PySem.W.dataLt d e) := by
  intro pins s σ H x y v u Q I rx ry h
  obtain ⟨d, e, hd, he, ok, q⟩ := h
  obtain ⟨as, r1⟩ := Dp.reads I d x v hd rx
  obtain ⟨bs, r2⟩ := Dp.reads I e y u he ry
  obtain ⟨h1, h2, h3⟩ := ordOk_iff ok
  exact PySem.W.lt_data r1 r2 h1 h2 (by omega) ⟨.bl _, H, I, rfl, q⟩
theorem op_gtD (hu : X.A.units + 65 < cLine) : OpR X (compareOp .Gt) (rOrd X.K fun d e => PySem.W.dataLt e d) := by
  intro pins s σ H x y v u Q I rx ry h
  obtain ⟨d, e, hd, he, ok, q⟩ := h
  obtain ⟨as, r1⟩ := Dp.reads I d x v hd rx
  obtain ⟨bs, r2⟩ := Dp.reads I e y u he ry
  obtain ⟨h1, h2, h3⟩ := ordOk_iff ok
  exact PySem.W.gt_data r1 r2 h1 h2 (by omega) ⟨.bl _, H, I, rfl, q⟩
theorem op_leD (hu : X.A.units + 65 < cLine) : OpR X (compareOp .LtE) (rOrd X.K fun d e => !PySem.W.dataLt e d) := by
  intro pins s σ H x y v u Q I rx ry h
  obtain ⟨d, e, hd, he, ok, q⟩ := h
  obtain ⟨as, r1⟩ := Dp.reads I d x v hd rx
  obtain ⟨bs, r2⟩ := Dp.reads I e y u he ry
  obtain ⟨h1, h2, h3⟩ := ordOk_iff ok
  exact PySem.W.le_data r1 r2 h1 h2 (by omega) ⟨.bl _, H, I, rfl, q⟩
theorem op_geD (hu : X.A.units + 65 < cLine) : OpR X (compareOp .GtE) (rOrd X.K fun d e => !PySem.W.dataLt d e) := by
  intro pins s σ H x y v u Q I rx ry h
  obtain ⟨d, e, hd, he, ok, q⟩ := h
  obtain ⟨as, r1⟩ := Dp.reads I d x v hd rx
  obtain ⟨bs, r2⟩ := Dp.reads I e y u he ry
  obtain ⟨h1, h2, h3⟩ := ordOk_iff ok
  exact PySem.W.ge_data r1 r2 h1 h2 (by omega) ⟨.bl _, H, I, rfl, q⟩
theorem dp_len {K H} : ∀ {vs : List V} {ds : List D}, DpAll K H vs ds → vs.length = ds.length
  | [], [], _ => rfl
  | _ :: _, _ :: _, .cons _ h => by simp [dp_len h]
theorem zip_snd {α β : Type} : ∀ (xs : List α) (ys : List β), xs.length = ys.length → (xs.zip ys).map Prod.snd = ys
  | [], [], _ => rfl
  | [], _ :: _, h => by simp at h
  | _ :: _, [], h => by simp at h
  | x :: xs, y :: ys, h => by simp [zip_snd xs ys (by simpa using h)]
theorem zip_each {K : PySem.W.Frag} {H : Hp} : ∀ {vs : List V} {us : List Value} {ds : List D}, Vals vs us → vs.length = ds.length → PySem.W.EachIs (fun (v : Value) (b : V × D) => RelV b.1 v) us (vs.zip ds)
  | [], _, [], h, _ => by cases h; exact .nil
  | [], _, _ :: _, _, h => by simp at h
  | _ :: _, _, [], _, h => by simp at h
  | v :: vs, _, d :: ds, h, hl => by
    cases h with
    | cons r rr => exact .cons r (zip_each (K := K) (H := H) rr (by simpa using hl))
theorem zip_reads {X : Cx} {pins : List (Addr × Obj)} {σ : L2.St} {H : Hp} {s : Shared} (I : Inv X pins σ H s) : ∀ {vs : List V} {us : List Value} {ds : List D}, DpAll X.K H vs ds → Vals vs us → PySem.W.EachIs (fun (v : Value) (b : V × D) => ∃ as, Reads s.heap v b.2 as) us (vs.zip ds)
  | [], _, [], _, h => by cases h; exact .nil
  | v :: vs, _, d :: ds, .cons hd hds, h => by
    cases h with
    | cons r rr => exact .cons (Dp.reads I d v _ hd r) (zip_reads I hds rr)
theorem each_vals {R : List (V × D)} {us : List Value} (h : PySem.W.EachIs (fun (v : Value) (b : V × D) => RelV b.1 v) us R) : Vals (R.map Prod.fst) us := by
  induction h with
  | nil => exact .nil
  | cons a _ ih => exact .cons a ih
def rSortD (K : PySem.W.Frag) : List V → Hp → VK → Prop := fun vs H Q => ∃ (a : Addr) (xs : List V) (ds : List D), vs = [V.ref a] ∧ SqL K H a xs ∧ DpAll K H xs ds ∧ sortOk ds = true ∧
  ∀ (ps : List (V × D)) (p : Addr), ps.Perm (xs.zip ds) → ps.map Prod.snd = sortD ds → H p = none → Q (.ref p) (upd H p (.lst (ps.map Prod.fst)))
theorem cr_sortD (hu : X.A.units + 65 < cLine) : CallR X (.builtin "sorted") (rSortD X.K) := by
  intro pins s σ H vs us Q I r h
  obtain ⟨a, xs, ds, rfl, hs, hd, ok, q⟩ := h
  obtain ⟨its, rv, hl, hz⟩ := I.list hs
  rw [Vals.ref1 r]
  unfold sortOk at ok
  simp only [Bool.and_eq_true, Bool.or_eq_true] at ok
  obtain ⟨⟨o1, o2⟩, o3⟩ := ok
  have el := dp_len hd
  have em : (xs.zip ds).map Prod.snd = ds := zip_snd _ _ el
  refine PySem.W.sorted_data (bs := xs.zip ds) (enc := Prod.snd) (show s.heap.IsList a its.toArray from hl.isList) (zip_each (K := X.K) (H := H) rv el) (zip_reads I hd rv) ?_ ?_ ?_ ?_ fun out hlen he => ?_
  · rw [em]; exact fun d h1 d' h2 => alikeB_iff.mp o1 d h1 d' h2
  · rw [em]
    rcases o3 with o3 | o3
    · refine .inl fun d h1 => ?_
      have := List.all_eq_true.mp o3 d h1
      unfold tupD1 at this
      split at this
      · exact ⟨_, _, rfl⟩
      · cases this
    · refine .inr fun d h1 => ?_
      have := List.all_eq_true.mp o3 d h1
      unfold notTupD at this
      split at this
      · cases this
      · cases this
      · rename_i z1 z2
        exact ⟨z2, fun xs e => z1 xs e⟩
  · rw [List.length_zip, ← el, Nat.min_self]; exact hz
  · intro b hb
    have hm : b.2 ∈ ds := by rw [← em]; exact List.mem_map_of_mem hb
    have := List.all_eq_true.mp o2 _ hm
    simp only [decide_eq_true_eq] at this
    omega
  · have hv := each_vals he
    obtain ⟨ep, he'⟩ := PyProof.Rows.sortedAll_at s.heap its out.toArray
    have hp := List.mergeSort_perm (xs.zip ds) (PySem.W.dataLe false Prod.snd)
    have hlen' : (((xs.zip ds).mergeSort (PySem.W.dataLe false Prod.snd)).map Prod.fst).length ≤ sizeLine := by
      rw [List.length_map, hp.length_eq, List.length_zip, ← el, Nat.min_self]; exact hz
    exact ⟨.ref _, upd H (s.heap.objs.size + 1) (.lst (((xs.zip ds).mergeSort (PySem.W.dataLe false Prod.snd)).map Prod.fst)), I.laid (t' := s.toks) (fun _ _ => PyProof.Rows.sortedAll_old) (Nat.le_succ _) ⟨hlen', out, ep, hv, he'⟩, rfl,
      q _ _ hp (mergeD ds o1 _ _ em) (I.hok.fresh (Nat.le_succ _))⟩
theorem depthAll_le {xs : List D} {d : D} (h : d ∈ xs) : d.depth ≤ PyData.depthAll xs := by
  induction xs with
  | nil => cases h
  | cons x xs ih =>
    simp only [PyData.depthAll]
    rcases List.mem_cons.mp h with rfl | h
    · omega
    · have := ih h; omega
def rMm (K : PySem.W.Frag) (g : D → List D → D) : List V → Hp → VK → Prop := fun vs H Q => ∃ (a : Addr) (xs : List V) (d : D) (ds : List D), vs = [V.ref a] ∧ (SqL K H a xs ∨ SqT K H a xs) ∧ DpAll K H xs (d :: ds) ∧ mmOk (d :: ds) = true ∧
  ∀ (i : Nat) (v : V), xs[i]? = some v → (d :: ds)[i]? = some (g d ds) → Q v H
theorem mmOk_iff {xs : List D} (h : mmOk xs = true) : PySem.W.AlikeAll xs ∧ PyData.depthAll xs ≤ 60 := by
  unfold mmOk at h
  simp only [Bool.and_eq_true, decide_eq_true_eq] at h
  refine ⟨⟨alikeB_iff.mp h.1.1, fun x hx e => ?_⟩, h.1.2⟩
  have := List.all_eq_true.mp h.2 x hx
  subst e
  cases this
theorem vals_at : ∀ {vs : List V} {us : List Value}, Vals vs us → ∀ {i : Nat} {u : Value}, us[i]? = some u → ∃ v, vs[i]? = some v ∧ RelV v u
  | _, _, .nil, i, u, h => by simp at h
  | _, _, .cons r rr, 0, u, h => by simp at h; subst h; exact ⟨_, rfl, r⟩
  | _, _, .cons r rr, i + 1, u, h => by
    obtain ⟨v, h1, h2⟩ := vals_at rr (i := i) (u := u) (by simpa using h)
    exact ⟨v, by simpa using h1, h2⟩
theorem dp_at {K H} : ∀ {vs : List V} {ds : List D}, DpAll K H vs ds → ∀ {i : Nat} {v : V}, vs[i]? = some v → ∃ d, ds[i]? = some d ∧ Dp K H v d
  | [], [], _, i, v, h => by simp at h
  | _ :: _, _ :: _, .cons r rr, 0, v, h => by simp at h; subst h; exact ⟨_, rfl, r⟩
  | _ :: _, _ :: _, .cons r rr, i + 1, v, h => by
    obtain ⟨d, h1, h2⟩ := dp_at rr (i := i) (v := v) (by simpa using h)
    exact ⟨d, by simpa using h1, h2⟩
theorem mm_fin {g : D → List D → D} {pins : List (Addr × Obj)} {σ : L2.St} {H : Hp} {s : Shared} {Q : VK} (I : Inv X pins σ H s) {xs : List V} {d : D} {ds : List D} {its : List Value} (rv : Vals xs its) (hd : DpAll X.K H xs (d :: ds)) (ok : mmOk (d :: ds) = true) (hg : g d ds ∈ d :: ds)
    (q : ∀ (i : Nat) (v : V), xs[i]? = some v → (d :: ds)[i]? = some (g d ds) → Q v H) {i : Nat} {v : Value} {h' : Heap} {tk : Nat} {bs : List Addr} (e1 : its[i]? = some v) (e2 : Reads h' v (g d ds) bs) (k : ∀ b o, s.heap.get? b = some o → h'.get? b = some o) :
    ∃ w H', Inv X pins σ H' { s with heap := h', toks := tk } ∧ RelV w v ∧ Q w H' := by
  obtain ⟨w, h1, h2⟩ := vals_at rv e1
  obtain ⟨e, h3, h4⟩ := dp_at hd h1
  obtain ⟨as, h5⟩ := Dp.reads I e w v h4 h2
  have h6 : Reads h' v e as := PyProof.Rows.Reads.keeps k h5
  have hal := (mmOk_iff ok).1.1 e (List.mem_of_getElem? h3) _ hg
  have := PySem.W.alike_unique e (g d ds) v as bs hal h6 e2
  subst this
  exact ⟨w, H, I.kept (t' := tk) k, h2, q i w h1 h3⟩
theorem cr_minD (hc : X.calm = true) (hu : X.A.units + 65 < cLine) : CallR X (.builtin "min") (rMm X.K PySem.W.minD) := by
  intro pins s σ H vs us Q I r h
  obtain ⟨a, xs, d, ds, rfl, hs, hd, ok, q⟩ := h
  rw [Vals.ref1 r]
  obtain ⟨o1, o2⟩ := mmOk_iff ok
  rcases hs with hs | hs
  · obtain ⟨its, rv, hl, hz⟩ := I.list hs
    obtain ⟨as, rr⟩ := Dp.readsAll I _ _ its hd rv
    refine PySem.W.min_list_data (I.ok.hd hc) (show s.heap.IsList a its.toArray from hl.isList) (by simpa using rr) o1 (by omega) fun i v h' tk bs e1 e2 k => ?_
    obtain ⟨w, H', z1, z2, z3⟩ := mm_fin (tk := tk) I rv hd ok (minD_mem d ds) q (by simpa using e1) e2 k
    exact ⟨w, H', z1, z2, z3⟩
  · obtain ⟨its, rv, hl, hz⟩ := I.tuple hs
    obtain ⟨as, rr⟩ := Dp.readsAll I _ _ its hd rv
    refine PySem.W.min_tuple_data (I.ok.hd hc) (show s.heap.IsTuple a its.toArray from hl) (by simpa using rr) o1 (by omega) fun i v h' tk bs e1 e2 k => ?_
    obtain ⟨w, H', z1, z2, z3⟩ := mm_fin (tk := tk) I rv hd ok (minD_mem d ds) q (by simpa using e1) e2 k
    exact ⟨w, H', z1, z2, z3⟩
theorem cr_maxD (hc : X.calm = true) (hu : X.A.units + 65 < cLine) : CallR X (.builtin "max") (rMm X.K PySem.W.maxD) := by
  intro pins s σ H vs us Q I r h
  obtain ⟨a, xs, d, ds, rfl, hs, hd, ok, q⟩ := h
  rw [Vals.ref1 r]
  obtain ⟨o1, o2⟩ := mmOk_iff ok
  rcases hs with hs | hs
  · obtain ⟨its, rv, hl, hz⟩ := I.list hs
    obtain ⟨as, rr⟩ := Dp.readsAll I _ _ its hd rv
    refine PySem.W.max_list_data (I.ok.hd hc) (show s.heap.IsList a its.toArray from hl.isList) (by simpa using rr) o1 (by omega) fun i v h' tk bs e1 e2 k => ?_
    obtain ⟨w, H', z1, z2, z3⟩ := mm_fin (tk := tk) I rv hd ok (maxD_mem d ds) q (by simpa using e1) e2 k
    exact ⟨w, H', z1, z2, z3⟩
  · obtain ⟨its, rv, hl, hz⟩ := I.tuple hs
    obtain ⟨as, rr⟩ := Dp.readsAll I _ _ its hd rv
    refine PySem.W.max_tuple_data (I.ok.hd hc) (show s.heap.IsTuple a its.toArray from hl) (by simpa using rr) o1 (by omega) fun i v h' tk bs e1 e2 k => ?_
    obtain ⟨w, H', z1, z2, z3⟩ := mm_fin (tk := tk) I rv hd ok (maxD_mem d ds) q (by simpa using e1) e2 k
    exact ⟨w, H', z1, z2, z3⟩
end
end Ev

set_option maxRecDepth 100000
/-! Ev3: operations on values. -/
namespace Ev
open PySem L2
variable [TheK]

/-! ### heaps that grow -/
theorem Fit.grow {A H H' σ ρ} (f : Fit A H σ ρ) (k : ∀ a o, H a = some o → H' a = some o) : Fit A H' σ ρ := by
  have kk : Keep A H H' := fun a o _ e => k a o e
  have e : ∀ a, A a → A a := fun _ h => h
  refine ⟨f.len, fun i s ov e1 e2 => ?_, f.apart, fun a h => let ⟨o, q⟩ := f.trk a h; ⟨o, k a o q⟩⟩
  have q := f.slot i s ov e1 e2
  cases s with
  | un => trivial
  | fz d => obtain ⟨w, q1, q2⟩ := q; exact ⟨w, q1, Rep.mono e kk q2⟩
  | own es => obtain ⟨b, ws, q1, q2, q3, q4, q5⟩ := q; exact ⟨b, ws, q1, k _ _ q2, q3, RepAll.mono e kk q4, q5⟩
  | lent es => obtain ⟨b, ws, q1, q2, q3, q4, q5⟩ := q; exact ⟨b, ws, q1, k _ _ q2, q3, RepAll.mono e kk q4, q5⟩
  | mu es => obtain ⟨b, ws, q1, q2, q3, q4, q5⟩ := q; exact ⟨b, ws, q1, k _ _ q2, q3, RepAll.mono e kk q4, q5⟩
  | dct es => obtain ⟨b, ws, q1, q2, q3, q4, q5⟩ := q; exact ⟨b, ws, q1, k _ _ q2, q3, KvRep.mono e kk q4, q5⟩
  | bor es => obtain ⟨b, ws, q1, q2, q3, q4⟩ := q; exact ⟨b, ws, q1, k _ _ q2, q3, RepAll.mono e kk q4⟩
  | ro es => obtain ⟨b, ws, q1, q2, q3, q4⟩ := q; exact ⟨b, ws, q1, q2.keep fun o u => k b _, q3, RepAll.mono e kk q4⟩
theorem Stp.grow {A H H' σ ρ} (f : Fit A H σ ρ) (k : ∀ a o, H a = some o → H' a = some o) : Stp A H σ ρ A H' σ ρ :=
  ⟨fun _ h => h, fun a o e _ => k a o e, fun a e =>
    (by
      cases q : H a with
      | none => rfl
      | some o => rw [k a o q] at e; cases e), fun _ h => .inl h, fun _ ds h => ⟨rfl, ds, h⟩, fun _ h => .inl h, fun _ _ h _ => ⟨h, rfl⟩, f.grow k⟩
theorem upd_grow {H : Hp} {p : Addr} {o : HO} (h : H p = none) : ∀ a u, H a = some u → upd H p o a = some u := fun a u e => by
  rw [upd_ne (ne_of_none e h)]; exact e
/-- a new object that is frozen at once -/
theorem Stp.frz {A H σ ρ} (f : Fit A H σ ρ) {p : Addr} {o : HO} (h : H p = none) : Stp A H σ ρ (fun b => A b ∨ b = p) (upd H p o) σ ρ := by
  have s := Stp.grow f (upd_grow (o := o) h)
  have k : Keep A (upd H p o) (upd H p o) := fun _ _ _ h => h
  have e : ∀ b, A b → A b ∨ b = p := fun _ h => .inl h
  refine ⟨e, s.frame, s.dom, s.sub, s.mus, fun b hb => Or.elim hb .inl fun z => .inr (.inl (by rw [z]; exact h)), s.lents, ⟨f.len, fun i sl ov e1 e2 => ?_, f.apart, fun b hb => ?_⟩⟩
  · have q := s.fit.slot i sl ov e1 e2
    have np : ∀ b ws, (upd H p o) b = some ws → (∃ us, H b = some us) → b ≠ p := fun b ws _ ⟨us, z⟩ y => by rw [y, h] at z; cases z
    have q0 := f.slot i sl ov e1 e2
    cases sl with
    | un => trivial
    | fz d => obtain ⟨w, q1, q2⟩ := q; exact ⟨w, q1, Rep.mono e k q2⟩
    | own es => obtain ⟨b, ws, q1, q2, q3, q4, q5⟩ := q; obtain ⟨b', ws', z1, z2, _⟩ := q0; rw [q1] at z1; cases z1; exact ⟨b, ws, q1, q2, q3, RepAll.mono e k q4, fun z => z.elim q5 (np b _ q2 ⟨_, z2⟩)⟩
    | lent es => obtain ⟨b, ws, q1, q2, q3, q4, q5⟩ := q; obtain ⟨b', ws', z1, z2, _⟩ := q0; rw [q1] at z1; cases z1; exact ⟨b, ws, q1, q2, q3, RepAll.mono e k q4, fun z => z.elim q5 (np b _ q2 ⟨_, z2⟩)⟩
    | mu es => obtain ⟨b, ws, q1, q2, q3, q4, q5⟩ := q; obtain ⟨b', ws', z1, z2, _⟩ := q0; rw [q1] at z1; cases z1; exact ⟨b, ws, q1, q2, q3, RepAll.mono e k q4, fun z => z.elim q5 (np b _ q2 ⟨_, z2⟩)⟩
    | dct es => obtain ⟨b, ws, q1, q2, q3, q4, q5⟩ := q; obtain ⟨b', ws', z1, z2, _⟩ := q0; rw [q1] at z1; cases z1; exact ⟨b, ws, q1, q2, q3, KvRep.mono e k q4, fun z => z.elim q5 (np b _ q2 ⟨_, z2⟩)⟩
    | bor es => obtain ⟨b, ws, q1, q2, q3, q4⟩ := q; exact ⟨b, ws, q1, q2, q3, RepAll.mono e k q4⟩
    | ro es => obtain ⟨b, ws, q1, q2, q3, q4⟩ := q; exact ⟨b, ws, q1, q2, q3, RepAll.mono e k q4⟩
  · rcases hb with hb | rfl
    · exact s.fit.trk b hb
    · exact ⟨_, upd_same⟩
theorem Fit.noref {A H σ ρ} (f : Fit A H σ ρ) {p : Addr} (h : H p = none) (i : Nat) (s : Slot) (hs : ρ[i]? = some s) (hl : liveB s = true) : σ[i]? ≠ some (some (.ref p)) := fun e => by
  have q := f.slot i s _ hs e
  cases s with
  | un => cases hl
  | fz d => cases hl
  | own es => obtain ⟨b, ws, q1, q2, _⟩ := q; cases q1; rw [h] at q2; cases q2
  | lent es => obtain ⟨b, ws, q1, q2, _⟩ := q; cases q1; rw [h] at q2; cases q2
  | mu es => obtain ⟨b, ws, q1, q2, _⟩ := q; cases q1; rw [h] at q2; cases q2
  | dct es => obtain ⟨b, ws, q1, q2, _⟩ := q; cases q1; rw [h] at q2; cases q2
  | bor es => obtain ⟨b, ws, q1, q2, _⟩ := q; cases q1; rw [h] at q2; cases q2
  | ro es => cases hl
theorem Fit.nofrz {A H σ ρ} (f : Fit A H σ ρ) {p : Addr} (h : H p = none) : ¬ A p := fun z => by
  obtain ⟨o, e⟩ := f.trk p z; rw [h] at e; cases e
/-- a new list -/
theorem res_new {A H σ ρ} (f : Fit A H σ ρ) {p : Addr} {vs : List V} {ds : List D} (h : H p = none) (hl : vs.length ≤ sizeLine) (r : RepAll A H vs ds) : ResOk A H (upd H p (.lst vs)) σ ρ (.ref p) (.nw ds) :=
  ⟨p, vs, rfl, upd_same, hl, RepAll.mono (fun _ z => z) (fun a o _ e => upd_grow h a o e) r, f.nofrz h, h, f.noref h⟩
theorem rep_newT {A : Addr → Prop} {H : Hp} {p : Addr} {vs : List V} {ds : List D} (h : H p = none) (hl : vs.length ≤ sizeLine) (r : RepAll A H vs ds) : Rep (fun b => A b ∨ b = p) (upd H p (.tup vs)) (.ref p) (.tuple ds) :=
  .tup (.inr rfl) upd_same hl (RepAll.mono (fun _ z => .inl z) (fun a o _ e => upd_grow h a o e) r)

/-! ### reading -/
theorem RepW.list {A H v ds} (h : RepW A H v (.list ds)) : ∃ a vs, v = .ref a ∧ H a = some (.lst vs) ∧ vs.length ≤ sizeLine ∧ RepAll A H vs ds := by
  rcases h with h | ⟨a, vs, es, h1, h2, h3, h4, h5⟩
  · cases h with | lst h1 h2 h3 h4 => exact ⟨_, _, rfl, h2, h3, h4⟩
  · cases h2; exact ⟨a, vs, h1, h3, h4, h5⟩
theorem RepW.rep {A H v d} (h : RepW A H v d) (n : ∀ ds, d ≠ .list ds) : Rep A H v d := by
  rcases h with h | ⟨a, vs, es, h1, h2, h3, h4, h5⟩
  · exact h
  · exact absurd h2 (n _)
theorem RepW.tup {A H v ds} (h : RepW A H v (.tuple ds)) : ∃ a vs, v = .ref a ∧ A a ∧ H a = some (.tup vs) ∧ vs.length ≤ sizeLine ∧ RepAll A H vs ds := by
  have h := h.rep (fun _ z => by cases z)
  cases h with | tup h1 h2 h3 h4 => exact ⟨_, _, rfl, h1, h2, h3, h4⟩
theorem RepW.int {A H v i} (h : RepW A H v (.int i)) : v = .int i := by
  have h := h.rep (fun _ z => by cases z)
  cases h; rfl
theorem RepW.bool {A H v i} (h : RepW A H v (.bool i)) : v = .bl i := by
  have h := h.rep (fun _ z => by cases z)
  cases h; rfl
theorem RepW.str {A H v i} (h : RepW A H v (.str i)) : v = .str i := by
  have h := h.rep (fun _ z => by cases z)
  cases h; rfl
theorem RepW.non {A H v} (h : RepW A H v .none) : v = .non := by
  have h := h.rep (fun _ z => by cases z)
  cases h; rfl
mutual
theorem Rep.dp {K A H} : ∀ {v d}, Rep A H v d → Dp K H v d
  | _, _, .none => .non
  | _, _, .bool => .bl _
  | _, _, .int => .int _
  | _, _, .str => .str _
  | _, _, .lst _ h2 _ h4 => .lst (SqL.of h2) (RepAll.dp h4)
  | _, _, .tup _ h2 _ h4 => .tup (SqT.of h2) (RepAll.dp h4)
theorem RepAll.dp {K A H} : ∀ {vs ds}, RepAll A H vs ds → DpAll K H vs ds
  | _, _, .nil => .nil
  | _, _, .cons h1 h2 => .cons (Rep.dp h1) (RepAll.dp h2)
end
theorem RepW.dp {K A H v d} (h : RepW A H v d) : Dp K H v d := by
  rcases h with h | ⟨a, vs, es, h1, h2, h3, h4, h5⟩
  · exact h.dp
  · subst h1 h2; exact .lst (SqL.of h3) h5.dp

/-! ### an operation on two values -/
def OpSnd (X : Cx) (f : Value → Value → Sem Value) (g : D → D → Option Res) : Prop := ∃ r : R2, OpR X f r ∧
  ∀ A H σ ρ x y d e res, Fit A H σ ρ → RepW A H x d → RepW A H y e → g d e = some res → ∀ Q : VK, (∀ A' H' v, Stp A H σ ρ A' H' σ ρ → ResOk A' H H' σ ρ v res → Q v H') → r x y H Q
/-- .. that makes nothing -/
theorem OpSnd.flat {X f g} {r : R2} (ho : OpR X f r) (h : ∀ A H x y d e res, RepW A H x d → RepW A H y e → g d e = some res → ∃ d', res = .fr d' ∧ ∀ Q : VK, (∀ v, Rep A H v d' → Q v H) → r x y H Q) : OpSnd X f g :=
  ⟨r, ho, fun A H σ ρ x y d e res ft hx hy hg Q k => by
    obtain ⟨d', rfl, q⟩ := h A H x y d e res hx hy hg
    exact q Q fun v hv => k A H v (Stp.refl ft) hv⟩

def bop : Bop → Operator
  | .add => .Add
  | .sub => .Sub
  | .mul => .Mult
  | .fdiv => .FloorDiv
  | .mod => .Mod
  | .pow => .Pow
def cop : Cop → CmpOp
  | .eq => .Eq
  | .ne => .NotEq
  | .lt => .Lt
  | .le => .LtE
  | .gt => .Gt
  | .ge => .GtE
  | .inn => .In
  | .nin => .NotIn
  | .is => .Is
  | .isn => .IsNot
section
variable {X : Cx}
theorem rep_int' {A H i} : Rep A H (.int i) (.int i) := .int
theorem op_fdivNW : OpR X (binaryOp .FloorDiv) (rI (fun _ j => j ≠ 0 ∧ j.natAbs.log2 < 9000) fun i j => .int (i.fdiv j)) := opI fun _ _ _ _ _ _ _ hc q => PyProof.Rows.floordiv_int hc.1 q (.inl (PyProof.noPylong_of_log2 hc.2))
theorem op_mulA : OpR X (binaryOp .Mult) (rI (fun i j => CMul i j ∨ CMulW i j) fun i j => .int (i * j)) := by
  intro pins s σ H x y v u Q I rx ry h
  obtain ⟨i, j, rfl, rfl, c, q⟩ := h
  rcases c with c | c
  · exact op_mul pins s σ H _ _ v u Q I rx ry ⟨i, j, rfl, rfl, c, q⟩
  · exact op_mulW pins s σ H _ _ v u Q I rx ry ⟨i, j, rfl, rfl, c, q⟩
theorem snd_bop (o : Bop) : OpSnd X (binaryOp (bop o)) (dBin o) := by
  cases o with
  | add =>
    refine ⟨_, ((op_add.or op_add_str).or (op_cat.or op_catA)), fun A H σ ρ x y d e res ft hx hy hg Q k => ?_⟩
    cases d <;> cases e <;> simp only [dBin, reduceCtorEq] at hg
    · cases hg
      cases hx.int; cases hy.int
      exact .inl (.inl ⟨_, _, rfl, rfl, k A H _ (Stp.refl ft) .int⟩)
    · split at hg
      · rename_i hz
        cases hg
        cases hx.str; cases hy.str
        exact .inl (.inr ⟨_, _, rfl, rfl, hz, k A H _ (Stp.refl ft) .str⟩)
      · cases hg
    · split at hg
      · rename_i hz
        cases hg
        obtain ⟨a, vs, rfl, h1, h2, h3⟩ := hx.list
        obtain ⟨b, ws, rfl, h4, h5, h6⟩ := hy.list
        have hz' : vs.length + ws.length ≤ sizeLine := by rw [h3.length, h6.length]; exact hz
        exact .inr (.inl ⟨a, b, vs, ws, rfl, rfl, h1, h4, hz', fun p hp => k A _ _ (Stp.grow ft (upd_grow hp)) (res_new ft hp (by rw [List.length_append]; exact hz') (h3.append h6))⟩)
      · cases hg
    · split at hg
      · rename_i hz
        cases hg
        obtain ⟨a, vs, rfl, h0, h1, h2, h3⟩ := hx.tup
        obtain ⟨b, ws, rfl, h0', h4, h5, h6⟩ := hy.tup
        have hz' : vs.length + ws.length ≤ sizeLine := by rw [h3.length, h6.length]; exact hz
        refine .inr (.inr ⟨a, b, vs, ws, rfl, rfl, SqT.of h1, SqT.of h4, hz', fun e => ?_, fun _ e => ?_, fun _ _ p hp => ?_⟩)
        · subst e
          cases h3
          exact k A H _ (Stp.refl ft) (.tup h0' h4 h5 h6)
        · subst e
          cases h6
          exact k A H _ (Stp.refl ft) (by rw [List.append_nil]; exact .tup h0 h1 h2 h3)
        · exact k _ _ _ (Stp.frz ft hp) (rep_newT hp (by rw [List.length_append]; exact hz') (h3.append h6))
      · cases hg
  | sub =>
    refine ⟨_, op_sub, fun A H σ ρ x y d e res ft hx hy hg Q k => ?_⟩
    cases d <;> cases e <;> simp only [dBin, reduceCtorEq] at hg
    cases hg
    cases hx.int; cases hy.int
    exact ⟨_, _, rfl, rfl, k A H _ (Stp.refl ft) .int⟩
  | mul =>
    refine ⟨_, op_mulA.or op_rep, fun A H σ ρ x y d e res ft hx hy hg Q k => ?_⟩
    cases d <;> cases e <;> simp only [dBin, reduceCtorEq] at hg
    · split at hg
      · rename_i hz
        cases hg
        cases hx.int; cases hy.int
        exact .inl ⟨_, _, rfl, rfl, hz, k A H _ (Stp.refl ft) .int⟩
      · cases hg
    · split at hg
      · rename_i hz
        cases hg
        obtain ⟨a, vs, rfl, h1, h2, h3⟩ := hx.list
        cases hy.int
        obtain ⟨z1, z2, z3⟩ := hz
        rw [← h3.length] at z3
        exact .inr ⟨a, _, vs, rfl, rfl, h1, z1, z2, z3, fun p hp => k A _ _ (Stp.grow ft (upd_grow hp)) (res_new ft hp (by rw [PyProof.Rows.lm_len_rep_flat, Nat.mul_comm]; exact z3) (h3.rep _))⟩
      · cases hg
  | fdiv =>
    refine ⟨_, op_fdivNW, fun A H σ ρ x y d e res ft hx hy hg Q k => ?_⟩
    cases d <;> cases e <;> simp only [dBin, reduceCtorEq] at hg
    split at hg
    · rename_i hz
      cases hg
      cases hx.int; cases hy.int
      exact ⟨_, _, rfl, rfl, hz, k A H _ (Stp.refl ft) .int⟩
    · cases hg
  | mod =>
    refine ⟨_, op_modN, fun A H σ ρ x y d e res ft hx hy hg Q k => ?_⟩
    cases d <;> cases e <;> simp only [dBin, reduceCtorEq] at hg
    split at hg
    · rename_i hz
      cases hg
      cases hx.int; cases hy.int
      exact ⟨_, _, rfl, rfl, hz, k A H _ (Stp.refl ft) .int⟩
    · cases hg
  | pow =>
    refine ⟨_, op_pow, fun A H σ ρ x y d e res ft hx hy hg Q k => ?_⟩
    cases d <;> cases e <;> simp only [dBin, reduceCtorEq] at hg
    split at hg
    · rename_i hz
      cases hg
      cases hx.int; cases hy.int
      exact ⟨_, _, rfl, rfl, hz, k A H _ (Stp.refl ft) .int⟩
    · cases hg

/-! ### comparisons -/
/-- .. a test by values -/
def CmpSnd (X : Cx) (f : Value → Value → Sem Value) (g : D → D → Option Bool) : Prop := ∃ r : R2, OpR X f r ∧
  ∀ A H x y d e b, RepW A H x d → RepW A H y e → g d e = some b → ∀ Q : VK, Q (.bl b) H → r x y H Q
theorem op_isB : OpR X (compareOp .Is) (fun x y H Q => ∃ b, y = .bl b ∧ Q (.bl (decide (x = .bl b))) H) := by
  intro pins s σ H x y v u Q I rx ry h
  obtain ⟨b, rfl, q⟩ := h
  cases (show u = Value.bool b from ry)
  by_cases e : x = .bl b
  · subst e
    cases (show v = Value.bool b from rx)
    exact wpAny_is_self rfl ⟨.bl true, H, I, rfl, by simpa using q⟩
  · refine wpAny_is_other ?_ ?_ ⟨.bl false, H, I, rfl, by simpa [e] using q⟩
    · cases x <;> first
        | (cases rx; rfl)
        | (obtain ⟨t, rfl⟩ := rx; rfl)
    · intro z
      subst z
      exact e (rx.inj rfl)
theorem op_isnB : OpR X (compareOp .IsNot) (fun x y H Q => ∃ b, y = .bl b ∧ Q (.bl (!decide (x = .bl b))) H) := by
  intro pins s σ H x y v u Q I rx ry h
  obtain ⟨b, rfl, q⟩ := h
  cases (show u = Value.bool b from ry)
  by_cases e : x = .bl b
  · subst e
    cases (show v = Value.bool b from rx)
    exact wpAny_isNot_self rfl ⟨.bl false, H, I, rfl, by simpa using q⟩
  · refine wpAny_isNot_other ?_ ?_ ⟨.bl true, H, I, rfl, by simpa [e] using q⟩
    · cases x <;> first
        | (cases rx; rfl)
        | (obtain ⟨t, rfl⟩ := rx; rfl)
    · intro z
      subst z
      exact e (rx.inj rfl)
theorem flat_rep : ∀ {A H v d}, Rep A H v d → isFlat d = flatV v
  | _, _, _, _, .none => rfl
  | _, _, _, _, .bool => rfl
  | _, _, _, _, .int => rfl
  | _, _, _, _, .str => rfl
  | _, _, _, _, .lst .. => rfl
  | _, _, _, _, .tup .. => rfl
theorem eqv_flat {A H v d w e} (h : Rep A H v d) (h' : Rep A H w e) (f : isFlat d = true) (f' : isFlat e = true) : PyData.eqv d e = eqV v w := by
  cases h <;> cases h' <;> first | (simp [isFlat] at f; done) | (simp [isFlat] at f'; done) | rfl | simp [PyData.eqv, eqV]
theorem all_flat {A H} : ∀ {vs ds}, RepAll A H vs ds → ds.all isFlat = vs.all flatV
  | _, _, .nil => rfl
  | _, _, .cons h1 h2 => by rw [List.all_cons, List.all_cons, flat_rep h1, all_flat h2]
theorem any_flat {A H v d} (h : Rep A H v d) (f : isFlat d = true) : ∀ {vs ds}, RepAll A H vs ds → ds.all isFlat = true → (ds.any fun z => PyData.eqv z d) = inV v vs
  | _, _, .nil, _ => rfl
  | _, _, .cons h1 h2, g => by
    rw [List.all_cons, Bool.and_eq_true] at g
    unfold inV
    rw [List.any_cons, List.any_cons, eqv_flat h1 h g.1 f, any_flat h f h2 g.2]
    rfl
theorem flat_w {A H v d} (h : RepW A H v d) (f : isFlat d = true) : Rep A H v d := h.rep fun ds e => by subst e; cases f
theorem snd_cop (hu : X.A.units + 65 < cLine) (o : Cop) : CmpSnd X (compareOp (cop o)) (dCmp o) := by
  cases o with
  | eq =>
    refine ⟨_, op_eqD (by omega), fun A H x y d e b hx hy hg Q k => ?_⟩
    simp only [dCmp, Bool.and_eq_true] at hg
    split at hg
    · rename_i hz
      cases hg
      exact ⟨d, e, hx.dp, hy.dp, hz.1, hz.2, k⟩
    · cases hg
  | ne =>
    refine ⟨_, op_neD (by omega), fun A H x y d e b hx hy hg Q k => ?_⟩
    simp only [dCmp, Bool.and_eq_true] at hg
    split at hg
    · rename_i hz
      cases hg
      exact ⟨d, e, hx.dp, hy.dp, hz.1, hz.2, k⟩
    · cases hg
  | lt =>
    refine ⟨_, op_lt.or (op_ltD hu), fun A H x y d e b hx hy hg Q k => ?_⟩
    by_cases hi : ∃ i j, d = .int i ∧ e = .int j
    · obtain ⟨i, j, rfl, rfl⟩ := hi
      simp only [dCmp, Option.some.injEq] at hg
      subst hg
      cases hx.int; cases hy.int
      exact .inl ⟨_, _, rfl, rfl, k⟩
    · refine .inr ⟨d, e, hx.dp, hy.dp, ?_⟩
      have hg' : ordC d e (PySem.W.dataLt d e) = some b := by
        cases d <;> first
          | exact hg
          | (cases e <;> first | exact hg | exact absurd ⟨_, _, rfl, rfl⟩ hi)
      unfold ordC at hg'
      split at hg'
      · rename_i z
        cases hg'
        exact ⟨z, k⟩
      · cases hg'
  | le =>
    refine ⟨_, op_le.or (op_leD hu), fun A H x y d e b hx hy hg Q k => ?_⟩
    by_cases hi : ∃ i j, d = .int i ∧ e = .int j
    · obtain ⟨i, j, rfl, rfl⟩ := hi
      simp only [dCmp, Option.some.injEq] at hg
      subst hg
      cases hx.int; cases hy.int
      exact .inl ⟨_, _, rfl, rfl, k⟩
    · refine .inr ⟨d, e, hx.dp, hy.dp, ?_⟩
      have hg' : ordC d e (!PySem.W.dataLt e d) = some b := by
        cases d <;> first
          | exact hg
          | (cases e <;> first | exact hg | exact absurd ⟨_, _, rfl, rfl⟩ hi)
      unfold ordC at hg'
      split at hg'
      · rename_i z
        cases hg'
        exact ⟨z, k⟩
      · cases hg'
  | gt =>
    refine ⟨_, op_gt.or (op_gtD hu), fun A H x y d e b hx hy hg Q k => ?_⟩
    by_cases hi : ∃ i j, d = .int i ∧ e = .int j
    · obtain ⟨i, j, rfl, rfl⟩ := hi
      simp only [dCmp, Option.some.injEq] at hg
      subst hg
      cases hx.int; cases hy.int
      exact .inl ⟨_, _, rfl, rfl, k⟩
    · refine .inr ⟨d, e, hx.dp, hy.dp, ?_⟩
      have hg' : ordC d e (PySem.W.dataLt e d) = some b := by
        cases d <;> first
          | exact hg
          | (cases e <;> first | exact hg | exact absurd ⟨_, _, rfl, rfl⟩ hi)
      unfold ordC at hg'
      split at hg'
      · rename_i z
        cases hg'
        exact ⟨z, k⟩
      · cases hg'
  | ge =>
    refine ⟨_, op_ge.or (op_geD hu), fun A H x y d e b hx hy hg Q k => ?_⟩
    by_cases hi : ∃ i j, d = .int i ∧ e = .int j
    · obtain ⟨i, j, rfl, rfl⟩ := hi
      simp only [dCmp, Option.some.injEq] at hg
      subst hg
      cases hx.int; cases hy.int
      exact .inl ⟨_, _, rfl, rfl, k⟩
    · refine .inr ⟨d, e, hx.dp, hy.dp, ?_⟩
      have hg' : ordC d e (!PySem.W.dataLt d e) = some b := by
        cases d <;> first
          | exact hg
          | (cases e <;> first | exact hg | exact absurd ⟨_, _, rfl, rfl⟩ hi)
      unfold ordC at hg'
      split at hg'
      · rename_i z
        cases hg'
        exact ⟨z, k⟩
      · cases hg'
  | inn =>
    refine ⟨_, (op_inD hu).or op_in_seq, fun A H x y d e b hx hy hg Q k => ?_⟩
    cases e <;> simp only [dCmp, reduceCtorEq, Bool.and_eq_true] at hg
    · split at hg
      · rename_i hz
        cases hg
        exact .inl ⟨d, _, hx.dp, hy.dp, hz.1, hz.2, k⟩
      · cases hg
    · split at hg
      · rename_i hz
        cases hg
        have hx' := flat_w hx hz.1
        obtain ⟨a, vs, rfl, _, h1, _, h2⟩ := hy.tup
        refine .inr ⟨a, vs, rfl, .inr (SqT.of h1), by rw [← flat_rep hx']; exact hz.1, by rw [← all_flat h2]; exact hz.2, ?_⟩
        rw [any_flat hx' hz.1 h2 hz.2] at k
        exact k
      · cases hg
  | nin =>
    refine ⟨_, (op_notInD hu).or op_notIn_seq, fun A H x y d e b hx hy hg Q k => ?_⟩
    cases e <;> simp only [dCmp, reduceCtorEq, Bool.and_eq_true] at hg
    · split at hg
      · rename_i hz
        cases hg
        exact .inl ⟨d, _, hx.dp, hy.dp, hz.1, hz.2, k⟩
      · cases hg
    · split at hg
      · rename_i hz
        cases hg
        have hx' := flat_w hx hz.1
        obtain ⟨a, vs, rfl, _, h1, _, h2⟩ := hy.tup
        refine .inr ⟨a, vs, rfl, .inr (SqT.of h1), by rw [← flat_rep hx']; exact hz.1, by rw [← all_flat h2]; exact hz.2, ?_⟩
        rw [any_flat hx' hz.1 h2 hz.2] at k
        exact k
      · cases hg
  | is =>
    refine ⟨_, op_isN.or op_isB, fun A H x y d e b hx hy hg Q k => ?_⟩
    cases e <;> simp only [dCmp, reduceCtorEq] at hg
    · cases hg
      cases hy.non
      refine .inl ⟨rfl, ?_⟩
      rcases hx with hx | ⟨a, vs, ds, rfl, rfl, _⟩
      · cases hx <;> exact k
      · exact k
    · cases hg
      cases hy.bool
      refine .inr ⟨_, rfl, ?_⟩
      rcases hx with hx | ⟨a, vs, ds, rfl, rfl, _⟩
      · cases hx <;> first | (simpa using k; done) | (rename_i b c; cases b <;> cases c <;> exact k)
      · simpa using k
  | isn =>
    refine ⟨_, op_notN.or op_isnB, fun A H x y d e b hx hy hg Q k => ?_⟩
    cases e <;> simp only [dCmp, reduceCtorEq] at hg
    · cases hg
      cases hy.non
      refine .inl ⟨rfl, ?_⟩
      rcases hx with hx | ⟨a, vs, ds, rfl, rfl, _⟩
      · cases hx <;> exact k
      · exact k
    · cases hg
      cases hy.bool
      refine .inr ⟨_, rfl, ?_⟩
      rcases hx with hx | ⟨a, vs, ds, rfl, rfl, _⟩
      · cases hx <;> first | (simpa using k; done) | (rename_i b c; cases b <;> cases c <;> exact k)
      · simpa using k
end
end Ev

set_option maxRecDepth 100000
/-! Ev4: the context; names, constants, operators, calls. -/
namespace Ev
open PySem L2
variable [TheK]

def bltNames : List String := ["len", "abs", "int", "str", "repr", "sum", "max", "min", "all", "any", "sorted", "list", "tuple", "range", "isinstance", "enumerate", "zip", "reversed", "bool", "dict", "set"]
/-- where one stands: the scope, the names whose cells are one's own -/
structure Sc where
  sc : Scope
  fs : Str → Bool
  gcd : Bool

/-! ### what a def promises -/
def RetOk (A : Addr → Prop) (Hs H : Hp) (v : V) : Res → Prop
  | .fr d => Rep A H v d
  | .nw ds => ∃ a vs, v = .ref a ∧ H a = some (.lst vs) ∧ vs.length ≤ sizeLine ∧ RepAll A H vs ds ∧ ¬ A a ∧ Hs a = none
def OutsOk (A : Addr → Prop) (H : Hp) : List PK → List V → List (List D) → Prop
  | [], _, [] => True
  | .M :: ks, v :: vs, ds :: outs => (∃ a ws, v = .ref a ∧ H a = some (.lst ws) ∧ ws.length ≤ sizeLine ∧ RepAll A H ws ds ∧ ¬ A a) ∧ OutsOk A H ks vs outs
  | .B :: ks, _ :: vs, outs => OutsOk A H ks vs outs
  | .I :: ks, _ :: vs, outs => OutsOk A H ks vs outs
  | _, _, _ => False
def spOf (ks : List PK) (fn : Fn) : Sp := fun vs H Q _ => vs.length = ks.length ∧ ∃ (A : Addr → Prop) (args : List Slot) (r : Res) (outs : List (List D)),
  Fit A H (vs.map some) args ∧ fn args = some (r, outs) ∧ ∀ (A' : Addr → Prop) (H' : Hp) (v : V), (∀ a, A a → A' a) → (∀ a o, H a = some o → ¬ Mut (vs.map some) args a → H' a = some o) → (∀ a, H' a = none → H a = none) →
    (∀ a, A' a → A a ∨ H a = none) → (∀ a, A' a → ∃ o, H' a = some o) → RetOk A' H H' v r → OutsOk A' H' ks vs outs → Q v H'

structure CtxOk (X : Cx) (N : List Str) (q : Sc) (F : FT) : Prop where
  N : X.N = N
  nd : X.N.Nodup
  sc : X.env.scope = q.sc
  fn : X.fn = q.fs
  calm : X.calm = true
  nox : X.xe = fun _ _ => False
  bl : ∀ x, x ∈ bltNames → X.mg (Str.ofString x) = none
  un : X.A.units + 65 < cLine
  kk : TheK.K = X.K
  kd : X.env.scope.kind = .function
  gc : q.gcd = true → X.mg (Str.ofString "gcd") = some (.builtin "math.gcd")
  fns : ∀ f ks fn, F f = some (ks, fn) → ∃ (fa : Addr) (fd : FuncData) (ps : List Str) (k : Nat), X.mg (Str.ofString f) = some (.ref fa) ∧ PySem.W.keepIn X.K (.ref fa) = true ∧ Binds X.K fd ps [] ∧ Room k X.A ∧
    FnOk X.prog X.w X.K X.mg X.base CX0 k fa fd ps (spOf ks fn)

def visB (sc : Scope) (x : Str) : Bool := match sc.names.lookup x with
  | some .local => true
  | some .cell => true
  | some .free => true
  | _ => false
def glB (sc : Scope) (x : Str) : Bool := match sc.names.lookup x with
  | some .globalImplicit => true
  | _ => false
def okName (x : Str) : Bool := !(x == ("__debug__" : Str)) && !(x == ("__classdict__" : Str))
theorem vis_of {sc x} (h : visB sc x = true) : Vis sc x := by
  unfold visB at h
  split at h
  · exact .inl (by assumption)
  · exact .inr (.inl (by assumption))
  · exact .inr (.inr (by assumption))
  · cases h
section
variable {X : Cx} {N : List Str} {q : Sc} {F : FT}
theorem gl_of (C : CtxOk X N q F) {x} (h : glB q.sc x = true) : Gl X x := by
  unfold glB at h
  split at h
  · show X.env.scope.names.lookup x = some .globalImplicit
    rw [C.sc]; assumption
  · cases h
theorem okName1 {x} (h : okName x = true) : (x == ("__debug__" : Str)) = false := by
  unfold okName at h; rw [Bool.and_eq_true] at h; simpa using h.1
theorem okName2 {x} (h : okName x = true) : (x == ("__classdict__" : Str)) = false := by
  unfold okName at h; rw [Bool.and_eq_true] at h; simpa using h.2

/-! ### names -/
def nameB (N : List Str) (q : Sc) (i : Nat) (x : Str) : Bool := decide (N[i]? = some x) && visB q.sc x && okName x
theorem pe_name (C : CtxOk X N q F) {i x pos} (h : nameB N q i x = true) : PE X (.Name x pos) (tVar i) := by
  unfold nameB at h
  simp only [Bool.and_eq_true, decide_eq_true_eq] at h
  obtain ⟨⟨h1, h2⟩, h3⟩ := h
  exact pe_var (by rw [C.N]; exact h1) (by rw [C.sc]; exact vis_of h2) (okName1 h3) (okName2 h3)

/-- a slot's word goes over to more frozen things and a later heap -/
theorem SlotOk.go {A A' : Addr → Prop} {H H' ov s} (e : ∀ a, A a → A' a) (k : Keep A H H') (h : SlotOk A H ov s)
    (kh : ∀ a o, liveB s = true → ov = some (.ref a) → H a = some o → H' a = some o) (hn : ∀ a, live s = true → ov = some (.ref a) → ¬ A' a) (kf : ∀ a o u, H a = some (.frz o u) → H' a = some (.frz o u)) : SlotOk A' H' ov s := by
  cases s with
  | un => trivial
  | fz d => obtain ⟨w, q1, q2⟩ := h; exact ⟨w, q1, Rep.mono e k q2⟩
  | own es => obtain ⟨b, ws, q1, q2, q3, q4, q5⟩ := h; exact ⟨b, ws, q1, kh _ _ rfl q1 q2, q3, RepAll.mono e k q4, hn b rfl q1⟩
  | lent es => obtain ⟨b, ws, q1, q2, q3, q4, q5⟩ := h; exact ⟨b, ws, q1, kh _ _ rfl q1 q2, q3, RepAll.mono e k q4, hn b rfl q1⟩
  | mu es => obtain ⟨b, ws, q1, q2, q3, q4, q5⟩ := h; exact ⟨b, ws, q1, kh _ _ rfl q1 q2, q3, RepAll.mono e k q4, hn b rfl q1⟩
  | dct es => obtain ⟨b, ws, q1, q2, q3, q4, q5⟩ := h; exact ⟨b, ws, q1, kh _ _ rfl q1 q2, q3, KvRep.mono e k q4, hn b rfl q1⟩
  | bor es => obtain ⟨b, ws, q1, q2, q3, q4⟩ := h; exact ⟨b, ws, q1, kh _ _ rfl q1 q2, q3, RepAll.mono e k q4⟩
  | ro es => obtain ⟨b, ws, q1, q2, q3, q4⟩ := h; exact ⟨b, ws, q1, q2.keep fun o u => kf _ o u, q3, RepAll.mono e k q4⟩
theorem liveB_of {s} (h : live s = true) : liveB s = true := by cases s <;> first | rfl | cases h
theorem SlotOk.nofz {A H s a} (h : SlotOk A H (some (.ref a)) s) (l : live s = true) : ¬ A a := by
  cases s <;> simp [live] at l <;> (obtain ⟨b, ws, q1, q2, q3, q4, q5⟩ := h; cases q1; exact q5)

theorem get_set {α : Type} {l : List α} {i j : Nat} {a b : α} (h : (l.set i a)[j]? = some b) : (i = j ∧ b = a) ∨ (i ≠ j ∧ l[j]? = some b) := by
  by_cases e : i = j
  · subst e
    by_cases hl : i < l.length
    · rw [List.getElem?_set_self hl] at h; exact .inl ⟨rfl, (Option.some.inj h).symm⟩
    · rw [List.getElem?_eq_none (by rw [List.length_set]; omega)] at h; cases h
  · rw [List.getElem?_set_ne e] at h; exact .inr ⟨e, h⟩
theorem set_get {α : Type} {l : List α} {i : Nat} {a b : α} (h : l[i]? = some b) : (l.set i a)[i]? = some a := List.getElem?_set_self (List.getElem?_eq_some_iff.mp h).1

/-- a list of one's own is frozen where it stands -/
theorem stp_freeze {A H σ} {ρ : Env} {i : Nat} {s : Slot} {ds : List D} (f : Fit A H σ ρ) (hs : ρ[i]? = some s) (hk : s = .own ds ∨ s = .lent ds) :
    ∃ a, σ[i]? = some (some (.ref a)) ∧ Stp A H σ ρ (fun b => A b ∨ b = a) H σ (ρ.set i (.fz (.list ds))) ∧ Rep (fun b => A b ∨ b = a) H (.ref a) (.list ds) := by
  obtain ⟨ov, e1, q⟩ := f.at hs
  have q' : ∃ a vs, ov = some (.ref a) ∧ H a = some (.lst vs) ∧ vs.length ≤ sizeLine ∧ RepAll A H vs ds ∧ ¬ A a := by rcases hk with rfl | rfl <;> exact q
  have lv : live s = true := by rcases hk with rfl | rfl <;> rfl
  obtain ⟨a, vs, rfl, q1, q2, q3, q4⟩ := q'
  have e : ∀ b, A b → A b ∨ b = a := fun _ h => .inl h
  have k : Keep A H H := fun _ _ _ h => h
  have rep : Rep (fun b => A b ∨ b = a) H (.ref a) (.list ds) := .lst (.inr rfl) q1 q2 (RepAll.mono e k q3)
  have mt : ∀ b, Mut σ (ρ.set i (.fz (.list ds))) b → Mut σ ρ b := fun b ⟨j, t, h1, h2, h3⟩ => by
    rcases get_set h1 with ⟨_, rfl⟩ | ⟨_, h1⟩
    · cases h2
    · exact ⟨j, t, h1, h2, h3⟩
  refine ⟨a, e1, ⟨e, fun _ _ h _ => h, fun _ h => h, fun b m => .inl (mt b m), fun j es h => ⟨rfl, ?_⟩, fun b hb => ?_, fun j es h o => ?_, ⟨by rw [List.length_set]; exact f.len, fun j t ov h1 h2 => ?_, fun j l t u b hjl h1 h2 h3 h4 h5 h6 => ?_, fun b hb => ?_⟩⟩, rep⟩
  · by_cases hj : i = j
    · subst hj; rw [hs] at h; cases h; rcases hk with hk | hk <;> cases hk
    · exact ⟨es, by rw [List.getElem?_set_ne hj]; exact h⟩
  · rcases hb with hb | rfl
    · exact .inl hb
    · rcases hk with rfl | rfl
      · exact .inr (.inr (.inl ⟨i, _, hs, rfl, e1⟩))
      · exact .inr (.inr (.inr ⟨i, _, hs, e1⟩))
  · rcases get_set h with ⟨_, h⟩ | ⟨_, h⟩
    · subst h; cases o
    · exact ⟨h, rfl⟩
  · rcases get_set h1 with ⟨rfl, rfl⟩ | ⟨hj, h1⟩
    · rw [e1] at h2; cases h2; exact ⟨_, rfl, rep⟩
    · have ok := f.slot j t _ h1 h2
      refine ok.go e k (fun _ _ _ _ z => z) (fun b lt z hb => ?_) (fun _ _ _ z => z)
      subst z
      rcases hb with hb | rfl
      · exact ok.nofz lt hb
      · exact f.apart i j s t _ hj hs h1 lv (liveB_of lt) e1 h2
  · rcases get_set h1 with ⟨rfl, rfl⟩ | ⟨_, h1⟩
    · cases h3
    · rcases get_set h2 with ⟨rfl, rfl⟩ | ⟨_, h2⟩
      · cases h4
      · exact f.apart j l t u b hjl h1 h2 h3 h4 h5 h6
  · rcases hb with hb | rfl
    · exact f.trk b hb
    · exact ⟨_, q1⟩

theorem snd_var (C : CtxOk X N q F) {i x pos} (h : nameB N q i x = true) : SndE X (.Name x pos) (ev F (.var i)) := by
  refine ⟨tVar i, pe_name C h, fun A H σ ρ r ρ' f e Q k => ?_⟩
  simp only [ev, freeze] at e
  split at e
  · rename_i d hs
    cases e
    obtain ⟨ov, e1, w, rfl, q⟩ := f.at hs
    exact ⟨w, e1, k A H w (Stp.refl f) q⟩
  · rename_i ds hs
    cases e
    obtain ⟨a, e1, s, r⟩ := stp_freeze f hs (.inl rfl)
    exact ⟨_, e1, k _ H _ s r⟩
  · rename_i ds hs
    cases e
    obtain ⟨a, e1, s, r⟩ := stp_freeze f hs (.inr rfl)
    exact ⟨_, e1, k _ H _ s r⟩
  · cases e
theorem sndO_var (C : CtxOk X N q F) {i x pos g} (h : nameB N q i x = true) : SndO X (.Name x pos) (opd (.var i) g) := by
  refine ⟨tVar i, pe_name C h, fun A H σ ρ o ρ' f e Q k => ?_⟩
  simp only [opd] at e
  split at e
  · rename_i d hs
    cases e
    obtain ⟨ov, e1, w, rfl, q⟩ := f.at hs
    exact ⟨w, e1, k A H w (Stp.refl f) q⟩
  · cases e
  · rename_i s n1 n2 hs
    cases e
    obtain ⟨ov, e1, q⟩ := f.at hs
    have : ∃ w, ov = some w := by
      cases s with
      | un => exact absurd rfl n2
      | fz d => exact absurd rfl (n1 d)
      | own _ => obtain ⟨_, _, q, _⟩ := q; exact ⟨_, q⟩
      | lent _ => obtain ⟨_, _, q, _⟩ := q; exact ⟨_, q⟩
      | bor _ => obtain ⟨_, _, q, _⟩ := q; exact ⟨_, q⟩
      | mu _ => obtain ⟨_, _, q, _⟩ := q; exact ⟨_, q⟩
      | dct _ => obtain ⟨_, _, q, _⟩ := q; exact ⟨_, q⟩
      | ro _ => obtain ⟨_, _, q, _⟩ := q; exact ⟨_, q⟩
    obtain ⟨w, rfl⟩ := this
    exact ⟨w, e1, k A H w (Stp.refl f) e1⟩
  · cases e
theorem SndE.o {e f a} (h : SndE X e f) (n : ∀ i, a ≠ .var i) : SndO X e (opd a f) := by
  obtain ⟨t, p, hq⟩ := h.d
  refine ⟨t, p, fun A H σ ρ o ρ' ft e Q k => ?_⟩
  have e' : (match f ρ with | some (r, ρ') => some (Opd.v r.d, ρ') | none => none) = some (o, ρ') := by
    cases a <;> first | exact e | exact absurd rfl (n _)
  cases hr : f ρ with
  | none => rw [hr] at e'; cases e'
  | some p =>
    rw [hr] at e'
    cases e'
    exact hq A H σ ρ p.1 p.2 ft hr Q fun A' H' v s ok => k A' H' v s ok
theorem snd_flat {e v d f} (p : PE X e (tC v)) (r : ∀ A H, Rep A H v d) (hf : ∀ ρ, f ρ = some (Res.fr d, ρ)) : SndE X e f := by
  refine ⟨tC v, p, fun A H σ ρ r' ρ' ft e Q k => ?_⟩
  rw [hf] at e
  cases e
  exact k A H v (Stp.refl ft) (r A H)

def fBin (o : Bop) (fa fb : Env → Option (Opd × Env)) (ρ : Env) : Option (Res × Env) := match fa ρ with
    | none => none
    | some (oa, ρ1) => match fb ρ1 with
      | none => none
      | some (ob, ρ2) => match oa.get ρ2, ob.get ρ2 with
        | some da, some db => (dBin o da db).map fun r => (r, ρ2)
        | _, _ => none
def fNeg (fa : Env → Option (Res × Env)) (ρ : Env) : Option (Res × Env) := match fa ρ with
    | some (.fr (.int i), ρ1) => some (.fr (.int (-i)), ρ1)
    | _ => none
def fNo (fa : Env → Option (Res × Env)) (ρ : Env) : Option (Res × Env) := match fa ρ with
    | some (.fr (.bool i), ρ1) => some (.fr (.bool (!i)), ρ1)
    | _ => none
theorem snd_bin {a b pos fa fb} (o : Bop) (ha : SndO X a fa) (hb : SndO X b fb) : SndE X (.BinOp a (bop o) b pos) (fBin o fa fb) := by
  obtain ⟨ta, pa, qa⟩ := ha
  obtain ⟨tb, pb, qb⟩ := hb
  obtain ⟨r, po, qo⟩ := snd_bop (X := X) o
  refine ⟨_, pe_op po pa pb, fun A H σ ρ r ρ' ft e Q k => ?_⟩
  unfold fBin at e
  split at e
  · cases e
  · rename_i oa ρ1 e1
    split at e
    · cases e
    · rename_i ob ρ2 e2
      split at e
      · rename_i da db e3 e4
        cases e5 : dBin o da db with
        | none => rw [e5] at e; cases e
        | some r' =>
          rw [e5] at e
          cases e
          refine qa A H σ ρ oa ρ1 ft e1 _ fun A1 H1 v1 s1 k1 => ?_
          refine qb A1 H1 σ ρ1 ob ρ' s1.fit e2 _ fun A2 H2 v2 s2 k2 => ?_
          have k1' := k1.mono s2.ext (s2.keep s1.fit)
          refine qo A2 H2 σ ρ' v1 v2 da db r s2.fit (Opd.ok s2.fit k1' e3) (Opd.ok s2.fit k2 e4) e5 Q fun A3 H3 v3 s3 k3 => ?_
          exact k A3 H3 v3 ((s1.trans s2).trans s3) (k3.start fun a z => (s1.trans s2).dom a z)
      · cases e
theorem snd_neg {a pos fa} (ha : SndE X a fa) : SndE X (.UnaryOp .USub a pos) (fNeg fa) := by
  obtain ⟨ta, pa, qa⟩ := ha
  refine ⟨_, pe_un un_neg pa, fun A H σ ρ r ρ' ft e Q k => ?_⟩
  unfold fNeg at e
  split at e
  · rename_i i ρ1 e1
    cases e
    refine qa A H σ ρ _ ρ' ft e1 _ fun A1 H1 v1 s1 k1 => ?_
    cases k1
    exact ⟨i, rfl, k A1 H1 _ s1 .int⟩
  · cases e
/-- a value that is a bool, as a test -/
theorem SndE.t {e f} (h : SndE X e f) (he : ∀ whole, isTrue e X.env whole = (do let v ← whole; standAt e.pos; holding [v] (truthy v))) : SndT X e f := by
  obtain ⟨t, p, hq⟩ := h
  refine ⟨_, pt_val p he, fun A H σ ρ b ρ' ft e Q k => ?_⟩
  refine hq A H σ ρ _ ρ' ft e _ fun A' H' v s ok => ?_
  cases ok
  exact ⟨b, rfl, k A' H' s⟩
theorem snd_no {a pos fa} (ha : SndE X a fa) : SndE X (.UnaryOp .Not a pos) (fNo fa) := by
  obtain ⟨ta, pa, qa⟩ := ha
  refine ⟨_, pe_not pa, fun A H σ ρ r ρ' ft e Q k => ?_⟩
  unfold fNo at e
  split at e
  · rename_i i ρ1 e1
    cases e
    refine qa A H σ ρ _ ρ' ft e1 _ fun A1 H1 v1 s1 k1 => ?_
    cases k1
    exact ⟨i, rfl, k A1 H1 _ s1 .bool⟩
  · cases e
theorem sndT_no {a pos fa} (ha : SndT X a fa) : SndT X (.UnaryOp .Not a pos) (fNo fa) := by
  obtain ⟨ta, pa, qa⟩ := ha
  refine ⟨_, pt_not pa, fun A H σ ρ r ρ' ft e Q k => ?_⟩
  unfold fNo at e
  split at e
  · rename_i i ρ1 e1
    cases e
    exact qa A H σ ρ _ ρ' ft e1 _ fun A1 H1 s1 => k A1 H1 s1
  · cases e
def fCmp (o : Cop) (fa fb : Env → Option (Opd × Env)) (ρ : Env) : Option (Res × Env) := match fa ρ with
    | none => none
    | some (oa, ρ1) => match fb ρ1 with
      | none => none
      | some (ob, ρ2) => match oa.get ρ2, ob.get ρ2 with
        | some da, some db => (dCmp o da db).map fun r => (.fr (.bool r), ρ2)
        | _, _ => none
theorem cmp_core {ta tb fa fb A H σ ρ b ρ'} {r : R2} {o : Cop} (qa : ∀ A H σ ρ o ρ', Fit A H σ ρ → fa ρ = some (o, ρ') → ∀ Q : VK, (∀ A' H' v, Stp A H σ ρ A' H' σ ρ' → OpdOk A' H' σ v o → Q v H') → ta σ H Q)
    (qb : ∀ A H σ ρ o ρ', Fit A H σ ρ → fb ρ = some (o, ρ') → ∀ Q : VK, (∀ A' H' v, Stp A H σ ρ A' H' σ ρ' → OpdOk A' H' σ v o → Q v H') → tb σ H Q)
    (qo : ∀ A H x y d e b, RepW A H x d → RepW A H y e → dCmp o d e = some b → ∀ Q : VK, Q (.bl b) H → r x y H Q)
    (ft : Fit A H σ ρ) (e : fCmp o fa fb ρ = some (b, ρ')) (Q : VK) (k : ∀ A' H' c, Stp A H σ ρ A' H' σ ρ' → b = .fr (.bool c) → Q (.bl c) H') : tOp r ta tb σ H Q := by
  unfold fCmp at e
  split at e
  · cases e
  · rename_i oa ρ1 e1
    split at e
    · cases e
    · rename_i ob ρ2 e2
      split at e
      · rename_i da db e3 e4
        cases e5 : dCmp o da db with
        | none => rw [e5] at e; cases e
        | some c =>
          rw [e5] at e
          cases e
          refine qa A H σ ρ oa ρ1 ft e1 _ fun A1 H1 v1 s1 k1 => ?_
          refine qb A1 H1 σ ρ1 ob ρ' s1.fit e2 _ fun A2 H2 v2 s2 k2 => ?_
          have k1' := k1.mono s2.ext (s2.keep s1.fit)
          exact qo A2 H2 v1 v2 da db c (Opd.ok s2.fit k1' e3) (Opd.ok s2.fit k2 e4) e5 Q (k A2 H2 c (s1.trans s2) rfl)
      · cases e
theorem snd_cmp (C : CtxOk X N q F) {a b pos fa fb} (o : Cop) (hm : behindInMarks (cop o) b = false) (ha : SndO X a fa) (hb : SndO X b fb) : SndE X (.Compare a [cop o] [b] pos) (fCmp o fa fb) := by
  obtain ⟨ta, pa, qa⟩ := ha
  obtain ⟨tb, pb, qb⟩ := hb
  obtain ⟨r, po, qo⟩ := snd_cop C.un o
  exact ⟨_, pe_cmpR po pa pb hm, fun A H σ ρ r ρ' ft e Q k => cmp_core qa qb qo ft e Q fun A' H' c s e => k A' H' _ s (by subst e; exact .bool)⟩
theorem sndT_cmp (C : CtxOk X N q F) {a b pos fa fb} (o : Cop) (hm : behindInMarks (cop o) b = false) (ha : SndO X a fa) (hb : SndO X b fb) : SndT X (.Compare a [cop o] [b] pos) (fCmp o fa fb) := by
  obtain ⟨ta, pa, qa⟩ := ha
  obtain ⟨tb, pb, qb⟩ := hb
  obtain ⟨r, po, qo⟩ := snd_cop C.un o
  exact ⟨_, pt_cmpR po pa pb hm, fun A H σ ρ b ρ' ft e Q k => cmp_core qa qb qo ft e _ fun A' H' c s e => ⟨c, rfl, by cases e; exact k A' H' s⟩⟩
def fCmp2 (o p : Cop) (fa fb fc : Env → Option (Res × Env)) (ρ : Env) : Option (Res × Env) := match fa ρ with
    | none => none
    | some (ra, ρ1) => match fb ρ1 with
      | none => none
      | some (rb, ρ2) => match dCmp o ra.d rb.d with
        | none => none
        | some false => some (.fr (.bool false), ρ2)
        | some true => match fc ρ2 with
          | none => none
          | some (rc, ρ3) => (dCmp p rb.d rc.d).map fun r => (.fr (.bool r), ρ3)
theorem chain_core {ta tb tc fa fb fc A H σ ρ b ρ'} {r r' : R2} {o p : Cop} (qa : ∀ A H σ ρ r ρ', Fit A H σ ρ → fa ρ = some (r, ρ') → ∀ Q : VK, (∀ A' H' v, Stp A H σ ρ A' H' σ ρ' → Rep A' H' v r.d → Q v H') → ta σ H Q)
    (qb : ∀ A H σ ρ r ρ', Fit A H σ ρ → fb ρ = some (r, ρ') → ∀ Q : VK, (∀ A' H' v, Stp A H σ ρ A' H' σ ρ' → Rep A' H' v r.d → Q v H') → tb σ H Q)
    (qc : ∀ A H σ ρ r ρ', Fit A H σ ρ → fc ρ = some (r, ρ') → ∀ Q : VK, (∀ A' H' v, Stp A H σ ρ A' H' σ ρ' → Rep A' H' v r.d → Q v H') → tc σ H Q)
    (qo : ∀ A H x y d e b, RepW A H x d → RepW A H y e → dCmp o d e = some b → ∀ Q : VK, Q (.bl b) H → r x y H Q)
    (qp : ∀ A H x y d e b, RepW A H x d → RepW A H y e → dCmp p d e = some b → ∀ Q : VK, Q (.bl b) H → r' x y H Q)
    (ft : Fit A H σ ρ) (e : fCmp2 o p fa fb fc ρ = some (b, ρ')) (Q : VK) (k : ∀ A' H' c, Stp A H σ ρ A' H' σ ρ' → b = .fr (.bool c) → Q (.bl c) H') : tChain r r' ta tb tc σ H Q := by
  unfold fCmp2 at e
  split at e
  · cases e
  · rename_i ra ρ1 e1
    split at e
    · cases e
    · rename_i rb ρ2 e2
      refine qa A H σ ρ ra ρ1 ft e1 _ fun A1 H1 v1 s1 k1 => ?_
      refine qb A1 H1 σ ρ1 rb ρ2 s1.fit e2 _ fun A2 H2 v2 s2 k2 => ?_
      have k1' := k1.mono s2.ext (s2.keep s1.fit)
      split at e
      · cases e
      · rename_i e3
        cases e
        exact qo A2 H2 v1 v2 _ _ false (.inl k1') (.inl k2) e3 _ ⟨false, rfl, by rw [if_neg Bool.false_ne_true]; exact k A2 H2 false (s1.trans s2) rfl⟩
      · rename_i e3
        split at e
        · cases e
        · rename_i rc ρ3 e4
          cases e5 : dCmp p rb.d rc.d with
          | none => rw [e5] at e; cases e
          | some c =>
            rw [e5] at e
            cases e
            refine qo A2 H2 v1 v2 _ _ true (.inl k1') (.inl k2) e3 _ ⟨true, rfl, ?_⟩
            rw [if_pos rfl]
            refine qc A2 H2 σ ρ2 rc ρ' s2.fit e4 _ fun A3 H3 v3 s3 k3 => ?_
            exact qp A3 H3 v2 v3 _ _ c (.inl (k2.mono s3.ext (s3.keep s2.fit))) (.inl k3) e5 Q (k A3 H3 c ((s1.trans s2).trans s3) rfl)
theorem snd_cmp2 (C : CtxOk X N q F) {a b c pos fa fb fc} (o p : Cop) (hm : lastMarks [cop o, cop p] [b, c] = false) (ha : SndE X a fa) (hb : SndE X b fb) (hc : SndE X c fc) : SndE X (.Compare a [cop o, cop p] [b, c] pos) (fCmp2 o p fa fb fc) := by
  obtain ⟨ta, pa, qa⟩ := ha.d
  obtain ⟨tb, pb, qb⟩ := hb.d
  obtain ⟨tc, pc, qc⟩ := hc.d
  obtain ⟨r, po, qo⟩ := snd_cop C.un o
  obtain ⟨r', po', qo'⟩ := snd_cop C.un p
  exact ⟨_, pe_chain po po' pa pb pc hm, fun A H σ ρ r ρ' ft e Q k => chain_core qa qb qc qo qo' ft e Q fun A' H' c s e => k A' H' _ s (by subst e; exact .bool)⟩
theorem sndT_cmp2 (C : CtxOk X N q F) {a b c pos fa fb fc} (o p : Cop) (hm : lastMarks [cop o, cop p] [b, c] = false) (ha : SndE X a fa) (hb : SndE X b fb) (hc : SndE X c fc) : SndT X (.Compare a [cop o, cop p] [b, c] pos) (fCmp2 o p fa fb fc) := by
  obtain ⟨ta, pa, qa⟩ := ha.d
  obtain ⟨tb, pb, qb⟩ := hb.d
  obtain ⟨tc, pc, qc⟩ := hc.d
  obtain ⟨r, po, qo⟩ := snd_cop C.un o
  obtain ⟨r', po', qo'⟩ := snd_cop C.un p
  exact ⟨_, pt_chain po po' pa pb pc hm, fun A H σ ρ b ρ' ft e Q k => chain_core qa qb qc qo qo' ft e _ fun A' H' c s e => ⟨c, rfl, by cases e; exact k A' H' s⟩⟩

/-! ### and, or, if -/
def fAnd (fa fb : Env → Option (Res × Env)) (ρ : Env) : Option (Res × Env) := match fa ρ with
    | some (.fr (.bool false), ρ1) => some (.fr (.bool false), ρ1)
    | some (.fr (.bool true), ρ1) => fb ρ1
    | _ => none
def fOr (fa fb : Env → Option (Res × Env)) (ρ : Env) : Option (Res × Env) := match fa ρ with
    | some (.fr (.bool true), ρ1) => some (.fr (.bool true), ρ1)
    | some (.fr (.bool false), ρ1) => fb ρ1
    | _ => none
def fIf (fc fa fb : Env → Option (Res × Env)) (ρ : Env) : Option (Res × Env) := match fc ρ with
    | some (.fr (.bool true), ρ1) => fa ρ1
    | some (.fr (.bool false), ρ1) => fb ρ1
    | _ => none
theorem snd_and {a b rest pos fa fb} (ha : SndE X a fa) (hb : SndE X (.BoolOp .And (b :: rest) pos) fb) : SndE X (.BoolOp .And (a :: b :: rest) pos) (fAnd fa fb) := by
  obtain ⟨ta, pa, qa⟩ := ha
  obtain ⟨tb, pb, qb⟩ := hb
  refine ⟨_, pe_and pa pb, fun A H σ ρ r ρ' ft e Q k => ?_⟩
  unfold fAnd at e
  split at e
  · rename_i ρ1 e1
    cases e
    refine qa A H σ ρ _ ρ' ft e1 _ fun A1 H1 v1 s1 k1 => ?_
    cases k1
    exact ⟨false, rfl, by rw [if_neg Bool.false_ne_true]; exact k A1 H1 _ s1 .bool⟩
  · rename_i ρ1 e1
    refine qa A H σ ρ _ ρ1 ft e1 _ fun A1 H1 v1 s1 k1 => ?_
    cases k1
    refine ⟨true, rfl, ?_⟩
    rw [if_pos rfl]
    exact qb A1 H1 σ ρ1 r ρ' s1.fit e Q fun A2 H2 v2 s2 k2 => k A2 H2 v2 (s1.trans s2) (k2.start s1.dom)
  · cases e
theorem snd_or {a b rest pos fa fb} (ha : SndE X a fa) (hb : SndE X (.BoolOp .Or (b :: rest) pos) fb) : SndE X (.BoolOp .Or (a :: b :: rest) pos) (fOr fa fb) := by
  obtain ⟨ta, pa, qa⟩ := ha
  obtain ⟨tb, pb, qb⟩ := hb
  refine ⟨_, pe_or pa pb, fun A H σ ρ r ρ' ft e Q k => ?_⟩
  unfold fOr at e
  split at e
  · rename_i ρ1 e1
    cases e
    refine qa A H σ ρ _ ρ' ft e1 _ fun A1 H1 v1 s1 k1 => ?_
    cases k1
    exact ⟨true, rfl, by rw [if_pos rfl]; exact k A1 H1 _ s1 .bool⟩
  · rename_i ρ1 e1
    refine qa A H σ ρ _ ρ1 ft e1 _ fun A1 H1 v1 s1 k1 => ?_
    cases k1
    refine ⟨false, rfl, ?_⟩
    rw [if_neg Bool.false_ne_true]
    exact qb A1 H1 σ ρ1 r ρ' s1.fit e Q fun A2 H2 v2 s2 k2 => k A2 H2 v2 (s1.trans s2) (k2.start s1.dom)
  · cases e
theorem snd_one {op a pos f} (h : SndE X a f) : SndE X (.BoolOp op [a] pos) f := by
  obtain ⟨t, p, hq⟩ := h
  exact ⟨t, pe_one p, hq⟩
/-- a chain of and, or as a test, whatever its whole is -/
def SndW (X : Cx) (e : Expr) (f : Env → Option (Res × Env)) : Prop := ∃ t : TT, PW X e t ∧
  ∀ A H σ ρ b ρ', Fit A H σ ρ → f ρ = some (.fr (.bool b), ρ') → ∀ Q : Bool → Hp → Prop, (∀ A' H', Stp A H σ ρ A' H' σ ρ' → Q b H') → t σ H Q
theorem SndW.t {e f} (h : SndW X e f) : SndT X e f := let ⟨t, p, hq⟩ := h; ⟨t, p.pt, hq⟩
theorem sndW_and1 {a pos f} (h : SndT X a f) : SndW X (.BoolOp .And [a] pos) f := let ⟨t, p, hq⟩ := h; ⟨t, pw_and1 p, hq⟩
theorem sndW_or1 {a pos f} (h : SndT X a f) : SndW X (.BoolOp .Or [a] pos) f := let ⟨t, p, hq⟩ := h; ⟨t, pw_or1 p, hq⟩
theorem sndW_and {a b rest pos fa fb} (ha : SndT X a fa) (hb : SndW X (.BoolOp .And (b :: rest) pos) fb) : SndW X (.BoolOp .And (a :: b :: rest) pos) (fAnd fa fb) := by
  obtain ⟨ta, pa, qa⟩ := ha
  obtain ⟨tb, pb, qb⟩ := hb
  refine ⟨_, pw_and pa pb, fun A H σ ρ b ρ' ft e Q k => ?_⟩
  unfold fAnd at e
  split at e
  · rename_i ρ1 e1
    cases e
    refine qa A H σ ρ _ ρ' ft e1 _ fun A1 H1 s1 => ?_
    show if false = true then _ else _
    rw [if_neg Bool.false_ne_true]
    exact k A1 H1 s1
  · rename_i ρ1 e1
    refine qa A H σ ρ _ ρ1 ft e1 _ fun A1 H1 s1 => ?_
    show if true = true then _ else _
    rw [if_pos rfl]
    exact qb A1 H1 σ ρ1 b ρ' s1.fit e Q fun A2 H2 s2 => k A2 H2 (s1.trans s2)
  · cases e
theorem sndW_or {a b rest pos fa fb} (ha : SndT X a fa) (hb : SndW X (.BoolOp .Or (b :: rest) pos) fb) : SndW X (.BoolOp .Or (a :: b :: rest) pos) (fOr fa fb) := by
  obtain ⟨ta, pa, qa⟩ := ha
  obtain ⟨tb, pb, qb⟩ := hb
  refine ⟨_, pw_or pa pb, fun A H σ ρ b ρ' ft e Q k => ?_⟩
  unfold fOr at e
  split at e
  · rename_i ρ1 e1
    cases e
    refine qa A H σ ρ _ ρ' ft e1 _ fun A1 H1 s1 => ?_
    show if true = true then _ else _
    rw [if_pos rfl]
    exact k A1 H1 s1
  · rename_i ρ1 e1
    refine qa A H σ ρ _ ρ1 ft e1 _ fun A1 H1 s1 => ?_
    show if false = true then _ else _
    rw [if_neg Bool.false_ne_true]
    exact qb A1 H1 σ ρ1 b ρ' s1.fit e Q fun A2 H2 s2 => k A2 H2 (s1.trans s2)
  · cases e
theorem snd_if {c a b pos fc fa fb} (hc : SndT X c fc) (ha : SndE X a fa) (hb : SndE X b fb) : SndE X (.IfExp c a b pos) (fIf fc fa fb) := by
  obtain ⟨tc, pc, qc⟩ := hc
  obtain ⟨ta, pa, qa⟩ := ha
  obtain ⟨tb, pb, qb⟩ := hb
  refine ⟨_, pe_ifExp pc pa pb, fun A H σ ρ r ρ' ft e Q k => ?_⟩
  unfold fIf at e
  split at e
  · rename_i ρ1 e1
    refine qc A H σ ρ _ ρ1 ft e1 _ fun A1 H1 s1 => ?_
    show if true = true then _ else _
    rw [if_pos rfl]
    exact qa A1 H1 σ ρ1 r ρ' s1.fit e Q fun A2 H2 v2 s2 k2 => k A2 H2 v2 (s1.trans s2) (k2.start s1.dom)
  · rename_i ρ1 e1
    refine qc A H σ ρ _ ρ1 ft e1 _ fun A1 H1 s1 => ?_
    show if false = true then _ else _
    rw [if_neg Bool.false_ne_true]
    exact qb A1 H1 σ ρ1 r ρ' s1.fit e Q fun A2 H2 v2 s2 k2 => k A2 H2 v2 (s1.trans s2) (k2.start s1.dom)
  · cases e
theorem pt_ifExp {c a b pos} {tc ta tb : TT} (hc : PT X c tc) (ha : PT X a ta) (hb : PT X b tb) : PT X (.IfExp c a b pos) (fun σ H Q => tc σ H fun d H1 => if d = true then ta σ H1 Q else tb σ H1 Q) := by
  refine ⟨fun pins s σ H Q I h => ?_⟩
  show wpAny _ _ (isTrue c X.env (eval c X.env) >>= fun d => if d = true then isTrue a X.env (eval a X.env) else isTrue b X.env (eval b X.env)) _ _ s
  refine wpAny_bind (thn (hc.run pins s σ H _ I h) fun d s1 ⟨H1, I1, q1⟩ => ?_)
  cases d with
  | true => exact ha.run pins s1 σ H1 Q I1 q1
  | false => exact hb.run pins s1 σ H1 Q I1 q1
theorem sndT_if {c a b pos fc fa fb} (hc : SndT X c fc) (ha : SndT X a fa) (hb : SndT X b fb) : SndT X (.IfExp c a b pos) (fIf fc fa fb) := by
  obtain ⟨tc, pc, qc⟩ := hc
  obtain ⟨ta, pa, qa⟩ := ha
  obtain ⟨tb, pb, qb⟩ := hb
  refine ⟨_, pt_ifExp pc pa pb, fun A H σ ρ r ρ' ft e Q k => ?_⟩
  unfold fIf at e
  split at e
  · rename_i ρ1 e1
    refine qc A H σ ρ _ ρ1 ft e1 _ fun A1 H1 s1 => ?_
    show if true = true then _ else _
    rw [if_pos rfl]
    exact qa A1 H1 σ ρ1 r ρ' s1.fit e Q fun A2 H2 s2 => k A2 H2 (s1.trans s2)
  · rename_i ρ1 e1
    refine qc A H σ ρ _ ρ1 ft e1 _ fun A1 H1 s1 => ?_
    show if false = true then _ else _
    rw [if_neg Bool.false_ne_true]
    exact qb A1 H1 σ ρ1 r ρ' s1.fit e Q fun A2 H2 s2 => k A2 H2 (s1.trans s2)
  · cases e
end
end Ev

set_option maxRecDepth 100000
/-! Ev5: subscripts, displays, arguments, builtins. -/
namespace Ev
open PySem L2
variable [TheK]
section
variable {X : Cx} {N : List Str} {q : Sc} {F : FT}

theorem RepR.list {A H v ds} (h : RepR A H v (.list ds)) : ∃ a vs, v = .ref a ∧ SqL TheK.K H a vs ∧ vs.length ≤ sizeLine ∧ RepAll A H vs ds := by
  rcases h with h | ⟨a, vs, es, h1, h2, h3, h4, h5⟩
  · cases h with | lst h1 h2 h3 h4 => exact ⟨_, _, rfl, SqL.of h2, h3, h4⟩
  · cases h2; exact ⟨a, vs, h1, h3, h4, h5⟩
theorem RepR.w {A H v d} (h : RepR A H v d) (n : ∀ ds, d ≠ .list ds) : RepW A H v d := by
  rcases h with h | ⟨a, vs, es, h1, h2, h3, h4, h5⟩
  · exact .inl h
  · exact absurd h2 (n _)
theorem at_rep {A H vs ds i d} (r : RepAll A H vs ds) (h : atI ds i = some d) : ∃ v, atI vs i = some v ∧ Rep A H v d := by
  unfold atI at *
  rw [r.length]
  cases e : ixN ds.length i with
  | none => rw [e] at h; cases h
  | some j =>
    rw [e] at h
    exact r.get j h
def fIdx (fa : Env → Option (Opd × Env)) (fi : Env → Option (Res × Env)) (ρ : Env) : Option (Res × Env) := match fa ρ with
    | none => none
    | some (oa, ρ1) => match fi ρ1 with
      | none => none
      | some (ri, ρ2) => match oa.getR ρ2 with
        | some da => (dIdx da ri.d).map fun d => (.fr d, ρ2)
        | none => none
theorem snd_idx (C : CtxOk X N q F) {a b pos fa fb} (hs : PlainIx b) (ha : SndO X a fa) (hb : SndE X b fb) : SndE X (.Subscript a b pos) (fIdx fa fb) := by
  obtain ⟨ta, pa, qa⟩ := ha
  obtain ⟨tb, pb, qb⟩ := hb.d
  refine ⟨_, pe_ix ix_seq pa pb hs, fun A H σ ρ r ρ' ft e Q k => ?_⟩
  unfold fIdx at e
  split at e
  · cases e
  · rename_i oa ρ1 e1
    split at e
    · cases e
    · rename_i ri ρ2 e2
      split at e
      · rename_i da e3
        cases e4 : dIdx da ri.d with
        | none => rw [e4] at e; cases e
        | some d =>
          rw [e4] at e
          cases e
          refine qa A H σ ρ oa ρ1 ft e1 _ fun A1 H1 v1 s1 k1 => ?_
          refine qb A1 H1 σ ρ1 ri ρ' s1.fit e2 _ fun A2 H2 v2 s2 k2 => ?_
          have k1' := Opd.okR s2.fit (k1.mono s2.ext (s2.keep s1.fit)) e3
          have fin : ∀ w, Rep A2 H2 w d → Q w H2 := fun w hw => k A2 H2 w (s1.trans s2) hw
          generalize ri.d = di at e4 k2
          cases da <;> try (simp only [dIdx, reduceCtorEq] at e4; done)
          · rename_i z
            cases k2 <;> simp only [dIdx, reduceCtorEq] at e4
            rename_i i
            split at e4
            · rename_i hz
              cases e5 : atI z.cps.toList i with
              | none => rw [e5] at e4; cases e4
              | some c =>
                rw [e5] at e4
                cases e4
                cases (k1'.w (fun _ z => by cases z)).str
                exact .inr (.inr ⟨z, i, c, rfl, rfl, hz, e5, fin _ .str⟩)
            · cases e4
          · rename_i ds
            cases k2 <;> simp only [dIdx, reduceCtorEq] at e4
            obtain ⟨p, vs, rfl, h1, h2, h3⟩ := k1'.list
            obtain ⟨w, h4, h5⟩ := at_rep h3 e4
            exact .inl ⟨p, vs, _, w, rfl, rfl, by rw [← C.kk]; exact h1, h4, fin w h5⟩
          · rename_i ds
            cases k2 <;> simp only [dIdx, reduceCtorEq] at e4
            obtain ⟨p, vs, rfl, h0, h1, h2, h3⟩ := (k1'.w (fun _ z => by cases z)).tup
            obtain ⟨w, h4, h5⟩ := at_rep h3 e4
            exact .inr (.inl ⟨p, vs, _, w, rfl, rfl, SqT.of h1, h4, fin w h5⟩)
      · cases e
/-- a part of a slice -/
def SndPart (X : Cx) (e : Option Expr) (f : Env → Option (Option Int × Env)) : Prop := ∃ t : TO, PO X e t ∧
  ∀ A H σ ρ r ρ', Fit A H σ ρ → f ρ = some (r, ρ') → ∀ Q : Option Int → Hp → Prop, (∀ A' H', Stp A H σ ρ A' H' σ ρ' → Q r H') → t σ H Q
theorem sndPart_none : SndPart X none (fun ρ => some (none, ρ)) := ⟨_, po_none, fun A H σ ρ r ρ' ft e Q k => by cases e; exact k A H (Stp.refl ft)⟩
def fPart (fa : Env → Option (Res × Env)) (ρ : Env) : Option (Option Int × Env) := match fa ρ with
    | some (.fr (.int i), ρ1) => some (some i, ρ1)
    | _ => none
theorem sndPart_some {e f} (h : SndE X e f) : SndPart X (some e) (fPart f) := by
  obtain ⟨t, p, hq⟩ := h
  refine ⟨_, po_some p, fun A H σ ρ r ρ' ft e Q k => ?_⟩
  unfold fPart at e
  split at e
  · rename_i i ρ1 e1
    cases e
    refine hq A H σ ρ _ ρ' ft e1 _ fun A1 H1 v s1 k1 => ?_
    cases k1
    exact ⟨i, rfl, k A1 H1 s1⟩
  · cases e
theorem cut_rep {A H vs ds lo hi} (r : RepAll A H vs ds) : RepAll A H (cutV vs lo hi) (cutD ds lo hi) := by
  unfold cutV cutD
  rw [r.length]
  exact (r.drop _).take _
theorem cut_len {vs : List V} {lo hi} : (cutV vs lo hi).length ≤ vs.length := by
  unfold cutV
  rw [List.length_take, List.length_drop]
  omega
def fSlc (fa : Env → Option (Opd × Env)) (fl fh : Env → Option (Option Int × Env)) (ρ : Env) : Option (Res × Env) := match fa ρ with
    | none => none
    | some (oa, ρ1) => match fl ρ1 with
      | none => none
      | some (l, ρ2) => match fh ρ2 with
        | none => none
        | some (h, ρ3) => match oa.get ρ3 with
          | some da => (dSlc da l h).map fun r => (r, ρ3)
          | none => none
def fRvs (fa : Env → Option (Opd × Env)) (ρ : Env) : Option (Res × Env) := match fa ρ with
    | none => none
    | some (oa, ρ1) => match oa.get ρ1 with
      | some d => (dRev d).map fun r => (r, ρ1)
      | none => none
theorem RepAll.rev {A H} : ∀ {vs ds}, RepAll A H vs ds → RepAll A H vs.reverse ds.reverse
  | _, _, .nil => .nil
  | _, _, .cons h t => by
    rw [List.reverse_cons, List.reverse_cons]
    exact (RepAll.rev t).append (.cons h .nil)
theorem snd_rvs {a pos fa} {kk : Nat} {p1 p2 p3 : Pos} (ha : SndO X a fa) : SndE X (.Subscript a (.Slice none none (some (.UnaryOp .USub (.Constant (.int 1) kk p1) p2)) p3) pos) (fRvs fa) := by
  obtain ⟨ta, pa, qa⟩ := ha
  refine ⟨_, pe_revA pa, fun A H σ ρ r ρ' ft e Q k => ?_⟩
  unfold fRvs at e
  split at e
  · cases e
  · rename_i oa ρ1 e1
    split at e
    · rename_i d e2
      cases e3 : dRev d with
      | none => rw [e3] at e; cases e
      | some r' =>
        rw [e3] at e
        cases e
        refine qa A H σ ρ oa ρ' ft e1 _ fun A1 H1 v1 s1 k1 => ?_
        have k1' := Opd.ok s1.fit k1 e2
        cases d <;> simp only [dRev, reduceCtorEq, Option.some.injEq] at e3
        · subst e3
          obtain ⟨p, vs, rfl, h1, h2, h3⟩ := k1'.list
          exact ⟨p, vs, rfl, .inl ⟨SqL.of h1, fun b hb => k A1 _ _ (s1.trans (Stp.grow s1.fit (upd_grow hb))) ((res_new s1.fit hb (by rw [List.length_reverse]; exact h2) (RepAll.rev h3)).start s1.dom)⟩⟩
        · subst e3
          obtain ⟨p, vs, rfl, h0, h1, h2, h3⟩ := k1'.tup
          exact ⟨p, vs, rfl, .inr ⟨SqT.of h1, fun b hb => k _ _ _ (s1.trans (Stp.frz s1.fit hb)) (rep_newT hb (by rw [List.length_reverse]; exact h2) (RepAll.rev h3))⟩⟩
    · cases e
theorem snd_slc {a lo hi p2 pos fa fl fh} (ha : SndO X a fa) (hl : SndPart X lo fl) (hh : SndPart X hi fh) : SndE X (.Subscript a (.Slice lo hi none p2) pos) (fSlc fa fl fh) := by
  obtain ⟨ta, pa, qa⟩ := ha
  obtain ⟨tl, pl, ql⟩ := hl
  obtain ⟨th, ph, qh⟩ := hh
  refine ⟨_, pe_slice (sl_list.or (sl_tupA.or sl_str)) pa pl ph, fun A H σ ρ r ρ' ft e Q k => ?_⟩
  unfold fSlc at e
  split at e
  · cases e
  · rename_i oa ρ1 e1
    split at e
    · cases e
    · rename_i l ρ2 e2
      split at e
      · cases e
      · rename_i h ρ3 e3
        split at e
        · rename_i da e4
          cases e5 : dSlc da l h with
          | none => rw [e5] at e; cases e
          | some d =>
            rw [e5] at e
            cases e
            refine qa A H σ ρ oa ρ1 ft e1 _ fun A1 H1 v1 s1 k1 => ?_
            refine ql A1 H1 σ ρ1 l ρ2 s1.fit e2 _ fun A2 H2 s2 => ?_
            refine qh A2 H2 σ ρ2 h ρ' s2.fit e3 _ fun A3 H3 s3 => ?_
            have s23 := s2.trans s3
            have k1' := Opd.ok s3.fit (k1.mono s23.ext (s23.keep s1.fit)) e4
            have s := s1.trans s23
            cases da <;> simp only [dSlc, reduceCtorEq] at e5
            · split at e5
              · rename_i hz
                cases e5
                cases k1'.str
                exact .inr (.inr ⟨_, rfl, hz, k A3 H3 _ s .str⟩)
              · cases e5
            · cases e5
              obtain ⟨p, vs, rfl, h1, h2, h3⟩ := k1'.list
              exact .inl ⟨p, vs, rfl, SqL.of h1, fun b hb => k A3 _ _ (s.trans (Stp.grow s.fit (upd_grow hb))) ((res_new s.fit hb (Nat.le_trans cut_len h2) (cut_rep h3)).start s.dom)⟩
            · rename_i ds
              cases e5
              obtain ⟨p, vs, rfl, h0, h1, h2, h3⟩ := k1'.tup
              refine .inr (.inl ⟨p, vs, rfl, SqT.of h1, fun hw => ?_, fun hw b hb => ?_⟩)
              · have e6 : cutD ds l h = ds := by
                  unfold cutD
                  rw [← h3.length, hw.1, hw.2, List.drop_zero, Nat.sub_zero, h3.length, List.take_length]
                exact k A3 H3 _ s (by rw [e6]; exact .tup h0 h1 h2 h3)
              · exact k _ _ _ (s.trans (Stp.frz s.fit hb)) (rep_newT hb (Nat.le_trans cut_len h2) (cut_rep h3))
        · cases e

/-! ### arguments -/
def notStar : Expr → Bool
  | .Starred .. => false
  | _ => true
theorem star_cons {e : Expr} {es : List Expr} {env : PySem.Env} (h : notStar e = true) : starEach (e :: es) env = (false, eval e env) :: starEach es env := by
  cases e <;> first | rfl | cases h
theorem star_any {es : List Expr} {env : PySem.Env} {pos : Pos} (h : es.all notStar = true) : (backTo pos (starEach es env)).any (·.1) = false := by
  induction es with
  | nil => rfl
  | cons e r ih =>
    rw [List.all_cons, Bool.and_eq_true] at h
    rw [star_cons h.1]
    show (backTo pos (starEach r env)).any (·.1) = false
    exact ih h.2
theorem sndA_nil : SndA X [] (fun ρ => some ([], ρ)) := ⟨_, pa_nil, fun A H σ ρ r ρ' ft e Q k => by cases e; exact k A H [] (Stp.refl ft) .nil⟩
def fCons (fa : Env → Option (Res × Env)) (fs : Env → Option (List D × Env)) (ρ : Env) : Option (List D × Env) := match fa ρ with
    | none => none
    | some (r, ρ1) => match fs ρ1 with
      | none => none
      | some (ds, ρ2) => some (r.d :: ds, ρ2)
theorem sndA_cons {e es fa fs} (hn : notStar e = true) (ha : SndE X e fa) (hs : SndA X es fs) : SndA X (e :: es) (fCons fa fs) := by
  obtain ⟨ta, pa, qa⟩ := ha.d
  obtain ⟨ts, ps, qs⟩ := hs
  refine ⟨_, pa_cons pa ps (star_cons hn), fun A H σ ρ r ρ' ft e Q k => ?_⟩
  unfold fCons at e
  split at e
  · cases e
  · rename_i ra ρ1 e1
    split at e
    · cases e
    · rename_i ds ρ2 e2
      cases e
      refine qa A H σ ρ ra ρ1 ft e1 _ fun A1 H1 v1 s1 k1 => ?_
      refine qs A1 H1 σ ρ1 ds ρ' s1.fit e2 _ fun A2 H2 vs s2 k2 => ?_
      exact k A2 H2 _ (s1.trans s2) (.cons (k1.mono s2.ext (s2.keep s1.fit)) k2)
theorem sndP_nil : SndP X [] (fun ρ => some ([], ρ)) := ⟨_, pa_nil, fun A H σ ρ r ρ' ft e Q k => by cases e; exact k A H [] (Stp.refl ft) trivial⟩
def fConsP (fa : Env → Option (Opd × Env)) (fs : Env → Option (List Opd × Env)) (ρ : Env) : Option (List Opd × Env) := match fa ρ with
    | none => none
    | some (r, ρ1) => match fs ρ1 with
      | none => none
      | some (ds, ρ2) => some (r :: ds, ρ2)
theorem sndP_cons {e es fa fs} (hn : notStar e = true) (ha : SndO X e fa) (hs : SndP X es fs) : SndP X (e :: es) (fConsP fa fs) := by
  obtain ⟨ta, pa, qa⟩ := ha
  obtain ⟨ts, ps, qs⟩ := hs
  refine ⟨_, pa_cons pa ps (star_cons hn), fun A H σ ρ r ρ' ft e Q k => ?_⟩
  unfold fConsP at e
  split at e
  · cases e
  · rename_i ra ρ1 e1
    split at e
    · cases e
    · rename_i ds ρ2 e2
      cases e
      refine qa A H σ ρ ra ρ1 ft e1 _ fun A1 H1 v1 s1 k1 => ?_
      refine qs A1 H1 σ ρ1 ds ρ' s1.fit e2 _ fun A2 H2 vs s2 k2 => ?_
      exact k A2 H2 _ (s1.trans s2) ⟨k1.mono s2.ext (s2.keep s1.fit), k2⟩
/-- a frozen argument is an operand -/
theorem SndE.ov {e f} (h : SndE X e f) : SndO X e (fun ρ => match f ρ with | none => none | some (r, ρ1) => some (.v r.d, ρ1)) := by
  obtain ⟨t, p, hq⟩ := h.d
  refine ⟨t, p, fun A H σ ρ o ρ' ft e Q k => ?_⟩
  cases hr : f ρ with
  | none => simp only [hr, reduceCtorEq] at e
  | some r =>
    simp only [hr, Option.some.injEq, Prod.mk.injEq] at e
    obtain ⟨rfl, rfl⟩ := e
    exact hq A H σ ρ r.1 r.2 ft hr Q fun A' H' v s ok => k A' H' v s ok

/-! ### displays -/
def fTup (fs : Env → Option (List D × Env)) (ρ : Env) : Option (Res × Env) := match fs ρ with
    | none => none
    | some (ds, ρ1) => if ds.length ≤ sizeLine then some (.fr (.tuple ds), ρ1) else none
def fLst (fs : Env → Option (List D × Env)) (ρ : Env) : Option (Res × Env) := match fs ρ with
    | none => none
    | some (ds, ρ1) => if ds.length ≤ sizeLine then some (.nw ds, ρ1) else none
theorem snd_tup {es k2 pos fs} (hs : SndA X es fs) : SndE X (.Tuple es k2 pos) (fTup fs) := by
  obtain ⟨ts, ps, qs⟩ := hs
  refine ⟨_, pe_tup ps, fun A H σ ρ r ρ' ft e Q k => ?_⟩
  unfold fTup at e
  split at e
  · cases e
  · rename_i ds ρ1 e1
    split at e
    · rename_i hz
      cases e
      refine qs A H σ ρ ds ρ' ft e1 _ fun A1 H1 vs s1 k1 => ?_
      rw [← k1.length] at hz
      exact ⟨hz, fun p hp => k _ _ _ (s1.trans (Stp.frz s1.fit hp)) (rep_newT hp hz k1)⟩
    · cases e
theorem snd_lst {es pos fs} (hs : SndA X es fs) : SndE X (.List es pos) (fLst fs) := by
  obtain ⟨ts, ps, qs⟩ := hs
  refine ⟨_, pe_lst ps, fun A H σ ρ r ρ' ft e Q k => ?_⟩
  unfold fLst at e
  split at e
  · cases e
  · rename_i ds ρ1 e1
    split at e
    · rename_i hz
      cases e
      refine qs A H σ ρ ds ρ' ft e1 _ fun A1 H1 vs s1 k1 => ?_
      rw [← k1.length] at hz
      exact ⟨hz, fun p hp => k _ _ _ (s1.trans (Stp.grow s1.fit (upd_grow hp))) ((res_new s1.fit hp hz k1).start s1.dom)⟩
    · cases e

/-! ### builtins -/
def RepWs (A : Addr → Prop) (H : Hp) : List V → List D → Prop
  | [], [] => True
  | v :: vs, d :: ds => RepW A H v d ∧ RepWs A H vs ds
  | _, _ => False
theorem opds_ok {A H σ ρ} (f : Fit A H σ ρ) : ∀ {vs os ds}, OpdsOk A H σ vs os → os.mapM (Opd.get ρ) = some ds → RepWs A H vs ds
  | [], [], ds, _, e => by simp at e; subst e; trivial
  | v :: vs, o :: os, ds, ⟨h1, h2⟩, e => by
    rw [List.mapM_cons] at e
    cases e1 : o.get ρ with
    | none => rw [e1] at e; cases e
    | some d =>
      cases e2 : os.mapM (Opd.get ρ) with
      | none => rw [e1, e2] at e; cases e
      | some es =>
        rw [e1, e2] at e
        cases e
        exact ⟨Opd.ok f h1 e1, opds_ok f h2 e2⟩
def CallSnd (X : Cx) (f : Value) (g : List D → Option Res) : Prop := ∃ r : List V → Hp → VK → Prop, CallR X f r ∧
  ∀ A H σ ρ vs ds res, Fit A H σ ρ → RepWs A H vs ds → g ds = some res → ∀ Q : VK, (∀ A' H' v, Stp A H σ ρ A' H' σ ρ → ResOk A' H H' σ ρ v res → Q v H') → r vs H Q
def fBlt (g : List D → Option Res) (fs : Env → Option (List Opd × Env)) (ρ : Env) : Option (Res × Env) := match fs ρ with
    | none => none
    | some (os, ρ1) => match os.mapM (Opd.get ρ1) with
      | none => none
      | some ds => (g ds).map fun r => (r, ρ1)
theorem blt_core {t : TA} {fs g r A H σ ρ res ρ'} {Q : VK} (qs : ∀ A H σ ρ r ρ', Fit A H σ ρ → fs ρ = some (r, ρ') → ∀ Q : List V → Hp → Prop, (∀ A' H' vs, Stp A H σ ρ A' H' σ ρ' → OpdsOk A' H' σ vs r → Q vs H') → t σ H Q)
    (hc : ∀ A H σ ρ vs ds res, Fit A H σ ρ → RepWs A H vs ds → g ds = some res → ∀ Q : VK, (∀ A' H' v, Stp A H σ ρ A' H' σ ρ → ResOk A' H H' σ ρ v res → Q v H') → r vs H Q)
    (ft : Fit A H σ ρ) (e : fBlt g fs ρ = some (res, ρ')) (k : ∀ A' H' v, Stp A H σ ρ A' H' σ ρ' → ResOk A' H H' σ ρ' v res → Q v H') : tCB r t σ H Q := by
  unfold fBlt at e
  split at e
  · cases e
  · rename_i os ρ1 e1
    split at e
    · cases e
    · rename_i ds e2
      cases e3 : g ds with
      | none => rw [e3] at e; cases e
      | some r' =>
        rw [e3] at e
        cases e
        refine qs A H σ ρ os ρ' ft e1 _ fun A1 H1 vs s1 k1 => ?_
        exact hc A1 H1 σ ρ' vs ds res s1.fit (opds_ok s1.fit k1 e2) e3 Q fun A2 H2 v s2 k2 => k A2 H2 v (s1.trans s2) (k2.start s1.dom)
theorem snd_bltB (C : CtxOk X N q F) {name : String} {id e es p pos fs g} (hc : CallSnd X (.builtin id) g) (hx : name ∈ bltNames) (hg : glB q.sc (Str.ofString name) = true) (hv : bootBuiltins (Str.ofString name) = some (.builtin id))
    (hn : Str.ofString name ≠ "__name__") (hd : (Str.ofString name == ("__debug__" : Str)) = false) (st : (e :: es).all notStar = true) (hs : SndP X (e :: es) fs) : SndE X (.Call (.Name (Str.ofString name) p) (e :: es) [] pos) (fBlt g fs) := by
  obtain ⟨r, pr, qr⟩ := hc
  obtain ⟨ts, ps, qs⟩ := hs
  rw [List.all_cons, Bool.and_eq_true] at st
  exact ⟨_, pe_callB pr (gl_of C hg) (C.bl _ hx) hv ps hn hd (star_cons st.1) (star_any st.2), fun A H σ ρ r ρ' ft e Q k => blt_core qs qr ft e k⟩
theorem snd_bltT (C : CtxOk X N q F) {name : String} {id e es p pos fs g} (hc : CallSnd X (.type id) g) (hx : name ∈ bltNames) (hg : glB q.sc (Str.ofString name) = true) (hv : bootBuiltins (Str.ofString name) = some (.type id))
    (hn : Str.ofString name ≠ "__name__") (hd : (Str.ofString name == ("__debug__" : Str)) = false) (st : (e :: es).all notStar = true) (hs : SndP X (e :: es) fs) : SndE X (.Call (.Name (Str.ofString name) p) (e :: es) [] pos) (fBlt g fs) := by
  obtain ⟨r, pr, qr⟩ := hc
  obtain ⟨ts, ps, qs⟩ := hs
  rw [List.all_cons, Bool.and_eq_true] at st
  exact ⟨_, pe_callTy pr (gl_of C hg) (C.bl _ hx) hv ps hn hd (star_cons st.1) (star_any st.2), fun A H σ ρ r ρ' ft e Q k => blt_core qs qr ft e k⟩
end
end Ev

set_option maxRecDepth 100000
/-! Ev6: each builtin. -/
namespace Ev
open PySem L2
variable [TheK]
section
variable {X : Cx}
theorem RepW.seq {A H v ds} (h : RepW A H v (.list ds) ∨ RepW A H v (.tuple ds)) {K} : ∃ a vs, v = .ref a ∧ (SqL K H a vs ∨ SqT K H a vs) ∧ vs.length ≤ sizeLine ∧ RepAll A H vs ds := by
  rcases h with h | h
  · obtain ⟨a, vs, h1, h2, h3, h4⟩ := h.list
    exact ⟨a, vs, h1, .inl (SqL.of h2), h3, h4⟩
  · obtain ⟨a, vs, h1, _, h2, h3, h4⟩ := h.tup
    exact ⟨a, vs, h1, .inr (SqT.of h2), h3, h4⟩
theorem RepWs.nil {A H vs} (h : RepWs A H vs []) : vs = [] := by cases vs with | nil => rfl | cons _ _ => exact h.elim
theorem RepWs.cons {A H vs d ds} (h : RepWs A H vs (d :: ds)) : ∃ v ws, vs = v :: ws ∧ RepW A H v d ∧ RepWs A H ws ds := by
  cases vs with
  | nil => exact h.elim
  | cons v ws => exact ⟨v, ws, rfl, h.1, h.2⟩
theorem RepWs.one {A H vs d} (h : RepWs A H vs [d]) : ∃ v, vs = [v] ∧ RepW A H v d := by
  obtain ⟨v, ws, rfl, h1, h2⟩ := h.cons
  cases h2.nil
  exact ⟨v, rfl, h1⟩
theorem RepWs.two {A H vs d e} (h : RepWs A H vs [d, e]) : ∃ v w, vs = [v, w] ∧ RepW A H v d ∧ RepW A H w e := by
  obtain ⟨v, ws, rfl, h1, h2⟩ := h.cons
  obtain ⟨w, rfl, h3⟩ := h2.one
  exact ⟨v, w, rfl, h1, h3⟩
/-- a builtin of one argument that makes nothing -/
theorem call1 {f g} {r : List V → Hp → VK → Prop} (hc : CallR X f r) (n : ∀ ds, ds.length ≠ 1 → g ds = none)
    (h : ∀ A H v d res, RepW A H v d → g [d] = some res → ∃ d', res = .fr d' ∧ ∀ Q : VK, (∀ w, Rep A H w d' → Q w H) → r [v] H Q) : CallSnd X f g := by
  refine ⟨r, hc, fun A H σ ρ vs ds res ft hv e Q k => ?_⟩
  by_cases hl : ds.length = 1
  · obtain ⟨d, rfl⟩ := List.length_eq_one_iff.mp hl
    obtain ⟨v, rfl, h1⟩ := hv.one
    obtain ⟨d', rfl, h2⟩ := h A H v d res h1 e
    exact h2 Q fun w hw => k A H w (Stp.refl ft) hw
  · rw [n ds hl] at e; cases e
theorem one_none {b : Blt} (hb : b ≠ .max2 ∧ b ≠ .min2 ∧ b ≠ .gcd) : ∀ ds : List D, ds.length ≠ 1 → dBlt b ds = none := by
  intro ds h
  match ds with
  | [] => cases b <;> rfl
  | [_] => exact absurd rfl h
  | x :: y :: r => cases b <;> simp_all [dBlt]
theorem cs_abs : CallSnd X (.builtin "abs") (dBlt .abs) := by
  refine call1 call_abs (one_none (by decide)) fun A H v d res h e => ?_
  cases d <;> simp only [dBlt, reduceCtorEq] at e
  cases e
  cases h.int
  refine ⟨_, rfl, fun Q k => ⟨_, rfl, k _ ?_⟩⟩
  rename_i i
  have : (if i < 0 then -i else i) = (i.natAbs : Int) := by split <;> omega
  rw [this]; exact .int
theorem cs_int : CallSnd X (.type "int") (dBlt .int) := by
  refine call1 call_int1 (one_none (by decide)) fun A H v d res h e => ?_
  cases d <;> simp only [dBlt, reduceCtorEq] at e <;> cases e
  · cases h.bool
    exact ⟨_, rfl, fun Q k => .inr ⟨_, rfl, k _ .int⟩⟩
  · cases h.int
    exact ⟨_, rfl, fun Q k => .inl ⟨_, rfl, k _ .int⟩⟩
theorem cs_str : CallSnd X (.type "str") (dBlt .str) := by
  refine call1 call_str_int (one_none (by decide)) fun A H v d res h e => ?_
  cases d <;> simp only [dBlt, reduceCtorEq] at e
  split at e
  · rename_i hz
    cases e
    cases h.int
    exact ⟨_, rfl, fun Q k => ⟨_, rfl, hz, k _ .str⟩⟩
  · cases e
theorem cs_repr : CallSnd X (.builtin "repr") (dBlt .repr) := by
  refine call1 SkE.call_repr_int (one_none (by decide)) fun A H v d res h e => ?_
  cases d <;> simp only [dBlt, reduceCtorEq] at e
  split at e
  · rename_i hz
    cases e
    cases h.int
    exact ⟨_, rfl, fun Q k => ⟨_, rfl, hz, k _ .str⟩⟩
  · cases e
theorem cs_sum (hc : X.calm = true) : CallSnd X (.builtin "sum") (dBlt .sum) := by
  refine call1 (cr_sum hc) (one_none (by decide)) fun A H v d res h e => ?_
  cases d <;> simp only [dBlt, reduceCtorEq] at e
  rename_i ds
  cases e1 : allInts ds with
  | none => rw [e1] at e; cases e
  | some ns =>
    rw [e1] at e
    cases e
    obtain ⟨a, vs, rfl, h1, h2, h3⟩ := h.list
    obtain ⟨rfl, _⟩ := rep_of_ints h3 e1
    exact ⟨_, rfl, fun Q k => ⟨a, ns, rfl, SqL.of h1, k _ .int⟩⟩
theorem maxI_mem : ∀ (m : Int) (r : List Int), maxI m r ∈ m :: r ∧ ∀ y ∈ m :: r, y ≤ maxI m r
  | m, [] => ⟨by simp [maxI], fun y h => by simp at h; simp [maxI, h]⟩
  | m, x :: r => by
    obtain ⟨h1, h2⟩ := maxI_mem (if x > m then x else m) r
    unfold maxI
    refine ⟨?_, fun y hy => ?_⟩
    · rcases List.mem_cons.mp h1 with h | h
      · rw [h]; split <;> simp
      · exact List.mem_cons_of_mem _ (List.mem_cons_of_mem _ h)
    · have h0 := h2 _ List.mem_cons_self
      rcases List.mem_cons.mp hy with rfl | hy
      · split at h0 <;> split <;> omega
      · rcases List.mem_cons.mp hy with rfl | hy
        · split at h0 <;> split <;> omega
        · exact h2 y (List.mem_cons_of_mem _ hy)
theorem minI_mem : ∀ (m : Int) (r : List Int), minI m r ∈ m :: r ∧ ∀ y ∈ m :: r, minI m r ≤ y
  | m, [] => ⟨by simp [minI], fun y h => by simp at h; simp [minI, h]⟩
  | m, x :: r => by
    obtain ⟨h1, h2⟩ := minI_mem (if x < m then x else m) r
    unfold minI
    refine ⟨?_, fun y hy => ?_⟩
    · rcases List.mem_cons.mp h1 with h | h
      · rw [h]; split <;> simp
      · exact List.mem_cons_of_mem _ (List.mem_cons_of_mem _ h)
    · have h0 := h2 _ List.mem_cons_self
      rcases List.mem_cons.mp hy with rfl | hy
      · split at h0 <;> split <;> omega
      · rcases List.mem_cons.mp hy with rfl | hy
        · split at h0 <;> split <;> omega
        · exact h2 y (List.mem_cons_of_mem _ hy)
theorem max_uniq {x : Int} {r : List Int} {m : Int} (h1 : m ∈ x :: r) (h2 : ∀ y ∈ x :: r, y ≤ m) : m = maxI x r := by
  obtain ⟨h3, h4⟩ := maxI_mem x r
  exact Int.le_antisymm (h4 m h1) (h2 _ h3)
theorem min_uniq {x : Int} {r : List Int} {m : Int} (h1 : m ∈ x :: r) (h2 : ∀ y ∈ x :: r, m ≤ y) : m = minI x r := by
  obtain ⟨h3, h4⟩ := minI_mem x r
  exact Int.le_antisymm (h2 _ h3) (h4 m h1)

theorem reads_ints {h : Heap} : ∀ {its : List Value} {ns : List Int}, Vals (ns.map V.int) its → ∃ as, ReadsAll h its (ns.map .int) as
  | [], [], _ => ⟨_, ReadsAll.nil⟩
  | _ :: _, [], h => by cases h
  | [], _ :: _, h => by cases h
  | u :: us, n :: ns, h => by
    cases h with
    | cons r t =>
      obtain ⟨tk, rfl⟩ := r
      obtain ⟨as, q⟩ := reads_ints t
      exact ⟨_, ReadsAll.cons (Reads.int n tk) q⟩
theorem alike_ints (ns : List Int) : PySem.W.AlikeAll (ns.map .int) := by
  refine ⟨fun x hx y hy => ?_, fun x hx => ?_⟩
  · obtain ⟨a, _, rfl⟩ := List.mem_map.mp hx
    obtain ⟨b, _, rfl⟩ := List.mem_map.mp hy
    rfl
  · obtain ⟨a, _, rfl⟩ := List.mem_map.mp hx
    intro z; cases z
theorem depth_ints : ∀ ns : List Int, PyData.depthAll (ns.map .int) = 0
  | [] => rfl
  | n :: r => by simp [PyData.depthAll, PyData.depth, depth_ints r]
theorem call_maxT (hc : X.calm = true) (hu : X.A.units + 65 < cLine) : CallR X (.builtin "max") (fun vs H Q => ∃ (a : Addr) (x : Int) (r : List Int), vs = [.ref a] ∧ SqT X.K H a ((x :: r).map V.int) ∧ Q (.int (r.foldl max x)) H) := by
  intro pins s σ H xs us Q I rv h
  obtain ⟨a, x, r, rfl, hs, q⟩ := h
  obtain ⟨its, vv, ht, hz⟩ := I.tuple hs
  rw [Vals.ref1 rv]
  obtain ⟨as, rr⟩ := reads_ints (h := s.heap) vv
  refine PySem.W.max_tuple_data (x := .int x) (xs := r.map .int) (I.ok.hd hc) (show s.heap.IsTuple a its.toArray from ht) (by simpa using rr) (alike_ints (x :: r)) (by show _ + PyData.depthAll ((x :: r).map .int) < _; rw [depth_ints]; omega) fun i v h' tk bs e1 e2 k => ?_
  rw [PySem.W.maxD_ints] at e2
  cases e2 with
  | int _ t => exact ⟨.int _, H, I.kept (t' := tk) k, ⟨t, rfl⟩, q⟩
theorem call_minT (hc : X.calm = true) (hu : X.A.units + 65 < cLine) : CallR X (.builtin "min") (fun vs H Q => ∃ (a : Addr) (x : Int) (r : List Int), vs = [.ref a] ∧ SqT X.K H a ((x :: r).map V.int) ∧ Q (.int (r.foldl min x)) H) := by
  intro pins s σ H xs us Q I rv h
  obtain ⟨a, x, r, rfl, hs, q⟩ := h
  obtain ⟨its, vv, ht, hz⟩ := I.tuple hs
  rw [Vals.ref1 rv]
  obtain ⟨as, rr⟩ := reads_ints (h := s.heap) vv
  refine PySem.W.min_tuple_data (x := .int x) (xs := r.map .int) (I.ok.hd hc) (show s.heap.IsTuple a its.toArray from ht) (by simpa using rr) (alike_ints (x :: r)) (by show _ + PyData.depthAll ((x :: r).map .int) < _; rw [depth_ints]; omega) fun i v h' tk bs e1 e2 k => ?_
  rw [PySem.W.minD_ints] at e2
  cases e2 with
  | int _ t => exact ⟨.int _, H, I.kept (t' := tk) k, ⟨t, rfl⟩, q⟩
theorem maxI_fold : ∀ (x : Int) (r : List Int), maxI x r = r.foldl max x
  | _, [] => rfl
  | x, y :: r => by
    unfold maxI
    rw [List.foldl_cons, maxI_fold]
    congr 1
    rw [Int.max_def]; split <;> split <;> omega
theorem minI_fold : ∀ (x : Int) (r : List Int), minI x r = r.foldl min x
  | _, [] => rfl
  | x, y :: r => by
    unfold minI
    rw [List.foldl_cons, minI_fold]
    congr 1
    rw [Int.min_def]; split <;> split <;> omega
theorem cs_max (hc : X.calm = true) (hu : X.A.units + 65 < cLine) : CallSnd X (.builtin "max") (dBlt .max) := by
  refine call1 (((cr_max hc).or (call_maxT hc hu)).or (cr_maxD hc hu)) (one_none (by decide)) fun A H v d res h e => ?_
  have hd : ∃ ds, (d = .list ds ∨ d = .tuple ds) ∧ mxR (allInts ds) ds = some res := by
    cases d <;> simp only [dBlt, reduceCtorEq] at e
    · exact ⟨_, .inl rfl, e⟩
    · exact ⟨_, .inr rfl, e⟩
  obtain ⟨ds, hd, e⟩ := hd
  cases e1 : allInts ds with
  | some ns =>
    rw [e1] at e
    cases ns with
    | nil => cases e
    | cons x r =>
      cases e
      rcases hd with rfl | rfl
      · obtain ⟨a, vs, rfl, h1, h2, h3⟩ := h.list
        obtain ⟨rfl, _⟩ := rep_of_ints h3 e1
        exact ⟨_, rfl, fun Q k => .inl (.inl ⟨a, x :: r, rfl, SqL.of h1, by simp, fun m m1 m2 => by rw [max_uniq m1 m2]; exact k _ .int⟩)⟩
      · obtain ⟨a, vs, rfl, _, h1, h2, h3⟩ := h.tup
        obtain ⟨rfl, _⟩ := rep_of_ints h3 e1
        exact ⟨_, rfl, fun Q k => .inl (.inr ⟨a, x, r, rfl, SqT.of h1, by rw [← maxI_fold]; exact k _ .int⟩)⟩
  | none =>
    rw [e1] at e
    cases ds with
    | nil => cases e
    | cons x r =>
      simp only [mxR] at e
      split at e
      · rename_i ok
        cases e
        have : ∃ a vs, v = .ref a ∧ (SqL X.K H a vs ∨ SqT X.K H a vs) ∧ vs.length ≤ sizeLine ∧ RepAll A H vs (x :: r) := RepW.seq (by rcases hd with rfl | rfl; exact .inl h; exact .inr h)
        obtain ⟨a, vs, rfl, h1, h2, h3⟩ := this
        refine ⟨_, rfl, fun Q k => .inr ⟨a, vs, x, r, rfl, h1, h3.dp, ok, fun i w e2 e3 => k w ?_⟩⟩
        obtain ⟨d', e4, h4⟩ := h3.getV i e2
        rw [e3] at e4
        cases e4
        exact h4
      · cases e
theorem cs_min (hc : X.calm = true) (hu : X.A.units + 65 < cLine) : CallSnd X (.builtin "min") (dBlt .min) := by
  refine call1 (((cr_min hc).or (call_minT hc hu)).or (cr_minD hc hu)) (one_none (by decide)) fun A H v d res h e => ?_
  have hd : ∃ ds, (d = .list ds ∨ d = .tuple ds) ∧ mnR (allInts ds) ds = some res := by
    cases d <;> simp only [dBlt, reduceCtorEq] at e
    · exact ⟨_, .inl rfl, e⟩
    · exact ⟨_, .inr rfl, e⟩
  obtain ⟨ds, hd, e⟩ := hd
  cases e1 : allInts ds with
  | some ns =>
    rw [e1] at e
    cases ns with
    | nil => cases e
    | cons x r =>
      cases e
      rcases hd with rfl | rfl
      · obtain ⟨a, vs, rfl, h1, h2, h3⟩ := h.list
        obtain ⟨rfl, _⟩ := rep_of_ints h3 e1
        exact ⟨_, rfl, fun Q k => .inl (.inl ⟨a, x :: r, rfl, SqL.of h1, by simp, fun m m1 m2 => by rw [min_uniq m1 m2]; exact k _ .int⟩)⟩
      · obtain ⟨a, vs, rfl, _, h1, h2, h3⟩ := h.tup
        obtain ⟨rfl, _⟩ := rep_of_ints h3 e1
        exact ⟨_, rfl, fun Q k => .inl (.inr ⟨a, x, r, rfl, SqT.of h1, by rw [← minI_fold]; exact k _ .int⟩)⟩
  | none =>
    rw [e1] at e
    cases ds with
    | nil => cases e
    | cons x r =>
      simp only [mnR] at e
      split at e
      · rename_i ok
        cases e
        have : ∃ a vs, v = .ref a ∧ (SqL X.K H a vs ∨ SqT X.K H a vs) ∧ vs.length ≤ sizeLine ∧ RepAll A H vs (x :: r) := RepW.seq (by rcases hd with rfl | rfl; exact .inl h; exact .inr h)
        obtain ⟨a, vs, rfl, h1, h2, h3⟩ := this
        refine ⟨_, rfl, fun Q k => .inr ⟨a, vs, x, r, rfl, h1, h3.dp, ok, fun i w e2 e3 => k w ?_⟩⟩
        obtain ⟨d', e4, h4⟩ := h3.getV i e2
        rw [e3] at e4
        cases e4
        exact h4
      · cases e
/-- a builtin of two ints -/
theorem call2 {f} {b : Blt} {r : List V → Hp → VK → Prop} (g : Int → Int → Int) (hc : CallR X f r) (hb : ∀ ds res, dBlt b ds = some res → ∃ i j, ds = [.int i, .int j] ∧ res = .fr (.int (g i j)))
    (h : ∀ i j H Q, Q (.int (g i j)) H → r [.int i, .int j] H Q) : CallSnd X f (dBlt b) := by
  refine ⟨r, hc, fun A H σ ρ vs ds res ft hv e Q k => ?_⟩
  obtain ⟨i, j, rfl, rfl⟩ := hb ds res e
  obtain ⟨v, w, rfl, h1, h2⟩ := hv.two
  cases h1.int
  cases h2.int
  exact h i j H Q (k A H _ (Stp.refl ft) .int)
theorem cs_max2 (hc : X.calm = true) : CallSnd X (.builtin "max") (dBlt .max2) := by
  refine call2 (fun i j => if j > i then j else i) (call_max2 hc) (fun ds res e => ?_) fun i j H Q k => ⟨i, j, rfl, k⟩
  unfold dBlt at e
  split at e <;> simp_all
  exact ⟨_, _, ⟨rfl, rfl⟩, e.symm⟩
theorem cs_min2 (hc : X.calm = true) : CallSnd X (.builtin "min") (dBlt .min2) := by
  refine call2 (fun i j => if j < i then j else i) (call_min2 hc) (fun ds res e => ?_) fun i j H Q k => ⟨i, j, rfl, k⟩
  unfold dBlt at e
  split at e <;> simp_all
  exact ⟨_, _, ⟨rfl, rfl⟩, e.symm⟩
theorem cs_gcd : CallSnd X (.builtin "math.gcd") (dBlt .gcd) := by
  refine call2 (fun a b => (Nat.gcd a.natAbs b.natAbs : Nat)) cr_gcd (fun ds res e => ?_) fun i j H Q k => ⟨i, j, rfl, k⟩
  unfold dBlt at e
  split at e <;> simp_all
  exact ⟨_, _, ⟨rfl, rfl⟩, e.symm⟩
theorem cs_any (hc : X.calm = true) : CallSnd X (.builtin "any") (dBlt .any) := by
  refine call1 (cr_any hc) (one_none (by decide)) fun A H v d res h e => ?_
  cases d <;> simp only [dBlt, reduceCtorEq] at e
  rename_i ds
  cases e1 : allBools ds with
  | none => rw [e1] at e; cases e
  | some ns =>
    rw [e1] at e
    cases e
    obtain ⟨a, vs, rfl, h1, h2, h3⟩ := h.list
    obtain ⟨rfl, _⟩ := rep_of_bools h3 e1
    exact ⟨_, rfl, fun Q k => ⟨a, ns, rfl, SqL.of h1, k _ .bool⟩⟩
theorem cs_all (hc : X.calm = true) : CallSnd X (.builtin "all") (dBlt .all) := by
  refine call1 (cr_all hc) (one_none (by decide)) fun A H v d res h e => ?_
  cases d <;> simp only [dBlt, reduceCtorEq] at e
  rename_i ds
  cases e1 : allBools ds with
  | none => rw [e1] at e; cases e
  | some ns =>
    rw [e1] at e
    cases e
    obtain ⟨a, vs, rfl, h1, h2, h3⟩ := h.list
    obtain ⟨rfl, _⟩ := rep_of_bools h3 e1
    exact ⟨_, rfl, fun Q k => ⟨a, ns, rfl, SqL.of h1, k _ .bool⟩⟩
theorem insI_perm (x : Int) : ∀ r : List Int, (insI x r).Perm (x :: r)
  | [] => .refl _
  | y :: r => by
    unfold insI
    split
    · exact .refl _
    · exact ((insI_perm x r).cons y).trans (.swap x y r)
theorem sortI_perm : ∀ r : List Int, (sortI r).Perm r
  | [] => .refl _
  | x :: r => (insI_perm x _).trans ((sortI_perm r).cons x)
theorem insI_sorted (x : Int) : ∀ r : List Int, r.Pairwise (· ≤ ·) → (insI x r).Pairwise (· ≤ ·)
  | [], _ => by simp [insI]
  | y :: r, h => by
    unfold insI
    obtain ⟨h1, h2⟩ := List.pairwise_cons.mp h
    split
    · rename_i hz
      refine List.pairwise_cons.mpr ⟨fun a ha => ?_, h⟩
      rcases List.mem_cons.mp ha with rfl | ha
      · exact hz
      · exact Int.le_trans hz (h1 a ha)
    · refine List.pairwise_cons.mpr ⟨fun a ha => ?_, insI_sorted x r h2⟩
      rcases List.mem_cons.mp ((insI_perm x r).mem_iff.mp ha) with rfl | ha
      · omega
      · exact h1 a ha
theorem sortI_sorted : ∀ r : List Int, (sortI r).Pairwise (· ≤ ·)
  | [] => .nil
  | x :: r => insI_sorted x _ (sortI_sorted r)
theorem sort_uniq {l m : List Int} (p : l.Perm m) (h1 : l.Pairwise (· ≤ ·)) (h2 : m.Pairwise (· ≤ ·)) : l = m :=
  p.eq_of_pairwise (fun a b _ _ h3 h4 => Int.le_antisymm h3 h4) h1 h2
theorem rep_zip {A : Addr → Prop} {H : Hp} : ∀ {vs : List V} {ds : List D}, RepAll A H vs ds → ∀ p ∈ vs.zip ds, Rep A H p.1 p.2
  | [], [], _, p, h => by simp at h
  | _ :: _, _ :: _, .cons r rr, p, h => by
    simp only [List.zip_cons_cons, List.mem_cons] at h
    rcases h with rfl | h
    · exact r
    · exact rep_zip rr p h
theorem rep_unzip {A : Addr → Prop} {H : Hp} : ∀ {ps : List (V × D)}, (∀ p ∈ ps, Rep A H p.1 p.2) → RepAll A H (ps.map Prod.fst) (ps.map Prod.snd)
  | [], _ => .nil
  | p :: ps, h => .cons (h p (by simp)) (rep_unzip fun q hq => h q (by simp [hq]))
theorem cs_sorted (hu : X.A.units + 65 < cLine) : CallSnd X (.builtin "sorted") (dBlt .sorted) := by
  refine ⟨_, cr_sortedA.or (cr_sortD hu), fun A H σ ρ vs ds res ft hv e Q k => ?_⟩
  have : ∃ es, ((ds = [.list es] ∧ srtR (allInts es) es = some res) ∨ (ds = [.tuple es] ∧ ∃ ns, allInts es = some ns ∧ res = .nw ((sortI ns).map .int))) := by
    unfold dBlt at e
    split at e <;> simp_all
    all_goals
      rename_i es
      obtain ⟨ns, h1, h2⟩ := e
      exact ⟨ns, h1, h2.symm⟩
  obtain ⟨es, hd⟩ := this
  have hints : ∀ ns, allInts es = some ns → res = .nw ((sortI ns).map .int) → (ds = [.list es] ∨ ds = [.tuple es]) → (rSortedA X.K vs H Q ∨ rSortD X.K vs H Q) := by
    intro ns e1 e3 hd'
    subst e3
    have : ∃ v, vs = [v] ∧ (RepW A H v (.list es) ∨ RepW A H v (.tuple es)) := by
      rcases hd' with z | z
      · rw [z] at hv; obtain ⟨v, e5, h⟩ := hv.one; exact ⟨v, e5, .inl h⟩
      · rw [z] at hv; obtain ⟨v, e5, h⟩ := hv.one; exact ⟨v, e5, .inr h⟩
    obtain ⟨v, rfl, h⟩ := this
    obtain ⟨a, ws, rfl, h1, h2, h3⟩ := RepW.seq h (K := X.K)
    obtain ⟨rfl, _⟩ := rep_of_ints h3 e1
    refine .inl ⟨a, ns, rfl, h1, fun ns' p hp hs hn => ?_⟩
    have e2 : ns' = sortI ns := sort_uniq (hp.trans (sortI_perm ns).symm) hs (sortI_sorted ns)
    subst e2
    exact k A _ _ (Stp.grow ft (upd_grow hn)) (res_new ft hn (by rw [List.length_map, (sortI_perm ns).length_eq]; simpa using h2) (rep_ints _))
  rcases hd with ⟨rfl, e2⟩ | ⟨rfl, ns, e1, e2⟩
  · cases e1 : allInts es with
    | some ns =>
      rw [e1] at e2
      cases e2
      exact hints ns e1 rfl (.inl rfl)
    | none =>
      rw [e1] at e2
      simp only [srtR, sortG] at e2
      split at e2
      · rename_i ok
        cases e2
        obtain ⟨v, rfl, h⟩ := hv.one
        obtain ⟨a, ws, rfl, h1, h2, h3⟩ := h.list
        refine .inr ⟨a, ws, es, rfl, SqL.of h1, h3.dp, ok, fun ps p hp e3 hn => ?_⟩
        have hr : RepAll A H (ps.map Prod.fst) (sortD es) := by
          rw [← e3]
          exact rep_unzip fun q hq => rep_zip h3 q (hp.mem_iff.mp hq)
        refine k A _ _ (Stp.grow ft (upd_grow hn)) (res_new ft hn ?_ hr)
        rw [List.length_map, hp.length_eq, List.length_zip]
        exact Nat.le_trans (Nat.min_le_left _ _) h2
      · cases e2
  · exact hints ns e1 e2 (.inr rfl)
theorem cs_list : CallSnd X (.type "list") (dBlt .list) := by
  refine ⟨_, call_list_of, fun A H σ ρ vs ds res ft hv e Q k => ?_⟩
  have : ∃ es, (ds = [.list es] ∨ ds = [.tuple es]) ∧ res = .nw es := by
    unfold dBlt at e
    split at e <;> simp_all
  obtain ⟨es, hd, rfl⟩ := this
  have : ∃ v, vs = [v] ∧ (RepW A H v (.list es) ∨ RepW A H v (.tuple es)) := by
    rcases hd with rfl | rfl
    · obtain ⟨v, rfl, h⟩ := hv.one; exact ⟨v, rfl, .inl h⟩
    · obtain ⟨v, rfl, h⟩ := hv.one; exact ⟨v, rfl, .inr h⟩
  obtain ⟨v, rfl, h⟩ := this
  obtain ⟨a, ws, rfl, h1, h2, h3⟩ := RepW.seq h (K := X.K)
  exact ⟨a, ws, rfl, h1, fun p hn => k A _ _ (Stp.grow ft (upd_grow hn)) (res_new ft hn h2 h3)⟩
theorem cs_tuple : CallSnd X (.type "tuple") (dBlt .tuple) := by
  refine ⟨_, call_tuple_of, fun A H σ ρ vs ds res ft hv e Q k => ?_⟩
  have : ∃ es, (ds = [.list es] ∨ ds = [.tuple es]) ∧ res = .fr (.tuple es) := by
    unfold dBlt at e
    split at e <;> simp_all
  obtain ⟨es, hd, rfl⟩ := this
  rcases hd with rfl | rfl
  · obtain ⟨v, rfl, h⟩ := hv.one
    obtain ⟨a, ws, rfl, h1, h2, h3⟩ := h.list
    exact ⟨a, ws, rfl, .inl ⟨SqL.of h1, fun p hn => k _ _ _ (Stp.frz ft hn) (rep_newT hn h2 h3)⟩⟩
  · obtain ⟨v, rfl, h⟩ := hv.one
    obtain ⟨a, ws, rfl, h0, h1, h2, h3⟩ := h.tup
    exact ⟨a, ws, rfl, .inr ⟨SqT.of h1, k A H _ (Stp.refl ft) (.tup h0 h1 h2 h3)⟩⟩
/-- len: it also measures the script -/
theorem sndR_len {v d r A H} {K : PySem.W.Frag} (hk : TheK.K = K) (h : RepR A H v d) (e : dLen d = some r) : ∃ n : Int, r = .int n ∧ ∀ (Q : VK), Q (.int n) H →
    ((∃ p ys, [v] = [.ref p] ∧ (SqL K H p ys ∨ SqT K H p ys) ∧ Q (.int ys.length) H) ∨ ∃ z, [v] = [V.str z] ∧ z.length ≤ sizeLine ∧ Q (.int z.length) H) := by
  cases d <;> simp only [dLen, reduceCtorEq] at e
  · split at e
    · rename_i z hz
      cases e
      cases (h.w (fun _ z => by cases z)).str
      exact ⟨_, rfl, fun Q k => .inr ⟨_, rfl, hz, k⟩⟩
    · cases e
  · cases e
    obtain ⟨a, vs, rfl, h1, h2, h3⟩ := h.list
    exact ⟨_, rfl, fun Q k => .inl ⟨a, vs, rfl, .inl (by rw [← hk]; exact h1), by rw [h3.length]; exact k⟩⟩
  · cases e
    obtain ⟨a, vs, rfl, _, h1, h2, h3⟩ := (h.w (fun _ z => by cases z)).tup
    exact ⟨_, rfl, fun Q k => .inl ⟨a, vs, rfl, .inr (SqT.of h1), by rw [h3.length]; exact k⟩⟩
end
end Ev

set_option maxRecDepth 100000
/-! Ev7: len, isinstance, changes of a list, calls. -/
namespace Ev
open PySem L2
variable [TheK]
section
variable {X : Cx} {N : List Str} {q : Sc} {F : FT}
def fLen (fa : Env → Option (Opd × Env)) (ρ : Env) : Option (Res × Env) := match fa ρ with
    | none => none
    | some (oa, ρ1) => match oa.getR ρ1 with
      | some d => (dLen d).map fun r => (.fr r, ρ1)
      | none => none
theorem snd_len (C : CtxOk X N q F) {e p pos fa} (hg : glB q.sc (Str.ofString "len") = true) (hn : notStar e = true) (ha : SndO X e fa) : SndE X (.Call (.Name (Str.ofString "len") p) [e] [] pos) (fLen fa) := by
  obtain ⟨ta, pa, qa⟩ := ha
  refine ⟨_, pe_callB (call_len_seq.or call_len_str) (gl_of C hg) (C.bl "len" (by decide)) PySem.boot_len (pa_cons pa pa_nil (star_cons hn)) (by decide) (by decide) (star_cons hn) rfl, fun A H σ ρ r ρ' ft e Q k => ?_⟩
  unfold fLen at e
  split at e
  · cases e
  · rename_i oa ρ1 e1
    split at e
    · rename_i d e2
      cases e3 : dLen d with
      | none => rw [e3] at e; cases e
      | some n =>
        rw [e3] at e
        cases e
        refine qa A H σ ρ oa ρ' ft e1 _ fun A1 H1 v1 s1 k1 => ?_
        obtain ⟨m, rfl, q⟩ := sndR_len C.kk (Opd.okR s1.fit k1 e2) e3
        exact q Q (k A1 H1 _ s1 .int)
    · cases e

def tyName : Ty → String
  | .int => "int"
  | .bool => "bool"
  | .str => "str"
  | .tuple => "tuple"
  | .list => "list"
theorem boot_ty (t : Ty) : bootBuiltins (Str.ofString (tyName t)) = some (.type (tyName t)) := by cases t <;> decide +kernel
def fIsi (t : Ty) (fa : Env → Option (Opd × Env)) (ρ : Env) : Option (Res × Env) := match fa ρ with
    | none => none
    | some (oa, ρ1) => (oa.get ρ1).map fun d => (.fr (.bool (tyIs t d)), ρ1)
theorem boot_isi : bootBuiltins (Str.ofString "isinstance") = some (.builtin "isinstance") := by decide +kernel
theorem ty_ok {A H v d} {K : PySem.W.Frag} (h : RepW A H v d) (t : Ty) : ∃ n, TyX K H v (.type n) ∧ PySem.W.kitOne K (.type n) (.type (tyName t)) = some (tyIs t d) := by
  have go : ∀ n, TyX K H v (.type n) → kitB n (tyName t) = some (tyIs t d) → ∃ n, TyX K H v (.type n) ∧ PySem.W.kitOne K (.type n) (.type (tyName t)) = some (tyIs t d) := fun n h1 h2 => ⟨n, h1, kit_ty h2⟩
  rcases h with h | ⟨a, vs, ds, rfl, rfl, h1, h2, h3⟩
  · cases h with
    | none => exact go "NoneType" (.base .non) (by cases t <;> first | (show _ = some true; decide +kernel) | (show _ = some false; decide +kernel))
    | bool => exact go "bool" (.base (.bl _)) (by cases t <;> first | (show _ = some true; decide +kernel) | (show _ = some false; decide +kernel))
    | int => exact go "int" (.base (.int _)) (by cases t <;> first | (show _ = some true; decide +kernel) | (show _ = some false; decide +kernel))
    | str => exact go "str" (.base (.str _)) (by cases t <;> first | (show _ = some true; decide +kernel) | (show _ = some false; decide +kernel))
    | lst _ h1 => exact go "list" (.base (.lst h1)) (by cases t <;> first | (show _ = some true; decide +kernel) | (show _ = some false; decide +kernel))
    | tup _ h1 => exact go "tuple" (.base (.tup h1)) (by cases t <;> first | (show _ = some true; decide +kernel) | (show _ = some false; decide +kernel))
  · exact go "list" (.base (.lst h1)) (by cases t <;> first | (show _ = some true; decide +kernel) | (show _ = some false; decide +kernel))
theorem snd_isi (C : CtxOk X N q F) {e p p2 pos fa} (t : Ty) (hg : glB q.sc (Str.ofString "isinstance") = true) (hg2 : glB q.sc (Str.ofString (tyName t)) = true) (hn : notStar e = true) (ha : SndO X e fa) :
    SndE X (.Call (.Name (Str.ofString "isinstance") p) [e, .Name (Str.ofString (tyName t)) p2] [] pos) (fIsi t fa) := by
  obtain ⟨ta, pa, qa⟩ := ha
  have hb : tyName t ∈ bltNames := by cases t <;> decide
  have p2' : PE X (.Name (Str.ofString (tyName t)) p2) (tC (.ty (tyName t))) :=
    pe_bltn (gl_of C hg2) (C.bl _ hb) (boot_ty t) rfl (by cases t <;> decide) (by cases t <;> decide)
  refine ⟨_, pe_callB call_isi (gl_of C hg) (C.bl "isinstance" (by decide)) boot_isi (pa_cons pa (pa_cons p2' pa_nil (star_cons rfl)) (star_cons hn)) (by decide) (by decide) (star_cons hn) (star_any rfl), fun A H σ ρ r ρ' ft e Q k => ?_⟩
  unfold fIsi at e
  split at e
  · cases e
  · rename_i oa ρ1 e1
    cases e2 : oa.get ρ1 with
    | none => rw [e2] at e; cases e
    | some d =>
      rw [e2] at e
      cases e
      refine qa A H σ ρ oa ρ' ft e1 _ fun A1 H1 v1 s1 k1 => ?_
      obtain ⟨n, h1, h2⟩ := ty_ok (K := X.K) (Opd.ok s1.fit k1 e2) t
      exact ⟨v1, .ty (tyName t), .type n, .type (tyName t), tyIs t d, rfl, .ty _, h1, h2, k A1 H1 _ s1 .bool⟩

/-! ### a list is changed -/
theorem Fit.mut_nofrz {A H σ ρ} (f : Fit A H σ ρ) {a} (h : Mut σ ρ a) (o : Obj) (u : HO) (e0 : H a = some (.frz o u)) : False := by
  obtain ⟨i, s, e1, e2, e3⟩ := h
  have q := f.slot i s _ e1 e3
  cases s <;> simp [mutS] at e2 <;> obtain ⟨b, vs, e, h, _⟩ := q <;> cases e <;> rw [h] at e0 <;> cases e0
def withL : Slot → List D → Slot
  | .own _, ds => .own ds
  | .mu _, ds => .mu ds
  | s, _ => s
theorem stp_upd {A H σ} {ρ : Env} {i : Nat} {s : Slot} {a : Addr} {vs : List V} {ds : List D} (f : Fit A H σ ρ) (hs : ρ[i]? = some s) (hm0 : mutL s = true) (ha : σ[i]? = some (some (.ref a))) (hl : vs.length ≤ sizeLine) (r : RepAll A H vs ds) :
    Stp A H σ ρ A (upd H a (.lst vs)) σ (ρ.set i (withL s ds)) := by
  have hm : mutS s = true := mutL_S hm0
  have m : Mut σ ρ a := ⟨i, s, hs, hm, ha⟩
  have na : ¬ A a := fun z => f.nomut z m
  have k : Keep A H (upd H a (.lst vs)) := fun b o hb e => by
    have : b ≠ a := fun z => na (z ▸ hb)
    rw [upd_ne this]; exact e
  have lv : live s = true := by cases s <;> first | rfl | (cases hm; done)
  have mt : ∀ b, Mut σ (ρ.set i (withL s ds)) b → Mut σ ρ b := fun b ⟨j, t, h1, h2, h3⟩ => by
    rcases get_set h1 with ⟨rfl, rfl⟩ | ⟨_, h1⟩
    · exact ⟨i, s, hs, hm, h3⟩
    · exact ⟨j, t, h1, h2, h3⟩
  obtain ⟨oa, hoa⟩ := f.mut_at m
  refine ⟨fun _ h => h, fun b o h n => ?_, fun b h => ?_, fun b m => .inl (mt b m), fun j es h => ⟨rfl, ?_⟩, fun b hb => .inl hb, fun j es h o => ?_, ⟨by rw [List.length_set]; exact f.len, fun j t ov h1 h2 => ?_, fun j l t u b hjl h1 h2 h3 h4 h5 h6 => ?_, fun b hb => ?_⟩⟩
  · have : b ≠ a := fun z => n (z ▸ m)
    rw [upd_ne this]; exact h
  · by_cases e : b = a
    · subst e; rw [upd_same] at h; cases h
    · rw [upd_ne e] at h; exact h
  · by_cases hj : i = j
    · subst hj; rw [hs] at h; cases h; exact ⟨ds, set_get hs⟩
    · exact ⟨es, by rw [List.getElem?_set_ne hj]; exact h⟩
  · rcases get_set h with ⟨rfl, h8⟩ | ⟨_, h⟩
    · subst h8; cases s <;> first | (cases hm; done) | (cases o; done)
    · exact ⟨h, rfl⟩
  · rcases get_set h1 with ⟨rfl, rfl⟩ | ⟨hj, h1⟩
    · rw [ha] at h2; cases h2
      cases s <;> first | (cases hm; done) | (cases hm0; done) | exact ⟨a, vs, rfl, upd_same, hl, RepAll.mono (fun _ z => z) k r, na⟩
    · have ok := f.slot j t _ h1 h2
      refine ok.go (fun _ z => z) k (fun b o hb z e => ?_) (fun b lt z => by subst z; exact ok.nofz lt) fun b o u e => ?_
      · subst z
        have : b ≠ a := fun z => by subst z; exact f.apart i j s t _ hj hs h1 lv hb ha h2
        rw [upd_ne this]; exact e
      · have : b ≠ a := fun z => by
          subst z
          exact f.mut_nofrz m _ _ e
        rw [upd_ne this]; exact e
  · rcases get_set h1 with ⟨rfl, rfl⟩ | ⟨n1, h1⟩
    · rcases get_set h2 with ⟨rfl, rfl⟩ | ⟨_, h2⟩
      · exact hjl rfl
      · exact f.apart i l s u b hjl hs h2 lv h4 h5 h6
    · rcases get_set h2 with ⟨rfl, rfl⟩ | ⟨_, h2⟩
      · exact f.apart j i t s b hjl h1 hs h3 (liveB_of lv) h5 h6
      · exact f.apart j l t u b hjl h1 h2 h3 h4 h5 h6
  · obtain ⟨o, e⟩ := f.trk b hb
    exact ⟨o, k b o hb e⟩
/-- the list of a slot that may be changed -/
theorem Fit.mutl {A H σ} {ρ : Env} {i : Nat} {s : Slot} (f : Fit A H σ ρ) (hs : ρ[i]? = some s) (hm : mutL s = true) : ∃ a vs ds, σ[i]? = some (some (.ref a)) ∧ s = withL s ds ∧ s.d? = some (.list ds) ∧ H a = some (.lst vs) ∧ vs.length ≤ sizeLine ∧ RepAll A H vs ds := by
  obtain ⟨ov, e1, q⟩ := f.at hs
  cases s with
  | own ds => obtain ⟨a, vs, rfl, q1, q2, q3, q4⟩ := q; exact ⟨a, vs, ds, e1, rfl, rfl, q1, q2, q3⟩
  | mu ds => obtain ⟨a, vs, rfl, q1, q2, q3, q4⟩ := q; exact ⟨a, vs, ds, e1, rfl, rfl, q1, q2, q3⟩
  | _ => cases hm
def cthName : Cth → String
  | .append => "append"
  | .pop => "pop"
  | .popAt => "pop"
  | .insert => "insert"
  | .extend => "extend"
  | .remove => "remove"
  | .reverse => "reverse"
/-- a method that changes a list, by values -/
def ChgSnd (X : Cx) (id : String) (m : Cth) : Prop := ∃ r : V → List V → Hp → VK → Prop, MtR X id r ∧
  ∀ A H a vs xs ws ds p, H a = some (.lst vs) → vs.length ≤ sizeLine → RepAll A H vs xs → RepAll A H ws ds → dChg m xs ds = some p →
    ∀ Q : VK, (∀ vs' w, vs'.length ≤ sizeLine → RepAll A H vs' p.1 → Rep A H w p.2 → Q w (upd H a (.lst vs'))) → r (.ref a) ws H Q
def fChg (m : Cth) (i : Nat) (fs : Env → Option (List D × Env)) (ρ : Env) : Option (Res × Env) := match rd ρ i with
    | some (.list _) => match fs ρ with
      | none => none
      | some (ds, ρ1) => match ρ1[i]? with
        | some (.own xs) => (dChg m xs ds).map fun p => (.fr p.2, ρ1.set i (.own p.1))
        | some (.mu xs) => (dChg m xs ds).map fun p => (.fr p.2, ρ1.set i (.mu p.1))
        | _ => none
    | _ => none
theorem chg_core {t : TA} {fs r A H σ ρ res ρ'} {m : Cth} {i : Nat} {Q : VK} {K : PySem.W.Frag} (qs : ∀ A H σ ρ r ρ', Fit A H σ ρ → fs ρ = some (r, ρ') → ∀ Q : List V → Hp → Prop, (∀ A' H' vs, Stp A H σ ρ A' H' σ ρ' → RepAll A' H' vs r → Q vs H') → t σ H Q)
    (hc : ∀ A H a vs xs ws ds p, H a = some (.lst vs) → vs.length ≤ sizeLine → RepAll A H vs xs → RepAll A H ws ds → dChg m xs ds = some p →
      ∀ Q : VK, (∀ vs' w, vs'.length ≤ sizeLine → RepAll A H vs' p.1 → Rep A H w p.2 → Q w (upd H a (.lst vs'))) → r (.ref a) ws H Q)
    (hi : i < σ.length) (ft : Fit A H σ ρ) (e : fChg m i fs ρ = some (res, ρ')) (k : ∀ A' H' v, Stp A H σ ρ A' H' σ ρ' → ResOk A' H H' σ ρ' v res → Q v H') : tBM K "list" r (tVar i) t σ H Q := by
  unfold fChg at e
  split at e
  · rename_i ds0 e0
    have hov : ∃ v, σ[i]? = some (some v) := by
      simp only [rd] at e0
      split at e0
      · rename_i s hs
        obtain ⟨ov, e1, q⟩ := ft.at hs
        cases s <;> simp only [Slot.d?, reduceCtorEq] at e0
        · obtain ⟨w, rfl, _⟩ := q; exact ⟨_, e1⟩
        all_goals (obtain ⟨a, vs, rfl, _⟩ := q; exact ⟨_, e1⟩)
      · cases e0
    obtain ⟨v, hv⟩ := hov
    obtain ⟨a, vs, rfl, h1, h2, h3⟩ := (rd_ok ft hv e0).list
    refine ⟨_, hv, .inl ⟨rfl, _, SqL.of h1⟩, ?_⟩
    split at e
    · cases e
    · rename_i ds ρ1 e1
      refine qs A H σ ρ ds ρ1 ft e1 _ fun A1 H1 ws s1 k1 => ?_
      have go : ∀ s xs, ρ1[i]? = some s → mutL s = true → s.d? = some (.list xs) → (dChg m xs ds).map (fun p => (Res.fr p.2, ρ1.set i (withL s p.1))) = some (res, ρ') → r (.ref a) ws H1 Q := fun s xs hs hm hd e => by
        cases e4 : dChg m xs ds with
        | none => rw [e4] at e; cases e
        | some p =>
          rw [e4] at e
          cases e
          obtain ⟨a', vs', ds', q1, q2, q3, q4, q5, q6⟩ := s1.fit.mutl hs hm
          rw [hv] at q1; cases q1
          rw [hd] at q3; cases q3
          refine hc A1 H1 a vs' _ ws ds p q4 q5 q6 k1 e4 Q fun vs2 w z1 z2 z3 => ?_
          have s2 := stp_upd s1.fit hs hm hv z1 z2
          exact k A1 _ w (s1.trans s2) (Rep.mono (fun _ z => z) (s2.keep s1.fit) z3)
      split at e
      · rename_i xs hs
        exact go _ xs hs rfl rfl e
      · rename_i xs hs
        exact go _ xs hs rfl rfl e
      · cases e
  · cases e
end
end Ev

set_option maxRecDepth 100000
/-! Ev8: methods that change a list; calls of defs. -/
namespace Ev
open PySem L2
variable [TheK]
section
variable {X : Cx} {N : List Str} {q : Sc} {F : FT}
theorem RepAll.nil_v {A H ws} (h : RepAll A H ws []) : ws = [] := by cases h; rfl
theorem RepAll.one_v {A H ws d} (h : RepAll A H ws [d]) : ∃ w, ws = [w] ∧ Rep A H w d := by
  cases h with | cons h1 h2 => cases h2; exact ⟨_, rfl, h1⟩
theorem chg_append : ChgSnd X "list.append" .append := by
  refine ⟨_, mt_append, fun A H a vs xs ws ds p ha hl r rd e Q k => ?_⟩
  match ds, e with
  | [d], e =>
    simp only [dChg] at e
    split at e
    · rename_i hz
      cases e
      obtain ⟨w, rfl, hw⟩ := rd.one_v
      rw [← r.length] at hz
      exact ⟨a, vs, w, rfl, rfl, ha, hz, k _ .non (by rw [List.length_append, List.length_singleton]; exact hz) (r.append (.one hw)) .none⟩
    · cases e
  | [], e => cases e
  | _ :: _ :: _, e => simp [dChg] at e
theorem chg_reverse : ChgSnd X "list.reverse" .reverse := by
  refine ⟨_, mt_reverse, fun A H a vs xs ws ds p ha hl r rd e Q k => ?_⟩
  match ds, e with
  | [], e =>
    cases e
    cases rd.nil_v
    exact ⟨a, vs, rfl, rfl, ha, k _ .non (by rw [List.length_reverse]; exact hl) r.reverse .none⟩
  | _ :: _, e => simp [dChg] at e
theorem chg_pop : ChgSnd X "list.pop" .pop := by
  refine ⟨_, mt_pop, fun A H a vs xs ws ds p ha hl r rd e Q k => ?_⟩
  match ds, e with
  | [], e =>
    simp only [dChg] at e
    split at e
    · cases e
    · rename_i z hz
      cases e
      cases rd.nil_v
      rw [List.getLast?_eq_getElem?] at hz
      obtain ⟨w, h1, h2⟩ := r.get _ hz
      rw [← r.length] at h1
      exact ⟨a, vs, w, rfl, rfl, ha, h1, k _ w (by rw [List.length_dropLast]; omega) r.dropLast h2⟩
  | _ :: _, e => simp [dChg] at e
theorem chg_popAt : ChgSnd X "list.pop" .popAt := by
  refine ⟨_, mt_popAt, fun A H a vs xs ws ds p ha hl r rd e Q k => ?_⟩
  match ds, e with
  | [.int i], e =>
    simp only [dChg] at e
    cases e1 : ixN xs.length i with
    | none => rw [e1] at e; cases e
    | some j =>
      rw [e1] at e
      cases e2 : xs[j]? with
      | none => simp [e2] at e
      | some z =>
        simp only [e2, Option.bind_some, Option.map_some, Option.some.injEq] at e
        cases e
        obtain ⟨w0, rfl, hw⟩ := rd.one_v
        cases hw
        obtain ⟨w, h1, h2⟩ := r.get _ e2
        rw [← r.length] at e1
        obtain ⟨q1, q2, q3, q4⟩ := ixN_seq e1
        have hz : (sizeLine : Int) ≤ 2 ^ 62 := by decide
        refine ⟨a, vs, i, j, w, rfl, rfl, ha, by omega, by omega, q1, h1, k _ w (Nat.le_trans (List.length_eraseIdx_le _ _) hl) (r.erase j) h2⟩
  | [], e => cases e
  | [.none], e => simp [dChg] at e
  | [.bool _], e => simp [dChg] at e
  | [.str _], e => simp [dChg] at e
  | [.list _], e => simp [dChg] at e
  | [.tuple _], e => simp [dChg] at e
  | [.dict _], e => simp [dChg] at e
  | _ :: _ :: _, e => simp [dChg] at e
theorem chg_insert : ChgSnd X "list.insert" .insert := by
  refine ⟨_, mt_insert, fun A H a vs xs ws ds p ha hl r rd e Q k => ?_⟩
  have hd : ∃ i d, ds = [.int i, d] := by
    unfold dChg at e
    split at e <;> simp_all
  obtain ⟨i, d, rfl⟩ := hd
  simp only [dChg] at e
  split at e
  · rename_i hz
    cases e
    cases rd with
    | cons h1 h2 =>
      cases h1
      obtain ⟨w, rfl, hw⟩ := h2.one_v
      have hz3 := hz.2.2
      rw [← r.length] at hz3
      refine ⟨a, vs, i, w, rfl, rfl, ha, hz3, hz.1, hz.2.1, k _ .non ?_ ((r.take _).append (.one hw) |>.append (r.drop _)) .none⟩
      simp only [List.length_append, List.length_take, List.length_drop, List.length_singleton]
      omega
  · cases e
theorem chg_extend : ChgSnd X "list.extend" .extend := by
  refine ⟨_, mt_extend, fun A H a vs xs ws ds p ha hl r rd e Q k => ?_⟩
  have hd : ∃ ys, ds = [.list ys] := by
    unfold dChg at e
    split at e <;> simp_all
  obtain ⟨ys, rfl⟩ := hd
  simp only [dChg] at e
  split at e
  · rename_i hz
    cases e
    obtain ⟨w, rfl, hw⟩ := rd.one_v
    cases hw with
    | @lst b zs _ g1 g2 g3 g4 =>
      have hz' : vs.length + zs.length ≤ sizeLine := by rw [r.length, g4.length]; exact hz
      exact ⟨a, b, vs, zs, rfl, rfl, ha, g2, hz', k _ .non (by rw [List.length_append]; exact hz') (r.append g4) .none⟩
  · cases e
/-- x.remove(d), data of any depth -/
def rRemD (K : PySem.W.Frag) : V → List V → Hp → VK → Prop := fun x xs H Q => ∃ (l : Addr) (y : V) (d : D) (vs : List V) (ds : List D) (j : Nat), x = .ref l ∧ xs = [y] ∧ H l = some (.lst vs) ∧ Dp K H (.ref l) (.list ds) ∧ DpAll K H vs ds ∧ Dp K H y d ∧
  SeqAt.shaped (.list ds) = true ∧ SeqAt.shaped d = true ∧ indexD d ds = some j ∧ Q .non (upd H l (.lst (vs.eraseIdx j)))
theorem indexD_find (d : D) : ∀ ds : List D, indexD d ds = SeqAt.dataPlace ds d
  | [] => rfl
  | x :: r => by
    unfold indexD SeqAt.dataPlace
    rw [List.findIdx?_cons, indexD_find d r]
    rfl
theorem vals_erase : ∀ {vs : List V} {us : List Value} (j : Nat), Vals vs us → Vals (vs.eraseIdx j) (us.eraseIdx j)
  | _, _, _, .nil => by simp; exact .nil
  | _, _, 0, .cons _ h => h
  | _, _, j + 1, .cons r h => .cons r (vals_erase j h)
theorem mt_removeD (hu : X.A.units + 65 < cLine) : MtM X "list.remove" (rRemD X.K) := by
  intro pins s σ H x xs v us Q I rx rxs h
  obtain ⟨l, y, d, vs, ds, j, rfl, rfl, hH, hl, hv, hy, sl, sd, hj, q⟩ := h
  cases rx
  obtain ⟨u, rfl, ru⟩ := rxs.one
  obtain ⟨z, its, n, r, hlen, e⟩ := I.lstM hH
  obtain ⟨bs, r1⟩ := Dp.reads I d y u hy ru
  obtain ⟨as, r2⟩ := Dp.readsAll I ds _ its hv r
  have c1 : PyData.canLay0 (.list ds) = true := SeqAt.canLay_of_shaped sl
  have c2 := SeqAt.canLay_of_shaped sd
  have p1 := PyData.plain_of_canLay0 _ c1
  have p2 := PyData.plain_of_canLay0 _ c2
  refine SeqAt.remove_list_data (vs := its.toArray) ⟨_, e, rfl, n, rfl⟩ (by simpa using r2) r1 (by simpa [PyData.plain] using p1) p2 (PyProof.Rows.room_in_shaped sd hu) (by rw [← indexD_find]; exact hj) (by rw [List.size_toArray, ← hlen]; exact z) ?_
  refine ⟨.non, _, I.lset (its' := its.eraseIdx j) (t' := s.toks) hH e ?_ (vals_erase j r) ?_, rfl, q⟩
  · show its.toArray.eraseIdxIfInBounds j = (its.eraseIdx j).toArray
    rw [List.eraseIdxIfInBounds_toArray]
  · exact Nat.le_trans (List.length_eraseIdx_le _ _) z
theorem chg_remove (hu : X.A.units + 65 < cLine) : ChgSnd X "list.remove" .remove := by
  refine ⟨_, mt_removeD hu, fun A H a vs xs ws ds p ha hl r rd e Q k => ?_⟩
  have hd : ∃ d, ds = [d] := by
    unfold dChg at e
    split at e <;> simp_all
  obtain ⟨d, rfl⟩ := hd
  simp only [dChg] at e
  split at e
  · rename_i hz
    rw [Bool.and_eq_true] at hz
    cases e1 : indexD d xs with
    | none => rw [e1] at e; cases e
    | some j =>
      rw [e1] at e
      cases e
      obtain ⟨w, rfl, hw⟩ := rd.one_v
      exact ⟨a, w, d, vs, xs, j, rfl, rfl, ha, .lst (SqL.of ha) r.dp, r.dp, hw.dp, hz.2, hz.1, e1, k _ .non (Nat.le_trans (List.length_eraseIdx_le _ _) hl) (r.erase j) .none⟩
  · cases e
theorem few_ok {es : List Expr} {env : PySem.Env} {pos : Pos} (h : es.all notStar = true) (hl : es.length < 29) : ((backTo pos (starEach es env)).all (fun x => !x.1) && (backToKw pos (keywordEach [] env)).all (fun x => x.1.isSome)
      && decide (es.length + ([] : List Keyword).length + (if ([] : List Keyword).isEmpty then 0 else 1) < 30)) = true := by
  have h1 : (backTo pos (starEach es env)).all (fun x => !x.1) = true := by
    have := star_any (env := env) (pos := pos) h
    rw [List.all_eq_not_any_not]
    simpa using this
  rw [h1]
  simp [keywordEach, backToKw]
  omega
/-- x.m(e, ..) -/
theorem snd_chg (C : CtxOk X N q F) {m : Cth} {id : String} {i : Nat} {x : Str} {e es px apos cpos fs} (hc : ChgSnd X id m) (slot : PySem.Slot "list" (Str.ofString (cthName m)) id) (hty : typeOf (.builtin id) = pure (.type "method_descriptor"))
    (hx : nameB N q i x = true) (hi : i < N.length) (st : (e :: es).all notStar = true) (hf : (e :: es).length < 29) (hl : (apos.endLine == cpos.line) = true) (hs : SndA X (e :: es) fs) :
    SndE X (.Call (.Attribute (.Name x px) (Str.ofString (cthName m)) apos) (e :: es) [] cpos) (fChg m i fs) := by
  obtain ⟨r, pr, qr⟩ := hc
  obtain ⟨ts, ps, qs⟩ := hs
  have st' := st
  rw [List.all_cons, Bool.and_eq_true] at st'
  refine ⟨_, pe_bm PySem.F.plainAttrs_list slot hty pr (pe_name C hx) ps rfl (few_ok st hf) hl (star_cons st'.1) (star_any st'.2), fun A H σ ρ r ρ' ft e Q k => ?_⟩
  refine chg_core qs qr ?_ ft e k
  unfold fChg rd at e
  split at e
  · rename_i e0
    split at e0
    · rename_i s hs
      rw [ft.len]
      exact (List.getElem?_eq_some_iff.mp hs).1
    · cases e0
  · cases e
theorem snd_chg0 (C : CtxOk X N q F) {m : Cth} {id : String} {i : Nat} {x : Str} {px apos cpos} (hc : ChgSnd X id m) (slot : PySem.Slot "list" (Str.ofString (cthName m)) id) (hty : typeOf (.builtin id) = pure (.type "method_descriptor"))
    (hx : nameB N q i x = true) (hl : (apos.endLine == cpos.line) = true) :
    SndE X (.Call (.Attribute (.Name x px) (Str.ofString (cthName m)) apos) [] [] cpos) (fChg m i (fun ρ => some ([], ρ))) := by
  obtain ⟨r, pr, qr⟩ := hc
  refine ⟨_, pe_bm0 PySem.F.plainAttrs_list slot hty pr (pe_name C hx) rfl hl, fun A H σ ρ r ρ' ft e Q k => ?_⟩
  have hi : i < σ.length := by
    unfold fChg rd at e
    split at e
    · rename_i e0
      split at e0
      · rename_i s hs
        rw [ft.len]
        exact (List.getElem?_eq_some_iff.mp hs).1
      · cases e0
    · cases e
  have h := chg_core (K := X.K) (t := tNil) (fun A H σ ρ r ρ' ft e Q k => by cases e; exact k A H [] (Stp.refl ft) .nil) qr hi ft e k
  obtain ⟨v, h1, h2, h3⟩ := h
  exact ⟨v, h1, h2, h3⟩

/-! ### calls -/
theorem args_at {A H σ} {ρ : Env} : ∀ {ks os ss vs}, argsOf ρ ks os = some ss → OpdsOk A H σ vs os → vs.length = ks.length ∧ ss.length = ks.length ∧ os.length = ks.length ∧
    ∀ (n : Nat) s, ss[n]? = some s → ∃ k o v, ks[n]? = some k ∧ os[n]? = some o ∧ vs[n]? = some v ∧ argOf ρ k o = some s ∧ OpdOk A H σ v o
  | [], [], ss, [], e, _ => by cases e; exact ⟨rfl, rfl, rfl, fun n s h => by simp at h⟩
  | [], [], ss, _ :: _, e, h => h.elim
  | _ :: _, [], _, _, e, _ => by simp [argsOf] at e
  | [], _ :: _, _, _, e, _ => by simp [argsOf] at e
  | _ :: _, _ :: _, _, [], _, h => h.elim
  | k :: ks, o :: os, ss, v :: vs, e, ⟨h1, h2⟩ => by
    unfold argsOf at e
    split at e
    · cases e
    · rename_i s0 e1
      split at e
      · cases e
      · rename_i ss0 e2
        cases e
        obtain ⟨l1, l2, l3, g⟩ := args_at e2 h2
        refine ⟨by simp [l1], by simp [l2], by simp [l3], fun n s hn => ?_⟩
        cases n with
        | zero => simp at hn; subst hn; exact ⟨k, o, v, rfl, rfl, rfl, e1, h1⟩
        | succ n => obtain ⟨k', o', v', a1, a2, a3, a4, a5⟩ := g n s (by simpa using hn); exact ⟨k', o', v', by simpa using a1, by simpa using a2, by simpa using a3, a4, a5⟩
theorem arg_live {ρ : Env} {k o s} (h : argOf ρ k o = some s) (l : live s = true) : k = .M ∧ ∃ i t, o = .sl i ∧ ρ[i]? = some t ∧ mutS t = true := by
  unfold argOf at h
  split at h
  · cases h; cases l
  · split at h <;> first | (cases h; done) | (cases h; cases l; done)
  · cases h; cases l
  · cases h
  · cases h
  · split at h
    · cases h; exact ⟨rfl, _, _, rfl, by assumption, rfl⟩
    · cases h; exact ⟨rfl, _, _, rfl, by assumption, rfl⟩
    · cases h
theorem arg_liveB {ρ : Env} {k o s} (h : argOf ρ k o = some s) (l : liveB s = true) : ∃ i t, o = .sl i ∧ ρ[i]? = some t ∧ liveB t = true := by
  unfold argOf at h
  split at h
  · cases h; cases l
  · split at h
    · cases h; cases l
    all_goals first | (cases h; done) | (cases h; cases l; done) | (cases h; exact ⟨_, _, rfl, by assumption, rfl⟩)
  · cases h; cases l
  · cases h
  · cases h
  · split at h
    · cases h; exact ⟨_, _, rfl, by assumption, rfl⟩
    · cases h; exact ⟨_, _, rfl, by assumption, rfl⟩
    · cases h
theorem arg_ok {A H σ v} {ρ : Env} {k o s} (f : Fit A H σ ρ) (h : argOf ρ k o = some s) (ok : OpdOk A H σ v o) : SlotOk A H (some v) s := by
  unfold argOf at h
  split at h
  · cases h; exact ⟨v, rfl, ok⟩
  · rename_i i
    split at h
    · rename_i d e; cases h; exact f.slot i _ _ e ok
    · rename_i ds e; cases h; obtain ⟨a, vs, q1, q2, q3, q4, _⟩ := f.slot i _ _ e ok; exact ⟨a, vs, q1, q2, q3, q4⟩
    · rename_i ds e; cases h; obtain ⟨a, vs, q1, q2, q3, q4, _⟩ := f.slot i _ _ e ok; exact ⟨a, vs, q1, q2, q3, q4⟩
    · rename_i ds e; cases h; exact f.slot i _ _ e ok
    · rename_i ds e; cases h; obtain ⟨a, vs, q1, q2, q3, q4, _⟩ := f.slot i _ _ e ok; exact ⟨a, vs, q1, q2, q3, q4⟩
    · rename_i ds e; cases h; exact f.slot i _ _ e ok
    · cases h
  · cases h; exact ⟨v, rfl, ok⟩
  · cases h
  · cases h
  · rename_i i
    split at h
    · rename_i ds e; cases h; exact f.slot i (.own ds) _ e ok
    · rename_i ds e; cases h; exact f.slot i _ _ e ok
    · cases h
theorem pair_ne {ks : List PK} {os : List Opd} (h : apartB ks os = true) {n m i j : Nat} {k k' : PK} (nm : n ≠ m) (a1 : ks[n]? = some k) (a2 : os[n]? = some (Opd.sl i)) (b1 : ks[m]? = some k') (b2 : os[m]? = some (Opd.sl j)) (hk : k = PK.M) : i ≠ j := by
  unfold apartB at h
  rw [decide_eq_true_eq, List.pairwise_iff_getElem] at h
  have z1 : (ks.zip os)[n]? = some (k, .sl i) := by rw [List.getElem?_zip_eq_some]; exact ⟨a1, a2⟩
  have z2 : (ks.zip os)[m]? = some (k', .sl j) := by rw [List.getElem?_zip_eq_some]; exact ⟨b1, b2⟩
  obtain ⟨l1, y1⟩ := List.getElem?_eq_some_iff.mp z1
  obtain ⟨l2, y2⟩ := List.getElem?_eq_some_iff.mp z2
  rcases Nat.lt_or_gt_of_ne nm with lt | lt
  · have := h n m l1 l2 lt
    rw [y1, y2] at this
    simp [okPair, hk] at this
    exact this
  · have := h m n l2 l1 lt
    rw [y1, y2] at this
    simp [okPair, hk] at this
    exact fun z => this z.symm
theorem args_fit {A H σ vs} {ρ : Env} {ks os ss} (f : Fit A H σ ρ) (e : argsOf ρ ks os = some ss) (ok : OpdsOk A H σ vs os) (ap : apartB ks os = true) : Fit A H (vs.map some) ss := by
  obtain ⟨l1, l2, l3, g⟩ := args_at e ok
  have gv : ∀ (n : Nat) s, ss[n]? = some s → ∃ k o v, ks[n]? = some k ∧ os[n]? = some o ∧ (vs.map some)[n]? = some (some v) ∧ argOf ρ k o = some s ∧ OpdOk A H σ v o := fun n s hn => by
    obtain ⟨k, o, v, a1, a2, a3, a4, a5⟩ := g n s hn
    exact ⟨k, o, v, a1, a2, by rw [List.getElem?_map, a3]; rfl, a4, a5⟩
  refine ⟨by rw [List.length_map, l1, l2], fun n s ov h1 h2 => ?_, fun n m s t a nm h1 h2 h3 h4 h5 h6 => ?_, f.trk⟩
  · obtain ⟨k, o, v, a1, a2, a3, a4, a5⟩ := gv n s h1
    rw [a3] at h2; cases h2
    exact arg_ok f a4 a5
  · obtain ⟨k, o, v, a1, a2, a3, a4, a5⟩ := gv n s h1
    obtain ⟨k', o', v', b1, b2, b3, b4, b5⟩ := gv m t h2
    rw [a3] at h5; cases h5
    rw [b3] at h6; cases h6
    obtain ⟨hk, i, si, rfl, c1, c2⟩ := arg_live a4 h3
    obtain ⟨j, sj, rfl, d1, d2⟩ := arg_liveB b4 h4
    have ij := pair_ne ap nm a1 a2 b1 b2 hk
    exact f.apart i j si sj a ij c1 d1 (by cases si <;> first | rfl | (cases c2; done)) d2 a5 b5
theorem muts_at : ∀ {ks : List PK} {os : List Opd} {n i : Nat}, (muts ks os)[n]? = some i → ∃ m : Nat, ks[m]? = some PK.M ∧ os[m]? = some (Opd.sl i)
  | [], _, n, i, h => by simp [muts] at h
  | k :: ks, [], n, i, h => by cases k <;> simp [muts] at h
  | k :: ks, o :: os, n, i, h => by
    have go : (muts ks os)[n]? = some i ∨ (∃ n', n = n' + 1 ∧ (muts ks os)[n']? = some i) ∨ (n = 0 ∧ k = .M ∧ o = .sl i) := by
      cases k <;> cases o <;> first
        | exact .inl h
        | (cases n with
           | zero => simp [muts] at h; subst h; exact .inr (.inr ⟨rfl, rfl, rfl⟩)
           | succ n => exact .inr (.inl ⟨n, rfl, by simpa [muts] using h⟩))
    rcases go with h | ⟨n', _, h⟩ | ⟨_, rfl, rfl⟩
    · obtain ⟨m, a, b⟩ := muts_at h; exact ⟨m + 1, by simpa using a, by simpa using b⟩
    · obtain ⟨m, a, b⟩ := muts_at h; exact ⟨m + 1, by simpa using a, by simpa using b⟩
    · exact ⟨0, rfl, rfl⟩
theorem muts_nodup : ∀ {ks os}, apartB ks os = true → (muts ks os).Nodup
  | [], _, _ => by simp [muts]
  | k :: ks, [], _ => by cases k <;> simp [muts]
  | k :: ks, o :: os, h => by
    have h' : apartB ks os = true := by
      unfold apartB at *
      rw [decide_eq_true_eq] at *
      rw [List.zip_cons_cons] at h
      exact (List.pairwise_cons.mp h).2
    have ih := muts_nodup h'
    cases k <;> cases o <;> first
      | exact ih
      | (rename_i i
         show (i :: muts ks os).Nodup
         refine List.nodup_cons.mpr ⟨fun hm => ?_, ih⟩
         obtain ⟨n, hn⟩ := List.getElem?_of_mem hm
         obtain ⟨m, a, b⟩ := muts_at hn
         exact pair_ne (n := 0) (m := m + 1) h (by omega) rfl rfl (by simpa using a) (by simpa using b) rfl rfl)
theorem outs_at : ∀ {is outs} {ρ ρ' : Env}, outsIn is outs ρ = some ρ' → is.Nodup → ρ'.length = ρ.length ∧ (∀ j, j ∉ is → ρ'[j]? = ρ[j]?) ∧
    ∀ (n i : Nat), is[n]? = some i → ∃ s ds, ρ[i]? = some s ∧ mutL s = true ∧ outs[n]? = some ds ∧ ρ'[i]? = some (withL s ds)
  | [], [], ρ, ρ', e, _ => by cases e; exact ⟨rfl, fun _ _ => rfl, fun n i h => by simp at h⟩
  | [], _ :: _, _, _, e, _ => by simp [outsIn] at e
  | _ :: _, [], _, _, e, _ => by simp [outsIn] at e
  | i :: is, ds :: outs, ρ, ρ', e, nd => by
    obtain ⟨n1, n2⟩ := List.nodup_cons.mp nd
    have go : ∀ s, ρ[i]? = some s → mutL s = true → outsIn is outs (ρ.set i (withL s ds)) = some ρ' → ρ'.length = ρ.length ∧ (∀ j, j ∉ i :: is → ρ'[j]? = ρ[j]?) ∧
        ∀ (n j : Nat), (i :: is)[n]? = some j → ∃ s es, ρ[j]? = some s ∧ mutL s = true ∧ (ds :: outs)[n]? = some es ∧ ρ'[j]? = some (withL s es) := fun s hs hm e => by
      obtain ⟨a1, a2, a3⟩ := outs_at e n2
      refine ⟨by rw [a1, List.length_set], fun j hj => ?_, fun n j hn => ?_⟩
      · rw [a2 j (fun z => hj (List.mem_cons_of_mem _ z)), List.getElem?_set_ne (fun z => hj (by rw [z]; exact List.mem_cons_self))]
      · cases n with
        | zero => simp at hn; subst hn; exact ⟨s, ds, hs, hm, rfl, by rw [a2 i n1]; exact set_get hs⟩
        | succ n =>
          have hn' : is[n]? = some j := by simpa using hn
          have ji : i ≠ j := fun z => n1 (by rw [z]; exact List.mem_of_getElem? hn')
          obtain ⟨t, es, b1, b2, b3, b4⟩ := a3 n j hn'
          rw [List.getElem?_set_ne ji] at b1
          exact ⟨t, es, b1, b2, by simpa using b3, b4⟩
    unfold outsIn at e
    split at e
    · rename_i xs hs; exact go _ hs rfl e
    · rename_i xs hs; exact go _ hs rfl e
    · cases e
theorem args_tail {ρ : Env} {k ks o os ss} (h : argsOf ρ (k :: ks) (o :: os) = some ss) : ∃ s ss', argOf ρ k o = some s ∧ argsOf ρ ks os = some ss' := by
  unfold argsOf at h
  split at h
  · cases h
  · rename_i s e1
    split at h
    · cases h
    · rename_i ss' e2
      exact ⟨s, ss', e1, e2⟩
theorem outsOk_at {A H A0 H0 σ} {ρ : Env} : ∀ {ks os vs outs ss}, argsOf ρ ks os = some ss → OutsOk A H ks vs outs → OpdsOk A0 H0 σ vs os → ∀ (n i : Nat), (muts ks os)[n]? = some i →
    ∃ a ws ds, σ[i]? = some (some (.ref a)) ∧ outs[n]? = some ds ∧ H a = some (.lst ws) ∧ ws.length ≤ sizeLine ∧ RepAll A H ws ds ∧ ¬ A a
  | [], os, vs, outs, _, _, _, _, n, i, h => by simp [muts] at h
  | k :: ks, [], vs, outs, _, _, _, _, n, i, h => by cases k <;> simp [muts] at h
  | k :: ks, o :: os, [], outs, _, _, _, h, _, _, _ => h.elim
  | .B :: ks, o :: os, v :: vs, outs, _, e, q, ⟨_, h2⟩, n, i, h => by
    obtain ⟨_, _, _, e2⟩ := args_tail e
    exact outsOk_at (ks := ks) e2 q h2 n i (by cases o <;> exact h)
  | .I :: ks, o :: os, v :: vs, outs, _, e, q, ⟨_, h2⟩, n, i, h => by
    obtain ⟨_, _, _, e2⟩ := args_tail e
    exact outsOk_at (ks := ks) e2 q h2 n i (by cases o <;> exact h)
  | .M :: ks, o :: os, v :: vs, [], _, _, q, _, n, i, h => q.elim
  | .M :: ks, .v d :: os, v :: vs, ds :: outs, _, e, _, _, n, i, h => by
    obtain ⟨_, _, e1, _⟩ := args_tail e
    cases e1
  | .M :: ks, .sl j :: os, v :: vs, ds :: outs, _, e, ⟨q1, q2⟩, ⟨h1, h2⟩, n, i, h => by
    obtain ⟨_, _, _, e2⟩ := args_tail e
    cases n with
    | zero =>
      simp [muts] at h; subst h
      obtain ⟨a, ws, rfl, z1, z2, z3, z4⟩ := q1
      exact ⟨a, ws, ds, h1, rfl, z1, z2, z3, z4⟩
    | succ n =>
      obtain ⟨a, ws, es, z0, z1, z2⟩ := outsOk_at e2 q2 h2 n i (by simpa [muts] using h)
      exact ⟨a, ws, es, z0, by simpa using z1, z2⟩
theorem muts_of : ∀ {ks : List PK} {os : List Opd} {m i : Nat}, ks[m]? = some PK.M → os[m]? = some (Opd.sl i) → i ∈ muts ks os
  | [], _, m, i, h, _ => by simp at h
  | k :: ks, [], m, i, _, h => by simp at h
  | k :: ks, o :: os, 0, i, h1, h2 => by
    simp at h1 h2; subst h1 h2
    exact List.mem_cons_self
  | k :: ks, o :: os, m + 1, i, h1, h2 => by
    have := muts_of (ks := ks) (os := os) (m := m) (by simpa using h1) (by simpa using h2)
    cases k <;> cases o <;> first | exact this | exact List.mem_cons_of_mem _ this
/-- behind a call -/
theorem call_stp {A H σ vs A' H' ρ2} {ρ : Env} {ks os ss outs} (f : Fit A H σ ρ) (e : argsOf ρ ks os = some ss) (ok : OpdsOk A H σ vs os) (ap : apartB ks os = true) (eo : outsIn (muts ks os) outs ρ = some ρ2)
    (e1 : ∀ a, A a → A' a) (e2 : ∀ a o, H a = some o → ¬ Mut (vs.map some) ss a → H' a = some o) (e3 : ∀ a, H' a = none → H a = none) (e4 : ∀ a, A' a → A a ∨ H a = none) (e5 : ∀ a, A' a → ∃ o, H' a = some o) (e6 : OutsOk A' H' ks vs outs) :
    Stp A H σ ρ A' H' σ ρ2 ∧ ∀ (i : Nat) (t : Slot), ρ2[i]? = some t → ∃ s, ρ[i]? = some s ∧ liveB t = liveB s := by
  obtain ⟨l1, l2, l3, g⟩ := args_at e ok
  have ok0 := ok
  have nd := muts_nodup ap
  obtain ⟨o1, o2, o3⟩ := outs_at eo nd
  have ko := outsOk_at e e6 ok
  -- what is Mut among the arguments
  have mutA : ∀ a, Mut (vs.map some) ss a → ∃ i, i ∈ muts ks os ∧ σ[i]? = some (some (.ref a)) := fun a ⟨n, s, h1, h2, h3⟩ => by
    obtain ⟨k, o, v, a1, a2, a3, a4, a5⟩ := g n s h1
    obtain ⟨rfl, i, t, rfl, b1, b2⟩ := arg_live a4 (by cases s <;> first | rfl | (cases h2; done))
    rw [List.getElem?_map, a3] at h3
    cases h3
    exact ⟨i, muts_of a1 a2, a5⟩
  have mutM : ∀ a i, i ∈ muts ks os → σ[i]? = some (some (.ref a)) → Mut σ ρ a := fun a i hi hs => by
    obtain ⟨n, hn⟩ := List.getElem?_of_mem hi
    obtain ⟨s, ds, b1, b2, _⟩ := o3 n i hn
    exact ⟨i, s, b1, mutL_S b2, hs⟩
  -- each slot behind
  have back : ∀ (i : Nat) (t : Slot), ρ2[i]? = some t → (i ∉ muts ks os ∧ ρ[i]? = some t) ∨ ∃ n s ds, (muts ks os)[n]? = some i ∧ ρ[i]? = some s ∧ mutL s = true ∧ outs[n]? = some ds ∧ t = withL s ds := fun i t h => by
    by_cases hi : i ∈ muts ks os
    · obtain ⟨n, hn⟩ := List.getElem?_of_mem hi
      obtain ⟨s, ds, b1, b2, b3, b4⟩ := o3 n i hn
      rw [b4] at h; cases h
      exact .inr ⟨n, s, ds, hn, b1, b2, b3, rfl⟩
    · rw [o2 i hi] at h; exact .inl ⟨hi, h⟩
  have kinds : ∀ (i : Nat) (t : Slot), ρ2[i]? = some t → ∃ s, ρ[i]? = some s ∧ liveB t = liveB s ∧ live t = live s ∧ mutS t = mutS s := fun i t h => by
    rcases back i t h with ⟨_, h⟩ | ⟨n, s, ds, _, h9, hm, _, rfl⟩
    · exact ⟨t, h, rfl, rfl, rfl⟩
    · exact ⟨s, h9, by cases s <;> rfl, by cases s <;> rfl, by cases s <;> rfl⟩
  have frame : ∀ a o, H a = some o → ¬ Mut σ ρ a → H' a = some o := fun a o h n => e2 a o h fun m => by
    obtain ⟨i, hi, hs⟩ := mutA a m
    exact n (mutM a i hi hs)
  have keep : Keep A H H' := fun a o ha h => frame a o h (f.nomut ha)
  have sub : ∀ a, Mut σ ρ2 a → Mut σ ρ a := fun a ⟨i, t, h1, h2, h3⟩ => by
    obtain ⟨s, q1, _, _, q2⟩ := kinds i t h1
    exact ⟨i, s, q1, by rw [← q2]; exact h2, h3⟩
  refine ⟨⟨e1, frame, e3, fun a m => .inl (sub a m), fun i ds h => ⟨rfl, ?_⟩, fun a h => (e4 a h).elim .inl fun z => .inr (.inl z), fun i ds h o => ?_, ⟨by rw [o1]; exact f.len, fun i t ov h1 h2 => ?_, fun i j s t a ij h1 h2 h3 h4 h5 h6 => ?_, e5⟩⟩, fun i t h => let ⟨s, q1, q2, _⟩ := kinds i t h; ⟨s, q1, q2⟩⟩
  · by_cases hi : i ∈ muts ks os
    · obtain ⟨n, hn⟩ := List.getElem?_of_mem hi
      obtain ⟨s, es, b1, b2, b3, b4⟩ := o3 n i hn
      rw [h] at b1; cases b1
      exact ⟨es, b4⟩
    · exact ⟨ds, by rw [o2 i hi]; exact h⟩
  · rcases back i _ h with ⟨_, h⟩ | ⟨n, s, es, _, h, hm, _, z⟩
    · exact ⟨h, rfl⟩
    · subst z; cases s <;> first | (cases hm; done) | (cases o; done)
  · rcases back i t h1 with ⟨hi, h⟩ | ⟨n, s, ds, hn, h, hm, hd, rfl⟩
    · have ok := f.slot i t ov h h2
      refine ok.go e1 keep (fun a o lb z w => ?_) (fun a lt z hb => ?_) fun a o u w => e2 a _ w fun m => (by
        exact (args_fit f e ok0 ap).mut_nofrz m _ _ w)
      · subst z
        refine e2 a o w fun m => ?_
        obtain ⟨j, hj, hs⟩ := mutA a m
        obtain ⟨n, hn⟩ := List.getElem?_of_mem hj
        obtain ⟨s, es, b1, b2, _⟩ := o3 n j hn
        exact f.apart j i s t a (fun z => hi (z ▸ hj)) b1 h (by cases s <;> first | rfl | (cases b2; done)) lb hs h2
      · subst z
        rcases e4 a hb with z | z
        · exact ok.nofz lt z
        · exact f.noref z i t h (liveB_of lt) h2
    · obtain ⟨a, ws, es, z0, z1, z2, z3, z4, z5⟩ := ko n i hn
      rw [hd] at z1; cases z1
      rw [h2] at z0; cases z0
      cases s <;> first | (cases hm; done) | exact ⟨a, ws, rfl, z2, z3, z4, z5⟩
  · obtain ⟨s', q1, q2, q3, _⟩ := kinds i s h1
    obtain ⟨t', r1, r2, _⟩ := kinds j t h2
    exact f.apart i j s' t' a ij q1 r1 (by rw [← q3]; exact h3) (by rw [← r2]; exact h4) h5 h6

def fCall (g : Option (List PK × Fn)) (fs : List PK → Env → Option (List Opd × Env)) (ρ : Env) : Option (Res × Env) := match g with
    | none => none
    | some (ks, fn) => match fs ks ρ with
      | none => none
      | some (os, ρ1) => if apartB ks os = false then none else
        match argsOf ρ1 ks os with
        | none => none
        | some ss => match fn ss with
          | none => none
          | some (r, outs) => match outsIn (muts ks os) outs ρ1 with
            | none => none
            | some ρ2 => some (r, ρ2)
theorem call_fin {A H σ vs} {ρ : Env} {ks fn os ss r outs ρ2} (f : Fit A H σ ρ) (ok : OpdsOk A H σ vs os) (ap : apartB ks os = true) (e : argsOf ρ ks os = some ss) (ef : fn ss = some (r, outs)) (eo : outsIn (muts ks os) outs ρ = some ρ2)
    (Q : VK) (E : XK) (k : ∀ A' H' v, Stp A H σ ρ A' H' σ ρ2 → ResOk A' H H' σ ρ2 v r → Q v H') : spOf ks fn vs H Q E := by
  obtain ⟨l1, _⟩ := args_at e ok
  refine ⟨l1, A, ss, r, outs, args_fit f e ok ap, ef, fun A' H' v e1 e2 e3 e4 e5 e6 e7 => ?_⟩
  obtain ⟨s, kd⟩ := call_stp f e ok ap eo e1 e2 e3 e4 e5 e7
  refine k A' H' v s ?_
  cases r with
  | fr d => exact e6
  | nw ds =>
    obtain ⟨a, ws, q1, q2, q3, q4, q5, q6⟩ := e6
    refine ⟨a, ws, q1, q2, q3, q4, q5, q6, fun i t h1 h2 => ?_⟩
    obtain ⟨t', z1, z2⟩ := kd i t h1
    exact f.noref q6 i t' z1 (by rw [← z2]; exact h2)
theorem fcall_inv {g fs ρ r ρ'} (e : fCall g fs ρ = some (r, ρ')) : ∃ ks fn os ρ1 ss outs, g = some (ks, fn) ∧ fs ks ρ = some (os, ρ1) ∧ apartB ks os = true ∧ argsOf ρ1 ks os = some ss ∧ fn ss = some (r, outs) ∧ outsIn (muts ks os) outs ρ1 = some ρ' := by
  unfold fCall at e
  split at e
  · cases e
  · rename_i ks fn
    split at e
    · cases e
    · rename_i os ρ1 e2
      split at e
      · cases e
      · rename_i e3
        split at e
        · cases e
        · rename_i ss e4
          split at e
          · cases e
          · rename_i r' outs e5
            split at e
            · cases e
            · rename_i ρ2 e6
              cases e
              exact ⟨ks, fn, os, ρ1, ss, outs, rfl, e2, by simpa using e3, e4, e5, e6⟩
theorem snd_call (C : CtxOk X N q F) {f : String} {e es p pos} {fs : List PK → Env → Option (List Opd × Env)} (hg : glB q.sc (Str.ofString f) = true) (hd : (Str.ofString f == ("__debug__" : Str)) = false) (st : (e :: es).all notStar = true) (hs : ∀ ks, SndP X (e :: es) (fs ks)) :
    SndE X (.Call (.Name (Str.ofString f) p) (e :: es) [] pos) (fCall (F f) fs) := by
  rw [List.all_cons, Bool.and_eq_true] at st
  cases hf : F f with
  | none =>
    obtain ⟨t, p, _⟩ := hs []
    refine ⟨fun _ _ _ => False, ⟨fun _ _ _ _ _ _ h => h.elim⟩, fun A H σ ρ r ρ' ft e Q k => ?_⟩
    cases e
  | some g =>
    obtain ⟨ks, fn⟩ := g
    obtain ⟨ts, ps, qs⟩ := hs ks
    obtain ⟨fa, fd, prs, lv, m1, m2, m3, m4, m5⟩ := C.fns f ks fn hf
    refine ⟨_, pe_call m5 m4 (gl_of C hg) m1 m2 m3 .nil pass0 ps hd (star_cons st.1) (star_any st.2), fun A H σ ρ r ρ' ft e Q k => ?_⟩
    obtain ⟨ks', fn', os, ρ1, ss, outs, z1, z2, z3, z4, z5, z6⟩ := fcall_inv e
    cases z1
    refine qs A H σ ρ os ρ1 ft z2 _ fun A1 H1 vs s1 k1 => ?_
    rw [List.append_nil]
    exact call_fin s1.fit k1 z3 z4 z5 z6 Q E0 fun A2 H2 v s2 k2 => k A2 H2 v (s1.trans s2) (k2.start s1.dom)
theorem snd_call0 (C : CtxOk X N q F) {f : String} {p pos} {fs : List PK → Env → Option (List Opd × Env)} (hg : glB q.sc (Str.ofString f) = true) (hd : (Str.ofString f == ("__debug__" : Str)) = false) (hs : ∀ ks ρ os ρ', fs ks ρ = some (os, ρ') → os = [] ∧ ρ' = ρ) :
    SndE X (.Call (.Name (Str.ofString f) p) [] [] pos) (fCall (F f) fs) := by
  cases hf : F f with
  | none =>
    refine ⟨fun _ _ _ => False, ⟨fun _ _ _ _ _ _ h => h.elim⟩, fun A H σ ρ r ρ' ft e Q k => ?_⟩
    cases e
  | some g =>
    obtain ⟨ks, fn⟩ := g
    obtain ⟨fa, fd, prs, lv, m1, m2, m3, m4, m5⟩ := C.fns f ks fn hf
    refine ⟨_, pe_call0 m5 m4 (gl_of C hg) m1 m2 m3 .nil pass0 hd, fun A H σ ρ r ρ' ft e Q k => ?_⟩
    obtain ⟨ks', fn', os, ρ1, ss, outs, z1, z2, z3, z4, z5, z6⟩ := fcall_inv e
    cases z1
    obtain ⟨rfl, rfl⟩ := hs _ _ _ _ z2
    show spOf ks fn ([] ++ []) H Q E0
    exact call_fin (vs := []) (os := []) ft trivial z3 z4 z5 z6 Q E0 fun A2 H2 v s2 k2 => k A2 H2 v s2 k2
end
end Ev

set_option maxRecDepth 100000
/-! EvK: a call of flat answer, whose arguments are looked at without being frozen. -/
namespace Ev
open PySem L2
variable [TheK]
/-- whatever stands in the heap -/
def Any (H : Hp) (a : Addr) : Prop := ∃ o, H a = some o
theorem Any.grow {H H' : Hp} (k : ∀ a o, H a = some o → H' a = some o) : ∀ a, Any H a → Any H' a := fun a ⟨o, e⟩ => ⟨o, k a o e⟩
theorem Rep.any {H H' : Hp} {v d} (k : ∀ a o, H a = some o → H' a = some o) (h : Rep (Any H) H v d) : Rep (Any H') H' v d := Rep.mono (Any.grow k) (fun a o _ e => k a o e) h
theorem RepAll.any {H H' : Hp} {v d} (k : ∀ a o, H a = some o → H' a = some o) (h : RepAll (Any H) H v d) : RepAll (Any H') H' v d := RepAll.mono (Any.grow k) (fun a o _ e => k a o e) h
theorem RepW.anyRep {A : Addr → Prop} {H : Hp} {v d} (t : ∀ a, A a → Any H a) (h : RepW A H v d) : Rep (Any H) H v d := by
  rcases h with h | ⟨a, vs, ds, rfl, rfl, h1, h2, h3⟩
  · exact Rep.mono t (fun _ _ _ e => e) h
  · exact .lst ⟨_, h1⟩ h1 h2 (RepAll.mono t (fun _ _ _ e => e) h3)
section
variable {X : Cx} {N : List Str} {q : Sc} {F : FT}
def SndK (X : Cx) (e : Expr) (f : Env → Option D) : Prop := ∃ t : TE, PE X e t ∧
  ∀ A H σ ρ d, Fit A H σ ρ → f ρ = some d → ∀ Q : VK, (∀ H' v, (∀ a o, H a = some o → H' a = some o) → (∀ a, H' a = none → H a = none) → Rep (Any H') H' v d → Q v H') → t σ H Q
def SndKs (X : Cx) (es : List Expr) (f : Env → Option (List D)) : Prop := ∃ t : TA, PA X es t ∧
  ∀ A H σ ρ ds, Fit A H σ ρ → f ρ = some ds → ∀ Q : List V → Hp → Prop, (∀ H' vs, (∀ a o, H a = some o → H' a = some o) → (∀ a, H' a = none → H a = none) → RepAll (Any H') H' vs ds → Q vs H') → t σ H Q
theorem sndK_var (C : CtxOk X N q F) {i x pos} (h : nameB N q i x = true) : SndK X (.Name x pos) (fun ρ => pk ρ (.var i)) := by
  refine ⟨_, pe_name C h, fun A H σ ρ d ft e Q k => ?_⟩
  simp only [pk] at e
  have hov : ∃ v, σ[i]? = some (some v) := by
    simp only [rd] at e
    split at e
    · rename_i s hs
      obtain ⟨ov, e1, q⟩ := ft.at hs
      cases s <;> simp only [Slot.d?, reduceCtorEq] at e
      · obtain ⟨w, rfl, _⟩ := q; exact ⟨_, e1⟩
      all_goals (obtain ⟨a, vs, rfl, _⟩ := q; exact ⟨_, e1⟩)
    · cases e
  obtain ⟨v, hv⟩ := hov
  exact ⟨v, hv, k H v (fun _ _ h => h) (fun _ h => h) ((rd_ok ft hv e).anyRep ft.trk)⟩
theorem sndK_int {n k1 pos} : SndK X (.Constant (.int n) k1 pos) (fun ρ => pk ρ (.int n)) := by
  refine ⟨_, pe_int, fun A H σ ρ d ft e Q k => ?_⟩
  simp only [pk, Option.some.injEq] at e
  subst e
  exact k H _ (fun _ _ h => h) (fun _ h => h) .int
theorem sndK_tup {es : List Expr} {k2 pos} {ie : Es} (hs : SndKs X es (fun ρ => pks ρ ie)) : SndK X (.Tuple es k2 pos) (fun ρ => pk ρ (.tup ie)) := by
  obtain ⟨ts, ps, qs⟩ := hs
  refine ⟨_, pe_tup ps, fun A H σ ρ d ft e Q k => ?_⟩
  simp only [pk] at e
  split at e
  · rename_i ds e1
    split at e
    · rename_i hz
      cases e
      refine qs A H σ ρ ds ft e1 _ fun H1 vs k1 k1' k2 => ?_
      rw [← k2.length] at hz
      refine ⟨hz, fun p hp => ?_⟩
      have g := upd_grow (o := .tup vs) hp
      refine k _ _ (fun a o h => g a o (k1 a o h)) (fun a h => k1' a ?_) (.tup ⟨_, upd_same⟩ upd_same hz (k2.any g))
      cases e2 : H1 a with
      | none => rfl
      | some o => rw [g a o e2] at h; cases h
    · cases e
  · cases e
theorem sndKs_nil : SndKs X [] (fun ρ => pks ρ .nil) := ⟨_, pa_nil, fun A H σ ρ ds ft e Q k => by
  simp only [pks, Option.some.injEq] at e
  subst e
  exact k H [] (fun _ _ h => h) (fun _ h => h) .nil⟩
theorem sndKs_cons {e : Expr} {es : List Expr} {ie : E} {ies : Es} (hn : notStar e = true) (he : SndK X e (fun ρ => pk ρ ie)) (hs : SndKs X es (fun ρ => pks ρ ies)) : SndKs X (e :: es) (fun ρ => pks ρ (.cons ie ies)) := by
  obtain ⟨t, p, q⟩ := he
  obtain ⟨ts, ps, qs⟩ := hs
  refine ⟨_, pa_cons p ps (star_cons hn), fun A H σ ρ ds ft e Q k => ?_⟩
  simp only [pks] at e
  split at e
  · rename_i d e1
    split at e
    · rename_i ds' e2
      cases e
      refine q A H σ ρ d ft e1 _ fun H1 v k1 k1' k2 => ?_
      refine qs A H1 σ ρ ds' (ft.grow k1) e2 _ fun H2 vs k3 k3' k4 => ?_
      exact k H2 _ (fun a o h => k3 a o (k1 a o h)) (fun a h => k1' a (k3' a h)) (.cons (k2.any k3) k4)
    · cases e
  · cases e
theorem rep_flat {A A' : Addr → Prop} {H H' : Hp} {v d} (h : Rep A H v d) (f : isFlat d = true) : Rep A' H' v d := by
  cases h <;> first | (cases f; done) | constructor
theorem fit_any {H : Hp} : ∀ {vs : List V} {ds : List D}, RepAll (Any H) H vs ds → Fit (Any H) H (vs.map some) (ds.map .fz) := by
  intro vs ds h
  refine ⟨by rw [List.length_map, List.length_map, h.length], fun i s ov h1 h2 => ?_, fun i j s t a hij h1 h2 h3 => ?_, fun a h => h⟩
  · rw [List.getElem?_map] at h1 h2
    cases e1 : ds[i]? with
    | none => rw [e1] at h1; cases h1
    | some d =>
      rw [e1] at h1
      cases h1
      obtain ⟨v, e2, r⟩ := h.get i e1
      rw [e2] at h2
      cases h2
      exact ⟨v, rfl, r⟩
  · rw [List.getElem?_map] at h1
    cases e1 : ds[i]? with
    | none => rw [e1] at h1; cases h1
    | some d => rw [e1] at h1; cases h1; cases h3
def fPcall (g : Option (List PK × Fn)) (fs : Env → Option (List D)) (ρ : Env) : Option (Res × Env) := match g with
    | none => none
    | some (ks, fn) => match fs ρ with
      | none => none
      | some ds => if (ks.all notM && decide (ds.length = ks.length)) = true then flatO ρ (fn (ds.map .fz)) else none
theorem nomut_fz {σ : St} {ds : List D} {a : Addr} : ¬ Mut σ (ds.map .fz) a := by
  rintro ⟨i, s, h1, h2, _⟩
  rw [List.getElem?_map] at h1
  cases e1 : ds[i]? with
  | none => rw [e1] at h1; cases h1
  | some d => rw [e1] at h1; cases h1; cases h2
theorem snd_pcall (C : CtxOk X N q F) {f : String} {e es p pos} {fs : Env → Option (List D)} (hg : glB q.sc (Str.ofString f) = true) (hd : (Str.ofString f == ("__debug__" : Str)) = false) (st : (e :: es).all notStar = true) (hs : SndKs X (e :: es) fs) :
    SndE X (.Call (.Name (Str.ofString f) p) (e :: es) [] pos) (fPcall (F f) fs) := by
  rw [List.all_cons, Bool.and_eq_true] at st
  cases hf : F f with
  | none => exact ⟨fun _ _ _ => False, ⟨fun _ _ _ _ _ _ h => h.elim⟩, fun A H σ ρ r ρ' ft e Q k => by cases e⟩
  | some g =>
    obtain ⟨ks, fn⟩ := g
    obtain ⟨ts, ps, qs⟩ := hs
    obtain ⟨fa, fd, prs, lv, m1, m2, m3, m4, m5⟩ := C.fns f ks fn hf
    refine ⟨_, pe_call m5 m4 (gl_of C hg) m1 m2 m3 .nil pass0 ps hd (star_cons st.1) (star_any st.2), fun A H σ ρ r ρ' ft e Q k => ?_⟩
    simp only [fPcall] at e
    split at e
    · cases e
    · rename_i ds e1
      split at e
      · rename_i hz
        rw [Bool.and_eq_true, decide_eq_true_eq] at hz
        cases e2 : fn (ds.map .fz) with
        | none => rw [e2] at e; cases e
        | some ro =>
          obtain ⟨res, outs⟩ := ro
          rw [e2] at e
          cases res with
          | nw _ => cases e
          | fr d =>
            cases outs with
            | cons _ _ => cases e
            | nil =>
              simp only [flatO] at e
              split at e
              · rename_i hfl
                cases e
                refine qs A H σ ρ ds ft e1 _ fun H1 vs g1 g1' r1 => ?_
                rw [List.append_nil]
                show spOf ks fn vs H1 Q E0
                refine ⟨by rw [r1.length]; exact hz.2, Any H1, ds.map .fz, .fr d, [], fit_any r1, e2, fun A' H' v a1 a2 a3 a4 a5 a6 a7 => ?_⟩
                have gr : ∀ a o, H a = some o → H' a = some o := fun a o h => a2 a o (g1 a o h) nomut_fz
                exact k A H' v (Stp.grow ft gr) (rep_flat a6 hfl)
              · cases e
      · cases e
mutual
def chkPk (N : List Str) (q : Sc) : E → Expr → Bool
  | .var i, ex => (match ex with
    | .Name x _ => nameB N q i x
    | _ => false)
  | .int n, ex => (match ex with
    | .Constant (.int m) _ _ => decide (m = n)
    | _ => false)
  | .tup es, ex => (match ex with
    | .Tuple xs _ _ => xs.all notStar && chkPks N q es xs
    | _ => false)
  | _, _ => false
def chkPks (N : List Str) (q : Sc) : Es → List Expr → Bool
  | .nil, es => (match es with
    | [] => true
    | _ => false)
  | .cons e es, xs => (match xs with
    | x :: r => chkPk N q e x && chkPks N q es r
    | _ => false)
end
mutual
theorem snd_pk : ∀ (e : E) {X : Cx} {q : Sc} {ex : Expr}, CtxOk X N q F → chkPk N q e ex = true → SndK X ex (fun ρ => pk ρ e)
  | .var i, X, q, ex, C, h => by
    unfold chkPk at h
    split at h
    · exact sndK_var C h
    · cases h
  | .int n, X, q, ex, C, h => by
    unfold chkPk at h
    split at h
    · simp only [decide_eq_true_eq] at h
      subst h
      exact sndK_int
    · cases h
  | .tup es, X, q, ex, C, h => by
    unfold chkPk at h
    split at h
    · rw [Bool.and_eq_true] at h
      exact sndK_tup (snd_pks es C h.2 h.1)
    · cases h
  | .bl _, _, _, _, _, h => by unfold chkPk at h; cases h
  | .non, _, _, _, _, h => by unfold chkPk at h; cases h
  | .str _, _, _, _, _, h => by unfold chkPk at h; cases h
  | .bin .., _, _, _, _, h => by unfold chkPk at h; cases h
  | .neg .., _, _, _, _, h => by unfold chkPk at h; cases h
  | .no .., _, _, _, _, h => by unfold chkPk at h; cases h
  | .cmp .., _, _, _, _, h => by unfold chkPk at h; cases h
  | .cmp2 .., _, _, _, _, h => by unfold chkPk at h; cases h
  | .and .., _, _, _, _, h => by unfold chkPk at h; cases h
  | .or .., _, _, _, _, h => by unfold chkPk at h; cases h
  | .ite .., _, _, _, _, h => by unfold chkPk at h; cases h
  | .idx .., _, _, _, _, h => by unfold chkPk at h; cases h
  | .slc .., _, _, _, _, h => by unfold chkPk at h; cases h
  | .rvs .., _, _, _, _, h => by unfold chkPk at h; cases h
  | .dget .., _, _, _, _, h => by unfold chkPk at h; cases h
  | .din .., _, _, _, _, h => by unfold chkPk at h; cases h
  | .lst .., _, _, _, _, h => by unfold chkPk at h; cases h
  | .comp .., _, _, _, _, h => by unfold chkPk at h; cases h
  | .comp2 .., _, _, _, _, h => by unfold chkPk at h; cases h
  | .setc .., _, _, _, _, h => by unfold chkPk at h; cases h
  | .call .., _, _, _, _, h => by unfold chkPk at h; cases h
  | .pcall .., _, _, _, _, h => by unfold chkPk at h; cases h
  | .blt .., _, _, _, _, h => by unfold chkPk at h; cases h
  | .isi .., _, _, _, _, h => by unfold chkPk at h; cases h
  | .len .., _, _, _, _, h => by unfold chkPk at h; cases h
  | .rngs .., _, _, _, _, h => by unfold chkPk at h; cases h
  | .meth .., _, _, _, _, h => by unfold chkPk at h; cases h
  | .chg .., _, _, _, _, h => by unfold chkPk at h; cases h
theorem snd_pks : ∀ (es : Es) {X : Cx} {q : Sc} {xs : List Expr}, CtxOk X N q F → chkPks N q es xs = true → xs.all notStar = true → SndKs X xs (fun ρ => pks ρ es)
  | .nil, X, q, xs, C, h, _ => by
    unfold chkPks at h
    split at h
    · exact sndKs_nil
    · cases h
  | .cons e es, X, q, xs, C, h, st => by
    unfold chkPks at h
    split at h
    · rw [Bool.and_eq_true] at h
      rw [List.all_cons, Bool.and_eq_true] at st
      exact sndKs_cons st.1 (snd_pk e C h.1) (snd_pks es C h.2 st.2)
    · cases h
end
end
end Ev

set_option maxRecDepth 100000
/-! Ev9: what is walked; comprehensions. -/
namespace Ev
open PySem L2
variable [TheK]

/-! ### slots lent, slots wiped -/
theorem lendL_len : ∀ (ls : List Nat) (ρ : Env), (lendL ls ρ).length = ρ.length
  | [], ρ => rfl
  | i :: r, ρ => by
    unfold lendL
    split
    · rw [lendL_len, List.length_set]
    · exact lendL_len r ρ
/-- all of ls are lists of one's own -/
def Owns (ρ : Env) (ls : List Nat) : Prop := ∀ i ∈ ls, ∃ ds, ρ[i]? = some (.own ds)
theorem lendL_at : ∀ (ls : List Nat) (ρ : Env) (j : Nat), (lendL ls ρ)[j]? = (match ρ[j]? with | some (.own ds) => if j ∈ ls then some (.lent ds) else some (.own ds) | x => x)
  | [], ρ, j => by
    unfold lendL
    cases h : ρ[j]? with
    | none => rfl
    | some s => cases s <;> simp
  | i :: r, ρ, j => by
    unfold lendL
    split
    · rename_i ds hs
      rw [lendL_at r]
      by_cases e : i = j
      · subst e
        rw [set_get hs, hs]
        simp
      · rw [List.getElem?_set_ne e]
        cases h : ρ[j]? with
        | none => rfl
        | some s => cases s <;> simp [Ne.symm e]
    · rename_i hn
      rw [lendL_at r]
      cases h : ρ[j]? with
      | none => rfl
      | some s =>
        cases s <;> first
          | rfl
          | (have e : j ≠ i := fun e => by subst e; exact absurd h (hn _)
             simp [e])
theorem unlend_at : ∀ (ls : List Nat) (ρ : Env) (j : Nat), (unlend ls ρ)[j]? = (match ρ[j]? with | some (.lent ds) => if j ∈ ls then some (.own ds) else some (.lent ds) | x => x)
  | [], ρ, j => by
    unfold unlend
    cases h : ρ[j]? with
    | none => rfl
    | some s => cases s <;> simp
  | i :: r, ρ, j => by
    unfold unlend
    split
    · rename_i ds hs
      rw [unlend_at r]
      by_cases e : i = j
      · subst e
        rw [set_get hs, hs]
        simp
      · rw [List.getElem?_set_ne e]
        cases h : ρ[j]? with
        | none => rfl
        | some s => cases s <;> simp [Ne.symm e]
    · rename_i hn
      rw [unlend_at r]
      cases h : ρ[j]? with
      | none => rfl
      | some s =>
        cases s <;> first
          | rfl
          | (have e : j ≠ i := fun e => by subst e; exact absurd h (hn _)
             simp [e])
theorem unlend_len : ∀ (ls : List Nat) (ρ : Env), (unlend ls ρ).length = ρ.length
  | [], ρ => rfl
  | i :: r, ρ => by
    unfold unlend
    split
    · rw [unlend_len, List.length_set]
    · exact unlend_len r ρ
/-- a slot behind lending: the same but for own, lent -/
theorem lend_inv {ls : List Nat} {ρ : Env} {j : Nat} {s : Slot} (h : (lendL ls ρ)[j]? = some s) : (ρ[j]? = some s ∧ (∀ ds, s = .own ds → j ∉ ls)) ∨ ∃ ds, s = .lent ds ∧ ρ[j]? = some (.own ds) ∧ j ∈ ls := by
  rw [lendL_at] at h
  split at h
  · rename_i ds hs
    split at h
    · rename_i hj; cases h; exact .inr ⟨ds, rfl, hs, hj⟩
    · rename_i hj; cases h; exact .inl ⟨hs, fun _ _ => hj⟩
  · rename_i hn
    exact .inl ⟨h, fun ds e => by subst e; exact absurd h (hn ds)⟩
theorem unlend_inv {ls : List Nat} {ρ : Env} {j : Nat} {s : Slot} (h : (unlend ls ρ)[j]? = some s) : (ρ[j]? = some s ∧ (∀ ds, s = .lent ds → j ∉ ls)) ∨ ∃ ds, s = .own ds ∧ ρ[j]? = some (.lent ds) ∧ j ∈ ls := by
  rw [unlend_at] at h
  split at h
  · rename_i ds hs
    split at h
    · rename_i hj; cases h; exact .inr ⟨ds, rfl, hs, hj⟩
    · rename_i hj; cases h; exact .inl ⟨hs, fun _ _ => hj⟩
  · rename_i hn
    exact .inl ⟨h, fun ds e => by subst e; exact absurd h (hn ds)⟩
theorem Fit.lend {A H σ} {ρ : Env} (f : Fit A H σ ρ) (ls : List Nat) : Fit A H σ (lendL ls ρ) := by
  refine ⟨by rw [lendL_len]; exact f.len, fun i s ov h1 h2 => ?_, fun i j s t a ij h1 h2 h3 h4 h5 h6 => ?_, f.trk⟩
  · rcases lend_inv h1 with ⟨h, _⟩ | ⟨ds, rfl, h, _⟩
    · exact f.slot i s ov h h2
    · exact f.slot i (.own ds) ov h h2
  · have g1 : ∃ s', ρ[i]? = some s' ∧ live s' = true := by
      rcases lend_inv h1 with ⟨h, _⟩ | ⟨ds, rfl, h, _⟩
      · exact ⟨s, h, h3⟩
      · exact ⟨_, h, rfl⟩
    have g2 : ∃ t', ρ[j]? = some t' ∧ liveB t' = true := by
      rcases lend_inv h2 with ⟨h, _⟩ | ⟨ds, rfl, h, _⟩
      · exact ⟨t, h, h4⟩
      · exact ⟨_, h, rfl⟩
    obtain ⟨s', q1, q2⟩ := g1
    obtain ⟨t', r1, r2⟩ := g2
    exact f.apart i j s' t' a ij q1 r1 q2 r2 h5 h6
theorem Fit.unlend {A H σ} {ρ : Env} (f : Fit A H σ ρ) (ls : List Nat) : Fit A H σ (unlend ls ρ) := by
  refine ⟨by rw [unlend_len]; exact f.len, fun i s ov h1 h2 => ?_, fun i j s t a ij h1 h2 h3 h4 h5 h6 => ?_, f.trk⟩
  · rcases unlend_inv h1 with ⟨h, _⟩ | ⟨ds, rfl, h, _⟩
    · exact f.slot i s ov h h2
    · exact f.slot i (.lent ds) ov h h2
  · have g1 : ∃ s', ρ[i]? = some s' ∧ live s' = true := by
      rcases unlend_inv h1 with ⟨h, _⟩ | ⟨ds, rfl, h, _⟩
      · exact ⟨s, h, h3⟩
      · exact ⟨_, h, rfl⟩
    have g2 : ∃ t', ρ[j]? = some t' ∧ liveB t' = true := by
      rcases unlend_inv h2 with ⟨h, _⟩ | ⟨ds, rfl, h, _⟩
      · exact ⟨t, h, h4⟩
      · exact ⟨_, h, rfl⟩
    obtain ⟨s', q1, q2⟩ := g1
    obtain ⟨t', r1, r2⟩ := g2
    exact f.apart i j s' t' a ij q1 r1 q2 r2 h5 h6
theorem mut_lend {σ} {ρ : Env} {ls a} (m : Mut σ (lendL ls ρ) a) : Mut σ ρ a := by
  obtain ⟨i, s, h1, h2, h3⟩ := m
  rcases lend_inv h1 with ⟨h, _⟩ | ⟨ds, rfl, h, _⟩
  · exact ⟨i, s, h, h2, h3⟩
  · cases h2
/-- a loop's way, with the lists it walks lent meanwhile -/
theorem Stp.unlend {A H σ ρ A' H' σ' ρ' ls} (ow : Owns ρ ls) (s : Stp A H σ (lendL ls ρ) A' H' σ' ρ') : Stp A H σ ρ A' H' σ' (unlend ls ρ') where
  ext := s.ext
  frame := fun a o h n => s.frame a o h fun m => n (mut_lend m)
  dom := s.dom
  sub := fun a ⟨i, t, h1, h2, h3⟩ => by
    rcases unlend_inv h1 with ⟨h, _⟩ | ⟨ds, rfl, h, hi⟩
    · rcases s.sub a ⟨i, t, h, h2, h3⟩ with m | m
      · exact .inl (mut_lend m)
      · exact .inr m
    · obtain ⟨e1, e2⟩ := s.lents i _ h rfl
      obtain ⟨es, q⟩ := ow i hi
      exact .inl ⟨i, _, q, rfl, by rw [← e2]; exact h3⟩
  mus := fun i ds h => by
    have : (lendL ls ρ)[i]? = some (.mu ds) := by rw [lendL_at, h]
    obtain ⟨e1, ds', e2⟩ := s.mus i ds this
    exact ⟨e1, ds', by rw [unlend_at, e2]⟩
  news := fun a h => by
    rcases s.news a h with q | q | q | ⟨i, ds, q1, q2⟩
    · exact .inl q
    · exact .inr (.inl q)
    · exact .inr (.inr (.inl (mut_lend q)))
    · rcases lend_inv q1 with ⟨z, _⟩ | ⟨es, z1, z2, _⟩
      · exact .inr (.inr (.inr ⟨i, ds, z, q2⟩))
      · exact .inr (.inr (.inl ⟨i, _, z2, rfl, q2⟩))
  lents := fun i t h o => by
    rcases unlend_inv h with ⟨z, z2⟩ | ⟨ds, rfl, _, _⟩
    · obtain ⟨e1, e2⟩ := s.lents i t z o
      refine ⟨?_, e2⟩
      rcases lend_inv e1 with ⟨y, _⟩ | ⟨ds, y1, _, y3⟩
      · exact y
      · exact absurd y3 (z2 ds y1)
    · cases o
  fit := s.fit.unlend ls

/-! ### what is walked -/
/-- J walks ds, whatever happens to the rest, as long as the objects at G stay -/
def IterOk (A : Addr → Prop) (H : Hp) (G : Addr → Prop) (J : It) (ds : List D) : Prop :=
  (∀ a, G a → ∃ o, H a = some o) ∧ ∀ (A' : Addr → Prop) (H' : Hp), (∀ a, A a → A' a) → Keep A H H' → (∀ a o, G a → H a = some o → H' a = some o) → ∀ i : Nat,
    (i < ds.length → J.go i H') ∧ (ds.length ≤ i → J.stop i H') ∧
    ∀ x H'' d, ds[i]? = some d → J.yld i H' x H'' → (H'' = H' ∧ Rep A' H' x d) ∨ ∃ p o, H' p = none ∧ H'' = upd H' p o ∧ Rep (fun b => A' b ∨ b = p) H'' x d
/-- frozen, or held by a slot -/
def Held (A : Addr → Prop) (σ : St) (ρ : Env) (a : Addr) : Prop := A a ∨ ∃ (j : Nat) (s : Slot), ρ[j]? = some s ∧ liveB s = true ∧ σ[j]? = some (some (.ref a))
def SndI (X : Cx) (tg iter : Expr) (f : Env → Option (List D × Env × List Nat)) : Prop := ∃ wi : TI, PI X tg iter wi ∧
  ∀ A H σ ρ ds ρ0 ls, Fit A H σ ρ → f ρ = some (ds, ρ0, ls) → ∀ R : It → Hp → Prop,
    (∀ A' H' J G, Stp A H σ ρ A' H' σ ρ0 → IterOk A' H' G J ds → (∀ a, G a → ¬ Mut σ (lendL ls ρ0) a ∧ Held A' σ ρ0 a) → ds.length ≤ sizeLine → Owns ρ0 ls → R J H') → wi σ H R
section
variable {X : Cx} {N : List Str} {q : Sc} {F : FT} {tg : Expr}
/-- over a list or a tuple -/
def iSeq (K : PySem.W.Frag) (tl : TE) : TI := fun σ H R => tl σ H fun x H1 => (∃ a, x = .ref a ∧ (∃ xs, SqL K H1 a xs) ∧ R (Itl K a) H1) ∨ ∃ a, x = .ref a ∧ (∃ xs, SqT K H1 a xs) ∧ R (Itt K a) H1
theorem pi_seq {l : Expr} {tl : TE} (hl : PE X l tl) : PI X tg l (iSeq X.K tl) := by
  refine ⟨fun pins s σ H R I h => ?_⟩
  refine thn (hl.run pins s σ H _ I h) fun v s1 ⟨x, H1, I1, r1, q1⟩ => ?_
  rcases q1 with ⟨a, e, ⟨xs, hq⟩, q⟩ | ⟨a, e, ⟨xs, hq⟩, q⟩
  · subst e
    cases r1
    obtain ⟨its, rv, p, hz⟩ := I1.list hq
    refine wpAny_pyIter_list p.isList ?_
    refine ⟨s1.heap.objs.size, [s1.heap.objs.size], _, _, H1, rfl, I1.kept (t' := s1.toks) fun b o e => Heap.get?_push_of_some _ e, turn_list a _, ⟨_, Heap.get?_push_size _ rfl, rfl, rfl⟩, fun b hb => ?_, q⟩
    have e : b = s1.heap.objs.size := by simpa using hb
    subst e
    exact I1.fpOk (Nat.le_refl _) (I1.hok.fresh (Nat.le_refl _))
  · subst e
    cases r1
    obtain ⟨its, rv, p, hz⟩ := I1.tuple hq
    refine wpAny_pyIter_tuple (show s1.heap.IsTuple a its.toArray from p) ?_
    refine ⟨s1.heap.objs.size, [s1.heap.objs.size], _, _, H1, rfl, I1.kept (t' := s1.toks) fun b o e => Heap.get?_push_of_some _ e, turn_tuple a _, ⟨_, Heap.get?_push_size _ rfl, rfl, rfl⟩, fun b hb => ?_, q⟩
    have e : b = s1.heap.objs.size := by simpa using hb
    subst e
    exact I1.fpOk (Nat.le_refl _) (I1.hok.fresh (Nat.le_refl _))
def fSeq (fa : Env → Option (Opd × Env)) (ρ : Env) : Option (List D × Env × List Nat) := match fa ρ with
    | none => none
    | some (oa, ρ1) => if noMu oa ρ1 = false then none else match (oa.get ρ1).bind seqOf with
      | none => none
      | some ds => some (ds, ρ1, lends oa ρ1)
theorem owns_lends (o : Opd) (ρ : Env) : Owns ρ (lends o ρ) := by
  intro i hi
  unfold lends at hi
  split at hi
  · cases hi
  · split at hi
    · rename_i ds h; simp at hi; subst hi; exact ⟨ds, h⟩
    · cases hi
/-- an operand's own object is not changed while it is lent -/
theorem opd_safe {A H σ} {ρ : Env} {a : Addr} {o : Opd} (f : Fit A H σ ρ) (h : OpdOk A H σ (.ref a) o) (d : D) (hd : o.get ρ = some d) {ls} (hl : ∀ i ∈ lends o ρ, i ∈ ls) (nm : noMu o ρ = true) : ¬ Mut σ (lendL ls ρ) a := by
  rintro ⟨i, s, h1, h2, h3⟩
  have g : ∃ s0, ρ[i]? = some s0 ∧ mutS s0 = true ∧ (∀ ds, s0 = .own ds → i ∉ ls) := by
    rcases lend_inv h1 with ⟨z, n⟩ | ⟨ds, rfl, _, _⟩
    · exact ⟨s, z, h2, n⟩
    · cases h2
  obtain ⟨s0, z, hm, n⟩ := g
  have lv : live s0 = true := by cases s0 <;> first | rfl | (cases hm; done)
  cases o with
  | v d' =>
    have rep : Rep A H (.ref a) d' := h
    have ha : A a := by cases rep <;> assumption
    exact (f.slot i s0 _ z h3).nofz lv ha
  | sl j =>
    have hj : σ[j]? = some (some (.ref a)) := h
    by_cases e : i = j
    · subst e
      cases s0 with
      | own ds => exact n ds rfl (hl i (by simp [lends, z]))
      | mu ds => simp [noMu, z] at nm
      | dct kvs => simp [Opd.get, rd, z, Slot.d?] at hd
      | _ => cases hm
    · -- another slot: of what kind?
      simp only [Opd.get, rd] at hd
      have : ∃ t : Slot, ρ[j]? = some t := by
        split at hd
        · rename_i t ht; exact ⟨t, ht⟩
        · cases hd
      obtain ⟨t, ht⟩ := this
      by_cases lb : liveB t = true
      · exact f.apart i j s0 t a e z ht lv lb h3 hj
      · have q := f.slot j t _ ht hj
        cases t with
        | un => rw [ht] at hd; cases hd
        | fz d' =>
          obtain ⟨w, e1, rep⟩ := q
          cases e1
          have ha : A a := by cases rep <;> assumption
          exact (f.slot i s0 _ z h3).nofz lv ha
        | ro ds => rw [ht] at hd; cases hd
        | _ => exact absurd rfl lb
theorem opd_held {A H σ} {ρ : Env} {a : Addr} {o : Opd} (f : Fit A H σ ρ) (h : OpdOk A H σ (.ref a) o) (d : D) (hd : o.get ρ = some d) : Held A σ ρ a := by
  cases o with
  | v d' =>
    have rep : Rep A H (.ref a) d' := h
    exact .inl (by cases rep <;> assumption)
  | sl j =>
    have hj : σ[j]? = some (some (.ref a)) := h
    simp only [Opd.get, rd] at hd
    have : ∃ t : Slot, ρ[j]? = some t := by
      split at hd
      · rename_i t ht; exact ⟨t, ht⟩
      · cases hd
    obtain ⟨t, ht⟩ := this
    by_cases lb : liveB t = true
    · exact .inr ⟨j, t, ht, lb, hj⟩
    · have q := f.slot j t _ ht hj
      cases t with
      | un => rw [ht] at hd; cases hd
      | fz d' =>
        obtain ⟨w, e1, rep⟩ := q
        cases e1
        exact .inl (by cases rep <;> assumption)
      | ro ds => rw [ht] at hd; cases hd
      | _ => exact absurd rfl lb
theorem opd_safe2 {A H σ} {ρ : Env} {a : Addr} {o : Opd} (f : Fit A H σ ρ) (h : OpdOk A H σ (.ref a) o) (d : D) (hd : o.get ρ = some d) {ls} (hl : ∀ i ∈ lends o ρ, i ∈ ls) (nm : noMu o ρ = true) : ¬ Mut σ (lendL ls ρ) a ∧ Held A σ ρ a :=
  ⟨opd_safe f h d hd hl nm, opd_held f h d hd⟩
theorem rep_ref {A H v d} (h : RepR A H v d) (n : isFlat d = false) : ∃ a, v = .ref a := by
  rcases h with h | ⟨a, vs, ds, rfl, _⟩
  · cases h <;> first | (cases n; done) | exact ⟨_, rfl⟩
  · exact ⟨a, rfl⟩

theorem lend_own {ls : List Nat} {ρ : Env} (h : Owns ρ ls) : True := trivial
theorem iter_seqL {A H ds a vs} {K : PySem.W.Frag} (hr : H a = some (.lst vs)) (r : RepAll A H vs ds) : IterOk A H (fun b => b = a) (Itl K a) ds := by
  refine ⟨fun b e => ?_, fun A' H' e k kg i => ?_⟩
  · subst e
    exact ⟨_, hr⟩
  · have hr' : Rd H' a (.lst vs) := .inl (kg a _ rfl hr)
    have r' := RepAll.mono e k r
    refine ⟨fun hi => ?_, fun hi => ⟨vs, .inl hr', by rw [r.length]; exact hi⟩, fun x H'' d hd y => ?_⟩
    · obtain ⟨v, h1, _⟩ := r'.get i (List.getElem?_eq_getElem hi)
      exact ⟨vs, v, .inl hr', h1⟩
    · obtain ⟨rfl, y⟩ := y
      obtain ⟨v, h1, h2⟩ := r'.get i hd
      rw [y vs (.inl hr')] at h1
      cases h1
      exact .inl ⟨rfl, h2⟩
theorem iter_seqT {A H ds a vs} {K : PySem.W.Frag} (hr : H a = some (.tup vs)) (r : RepAll A H vs ds) : IterOk A H (fun b => b = a) (Itt K a) ds := by
  refine ⟨fun b e => ?_, fun A' H' e k kg i => ?_⟩
  · subst e
    exact ⟨_, hr⟩
  · have hr' : SqT K H' a vs := SqT.of (kg a _ rfl hr)
    have r' := RepAll.mono e k r
    refine ⟨fun hi => ?_, fun hi => ⟨vs, hr', by rw [r.length]; exact hi⟩, fun x H'' d hd y => ?_⟩
    · obtain ⟨v, h1, _⟩ := r'.get i (List.getElem?_eq_getElem hi)
      exact ⟨vs, v, hr', h1⟩
    · obtain ⟨rfl, y⟩ := y
      obtain ⟨v, h1, h2⟩ := r'.get i hd
      rw [y vs hr'] at h1
      cases h1
      exact .inl ⟨rfl, h2⟩
theorem sndI_seq {e fa} (ha : SndO X e fa) : SndI X tg e (fSeq fa) := by
  obtain ⟨ta, pa, qa⟩ := ha
  refine ⟨_, pi_seq pa, fun A H σ ρ ds ρ0 ls ft e R k => ?_⟩
  unfold fSeq at e
  split at e
  · cases e
  · rename_i oa ρ1 e1
    split at e
    · cases e
    · rename_i nm
      split at e
      · cases e
      · rename_i ds' e2
        cases e
        refine qa A H σ ρ oa ρ0 ft e1 _ fun A1 H1 v1 s1 k1 => ?_
        cases e3 : oa.get ρ0 with
        | none => rw [e3] at e2; cases e2
        | some d =>
          rw [e3] at e2
          have w := Opd.ok s1.fit k1 e3
          have nm' : noMu oa ρ0 = true := by simpa using nm
          cases d <;> simp only [Option.bind_some, seqOf, reduceCtorEq, Option.some.injEq] at e2
          · subst e2
            obtain ⟨a, vs, rfl, h1, h2, h3⟩ := w.list
            have sf := opd_safe2 s1.fit k1 _ e3 (ls := lends oa ρ0) (fun i h => h) nm'
            exact .inl ⟨a, rfl, ⟨vs, SqL.of h1⟩, k A1 H1 _ _ s1 (iter_seqL h1 h3) (fun b e => by subst e; exact sf) (by rw [← h3.length]; exact h2) (owns_lends _ _)⟩
          · subst e2
            obtain ⟨a, vs, rfl, h0, h1, h2, h3⟩ := w.tup
            have sf := opd_safe2 s1.fit k1 _ e3 (ls := lends oa ρ0) (fun i h => h) nm'
            exact .inr ⟨a, rfl, ⟨vs, SqT.of h1⟩, k A1 H1 _ _ s1 (iter_seqT h1 h3) (fun b e => by subst e; exact sf) (by rw [← h3.length]; exact h2) (owns_lends _ _)⟩
theorem rngD_len (a b : Int) : (rngD a b).length = (b - a).toNat := by unfold rngD; rw [List.length_map, List.length_range]
theorem rngD_get {a b : Int} {i : Nat} {d : D} (h : (rngD a b)[i]? = some d) : d = .int (a + i) := by
  unfold rngD at h
  rw [List.getElem?_map] at h
  cases e : (List.range (b - a).toNat)[i]? with
  | none => rw [e] at h; cases h
  | some j =>
    rw [e] at h
    cases h
    obtain ⟨hl, hj⟩ := List.getElem?_eq_some_iff.mp e
    rw [List.getElem_range] at hj
    subst hj
    rfl
theorem iter_rng {A H} (a b : Int) : IterOk A H (fun _ => False) (Itr a (b - a).toNat) (rngD a b) := by
  refine ⟨fun _ h => h.elim, fun A' H' e k kg i => ⟨fun h => ?_, fun h => ?_, fun x H'' d hd y => ?_⟩⟩
  · rw [rngD_len] at h; exact h
  · rw [rngD_len] at h; exact h
  · obtain ⟨rfl, rfl⟩ := y
    cases rngD_get hd
    exact .inl ⟨rfl, .int⟩
def fRng1 (fa : Env → Option (Res × Env)) (ρ : Env) : Option (List D × Env × List Nat) := match fa ρ with
    | some (.fr (.int i), ρ1) => if -(2 ^ 62) ≤ i ∧ i ≤ (sizeLine : Int) then some (rngD 0 i, ρ1, []) else none
    | _ => none
theorem owns_nil {ρ : Env} : Owns ρ [] := fun _ h => by cases h
theorem sndI_rng1 (C : CtxOk X N q F) {e p pos fa} (hg : glB q.sc (Str.ofString "range") = true) (hn : notStar e = true) (ha : SndE X e fa) : SndI X tg (.Call (.Name (Str.ofString "range") p) [e] [] pos) (fRng1 fa) := by
  obtain ⟨ta, pa, qa⟩ := ha
  refine ⟨_, pi_range1 (gl_of C hg) (C.bl "range" (by decide)) (pa_cons pa pa_nil (star_cons hn)) (star_cons hn), fun A H σ ρ ds ρ0 ls ft e R k => ?_⟩
  unfold fRng1 at e
  split at e
  · rename_i i ρ1 e1
    split at e
    · rename_i hz
      cases e
      refine qa A H σ ρ _ ρ0 ft e1 _ fun A1 H1 v1 s1 k1 => ?_
      cases k1
      have hs : (sizeLine : Int) < 2 ^ 62 := by decide
      refine ⟨i, rfl, hz.1, by omega, ?_⟩
      have := k A1 H1 _ _ s1 (iter_rng 0 i) (fun _ h => h.elim) (by rw [rngD_len]; omega) owns_nil
      simpa using this
    · cases e
  · cases e
theorem rngR_get {a b : Int} {i : Nat} {d : D} (h : (rngD a b).reverse[i]? = some d) : i < (b - a).toNat ∧ d = .int (a + (((b - a).toNat : Nat) : Int) - 1 + (i : Nat) * (-1)) := by
  have hi := (List.getElem?_eq_some_iff.mp h).1
  rw [List.length_reverse, rngD_len] at hi
  rw [List.getElem?_reverse (by rw [rngD_len]; exact hi), rngD_len] at h
  refine ⟨hi, ?_⟩
  rw [rngD_get h]
  congr 1
  omega
theorem iter_rngR {A H} (a b : Int) : IterOk A H (fun _ => False) (Itc (a + (((b - a).toNat : Nat) : Int) - 1) (-1) (b - a).toNat) (rngD a b).reverse := by
  refine ⟨fun _ h => h.elim, fun A' H' e k kg i => ⟨fun h => ?_, fun h => ?_, fun x H'' d hd y => ?_⟩⟩
  · rw [List.length_reverse, rngD_len] at h; exact h
  · rw [List.length_reverse, rngD_len] at h; exact h
  · obtain ⟨rfl, rfl⟩ := y
    obtain ⟨_, rfl⟩ := rngR_get hd
    exact .inl ⟨rfl, .int⟩
theorem dwnD_len (a b : Int) : (dwnD a b).length = (a - b).toNat := by unfold dwnD; rw [List.length_map, List.length_range]
theorem dwnD_get {a b : Int} {i : Nat} {d : D} (h : (dwnD a b)[i]? = some d) : d = .int (a + (i : Nat) * (-1)) := by
  unfold dwnD at h
  rw [List.getElem?_map] at h
  cases e : (List.range (a - b).toNat)[i]? with
  | none => rw [e] at h; cases h
  | some j =>
    rw [e] at h
    cases h
    obtain ⟨hl, hj⟩ := List.getElem?_eq_some_iff.mp e
    rw [List.getElem_range] at hj
    subst hj
    show PyData.int _ = PyData.int _
    congr 1
    rw [Int.mul_neg, Int.mul_one]
    rfl
theorem iter_dwn {A H} (a b : Int) : IterOk A H (fun _ => False) (Itc a (-1) (a - b).toNat) (dwnD a b) := by
  refine ⟨fun _ h => h.elim, fun A' H' e k kg i => ⟨fun h => ?_, fun h => ?_, fun x H'' d hd y => ?_⟩⟩
  · rw [dwnD_len] at h; exact h
  · rw [dwnD_len] at h; exact h
  · obtain ⟨rfl, rfl⟩ := y
    cases dwnD_get hd
    exact .inl ⟨rfl, .int⟩
def fRrng1 (fa : Env → Option (Res × Env)) (ρ : Env) : Option (List D × Env × List Nat) := match fa ρ with
    | some (.fr (.int i), ρ1) => if -(2 ^ 62) ≤ i ∧ i ≤ (sizeLine : Int) then some ((rngD 0 i).reverse, ρ1, []) else none
    | _ => none
theorem sndI_rrng1 (C : CtxOk X N q F) {e p pos p' pos' fa} (hg' : glB q.sc (Str.ofString "reversed") = true) (hg : glB q.sc (Str.ofString "range") = true) (hn : notStar e = true) (ha : SndE X e fa) :
    SndI X tg (.Call (.Name (Str.ofString "reversed") p') [.Call (.Name (Str.ofString "range") p) [e] [] pos] [] pos') (fRrng1 fa) := by
  obtain ⟨ta, pa, qa⟩ := ha
  refine ⟨_, pi_revR (gl_of C hg') (C.bl "reversed" (by decide)) (prg_1 (gl_of C hg) (C.bl "range" (by decide)) pa (star_cons hn)), fun A H σ ρ ds ρ0 ls ft e R k => ?_⟩
  unfold fRrng1 at e
  split at e
  · rename_i i ρ1 e1
    split at e
    · rename_i hz
      cases e
      refine qa A H σ ρ _ ρ0 ft e1 _ fun A1 H1 v1 s1 k1 => ?_
      cases k1
      have hs : (sizeLine : Int) < 2 ^ 62 := by decide
      refine ⟨i, rfl, by omega, by omega, hz.1, by omega, ?_⟩
      exact k A1 H1 _ _ s1 (iter_rngR 0 i) (fun _ h => h.elim) (by rw [List.length_reverse, rngD_len]; omega) owns_nil
    · cases e
  · cases e
def fRrng2 (fa fb : Env → Option (Res × Env)) (ρ : Env) : Option (List D × Env × List Nat) := match fa ρ with
    | some (.fr (.int i), ρ1) => match fb ρ1 with
      | some (.fr (.int j), ρ2) => if -(2 ^ 62) ≤ i ∧ i < 2 ^ 62 ∧ j < 2 ^ 62 ∧ -(2 ^ 62) ≤ j ∧ j - i ≤ (sizeLine : Int) then some ((rngD i j).reverse, ρ2, []) else none
      | _ => none
    | _ => none
theorem sndI_rrng2 (C : CtxOk X N q F) {e e' p pos p' pos' fa fb} (hg' : glB q.sc (Str.ofString "reversed") = true) (hg : glB q.sc (Str.ofString "range") = true) (hn : notStar e = true) (hn' : notStar e' = true) (ha : SndE X e fa) (hb : SndE X e' fb) :
    SndI X tg (.Call (.Name (Str.ofString "reversed") p') [.Call (.Name (Str.ofString "range") p) [e, e'] [] pos] [] pos') (fRrng2 fa fb) := by
  obtain ⟨ta, pa, qa⟩ := ha
  obtain ⟨tb, pb, qb⟩ := hb
  refine ⟨_, pi_revR (gl_of C hg') (C.bl "reversed" (by decide)) (prg_2 (gl_of C hg) (C.bl "range" (by decide)) pa pb (star_cons hn) (star_cons hn') (by rw [star_cons hn']; rfl)), fun A H σ ρ ds ρ0 ls ft e R k => ?_⟩
  unfold fRrng2 at e
  split at e
  · rename_i i ρ1 e1
    split at e
    · rename_i j ρ2 e2
      split at e
      · rename_i hz
        cases e
        refine qa A H σ ρ _ ρ1 ft e1 _ fun A1 H1 v1 s1 k1 => ?_
        cases k1
        refine qb A1 H1 σ ρ1 _ ρ0 s1.fit e2 _ fun A2 H2 v2 s2 k2 => ?_
        cases k2
        refine ⟨i, j, rfl, rfl, hz.1, hz.2.1, hz.2.2.2.1, hz.2.2.1, ?_⟩
        exact k A2 H2 _ _ (s1.trans s2) (iter_rngR i j) (fun _ h => h.elim) (by rw [List.length_reverse, rngD_len]; omega) owns_nil
      · cases e
    · cases e
  · cases e
def fDwn (fa fb : Env → Option (Res × Env)) (ρ : Env) : Option (List D × Env × List Nat) := match fa ρ with
    | some (.fr (.int i), ρ1) => match fb ρ1 with
      | some (.fr (.int j), ρ2) => if -(2 ^ 62) ≤ i ∧ i < 2 ^ 62 ∧ j < 2 ^ 62 ∧ -(2 ^ 62) ≤ j ∧ i - j ≤ (sizeLine : Int) then some (dwnD i j, ρ2, []) else none
      | _ => none
    | _ => none
theorem sndI_dwn (C : CtxOk X N q F) {e e' p pos k1 p1 p2 fa fb} (hg : glB q.sc (Str.ofString "range") = true) (hn : notStar e = true) (hn' : notStar e' = true) (ha : SndE X e fa) (hb : SndE X e' fb) :
    SndI X tg (.Call (.Name (Str.ofString "range") p) [e, e', .UnaryOp .USub (.Constant (.int 1) k1 p1) p2] [] pos) (fDwn fa fb) := by
  obtain ⟨ta, pa, qa⟩ := ha
  obtain ⟨tb, pb, qb⟩ := hb
  have hn3 : notStar (.UnaryOp .USub (.Constant (.int 1) k1 p1) p2) = true := rfl
  refine ⟨_, pi_range3 (gl_of C hg) (C.bl "range" (by decide)) (pa_cons pa (pa_cons pb (pa_cons (pe_un un_neg pe_int) pa_nil (star_cons hn3)) (star_cons hn')) (star_cons hn)) (star_cons hn) (by rw [star_cons hn', star_cons hn3]; rfl), fun A H σ ρ ds ρ0 ls ft e R k => ?_⟩
  unfold fDwn at e
  split at e
  · rename_i i ρ1 e1
    split at e
    · rename_i j ρ2 e2
      split at e
      · rename_i hz
        cases e
        refine qa A H σ ρ _ ρ1 ft e1 _ fun A1 H1 v1 s1 k1 => ?_
        cases k1
        refine qb A1 H1 σ ρ1 _ ρ0 s1.fit e2 _ fun A2 H2 v2 s2 k2 => ?_
        cases k2
        refine ⟨1, rfl, i, j, -1, (i - j).toNat, rfl, RgC.neg hz.1 hz.2.1 hz.2.2.2.1 hz.2.2.1, ?_⟩
        exact k A2 H2 _ _ (s1.trans s2) (iter_dwn i j) (fun _ h => h.elim) (by rw [dwnD_len]; omega) owns_nil
      · cases e
    · cases e
  · cases e
def fRng2 (fa fb : Env → Option (Res × Env)) (ρ : Env) : Option (List D × Env × List Nat) := match fa ρ with
    | some (.fr (.int i), ρ1) => match fb ρ1 with
      | some (.fr (.int j), ρ2) => if -(2 ^ 62) ≤ i ∧ i < 2 ^ 62 ∧ j < 2 ^ 62 ∧ -(2 ^ 62) ≤ j ∧ j - i ≤ (sizeLine : Int) then some (rngD i j, ρ2, []) else none
      | _ => none
    | _ => none
theorem sndI_rng2 (C : CtxOk X N q F) {e e' p pos fa fb} (hg : glB q.sc (Str.ofString "range") = true) (hn : notStar e = true) (hn' : notStar e' = true) (ha : SndE X e fa) (hb : SndE X e' fb) : SndI X tg (.Call (.Name (Str.ofString "range") p) [e, e'] [] pos) (fRng2 fa fb) := by
  obtain ⟨ta, pa, qa⟩ := ha
  obtain ⟨tb, pb, qb⟩ := hb
  refine ⟨_, pi_range2 (gl_of C hg) (C.bl "range" (by decide)) (pa_cons pa (pa_cons pb pa_nil (star_cons hn')) (star_cons hn)) (by rw [star_cons hn, star_cons hn']; rfl) (star_cons hn'), fun A H σ ρ ds ρ0 ls ft e R k => ?_⟩
  unfold fRng2 at e
  split at e
  · rename_i i ρ1 e1
    split at e
    · rename_i j ρ2 e2
      split at e
      · rename_i hz
        cases e
        refine qa A H σ ρ _ ρ1 ft e1 _ fun A1 H1 v1 s1 k1 => ?_
        cases k1
        refine qb A1 H1 σ ρ1 _ ρ0 s1.fit e2 _ fun A2 H2 v2 s2 k2 => ?_
        cases k2
        refine ⟨i, j, rfl, ⟨hz.1, hz.2.1, hz.2.2.2.1, hz.2.2.1⟩, ?_⟩
        exact k A2 H2 _ _ (s1.trans s2) (iter_rng i j) (fun _ h => h.elim) (by rw [rngD_len]; omega) owns_nil
      · cases e
    · cases e
  · cases e
end
/-! ### zip, enumerate, reversed -/
theorem upd_keep {A : Addr → Prop} {H : Hp} {p : Addr} {o : HO} (h : H p = none) : Keep A H (upd H p o) := fun a o' _ e => by
  have : a ≠ p := fun z => by subst z; rw [h] at e; cases e
  rw [upd_ne this]; exact e
theorem rep_pair {A H x y dx dy} {p : Addr} (h : H p = none) (h1 : Rep A H x dx) (h2 : Rep A H y dy) : Rep (fun b => A b ∨ b = p) (upd H p (.tup [x, y])) (.ref p) (.tuple [dx, dy]) :=
  .tup (.inr rfl) (by simp [upd]) (by show 2 ≤ sizeLine; decide) (.cons (h1.mono (fun _ h => .inl h) (upd_keep h)) (.cons (h2.mono (fun _ h => .inl h) (upd_keep h)) .nil))
theorem pairD_get {xs ys : List D} {i : Nat} {d : D} (h : (pairD xs ys)[i]? = some d) : ∃ a b, xs[i]? = some a ∧ ys[i]? = some b ∧ d = .tuple [a, b] := by
  unfold pairD at h
  rw [List.getElem?_map] at h
  cases e : (xs.zip ys)[i]? with
  | none => rw [e] at h; cases h
  | some p =>
    rw [e] at h
    cases h
    rw [List.getElem?_zip_eq_some] at e
    exact ⟨_, _, e.1, e.2, rfl⟩
theorem pairD_len (xs ys : List D) : (pairD xs ys).length = min xs.length ys.length := by simp [pairD]
theorem enumD_len (xs : List D) : (enumD xs).length = xs.length := by simp [enumD]
theorem enumD_get {xs : List D} {i : Nat} {d : D} (h : (enumD xs)[i]? = some d) : ∃ a, xs[i]? = some a ∧ d = .tuple [.int (i : Nat), a] := by
  unfold enumD at h
  rw [List.getElem?_map, List.getElem?_zipIdx] at h
  cases e : xs[i]? with
  | none => rw [e] at h; cases h
  | some p => rw [e] at h; cases h; exact ⟨p, rfl, by simp⟩
theorem iter_zipL {A H a b vs ws xs ys} {K : PySem.W.Frag} (ha : H a = some (.lst vs)) (hb : H b = some (.lst ws)) (r1 : RepAll A H vs xs) (r2 : RepAll A H ws ys) :
    IterOk A H (fun c => c = a ∨ c = b) (Itz K a b) (pairD xs ys) := by
  refine ⟨fun c e => ?_, fun A' H' e k kg i => ?_⟩
  · rcases e with rfl | rfl
    · exact ⟨_, ha⟩
    · exact ⟨_, hb⟩
  · have ga : SqL K H' a vs := SqL.of (kg a _ (.inl rfl) ha)
    have gb : SqL K H' b ws := SqL.of (kg b _ (.inr rfl) hb)
    have r1' := RepAll.mono e k r1
    have r2' := RepAll.mono e k r2
    refine ⟨fun hi => ?_, fun hi => ⟨vs, ws, ga, gb, by rw [pairD_len] at hi; rw [r1.length, r2.length]; omega⟩, fun x H'' d hd y => ?_⟩
    · obtain ⟨dx, dy, h1, h2, _⟩ := pairD_get (List.getElem?_eq_getElem hi)
      obtain ⟨v, h3, _⟩ := r1'.get i h1
      obtain ⟨w, h4, _⟩ := r2'.get i h2
      exact ⟨vs, ws, v, w, ga, gb, h3, h4⟩
    · obtain ⟨T, x0, y0, rfl, hT, rfl, hx, hy⟩ := y
      obtain ⟨dx, dy, h1, h2, rfl⟩ := pairD_get hd
      obtain ⟨v, h3, h3'⟩ := r1'.get i h1
      obtain ⟨w, h4, h4'⟩ := r2'.get i h2
      rw [hx vs ga] at h3; cases h3
      rw [hy ws gb] at h4; cases h4
      exact .inr ⟨T, _, hT, rfl, rep_pair hT h3' h4'⟩
theorem iter_zipT {A H a b vs ws xs ys} {K : PySem.W.Frag} (ha : H a = some (.tup vs)) (hb : H b = some (.tup ws)) (r1 : RepAll A H vs xs) (r2 : RepAll A H ws ys) :
    IterOk A H (fun c => c = a ∨ c = b) (RZ.ItzT K a b) (pairD xs ys) := by
  refine ⟨fun c e => ?_, fun A' H' e k kg i => ?_⟩
  · rcases e with rfl | rfl
    · exact ⟨_, ha⟩
    · exact ⟨_, hb⟩
  · have ga : SqT K H' a vs := SqT.of (kg a _ (.inl rfl) ha)
    have gb : SqT K H' b ws := SqT.of (kg b _ (.inr rfl) hb)
    have r1' := RepAll.mono e k r1
    have r2' := RepAll.mono e k r2
    refine ⟨fun hi => ?_, fun hi => ⟨vs, ws, ga, gb, by rw [pairD_len] at hi; rw [r1.length, r2.length]; omega⟩, fun x H'' d hd y => ?_⟩
    · obtain ⟨dx, dy, h1, h2, _⟩ := pairD_get (List.getElem?_eq_getElem hi)
      obtain ⟨v, h3, _⟩ := r1'.get i h1
      obtain ⟨w, h4, _⟩ := r2'.get i h2
      exact ⟨vs, ws, v, w, ga, gb, h3, h4⟩
    · obtain ⟨T, x0, y0, rfl, hT, rfl, hx, hy⟩ := y
      obtain ⟨dx, dy, h1, h2, rfl⟩ := pairD_get hd
      obtain ⟨v, h3, h3'⟩ := r1'.get i h1
      obtain ⟨w, h4, h4'⟩ := r2'.get i h2
      rw [hx vs ga] at h3; cases h3
      rw [hy ws gb] at h4; cases h4
      exact .inr ⟨T, _, hT, rfl, rep_pair hT h3' h4'⟩
theorem iter_enumL {A H a vs xs} {K : PySem.W.Frag} (ha : H a = some (.lst vs)) (r1 : RepAll A H vs xs) : IterOk A H (fun c => c = a) (Ite K a) (enumD xs) := by
  refine ⟨fun c e => ?_, fun A' H' e k kg i => ?_⟩
  · subst e; exact ⟨_, ha⟩
  · have ga : SqL K H' a vs := SqL.of (kg a _ rfl ha)
    have r1' := RepAll.mono e k r1
    refine ⟨fun hi => ?_, fun hi => ⟨vs, ga, by rw [enumD_len] at hi; rw [r1.length]; exact hi⟩, fun x H'' d hd y => ?_⟩
    · obtain ⟨dx, h1, _⟩ := enumD_get (List.getElem?_eq_getElem hi)
      obtain ⟨v, h3, _⟩ := r1'.get i h1
      exact ⟨vs, v, ga, h3⟩
    · obtain ⟨T, x0, rfl, hT, rfl, hx⟩ := y
      obtain ⟨dx, h1, rfl⟩ := enumD_get hd
      obtain ⟨v, h3, h3'⟩ := r1'.get i h1
      rw [hx vs ga] at h3; cases h3
      exact .inr ⟨T, _, hT, rfl, rep_pair hT .int h3'⟩
theorem iter_revL {A H a vs xs} {K : PySem.W.Frag} (ha : H a = some (.lst vs)) (r1 : RepAll A H vs xs) : IterOk A H (fun c => c = a) (Itv K a vs.length) xs.reverse := by
  refine ⟨fun c e => ?_, fun A' H' e k kg i => ?_⟩
  · subst e; exact ⟨_, ha⟩
  · have ga : SqL K H' a vs := SqL.of (kg a _ rfl ha)
    have r1' := RepAll.mono e k r1
    have r2' := r1'.reverse
    have hl := r1.length
    refine ⟨fun hi => ?_, fun hi => ?_, fun x H'' d hd y => ?_⟩
    · rw [List.length_reverse, ← hl] at hi
      obtain ⟨v, h3, _⟩ := r1'.get (vs.length - 1 - i) (List.getElem?_eq_getElem (by omega))
      exact ⟨hi, vs, v, ga, h3⟩
    · rw [List.length_reverse, ← hl] at hi; exact hi
    · obtain ⟨rfl, hx⟩ := y
      have hi : i < xs.length := by
        have := (List.getElem?_eq_some_iff.mp hd).1
        rwa [List.length_reverse] at this
      rw [List.getElem?_reverse hi, ← hl] at hd
      obtain ⟨v, h3, h3'⟩ := r1'.get _ hd
      rw [hx vs ga] at h3; cases h3
      exact .inl ⟨rfl, h3'⟩
theorem iter_revT {A H a vs xs} {K : PySem.W.Frag} (ha : H a = some (.tup vs)) (r1 : RepAll A H vs xs) : IterOk A H (fun c => c = a) (RT.ItvT K a vs.length) xs.reverse := by
  refine ⟨fun c e => ?_, fun A' H' e k kg i => ?_⟩
  · subst e; exact ⟨_, ha⟩
  · have ga : SqT K H' a vs := SqT.of (kg a _ rfl ha)
    have r1' := RepAll.mono e k r1
    have hl := r1.length
    refine ⟨fun hi => ?_, fun hi => ?_, fun x H'' d hd y => ?_⟩
    · rw [List.length_reverse, ← hl] at hi
      obtain ⟨v, h3, _⟩ := r1'.get (vs.length - 1 - i) (List.getElem?_eq_getElem (by omega))
      exact ⟨hi, vs, v, ga, h3⟩
    · rw [List.length_reverse, ← hl] at hi; exact hi
    · obtain ⟨rfl, hx⟩ := y
      have hi : i < xs.length := by
        have := (List.getElem?_eq_some_iff.mp hd).1
        rwa [List.length_reverse] at this
      rw [List.getElem?_reverse hi, ← hl] at hd
      obtain ⟨v, h3, h3'⟩ := r1'.get _ hd
      rw [hx vs ga] at h3; cases h3
      exact .inl ⟨rfl, h3'⟩
def fEnm (fa : Env → Option (Opd × Env)) (ρ : Env) : Option (List D × Env × List Nat) := match fa ρ with
    | none => none
    | some (oa, ρ1) => if noMu oa ρ1 = false then none else match (oa.get ρ1).bind seqOf with
      | some ds => some (enumD ds, ρ1, lends oa ρ1)
      | none => none
def fRev (fa : Env → Option (Opd × Env)) (ρ : Env) : Option (List D × Env × List Nat) := match fa ρ with
    | none => none
    | some (oa, ρ1) => if noMu oa ρ1 = false then none else match (oa.get ρ1).bind seqOf with
      | none => none
      | some ds => some (ds.reverse, ρ1, lends oa ρ1)
def fZip (fa fb : Env → Option (Opd × Env)) (ρ : Env) : Option (List D × Env × List Nat) := match fa ρ with
    | none => none
    | some (oa, ρ1) => match fb ρ1 with
      | none => none
      | some (ob, ρ2) => if noMu oa ρ2 = false then none else if noMu ob ρ2 = false then none else match oa.get ρ2 with
        | some (.list xs) => (match ob.get ρ2 with
          | some (.list ys) => some (pairD xs ys, ρ2, lends oa ρ2 ++ lends ob ρ2)
          | _ => none)
        | some (.tuple xs) => (match ob.get ρ2 with
          | some (.tuple ys) => some (pairD xs ys, ρ2, lends oa ρ2 ++ lends ob ρ2)
          | _ => none)
        | _ => none
section
variable {X : Cx} {N : List Str} {q : Sc} {F : FT} {elts : List Expr} {kk : Nat} {tpos : Pos}
theorem iter_enumT {A H a vs xs} {K : PySem.W.Frag} (ha : H a = some (.tup vs)) (r1 : RepAll A H vs xs) : IterOk A H (fun c => c = a) (IteT K a) (enumD xs) := by
  refine ⟨fun b e => by subst e; exact ⟨_, ha⟩, fun A' H' e k kg i => ?_⟩
  have ga : SqT K H' a vs := SqT.of (kg a _ rfl ha)
  have r1' := RepAll.mono e k r1
  have hl := r1.length
  refine ⟨fun hi => ?_, fun hi => ?_, fun x H'' d hd y => ?_⟩
  · rw [enumD_len] at hi
    obtain ⟨v, h3, _⟩ := r1'.get i (List.getElem?_eq_getElem hi)
    exact ⟨vs, v, ga, h3⟩
  · rw [enumD_len] at hi
    exact ⟨vs, ga, by rw [hl]; exact hi⟩
  · obtain ⟨T, w, rfl, hn, rfl, hx⟩ := y
    obtain ⟨dx, e1, rfl⟩ := enumD_get hd
    obtain ⟨v, h3, h3'⟩ := r1'.get i e1
    rw [hx vs ga] at h3; cases h3
    exact .inr ⟨T, _, hn, rfl, rep_pair hn .int h3'⟩
theorem sndI_enm (C : CtxOk X N q F) {e p pos fa} (hg : glB q.sc (Str.ofString "enumerate") = true) (hn : notStar e = true) (ha : SndO X e fa) : SndI X (.Tuple elts kk tpos) (.Call (.Name (Str.ofString "enumerate") p) [e] [] pos) (fEnm fa) := by
  obtain ⟨ta, pa, qa⟩ := ha
  refine ⟨_, pi_enumA (gl_of C hg) (C.bl "enumerate" (by decide)) (pa_cons pa pa_nil (star_cons hn)) (star_cons hn), fun A H σ ρ ds ρ0 ls ft e R k => ?_⟩
  unfold fEnm at e
  split at e
  · cases e
  · rename_i oa ρ1 e1
    split at e
    · cases e
    · rename_i nm
      split at e
      · rename_i ds' e2
        cases e
        refine qa A H σ ρ oa ρ0 ft e1 _ fun A1 H1 v1 s1 k1 => ?_
        cases e3 : oa.get ρ0 with
        | none => rw [e3] at e2; cases e2
        | some d =>
          rw [e3] at e2
          have w := Opd.ok s1.fit k1 e3
          have nm' : noMu oa ρ0 = true := by simpa using nm
          cases d <;> simp only [Option.bind_some, seqOf, reduceCtorEq, Option.some.injEq] at e2
          · subst e2
            obtain ⟨a, vs, rfl, h1, h2, h3⟩ := w.list
            have sf := opd_safe2 s1.fit k1 _ e3 (ls := lends oa ρ0) (fun i h => h) nm'
            exact ⟨a, vs, rfl, .inl ⟨SqL.of h1, k A1 H1 _ _ s1 (iter_enumL h1 h3) (fun b e => by subst e; exact sf) (by rw [enumD_len, ← h3.length]; exact h2) (owns_lends _ _)⟩⟩
          · subst e2
            obtain ⟨a, vs, rfl, h0, h1, h2, h3⟩ := w.tup
            have sf := opd_safe2 s1.fit k1 _ e3 (ls := lends oa ρ0) (fun i h => h) nm'
            exact ⟨a, vs, rfl, .inr ⟨SqT.of h1, k A1 H1 _ _ s1 (iter_enumT h1 h3) (fun b e => by subst e; exact sf) (by rw [enumD_len, ← h3.length]; exact h2) (owns_lends _ _)⟩⟩
      · cases e
theorem sndI_rev (C : CtxOk X N q F) {tg e p pos fa} (hg : glB q.sc (Str.ofString "reversed") = true) (hn : notStar e = true) (ha : SndO X e fa) : SndI X tg (.Call (.Name (Str.ofString "reversed") p) [e] [] pos) (fRev fa) := by
  obtain ⟨ta, pa, qa⟩ := ha
  refine ⟨_, RT.pi_revA (gl_of C hg) (C.bl "reversed" (by decide)) pa (star_cons hn), fun A H σ ρ ds ρ0 ls ft e R k => ?_⟩
  unfold fRev at e
  split at e
  · cases e
  · rename_i oa ρ1 e1
    split at e
    · cases e
    · rename_i nm
      split at e
      · cases e
      · rename_i ds' e2
        cases e
        refine qa A H σ ρ oa ρ0 ft e1 _ fun A1 H1 v1 s1 k1 => ?_
        cases e3 : oa.get ρ0 with
        | none => rw [e3] at e2; cases e2
        | some d =>
          rw [e3] at e2
          have w := Opd.ok s1.fit k1 e3
          have nm' : noMu oa ρ0 = true := by simpa using nm
          cases d <;> simp only [Option.bind_some, seqOf, reduceCtorEq, Option.some.injEq] at e2
          · subst e2
            obtain ⟨a, vs, rfl, h1, h2, h3⟩ := w.list
            have sf := opd_safe2 s1.fit k1 _ e3 (ls := lends oa ρ0) (fun i h => h) nm'
            exact ⟨a, vs, rfl, .inl ⟨SqL.of h1, k A1 H1 _ _ s1 (iter_revL h1 h3) (fun b e => by subst e; exact sf) (by rw [List.length_reverse, ← h3.length]; exact h2) (owns_lends _ _)⟩⟩
          · subst e2
            obtain ⟨a, vs, rfl, h0, h1, h2, h3⟩ := w.tup
            have sf := opd_safe2 s1.fit k1 _ e3 (ls := lends oa ρ0) (fun i h => h) nm'
            exact ⟨a, vs, rfl, .inr ⟨SqT.of h1, k A1 H1 _ _ s1 (iter_revT h1 h3) (fun b e => by subst e; exact sf) (by rw [List.length_reverse, ← h3.length]; exact h2) (owns_lends _ _)⟩⟩
theorem owns_app {ρ : Env} {a b : List Nat} (h1 : Owns ρ a) (h2 : Owns ρ b) : Owns ρ (a ++ b) := fun i hi => (List.mem_append.mp hi).elim (h1 i) (h2 i)
theorem sndI_zip (C : CtxOk X N q F) {e e2 p pos fa fb} (hg : glB q.sc (Str.ofString "zip") = true) (hn : notStar e = true) (hn2 : notStar e2 = true) (ha : SndO X e fa) (hb : SndO X e2 fb) : SndI X (.Tuple elts kk tpos) (.Call (.Name (Str.ofString "zip") p) [e, e2] [] pos) (fZip fa fb) := by
  obtain ⟨ta, pa, qa⟩ := ha
  obtain ⟨tb, pb, qb⟩ := hb
  refine ⟨_, RZ.pi_zipA (gl_of C hg) (C.bl "zip" (by decide)) (pa_cons pa (pa_cons pb pa_nil (star_cons hn2)) (star_cons hn)) (star_cons hn) (by rw [star_cons hn2]; rfl), fun A H σ ρ ds ρ0 ls ft e R k => ?_⟩
  unfold fZip at e
  split at e
  · cases e
  · rename_i oa ρ1 e1
    split at e
    · cases e
    · rename_i ob ρ2 e2
      split at e
      · cases e
      · rename_i nm
        split at e
        · cases e
        · rename_i nn
          have nm' : noMu oa ρ2 = true := by simpa using nm
          have nn' : noMu ob ρ2 = true := by simpa using nn
          split at e
          · rename_i xs g1
            split at e
            · rename_i ys g2
              cases e
              refine qa A H σ ρ oa ρ1 ft e1 _ fun A1 H1 v1 s1 k1 => qb A1 H1 σ ρ1 ob ρ0 s1.fit e2 _ fun A2 H2 v2 s2 k2 => ?_
              have k1' := k1.mono s2.ext (s2.keep s1.fit)
              obtain ⟨a, vs, rfl, h1, h2, h3⟩ := (Opd.ok s2.fit k1' g1).list
              obtain ⟨b, ws, rfl, h4, h5, h6⟩ := (Opd.ok s2.fit k2 g2).list
              have sf := opd_safe2 s2.fit k1' _ g1 (ls := lends oa ρ0 ++ lends ob ρ0) (fun i h => List.mem_append.mpr (.inl h)) nm'
              have sg := opd_safe2 s2.fit k2 _ g2 (ls := lends oa ρ0 ++ lends ob ρ0) (fun i h => List.mem_append.mpr (.inr h)) nn'
              refine ⟨a, b, vs, ws, rfl, .inl ⟨SqL.of h1, SqL.of h4, k A2 H2 _ _ (s1.trans s2) (iter_zipL h1 h4 h3 h6) (fun c e => ?_) (by rw [pairD_len, ← h3.length]; omega) (owns_app (owns_lends _ _) (owns_lends _ _))⟩⟩
              rcases e with rfl | rfl
              · exact sf
              · exact sg
            · cases e
          · rename_i xs g1
            split at e
            · rename_i ys g2
              cases e
              refine qa A H σ ρ oa ρ1 ft e1 _ fun A1 H1 v1 s1 k1 => qb A1 H1 σ ρ1 ob ρ0 s1.fit e2 _ fun A2 H2 v2 s2 k2 => ?_
              have k1' := k1.mono s2.ext (s2.keep s1.fit)
              obtain ⟨a, vs, rfl, h0, h1, h2, h3⟩ := (Opd.ok s2.fit k1' g1).tup
              obtain ⟨b, ws, rfl, h0', h4, h5, h6⟩ := (Opd.ok s2.fit k2 g2).tup
              have sf := opd_safe2 s2.fit k1' _ g1 (ls := lends oa ρ0 ++ lends ob ρ0) (fun i h => List.mem_append.mpr (.inl h)) nm'
              have sg := opd_safe2 s2.fit k2 _ g2 (ls := lends oa ρ0 ++ lends ob ρ0) (fun i h => List.mem_append.mpr (.inr h)) nn'
              refine ⟨a, b, vs, ws, rfl, .inr ⟨SqT.of h1, SqT.of h4, k A2 H2 _ _ (s1.trans s2) (iter_zipT h1 h4 h3 h6) (fun c e => ?_) (by rw [pairD_len, ← h3.length]; omega) (owns_app (owns_lends _ _) (owns_lends _ _))⟩⟩
              rcases e with rfl | rfl
              · exact sf
              · exact sg
            · cases e
          · cases e
end
end Ev

set_option maxRecDepth 100000
/-! Ev10: targets; comprehensions. -/
namespace Ev
open PySem L2
variable [TheK]

/-! ### names are stored -/
theorem put_inv {i s ρ ρ'} (h : put i s ρ = some ρ') : ∃ t, ρ[i]? = some t ∧ (∀ ds, t ≠ .mu ds) ∧ ρ' = ρ.set i s := by
  unfold put at h
  split at h
  · cases h
  · rename_i t n ht
    cases h
    exact ⟨t, ht, fun ds e => n ds (by rw [e]), rfl⟩
  · cases h
theorem stp_fz {A H σ v d} {ρ : Env} {i : Nat} {t : Slot} (f : Fit A H σ ρ) (ht : ρ[i]? = some t) (nm : ∀ ds, t ≠ .mu ds) (r : Rep A H v d) : Stp A H σ ρ A H (σ.set i (some v)) (ρ.set i (.fz d)) := by
  have other : ∀ (j : Nat) (s : Slot), (ρ.set i (.fz d))[j]? = some s → (i = j ∧ s = .fz d) ∨ (i ≠ j ∧ ρ[j]? = some s ∧ (σ.set i (some v))[j]? = σ[j]?) := fun j s h => by
    rcases get_set h with ⟨e, z⟩ | ⟨e, z⟩
    · exact .inl ⟨e, z⟩
    · exact .inr ⟨e, z, List.getElem?_set_ne e⟩
  refine ⟨fun _ h => h, fun _ _ h _ => h, fun _ h => h, fun a ⟨j, s, h1, h2, h3⟩ => ?_, fun j ds h => ?_, fun _ h => .inl h, fun j s h o => ?_, ⟨by rw [List.length_set, List.length_set]; exact f.len, fun j s ov h1 h2 => ?_, fun j l s u a jl h1 h2 h3 h4 h5 h6 => ?_, f.trk⟩⟩
  · rcases other j s h1 with ⟨_, rfl⟩ | ⟨_, z, e⟩
    · cases h2
    · rw [e] at h3; exact .inl ⟨j, s, z, h2, h3⟩
  · have ij : i ≠ j := fun e => by subst e; rw [ht] at h; cases h; exact nm ds rfl
    exact ⟨List.getElem?_set_ne ij, ds, by rw [List.getElem?_set_ne ij]; exact h⟩
  · rcases other j s h with ⟨_, rfl⟩ | ⟨_, z, e⟩
    · cases o
    · exact ⟨z, e⟩
  · rcases other j s h1 with ⟨rfl, rfl⟩ | ⟨_, z, e⟩
    · have : (σ.set i (some v))[i]? = some (some v) := List.getElem?_set_self (by rw [f.len]; exact (List.getElem?_eq_some_iff.mp ht).1)
      rw [this] at h2; cases h2
      exact ⟨v, rfl, r⟩
    · rw [e] at h2; exact f.slot j s ov z h2
  · rcases other j s h1 with ⟨_, rfl⟩ | ⟨_, z, e⟩
    · cases h3
    · rcases other l u h2 with ⟨_, rfl⟩ | ⟨_, z', e'⟩
      · cases h4
      · rw [e] at h5; rw [e'] at h6
        exact f.apart j l s u a jl z z' h3 h4 h5 h6
/-- a new list gets a name -/
theorem stp_own {A0 H0 σ0 ρ0 A H σ v ds} {ρ : Env} {i : Nat} {t : Slot} (s : Stp A0 H0 σ0 ρ0 A H σ ρ) (ht : ρ[i]? = some t) (nm : ∀ es, t ≠ .mu es) (h0 : ∀ es, ρ0[i]? = some (.mu es) → False) (r : ResOk A H0 H σ ρ v (.nw ds)) : Stp A0 H0 σ0 ρ0 A H (σ.set i (some v)) (ρ.set i (.own ds)) := by
  obtain ⟨p, vs, rfl, r1, r2, r3, r4, r5, r6⟩ := r
  have other : ∀ (j : Nat) (s : Slot), (ρ.set i (.own ds))[j]? = some s → (i = j ∧ s = .own ds ∧ (σ.set i (some (.ref p)))[j]? = some (some (.ref p))) ∨ (i ≠ j ∧ ρ[j]? = some s ∧ (σ.set i (some (.ref p)))[j]? = σ[j]?) := fun j u h => by
    rcases get_set h with ⟨e, z⟩ | ⟨e, z⟩
    · subst e
      exact .inl ⟨rfl, z, List.getElem?_set_self (by rw [s.fit.len]; exact (List.getElem?_eq_some_iff.mp ht).1)⟩
    · exact .inr ⟨e, z, List.getElem?_set_ne e⟩
  refine ⟨s.ext, s.frame, s.dom, fun a ⟨j, u, h1, h2, h3⟩ => ?_, fun j es h => ?_, s.news, fun j u h o => ?_, ⟨by rw [List.length_set, List.length_set]; exact s.fit.len, fun j u ov h1 h2 => ?_, fun j l u w a jl h1 h2 h3 h4 h5 h6 => ?_, s.fit.trk⟩⟩
  · rcases other j u h1 with ⟨_, rfl, e⟩ | ⟨_, z, e⟩
    · rw [e] at h3; cases h3; exact .inr r5
    · rw [e] at h3; exact s.sub a ⟨j, u, z, h2, h3⟩
  · have ij : i ≠ j := fun e => by subst e; exact h0 es h
    obtain ⟨e1, es', e2⟩ := s.mus j es h
    exact ⟨by rw [List.getElem?_set_ne ij]; exact e1, es', by rw [List.getElem?_set_ne ij]; exact e2⟩
  · rcases other j u h with ⟨_, rfl, _⟩ | ⟨_, z, e⟩
    · cases o
    · rw [e]; exact s.lents j u z o
  · rcases other j u h1 with ⟨rfl, rfl, e⟩ | ⟨_, z, e⟩
    · rw [e] at h2; cases h2; exact ⟨p, vs, rfl, r1, r2, r3, r4⟩
    · rw [e] at h2; exact s.fit.slot j u ov z h2
  · rcases other j u h1 with ⟨rfl, rfl, e⟩ | ⟨_, z, e⟩
    · rw [e] at h5; cases h5
      rcases other l w h2 with ⟨rfl, _, _⟩ | ⟨_, z', e'⟩
      · exact jl rfl
      · rw [e'] at h6; exact r6 l w z' h4 h6
    · rcases other l w h2 with ⟨rfl, rfl, e'⟩ | ⟨_, z', e'⟩
      · rw [e'] at h6; cases h6
        rw [e] at h5; exact r6 j u z (liveB_of h3) h5
      · rw [e] at h5; rw [e'] at h6
        exact s.fit.apart j l u w a jl z z' h3 h4 h5 h6

mutual
def tslots : T → List Nat
  | .name i => [i]
  | .tup ts => tsslots ts
def tsslots : Ts → List Nat
  | .nil => []
  | .cons t ts => tslots t ++ tsslots ts
end
def OnlyAt (vs : List Nat) (σ σ' : St) : Prop := σ'.length = σ.length ∧ ∀ i, i ∉ vs → σ'[i]? = σ[i]?
theorem OnlyAt.trans {vs σ σ1 σ2} (a : OnlyAt vs σ σ1) (b : OnlyAt vs σ1 σ2) : OnlyAt vs σ σ2 := ⟨b.1.trans a.1, fun i h => (b.2 i h).trans (a.2 i h)⟩
theorem OnlyAt.mono {vs ws σ σ'} (a : OnlyAt vs σ σ') (h : ∀ i ∈ vs, i ∈ ws) : OnlyAt ws σ σ' := ⟨a.1, fun i n => a.2 i fun z => n (h i z)⟩
theorem wipe_at : ∀ (vs : List Nat) (σ : St) (i : Nat), (wipe σ vs)[i]? = if i ∈ vs then (if i < σ.length then some none else none) else σ[i]?
  | [], σ, i => by simp [wipe]
  | v :: r, σ, i => by
    unfold wipe
    by_cases e : v = i
    · subst e
      by_cases hl : v < σ.length
      · rw [List.getElem?_set_self (by rw [wipe_length]; exact hl)]; simp [hl]
      · rw [List.getElem?_eq_none (by rw [List.length_set, wipe_length]; omega)]; simp [hl]
    · rw [List.getElem?_set_ne e, wipe_at r]
      simp [Ne.symm e]
theorem wipe_only {vs σ σ'} (h : OnlyAt vs σ σ') : wipe σ' vs = wipe σ vs := by
  apply List.ext_getElem?
  intro i
  rw [wipe_at, wipe_at]
  split
  · rw [h.1]
  · rename_i n; exact h.2 i n
theorem wipe_wipe {vs σ} : wipe (wipe σ vs) vs = wipe σ vs := by
  apply List.ext_getElem?
  intro i
  rw [wipe_at, wipe_at, wipe_length]
  split <;> rfl
def SndG (X : Cx) (tg : Expr) (t : T) : Prop := ∃ g : TG, PG X tg g ∧
  ∀ A H σ ρ v d ρ', Fit A H σ ρ → Rep A H v d → asgT t d ρ = some ρ' → ∀ Q : St → Hp → Prop, (∀ σ', Stp A H σ ρ A H σ' ρ' → OnlyAt (tslots t) σ σ' → Q σ' H) → g v σ H Q
def SndGs (X : Cx) (tgs : List Expr) (ts : Ts) : Prop := ∃ g : TGs, PGs X tgs g ∧
  ∀ A H σ ρ vs ds ρ', Fit A H σ ρ → RepAll A H vs ds → asgTs ts ds ρ = some ρ' → ∀ Q : St → Hp → Prop, (∀ σ', Stp A H σ ρ A H σ' ρ' → OnlyAt (tsslots ts) σ σ' → Q σ' H) → g vs σ H Q
def locB (q : Sc) (x : Str) : Bool := match q.sc.names.lookup x with
  | some .local => true
  | some .cell => q.fs x
  | _ => false
section
variable {X : Cx} {N : List Str} {q : Sc} {F : FT}
theorem loc_of (C : CtxOk X N q F) {x} (h : locB q x = true) : Loc X.env.scope x ∧ (X.fn x = true ∨ X.env.scope.names.lookup x = some .local) := by
  unfold locB at h
  rw [C.sc, C.fn]
  split at h
  · exact ⟨.inl (by assumption), .inr (by assumption)⟩
  · exact ⟨.inr (by assumption), .inl h⟩
  · cases h
theorem only_set {σ : St} {i : Nat} {v} : OnlyAt [i] σ (σ.set i v) := ⟨List.length_set, fun j h => List.getElem?_set_ne (fun e => h (by simp [e]))⟩
theorem sndG_name (C : CtxOk X N q F) {i x pos} (hN : N[i]? = some x) (hl : locB q x = true) : SndG X (.Name x pos) (.name i) := by
  obtain ⟨h1, h2⟩ := loc_of C hl
  refine ⟨_, pg_name C.nd (by rw [C.N]; exact hN) h1 h2, fun A H σ ρ v d ρ' ft r e Q k => ?_⟩
  simp only [asgT] at e
  obtain ⟨t, ht, nm, rfl⟩ := put_inv e
  exact k _ (stp_fz ft ht nm r) only_set
theorem sndGs_nil : SndGs X [] .nil := by
  refine ⟨_, pgs_nil, fun A H σ ρ vs ds ρ' ft r e Q k => ?_⟩
  cases r with
  | nil => simp only [asgTs] at e; cases e; exact ⟨rfl, k σ (Stp.refl ft) ⟨rfl, fun _ _ => rfl⟩⟩
  | cons _ _ => simp only [asgTs] at e; cases e
theorem assign_cons {e : Expr} {es : List Expr} {env : PySem.Env} (h : notStar e = true) : assignEach (e :: es) env = (false, assign e env) :: assignEach es env := by
  cases e <;> first | rfl | cases h
theorem sndGs_cons {e es t ts} (hn : notStar e = true) (h : SndG X e t) (hs : SndGs X es ts) : SndGs X (e :: es) (.cons t ts) := by
  obtain ⟨g, pg, qg⟩ := h
  obtain ⟨gs, pgs, qgs⟩ := hs
  refine ⟨_, pgs_cons pg pgs (by rw [assign_cons hn]; rfl), fun A H σ ρ vs ds ρ' ft r e Q k => ?_⟩
  cases r with
  | nil => simp only [asgTs] at e; cases e
  | cons r1 r2 =>
    simp only [asgTs] at e
    split at e
    · rename_i ρ1 e1
      refine ⟨_, _, rfl, qg A H σ ρ _ _ ρ1 ft r1 e1 _ fun σ1 s1 o1 => ?_⟩
      refine qgs A H σ1 ρ1 _ _ ρ' s1.fit r2 e _ fun σ2 s2 o2 => ?_
      exact k σ2 (s1.trans s2) ((o1.mono fun i h => List.mem_append_left _ h).trans (o2.mono fun i h => List.mem_append_right _ h))
    · cases e
theorem assign_len {es : List Expr} {env : PySem.Env} : (assignEach es env).length = es.length := by
  induction es with
  | nil => rfl
  | cons e r ih => cases e <;> simp [assignEach, ih]
theorem assign_nostar {es : List Expr} {env : PySem.Env} (h : es.all notStar = true) : (assignEach es env).findIdx? (·.1) = none := by
  induction es with
  | nil => rfl
  | cons e r ih =>
    rw [List.all_cons, Bool.and_eq_true] at h
    rw [assign_cons h.1, List.findIdx?_cons]
    simp [ih h.2]
theorem asgTs_len : ∀ {ts ds ρ ρ'}, asgTs ts ds ρ = some ρ' → ∀ {tgs}, SndGs X tgs ts → True := fun _ _ _ => trivial
def tsLen : Ts → Nat
  | .nil => 0
  | .cons _ ts => tsLen ts + 1
theorem asgTs_tsLen : ∀ {ts ds ρ ρ'}, asgTs ts ds ρ = some ρ' → ds.length = tsLen ts
  | .nil, [], _, _, _ => rfl
  | .nil, _ :: _, _, _, e => by simp [asgTs] at e
  | .cons _ _, [], _, _, e => by simp [asgTs] at e
  | .cons t ts, d :: ds, ρ, ρ', e => by
    simp only [asgTs] at e
    split at e
    · simp [tsLen, asgTs_tsLen e]
    · cases e
theorem sndG_tup (C : CtxOk X N q F) {es k pos ts} (hl : es.length = tsLen ts) (st : es.all notStar = true) (h : SndGs X es ts) : SndG X (.Tuple es k pos) (.tup ts) := by
  obtain ⟨g, pg, qg⟩ := h
  refine ⟨_, pg_tup C.calm pg assign_len (assign_nostar st), fun A H σ ρ v d ρ' ft r e Q k => ?_⟩
  cases r with
  | tup h1 h2 h3 h4 =>
    simp only [asgT] at e
    exact ⟨_, _, rfl, SqT.of h2, by rw [h4.length, asgTs_tsLen e, hl], qg A H σ ρ _ _ ρ' ft h4 e Q fun σ' s o => k σ' s o⟩
  | _ => simp only [asgT] at e; cases e

/-! ### readings that hang on the evaluator alone -/
def tE (f : Env → Option (Res × Env)) : TE := fun σ H Q => ∃ A ρ r ρ', Fit A H σ ρ ∧ f ρ = some (r, ρ') ∧ ∀ A' H' v, Stp A H σ ρ A' H' σ ρ' → Rep A' H' v r.d → Q v H'
def tT (f : Env → Option (Bool × Env)) : TT := fun σ H Q => ∃ A ρ b ρ', Fit A H σ ρ ∧ f ρ = some (b, ρ') ∧ ∀ A' H', Stp A H σ ρ A' H' σ ρ' → Q b H'
def gT (t : T) : TG := fun v σ H Q => ∃ A ρ d ρ', Fit A H σ ρ ∧ Rep A H v d ∧ asgT t d ρ = some ρ' ∧ ∀ σ', Stp A H σ ρ A H σ' ρ' → OnlyAt (tslots t) σ σ' → Q σ' H
theorem SndE.pe {e f} (h : SndE X e f) : PE X e (tE f) := by
  obtain ⟨t, p, hq⟩ := h.d
  exact ⟨fun pins s σ H Q I ⟨A, ρ, r, ρ', ft, e, k⟩ => p.run pins s σ H Q I (hq A H σ ρ r ρ' ft e Q k)⟩
theorem SndG.pg {tg t} (h : SndG X tg t) : PG X tg (gT t) := by
  obtain ⟨g, p, hq⟩ := h
  exact ⟨fun pins s σ H v u Q I rv ⟨A, ρ, d, ρ', ft, r, e, k⟩ => p.run pins s σ H v u Q I rv (hq A H σ ρ v d ρ' ft r e Q k)⟩
/-- the tests of a comprehension -/
def SndC (X : Cx) (ifs : List Expr) (f : Env → Option (Bool × Env)) : Prop := ∃ t : TT, PTs X ifs t ∧
  ∀ A H σ ρ b ρ', Fit A H σ ρ → f ρ = some (b, ρ') → ∀ Q : Bool → Hp → Prop, (∀ A' H', Stp A H σ ρ A' H' σ ρ' → Q b H') → t σ H Q
theorem SndC.pts {ifs f} (h : SndC X ifs f) : PTs X ifs (tT f) := by
  obtain ⟨t, p, hq⟩ := h
  exact ⟨fun pins s σ H Q I ⟨A, ρ, b, ρ', ft, e, k⟩ => p.run pins s σ H Q I (hq A H σ ρ b ρ' ft e Q k)⟩
theorem sndC_nil : SndC X [] (fun ρ => some (true, ρ)) := ⟨_, pts_nil, fun A H σ ρ b ρ' ft e Q k => by cases e; exact k A H (Stp.refl ft)⟩
def fCond (fa : Env → Option (Res × Env)) (ρ : Env) : Option (Bool × Env) := match fa ρ with
    | some (.fr (.bool i), ρ1) => some (i, ρ1)
    | _ => none
theorem sndC_one {e f} (h : SndT X e f) : SndC X [e] (fCond f) := by
  obtain ⟨t, p, hq⟩ := h
  refine ⟨_, pts_one p, fun A H σ ρ b ρ' ft e Q k => ?_⟩
  unfold fCond at e
  split at e
  · rename_i i ρ1 e1
    cases e
    exact hq A H σ ρ b ρ' ft e1 Q k
  · cases e
end
end Ev

set_option maxRecDepth 100000
/-! Ev11: list comprehensions. -/
namespace Ev
open PySem L2
variable [TheK]

theorem wipeE_len : ∀ (vs : List Nat) (ρ : Env), (wipeE vs ρ).length = ρ.length
  | [], ρ => rfl
  | v :: r, ρ => by unfold wipeE; rw [List.length_set, wipeE_len r]
theorem wipeE_at : ∀ (vs : List Nat) (ρ : Env) (i : Nat), (wipeE vs ρ)[i]? = if i ∈ vs then (if i < ρ.length then some .un else none) else ρ[i]?
  | [], ρ, i => by simp [wipeE]
  | v :: r, ρ, i => by
    unfold wipeE
    by_cases e : v = i
    · subst e
      by_cases hl : v < ρ.length
      · rw [List.getElem?_set_self (by rw [wipeE_len]; exact hl)]; simp [hl]
      · rw [List.getElem?_eq_none (by rw [List.length_set, wipeE_len]; omega)]; simp [hl]
    · rw [List.getElem?_set_ne e, wipeE_at r]
      simp [Ne.symm e]
theorem backE_len : ∀ (vs : List Nat) (ρ0 ρ : Env), (backE vs ρ0 ρ).length = ρ.length
  | [], _, ρ => rfl
  | v :: r, ρ0, ρ => by
    unfold backE
    split
    · rw [List.length_set, backE_len r]
    · exact backE_len r ρ0 ρ
theorem backE_at : ∀ (vs : List Nat) (ρ0 ρ : Env) (i : Nat), ρ0.length = ρ.length → (backE vs ρ0 ρ)[i]? = if i ∈ vs then ρ0[i]? else ρ[i]?
  | [], ρ0, ρ, i, _ => by simp [backE]
  | v :: r, ρ0, ρ, i, hl => by
    unfold backE
    split
    · rename_i s hs
      by_cases e : v = i
      · subst e
        rw [List.getElem?_set_self (by rw [backE_len, ← hl]; exact (List.getElem?_eq_some_iff.mp hs).1)]
        simp [hs]
      · rw [List.getElem?_set_ne e, backE_at r ρ0 ρ i hl]
        simp [Ne.symm e]
    · rename_i hn
      rw [backE_at r ρ0 ρ i hl]
      by_cases e : i = v
      · subst e
        have h0 : ρ0[i]? = none := hn
        have h1 : ρ[i]? = none := List.getElem?_eq_none (by rw [← hl]; exact List.getElem?_eq_none_iff.mp h0)
        simp [h0, h1]
      · simp [e]
theorem wipeE_inv {vs ρ} {i : Nat} {s : Slot} (h : (wipeE vs ρ)[i]? = some s) : s = .un ∨ (i ∉ vs ∧ ρ[i]? = some s) := by
  rw [wipeE_at] at h
  split at h
  · split at h
    · cases h; exact .inl rfl
    · cases h
  · rename_i n; exact .inr ⟨n, h⟩
theorem wipe_at_not {vs σ} {i : Nat} (h : i ∉ vs) : (wipe σ vs)[i]? = σ[i]? := by rw [wipe_at, if_neg h]
theorem Stp.wipe {A H σ0 ρ0 A' H' σ ρ vs} (s : Stp A H σ0 ρ0 A' H' σ ρ) (nm : ∀ i ∈ vs, ∀ ds, ρ0[i]? = some (.mu ds) → False) : Stp A H σ0 ρ0 A' H' (wipe σ vs) (wipeE vs ρ) where
  ext := s.ext
  frame := s.frame
  dom := s.dom
  sub := fun a ⟨i, t, h1, h2, h3⟩ => by
    rcases wipeE_inv h1 with rfl | ⟨n, h⟩
    · cases h2
    · rw [wipe_at_not n] at h3; exact s.sub a ⟨i, t, h, h2, h3⟩
  mus := fun i ds h => by
    have n : i ∉ vs := fun z => nm i z ds h
    obtain ⟨e1, ds', e2⟩ := s.mus i ds h
    exact ⟨by rw [wipe_at_not n]; exact e1, ds', by rw [wipeE_at, if_neg n]; exact e2⟩
  news := s.news
  lents := fun i t h o => by
    rcases wipeE_inv h with rfl | ⟨n, h⟩
    · cases o
    · rw [wipe_at_not n]; exact s.lents i t h o
  fit := by
    refine ⟨by rw [wipe_length, wipeE_len]; exact s.fit.len, fun i t ov h1 h2 => ?_, fun i j t u a ij h1 h2 h3 h4 h5 h6 => ?_, s.fit.trk⟩
    · rcases wipeE_inv h1 with rfl | ⟨n, h⟩
      · trivial
      · rw [wipe_at_not n] at h2; exact s.fit.slot i t ov h h2
    · rcases wipeE_inv h1 with rfl | ⟨n, h⟩
      · cases h3
      · rcases wipeE_inv h2 with rfl | ⟨n', h'⟩
        · cases h4
        · rw [wipe_at_not n] at h5; rw [wipe_at_not n'] at h6
          exact s.fit.apart i j t u a ij h h' h3 h4 h5 h6
/-- the names of the block are what they were -/
theorem Stp.back {A H σ ρ0 A' H' ρ vs} (f : Fit A H σ ρ0) (s : Stp A H σ ρ0 A' H' (L2.wipe σ vs) ρ) (qt : ∀ i ∈ vs, ∃ t, ρ0[i]? = some t ∧ quietS t = true) : Stp A H σ ρ0 A' H' σ (backE vs ρ0 ρ) := by
  have hl : ρ0.length = ρ.length := by rw [← f.len, ← s.fit.len, wipe_length]
  have inv : ∀ (i : Nat) (t : Slot), (backE vs ρ0 ρ)[i]? = some t → (i ∈ vs ∧ ρ0[i]? = some t ∧ quietS t = true) ∨ (i ∉ vs ∧ ρ[i]? = some t) := fun i t h => by
    rw [backE_at vs ρ0 ρ i hl] at h
    split at h
    · rename_i hi
      obtain ⟨u, q1, q2⟩ := qt i hi
      rw [h] at q1; cases q1
      exact .inl ⟨hi, h, q2⟩
    · rename_i hi; exact .inr ⟨hi, h⟩
  refine ⟨s.ext, s.frame, s.dom, fun a ⟨i, t, h1, h2, h3⟩ => ?_, fun i ds h => ?_, s.news, fun i t h o => ?_, ⟨by rw [backE_len, ← hl]; exact f.len, fun i t ov h1 h2 => ?_, fun i j t u a ij h1 h2 h3 h4 h5 h6 => ?_, s.fit.trk⟩⟩
  · rcases inv i t h1 with ⟨_, _, z⟩ | ⟨n, z⟩
    · cases t <;> first | (cases h2; done) | (cases z; done)
    · exact s.sub a ⟨i, t, z, h2, by rw [wipe_at_not n]; exact h3⟩
  · have n : i ∉ vs := fun z => by
      obtain ⟨u, q1, q2⟩ := qt i z
      rw [h] at q1; cases q1; cases q2
    obtain ⟨_, ds', e2⟩ := s.mus i ds h
    exact ⟨rfl, ds', by rw [backE_at vs ρ0 ρ i hl, if_neg n]; exact e2⟩
  · rcases inv i t h with ⟨_, _, z⟩ | ⟨n, z⟩
    · cases t <;> first | (cases o; done) | (cases z; done)
    · exact ⟨(s.lents i t z o).1, rfl⟩
  · rcases inv i t h1 with ⟨_, z, z2⟩ | ⟨n, z⟩
    · exact (f.slot i t ov z h2).go s.ext (s.keep f) (fun a o lb => by cases t <;> first | (cases lb; done) | (cases z2; done)) (fun a lv => by cases t <;> first | (cases lv; done) | (cases z2; done)) (fun a o u e => s.frame a _ e fun m => (f.mut_nofrz m _ _ e).elim)
    · exact s.fit.slot i t ov z (by rw [wipe_at_not n]; exact h2)
  · rcases inv i t h1 with ⟨_, _, z⟩ | ⟨n, z⟩
    · cases t <;> first | (cases h3; done) | (cases z; done)
    · rcases inv j u h2 with ⟨_, _, z'⟩ | ⟨n', z'⟩
      · cases u <;> first | (cases h4; done) | (cases z'; done)
      · exact s.fit.apart i j t u a ij z z' h3 h4 (by rw [wipe_at_not n]; exact h5) (by rw [wipe_at_not n']; exact h6)
/-- no slot holds the object at D -/
def NoRef (σ : St) (ρ : Env) (D : Addr) : Prop := ∀ (j : Nat) (s : Slot), ρ[j]? = some s → liveB s = true → σ[j]? ≠ some (some (.ref D))
theorem NoRef.nomut {σ ρ D} (n : NoRef σ ρ D) : ¬ Mut σ ρ D := fun ⟨i, s, h1, h2, h3⟩ => n i s h1 (by cases s <;> first | rfl | (cases h2; done)) h3
theorem NoRef.stp {A H σ ρ A' H' σ' ρ' D o} (n : NoRef σ ρ D) (s : Stp A H σ ρ A' H' σ' ρ') (h : H D = some o) : NoRef σ' ρ' D := fun j t h1 h2 h3 => by
  by_cases hm : mutS t = true
  · rcases s.sub D ⟨j, t, h1, hm, h3⟩ with q | q
    · exact n.nomut q
    · rw [h] at q; cases q
  · have ho : oldS t = true := by cases t <;> first | rfl | (cases h2; done) | exact absurd rfl hm
    obtain ⟨e1, e2⟩ := s.lents j t h1 ho
    exact n j t e1 h2 (by rw [← e2]; exact h3)
theorem nofrz_stp {A H σ ρ A' H' σ' ρ' D o} (na : ¬ A D) (n : NoRef σ ρ D) (s : Stp A H σ ρ A' H' σ' ρ') (h : H D = some o) : ¬ A' D := fun z => by
  rcases s.news D z with q | q | q | ⟨i, ds, q1, q2⟩
  · exact na q
  · rw [h] at q; cases q
  · exact n.nomut q
  · exact n i _ q1 rfl q2
/-- an object that nobody of these holds is written -/
theorem Stp.other {A H σ ρ A' H' σ' ρ' D o} (s : Stp A H σ ρ A' H' σ' ρ') (h0 : H D = none) (na : ¬ A' D) (n : NoRef σ' ρ' D) (hd : ∀ o u, H' D ≠ some (.frz o u)) : Stp A H σ ρ A' (upd H' D o) σ' ρ' := by
  have k : Keep A' H' (upd H' D o) := fun b u hb e => by
    have : b ≠ D := fun z => na (z ▸ hb)
    rw [upd_ne this]; exact e
  refine ⟨s.ext, fun a u e m => ?_, fun a e => ?_, s.sub, s.mus, s.news, s.lents, ⟨s.fit.len, fun i t ov h1 h2 => ?_, s.fit.apart, fun a ha => let ⟨u, e⟩ := s.fit.trk a ha; ⟨u, k a u ha e⟩⟩⟩
  · rw [upd_ne (ne_of_none e h0)]; exact s.frame a u e m
  · by_cases z : a = D
    · subst z; exact h0
    · rw [upd_ne z] at e; exact s.dom a e
  · exact (s.fit.slot i t ov h1 h2).go (fun _ z => z) k (fun a u lb e z => by
      subst e
      have : a ≠ D := fun y => by subst y; exact n i t h1 lb h2
      rw [upd_ne this]; exact z) (fun a lv e => by subst e; exact (s.fit.slot i t _ h1 h2).nofz lv) fun a o u e => (by
      have : a ≠ D := fun y => by subst y; exact hd o u e
      rw [upd_ne this]; exact e)
def stepC (t : T) (vs : List Nat) (fc : Env → Option (Bool × Env)) (fe : Env → Option (Res × Env)) (d : D) (ρ : Env) : Option (Option D × Env) := match asgT t d ρ with
        | none => none
        | some ρa => match fc ρa with
          | none => none
          | some (false, ρb) => some (none, wipeE vs ρb)
          | some (true, ρb) => match fe ρb with
            | none => none
            | some (r, ρc) => some (some r.d, wipeE vs ρc)
def fComp (t : T) (vs : List Nat) (fi : Env → Option (List D × Env × List Nat)) (fc : Env → Option (Bool × Env)) (fe : Env → Option (Res × Env)) (ρ : Env) : Option (Res × Env) := match fi ρ with
    | none => none
    | some (ds, ρ0, ls) => if (vs.all fun v => match (lendL ls ρ0)[v]? with | some s => quietS s | none => false) = false then none else
      match compL (stepC t vs fc fe) ds (wipeE vs (lendL ls ρ0)) with
      | none => none
      | some (r, ρ2) => some (.nw r, unlend ls (backE vs (lendL ls ρ0) ρ2))
theorem comp_core {wi : TI} {t : T} {vs : List Nat} {fi fc fe} (hts : ∀ i ∈ tslots t, i ∈ vs)
    (qi : ∀ A H σ ρ ds ρ0 ls, Fit A H σ ρ → fi ρ = some (ds, ρ0, ls) → ∀ R : L2.It → Hp → Prop,
      (∀ A' H' J G, Stp A H σ ρ A' H' σ ρ0 → IterOk A' H' G J ds → (∀ a, G a → ¬ Mut σ (lendL ls ρ0) a ∧ Held A' σ ρ0 a) → ds.length ≤ sizeLine → Owns ρ0 ls → R J H') → wi σ H R)
    {A H σ ρ r ρ'} (ft : Fit A H σ ρ) (e : fComp t vs fi fc fe ρ = some (r, ρ')) (Q : VK) (k : ∀ A' H' v, Stp A H σ ρ A' H' σ ρ' → ResOk A' H H' σ ρ' v r → Q v H') :
    tLc wi (gT t) (tT fc) (tE fe) vs σ H Q := by
  unfold fComp at e
  split at e
  · cases e
  · rename_i ds ρ0 ls e1
    split at e
    · cases e
    · rename_i hq
      split at e
      · cases e
      · rename_i rr ρ2 e2
        cases e
        have hq : ∀ i ∈ vs, ∃ s, (lendL ls ρ0)[i]? = some s ∧ quietS s = true := fun i hi => by
          have := (List.all_eq_true.mp (by simpa using hq : (vs.all fun v => match (lendL ls ρ0)[v]? with | some s => quietS s | none => false) = true)) i hi
          split at this
          · rename_i s hs; exact ⟨s, hs, this⟩
          · cases this
        have nm : ∀ i ∈ vs, ∀ es, (lendL ls ρ0)[i]? = some (.mu es) → False := fun i hi es h => by
          obtain ⟨s, z1, z2⟩ := hq i hi
          rw [h] at z1; cases z1; cases z2
        refine qi A H σ ρ ds ρ0 ls ft e1 _ fun A1 H1 J G s1 io gm lens ow => ?_
        have f1 := s1.fit.lend ls
        obtain ⟨gt, gw⟩ := io
        intro D hD
        have nD : ¬ A1 D := f1.nofrz hD
        have rD : NoRef σ (lendL ls ρ0) D := fun j s h1 h2 => f1.noref hD j s h1 h2
        have b0 : Stp A1 H1 σ (lendL ls ρ0) A1 H1 (L2.wipe σ vs) (wipeE vs (lendL ls ρ0)) := (Stp.refl f1).wipe nm
        have rD0 : NoRef (L2.wipe σ vs) (wipeE vs (lendL ls ρ0)) D := fun j s h1 h2 h3 => by
          rcases wipeE_inv h1 with rfl | ⟨n, h⟩
          · cases h2
          · rw [wipe_at_not n] at h3; exact rD j s h h2 h3
        refine ⟨fun i m Hc => m = ds.length - i ∧ i ≤ ds.length ∧ ∃ (Ac : Addr → Prop) (ρb : Env) (vacc : List V) (dacc rest : List Ev.D), Stp A1 H1 σ (lendL ls ρ0) Ac Hc (L2.wipe σ vs) ρb ∧ Hc D = some (.lst vacc) ∧ vacc.length ≤ i ∧ RepAll Ac Hc vacc dacc ∧ ¬ Ac D ∧
          NoRef (L2.wipe σ vs) ρb D ∧ compL (stepC t vs fc fe) (ds.drop i) ρb = some (rest, ρ2) ∧ dacc ++ rest = rr,
          ⟨ds.length, rfl, Nat.zero_le _, A1, _, [], [], rr, b0.other hD nD rD0 (fun o u z => by rw [hD] at z; cases z), upd_same, Nat.le_refl _, .nil, nD, rD0, e2, rfl⟩, ?_⟩
        rintro i m Hc ⟨rfl, hi, Ac, ρb, vacc, dacc, rest, sb, hDc, hl, ra, nDc, rDc, ec, er⟩
        have kc : Keep A1 H1 Hc := sb.keep f1
        have gk : ∀ a o, G a → H1 a = some o → Hc a = some o := fun a o hg z => sb.frame a o z (gm a hg).1
        obtain ⟨g1, g2, g3⟩ := gw Ac Hc sb.ext kc gk i
        by_cases hlt : i < ds.length
        · refine .inr ⟨g1 hlt, ?_⟩
          rw [List.drop_eq_getElem_cons hlt] at ec
          simp only [compL] at ec
          split at ec
          · cases ec
          · rename_i o ρ3 e3
            split at ec
            · cases ec
            · rename_i r2 ρ4 e4
              cases ec
              -- what the turn is to reach
              refine ⟨fun Hn => ∃ (An : Addr → Prop) (vn : List V) (dn : List Ev.D), Stp A1 H1 σ (lendL ls ρ0) An Hn (L2.wipe σ vs) ρ3 ∧ Hn D = some (.lst vn) ∧ vn.length ≤ i + 1 ∧ RepAll An Hn vn dn ∧ ¬ An D ∧ NoRef (L2.wipe σ vs) ρ3 D ∧ dn ++ r2 = rr, fun Hn hn => ?_, fun x H' y => ?_⟩
              · obtain ⟨An, vn, dn, z1, z2, z3, z4, z5, z6, z7⟩ := hn
                exact ⟨ds.length - (i + 1), by omega, rfl, hlt, An, ρ3, vn, dn, r2, z1, z2, z3, z4, z5, z6, e4, z7⟩
              · -- the item
                have item : ∃ A', Stp Ac Hc (L2.wipe σ vs) ρb A' H' (L2.wipe σ vs) ρb ∧ Rep A' H' x ds[i] := by
                  rcases g3 x H' ds[i] (List.getElem?_eq_getElem hlt) y with ⟨rfl, rx⟩ | ⟨p, o', hp, rfl, rx⟩
                  · exact ⟨Ac, Stp.refl sb.fit, rx⟩
                  · exact ⟨_, Stp.frz sb.fit hp, rx⟩
                obtain ⟨A', si, rx⟩ := item
                unfold stepC at e3
                split at e3
                · cases e3
                · rename_i ρa ea
                  refine ⟨A', ρb, ds[i], ρa, si.fit, rx, ea, fun σ' sa oa => ?_⟩
                  have wv : L2.wipe σ' vs = L2.wipe σ vs := by rw [wipe_only (oa.mono hts), wipe_wipe]
                  refine ⟨wv, ?_⟩
                  split at e3
                  · cases e3
                  · rename_i ρb' ec'
                    cases e3
                    refine ⟨A', ρa, false, ρb', sa.fit, ec', fun A2 H2 s2 => ?_⟩
                    show if false = true then _ else _
                    rw [if_neg Bool.false_ne_true]
                    have tot := (si.trans sa).trans s2
                    have all := (sb.trans tot).wipe nm
                    rw [wv] at all
                    have rn := rDc.stp tot hDc
                    refine ⟨A2, vacc, dacc, all, tot.frame D _ hDc rDc.nomut, Nat.le_succ_of_le hl, RepAll.mono tot.ext (tot.keep sb.fit) ra, nofrz_stp nDc rDc tot hDc, fun j s h1 h2 h3 => ?_, er⟩
                    rcases wipeE_inv h1 with rfl | ⟨n, h⟩
                    · cases h2
                    · rw [← wv, wipe_at_not n] at h3; exact rn j s h h2 h3
                  · rename_i ρb' ec'
                    split at e3
                    · cases e3
                    · rename_i re ρc ee
                      cases e3
                      refine ⟨A', ρa, true, ρb', sa.fit, ec', fun A2 H2 s2 => ?_⟩
                      show if true = true then _ else _
                      rw [if_pos rfl]
                      refine ⟨A2, ρb', re, ρc, s2.fit, ee, fun A3 H3 y3 s3 r3 => ?_⟩
                      have tot := ((si.trans sa).trans s2).trans s3
                      have all := (sb.trans tot).wipe nm
                      rw [wv] at all
                      have rn := rDc.stp tot hDc
                      have hD3 := tot.frame D _ hDc rDc.nomut
                      have na3 := nofrz_stp nDc rDc tot hDc
                      have rn3 : NoRef (L2.wipe σ vs) (wipeE vs ρc) D := fun j s h1 h2 h3 => by
                        rcases wipeE_inv h1 with rfl | ⟨n, h⟩
                        · cases h2
                        · rw [← wv, wipe_at_not n] at h3; exact rn j s h h2 h3
                      have kD : Keep A3 H3 (upd H3 D (.lst (vacc ++ [y3]))) := fun b u hb e => by
                        have : b ≠ D := fun z => na3 (z ▸ hb)
                        rw [upd_ne this]; exact e
                      refine ⟨vacc, hD3, by omega, A3, vacc ++ [y3], dacc ++ [re.d], all.other hD na3 rn3 (fun o u z => by rw [hD3] at z; cases z), upd_same, by rw [List.length_append, List.length_singleton]; omega, ?_, na3, rn3, by rw [List.append_assoc]; exact er⟩
                      exact RepAll.mono (fun _ z => z) kD ((RepAll.mono tot.ext (tot.keep sb.fit) ra).append (.one r3))
        · have ie : i = ds.length := by omega
          subst ie
          refine .inl ⟨g2 (Nat.le_refl _), ?_⟩
          rw [List.drop_length] at ec
          simp only [compL] at ec
          cases ec
          rw [List.append_nil] at er
          subst er
          have sk := Stp.back f1 sb hq
          have su := Stp.unlend ow sk
          refine k Ac Hc _ (s1.trans su) ⟨D, vacc, rfl, hDc, by omega, ra, nDc, s1.dom D hD, fun j s h1 h2 => ?_⟩
          have hl2 : (lendL ls ρ0).length = ρ2.length := by rw [← f1.len, ← sb.fit.len, wipe_length]
          have bk : ∀ (u : Slot), (backE vs (lendL ls ρ0) ρ2)[j]? = some u → liveB u = true → σ[j]? ≠ some (some (.ref D)) := fun u hu lu h3 => by
            rw [backE_at vs _ _ j hl2] at hu
            split at hu
            · rename_i hj
              obtain ⟨u', z1, z2⟩ := hq j hj
              rw [hu] at z1; cases z1
              cases u <;> first | (cases lu; done) | (cases z2; done)
            · rename_i hj
              exact rDc j u hu lu (by rw [wipe_at_not hj]; exact h3)
          rcases unlend_inv h1 with ⟨z, _⟩ | ⟨es, rfl, z, _⟩
          · exact bk s z h2
          · exact bk _ z rfl
def fSetc (srt : Bool) (t : T) (vs : List Nat) (fi : Env → Option (List D × Env × List Nat)) (fc : Env → Option (Bool × Env)) (fe : Env → Option (Res × Env)) (ρ : Env) : Option (Res × Env) := match fi ρ with
    | none => none
    | some (ds, ρ0, ls) => if (vs.all fun v => match (lendL ls ρ0)[v]? with | some s => quietS s | none => false) = false then none else
      match compL (stepC t vs fc fe) ds (wipeE vs (lendL ls ρ0)) with
      | none => none
      | some (r, ρ2) => (setR srt r).map fun x => (x, unlend ls (backE vs (lendL ls ρ0) ρ2))
theorem fSetc_eq {srt t vs fi fc fe ρ} : fSetc srt t vs fi fc fe ρ = match fComp t vs fi fc fe ρ with
    | some (.nw r, ρ1) => (setR srt r).map fun x => (x, ρ1)
    | _ => none := by
  unfold fSetc fComp
  cases h1 : fi ρ with
  | none => rfl
  | some p =>
    obtain ⟨ds, ρ0, ls⟩ := p
    simp only
    by_cases hq : (vs.all fun v => match (lendL ls ρ0)[v]? with | some s => quietS s | none => false) = false
    · rw [if_pos hq, if_pos hq]
    · rw [if_neg hq, if_neg hq]
      cases h2 : compL (stepC t vs fc fe) ds (wipeE vs (lendL ls ρ0)) with
      | none => rfl
      | some q => rfl
/-! ### two clauses -/
def tI (f : Env → Option (List D × Env × List Nat)) : TI := fun σ H R => ∃ A ρ ds ρ0 ls, Fit A H σ ρ ∧ f ρ = some (ds, ρ0, ls) ∧
  ∀ A' H' J G, Stp A H σ ρ A' H' σ ρ0 → IterOk A' H' G J ds → (∀ a, G a → ¬ Mut σ (lendL ls ρ0) a ∧ Held A' σ ρ0 a) → ds.length ≤ sizeLine → Owns ρ0 ls → R J H'
theorem SndI.pi {X : Cx} {tg iter : Expr} {f} (h : SndI X tg iter f) : PI X tg iter (tI f) := by
  obtain ⟨wi, p, hq⟩ := h
  exact ⟨fun pins s σ H R I ⟨A, ρ, ds, ρ0, ls, ft, e, k⟩ => p.run pins s σ H R I (hq A H σ ρ ds ρ0 ls ft e R k)⟩
/-- the heap without an address -/
def del (H : Hp) (D : Addr) : Hp := fun a => if a = D then none else H a
theorem del_ne {H : Hp} {D a : Addr} (h : a ≠ D) : del H D a = H a := if_neg h
theorem del_at (H : Hp) (D : Addr) : del H D D = none := if_pos rfl
theorem upd_del {H : Hp} {D : Addr} {o : HO} (h : H D = some o) : upd (del H D) D o = H := by
  funext a
  by_cases e : a = D
  · subst e; rw [upd_same, h]
  · rw [upd_ne e, del_ne e]
theorem Stp.del {A H σ ρ A' H' σ' ρ' D} (s : Stp A H σ ρ A' H' σ' ρ') (h0 : H D = none) (na : ¬ A' D) (n : NoRef σ' ρ' D) (hd : ∀ o u, H' D ≠ some (.frz o u)) : Stp A H σ ρ A' (del H' D) σ' ρ' := by
  have k : Keep A' H' (Ev.del H' D) := fun b u hb e => by
    have : b ≠ D := fun z => na (z ▸ hb)
    rw [del_ne this]; exact e
  refine ⟨s.ext, fun a u e m => ?_, fun a e => ?_, s.sub, s.mus, s.news, s.lents, ⟨s.fit.len, fun i t ov h1 h2 => ?_, s.fit.apart, fun a ha => let ⟨u, e⟩ := s.fit.trk a ha; ⟨u, k a u ha e⟩⟩⟩
  · rw [del_ne (ne_of_none e h0)]; exact s.frame a u e m
  · by_cases z : a = D
    · subst z; exact h0
    · rw [del_ne z] at e; exact s.dom a e
  · exact (s.fit.slot i t ov h1 h2).go (fun _ z => z) k (fun a u lb e z => by
      subst e
      have : a ≠ D := fun y => by subst y; exact n i t h1 lb h2
      rw [del_ne this]; exact z) (fun a lv e => by subst e; exact (s.fit.slot i t _ h1 h2).nofz lv) fun a o u e => (by
      have : a ≠ D := fun y => by subst y; exact hd o u e
      rw [del_ne this]; exact e)
theorem IterOk.del {A : Addr → Prop} {H : Hp} {G : Addr → Prop} {J : L2.It} {ds : List D} {D : Addr} (io : IterOk A H G J ds) (na : ¬ A D) (ng : ¬ G D) : IterOk A (Ev.del H D) G J ds := by
  obtain ⟨g1, g2⟩ := io
  refine ⟨fun a ha => ?_, fun A' H' e k kg i => g2 A' H' e (fun b u hb z => ?_) (fun a o ha z => ?_) i⟩
  · obtain ⟨o, z⟩ := g1 a ha
    have : a ≠ D := fun y => ng (y ▸ ha)
    exact ⟨o, by rw [del_ne this]; exact z⟩
  · have : b ≠ D := fun y => na (y ▸ hb)
    exact k b u hb (by rw [del_ne this]; exact z)
  · have : a ≠ D := fun y => ng (y ▸ ha)
    exact kg a o ha (by rw [del_ne this]; exact z)
/-- the turns of a comprehension's last clause, from a list that is begun -/
theorem loop_core {t : T} {vs : List Nat} {fc fe} (hts : ∀ i ∈ tslots t, i ∈ vs) {A1 : Addr → Prop} {H1 : Hp} {σ : St} {ρ1 : Env} {G : Addr → Prop} {J : L2.It} {ds : List Ev.D} {D : Addr} {vacc0 : List V} {dacc0 r : List Ev.D} {ρ2 : Env} {Fin : Hp → Prop}
    (f1 : Fit A1 H1 σ ρ1) (hq : ∀ i ∈ vs, ∃ s, ρ1[i]? = some s ∧ quietS s = true) (io : IterOk A1 H1 G J ds) (gm : ∀ a, G a → ¬ Mut σ ρ1 a)
    (hD : H1 D = none) (nD : ¬ A1 D) (rD : NoRef σ ρ1 D) (ra0 : RepAll A1 (upd H1 D (.lst vacc0)) vacc0 dacc0) (e2 : compL (stepC t vs fc fe) ds (wipeE vs ρ1) = some (r, ρ2)) (hz : (dacc0 ++ r).length ≤ sizeLine)
    (K : ∀ Ac Hc vacc, Stp A1 H1 σ ρ1 Ac Hc (L2.wipe σ vs) ρ2 → Hc D = some (.lst vacc) → RepAll Ac Hc vacc (dacc0 ++ r) → ¬ Ac D → NoRef (L2.wipe σ vs) ρ2 D → Fin Hc) :
    ∃ W : Nat → Nat → Hp → Prop, (∃ m, W 0 m (upd H1 D (.lst vacc0))) ∧ ∀ i m H, W i m H →
      (J.stop i H ∧ Fin H) ∨ (J.go i H ∧ ∃ Nx : Hp → Prop, (∀ H', Nx H' → ∃ m', m' < m ∧ W (i + 1) m' H') ∧ ∀ x H', J.yld i H x H' → gT t x (L2.wipe σ vs) H' fun σ2 H2 => L2.wipe σ2 vs = L2.wipe σ vs ∧ tT fc σ2 H2 fun b H3 =>
        if b = true then tE fe σ2 H3 fun y H4 => ∃ acc, H4 D = some (.lst acc) ∧ acc.length < sizeLine ∧ Nx (upd H4 D (.lst (acc ++ [y]))) else Nx H3) := by
  have nm : ∀ i ∈ vs, ∀ es, ρ1[i]? = some (.mu es) → False := fun i hi es h => by
    obtain ⟨s, z1, z2⟩ := hq i hi
    rw [h] at z1; cases z1; cases z2
  obtain ⟨gt, gw⟩ := io
  have b0 : Stp A1 H1 σ ρ1 A1 H1 (L2.wipe σ vs) (wipeE vs ρ1) := (Stp.refl f1).wipe nm
  have rD0 : NoRef (L2.wipe σ vs) (wipeE vs ρ1) D := fun j s h1 h2 h3 => by
    rcases wipeE_inv h1 with rfl | ⟨n, h⟩
    · cases h2
    · rw [wipe_at_not n] at h3; exact rD j s h h2 h3
  refine ⟨fun i m Hc => m = ds.length - i ∧ i ≤ ds.length ∧ ∃ (Ac : Addr → Prop) (ρb : Env) (vacc : List V) (dacc rest : List Ev.D), Stp A1 H1 σ ρ1 Ac Hc (L2.wipe σ vs) ρb ∧ Hc D = some (.lst vacc) ∧ RepAll Ac Hc vacc dacc ∧ ¬ Ac D ∧
    NoRef (L2.wipe σ vs) ρb D ∧ compL (stepC t vs fc fe) (ds.drop i) ρb = some (rest, ρ2) ∧ dacc ++ rest = dacc0 ++ r,
    ⟨ds.length, rfl, Nat.zero_le _, A1, _, vacc0, dacc0, r, b0.other hD nD rD0 (fun o u z => by rw [hD] at z; cases z), upd_same, ra0, nD, rD0, e2, rfl⟩, ?_⟩
  rintro i m Hc ⟨rfl, hi, Ac, ρb, vacc, dacc, rest, sb, hDc, ra, nDc, rDc, ec, er⟩
  have kc : Keep A1 H1 Hc := sb.keep f1
  have gk : ∀ a o, G a → H1 a = some o → Hc a = some o := fun a o hg z => sb.frame a o z (gm a hg)
  obtain ⟨g1, g2, g3⟩ := gw Ac Hc sb.ext kc gk i
  by_cases hlt : i < ds.length
  · refine .inr ⟨g1 hlt, ?_⟩
    rw [List.drop_eq_getElem_cons hlt] at ec
    simp only [compL] at ec
    split at ec
    · cases ec
    · rename_i o ρ3 e3
      split at ec
      · cases ec
      · rename_i r2 ρ4 e4
        cases ec
        refine ⟨fun Hn => ∃ (An : Addr → Prop) (vn : List V) (dn : List Ev.D), Stp A1 H1 σ ρ1 An Hn (L2.wipe σ vs) ρ3 ∧ Hn D = some (.lst vn) ∧ RepAll An Hn vn dn ∧ ¬ An D ∧ NoRef (L2.wipe σ vs) ρ3 D ∧ dn ++ r2 = dacc0 ++ r, fun Hn hn => ?_, fun x H' y => ?_⟩
        · obtain ⟨An, vn, dn, z1, z2, z4, z5, z6, z7⟩ := hn
          exact ⟨ds.length - (i + 1), by omega, rfl, hlt, An, ρ3, vn, dn, r2, z1, z2, z4, z5, z6, e4, z7⟩
        · have item : ∃ A', Stp Ac Hc (L2.wipe σ vs) ρb A' H' (L2.wipe σ vs) ρb ∧ Rep A' H' x ds[i] := by
            rcases g3 x H' ds[i] (List.getElem?_eq_getElem hlt) y with ⟨rfl, rx⟩ | ⟨p, o', hp, rfl, rx⟩
            · exact ⟨Ac, Stp.refl sb.fit, rx⟩
            · exact ⟨_, Stp.frz sb.fit hp, rx⟩
          obtain ⟨A', si, rx⟩ := item
          unfold stepC at e3
          split at e3
          · cases e3
          · rename_i ρa ea
            refine ⟨A', ρb, ds[i], ρa, si.fit, rx, ea, fun σ' sa oa => ?_⟩
            have wv : L2.wipe σ' vs = L2.wipe σ vs := by rw [wipe_only (oa.mono hts), wipe_wipe]
            refine ⟨wv, ?_⟩
            split at e3
            · cases e3
            · rename_i ρb' ec'
              cases e3
              refine ⟨A', ρa, false, ρb', sa.fit, ec', fun A2 H2 s2 => ?_⟩
              show if false = true then _ else _
              rw [if_neg Bool.false_ne_true]
              have tot := (si.trans sa).trans s2
              have all := (sb.trans tot).wipe nm
              rw [wv] at all
              have rn := rDc.stp tot hDc
              refine ⟨A2, vacc, dacc, all, tot.frame D _ hDc rDc.nomut, RepAll.mono tot.ext (tot.keep sb.fit) ra, nofrz_stp nDc rDc tot hDc, fun j s h1 h2 h3 => ?_, er⟩
              rcases wipeE_inv h1 with rfl | ⟨n, h⟩
              · cases h2
              · rw [← wv, wipe_at_not n] at h3; exact rn j s h h2 h3
            · rename_i ρb' ec'
              split at e3
              · cases e3
              · rename_i re ρc ee
                cases e3
                refine ⟨A', ρa, true, ρb', sa.fit, ec', fun A2 H2 s2 => ?_⟩
                show if true = true then _ else _
                rw [if_pos rfl]
                refine ⟨A2, ρb', re, ρc, s2.fit, ee, fun A3 H3 y3 s3 r3 => ?_⟩
                have tot := ((si.trans sa).trans s2).trans s3
                have all := (sb.trans tot).wipe nm
                rw [wv] at all
                have rn := rDc.stp tot hDc
                have hD3 := tot.frame D _ hDc rDc.nomut
                have na3 := nofrz_stp nDc rDc tot hDc
                have rn3 : NoRef (L2.wipe σ vs) (wipeE vs ρc) D := fun j s h1 h2 h3 => by
                  rcases wipeE_inv h1 with rfl | ⟨n, h⟩
                  · cases h2
                  · rw [← wv, wipe_at_not n] at h3; exact rn j s h h2 h3
                have kD : Keep A3 H3 (upd H3 D (.lst (vacc ++ [y3]))) := fun b u hb e => by
                  have : b ≠ D := fun z => na3 (z ▸ hb)
                  rw [upd_ne this]; exact e
                have hlen : vacc.length < sizeLine := by
                  rw [ra.length]
                  have := congrArg List.length er
                  simp only [List.length_append, List.length_cons] at this hz
                  omega
                refine ⟨vacc, hD3, hlen, A3, vacc ++ [y3], dacc ++ [re.d], all.other hD na3 rn3 (fun o u z => by rw [hD3] at z; cases z), upd_same, ?_, na3, rn3, by rw [List.append_assoc]; exact er⟩
                exact RepAll.mono (fun _ z => z) kD ((RepAll.mono tot.ext (tot.keep sb.fit) ra).append (.one r3))
  · have ie : i = ds.length := by omega
    subst ie
    refine .inl ⟨g2 (Nat.le_refl _), ?_⟩
    rw [List.drop_length] at ec
    simp only [compL] at ec
    cases ec
    rw [List.append_nil] at er
    subst er
    exact K Ac Hc vacc sb hDc ra nDc rDc
def step2 (t : T) (vs : List Nat) (fc0 : Env → Option (Bool × Env)) (fi1 : Env → Option (List D × Env × List Nat)) (t1 : T) (vs1 : List Nat) (fc : Env → Option (Bool × Env)) (fe : Env → Option (Res × Env)) (d : D) (ρ : Env) : Option (List D × Env) := match asgT t d ρ with
        | none => none
        | some ρa => match fc0 ρa with
          | none => none
          | some (false, ρb) => some ([], wipeE vs ρb)
          | some (true, ρb) => match fi1 ρb with
            | some (ds1, ρ1, []) => if (vs1.all fun v => match ρ1[v]? with | some s => quietS s | none => false) = false then none else
              match compL (stepC t1 vs1 fc fe) ds1 (wipeE vs1 ρ1) with
              | none => none
              | some (r, ρ2) => some (r, wipeE vs ρ2)
            | _ => none
def fComp2 (t : T) (vs : List Nat) (fi : Env → Option (List D × Env × List Nat)) (fc0 : Env → Option (Bool × Env)) (fi1 : Env → Option (List D × Env × List Nat)) (t1 : T) (vs1 : List Nat) (fc : Env → Option (Bool × Env)) (fe : Env → Option (Res × Env)) (ρ : Env) : Option (Res × Env) := match fi ρ with
    | none => none
    | some (ds, ρ0, ls) => if (vs.all fun v => match (lendL ls ρ0)[v]? with | some s => quietS s | none => false) = false then none else
      match compL2 (step2 t vs fc0 fi1 t1 vs1 fc fe) ds (wipeE vs (lendL ls ρ0)) with
      | none => none
      | some (r, ρ2) => if r.length ≤ sizeLine then some (.nw r, unlend ls (backE vs (lendL ls ρ0) ρ2)) else none
theorem wipe_in {vs vs1 : List Nat} (h : ∀ i ∈ vs1, i ∈ vs) (σ : St) : L2.wipe (L2.wipe σ vs1) vs = L2.wipe σ vs := by
  apply List.ext_getElem?
  intro i
  simp only [wipe_at, wipe_length]
  by_cases hi : i ∈ vs
  · simp [hi]
  · have : i ∉ vs1 := fun z => hi (h i z)
    simp [hi, this]
theorem comp2_core {wi : TI} {t t1 : T} {vs vs1 : List Nat} {fi fc0 fi1 fc fe} (hts : ∀ i ∈ tslots t, i ∈ vs) (hts1 : ∀ i ∈ tslots t1, i ∈ vs1) (hvs : ∀ i ∈ vs1, i ∈ vs)
    (qi : ∀ A H σ ρ ds ρ0 ls, Fit A H σ ρ → fi ρ = some (ds, ρ0, ls) → ∀ R : L2.It → Hp → Prop,
      (∀ A' H' J G, Stp A H σ ρ A' H' σ ρ0 → IterOk A' H' G J ds → (∀ a, G a → ¬ Mut σ (lendL ls ρ0) a ∧ Held A' σ ρ0 a) → ds.length ≤ sizeLine → Owns ρ0 ls → R J H') → wi σ H R)
    {A H σ ρ r ρ'} (ft : Fit A H σ ρ) (e : fComp2 t vs fi fc0 fi1 t1 vs1 fc fe ρ = some (r, ρ')) (Q : VK) (k : ∀ A' H' v, Stp A H σ ρ A' H' σ ρ' → ResOk A' H H' σ ρ' v r → Q v H') :
    tLc2 wi (gT t) (tT fc0) (tI fi1) (gT t1) (tT fc) (tE fe) vs vs1 σ H Q := by
  unfold fComp2 at e
  split at e
  · cases e
  · rename_i ds ρ0 ls e1
    split at e
    · cases e
    · rename_i hq
      split at e
      · cases e
      · rename_i rr ρ2 e2
        split at e
        · rename_i hz
          cases e
          have hq : ∀ i ∈ vs, ∃ s, (lendL ls ρ0)[i]? = some s ∧ quietS s = true := fun i hi => by
            have := (List.all_eq_true.mp (by simpa using hq : (vs.all fun v => match (lendL ls ρ0)[v]? with | some s => quietS s | none => false) = true)) i hi
            split at this
            · rename_i s hs; exact ⟨s, hs, this⟩
            · cases this
          have nm : ∀ i ∈ vs, ∀ es, (lendL ls ρ0)[i]? = some (.mu es) → False := fun i hi es h => by
            obtain ⟨s, z1, z2⟩ := hq i hi
            rw [h] at z1; cases z1; cases z2
          refine qi A H σ ρ ds ρ0 ls ft e1 _ fun A1 H1 J G s1 io gm lens ow => ?_
          have f1 := s1.fit.lend ls
          obtain ⟨gt, gw⟩ := io
          intro D hD
          have nD : ¬ A1 D := f1.nofrz hD
          have rD : NoRef σ (lendL ls ρ0) D := fun j s h1 h2 => f1.noref hD j s h1 h2
          have b0 : Stp A1 H1 σ (lendL ls ρ0) A1 H1 (L2.wipe σ vs) (wipeE vs (lendL ls ρ0)) := (Stp.refl f1).wipe nm
          have rD0 : NoRef (L2.wipe σ vs) (wipeE vs (lendL ls ρ0)) D := fun j s h1 h2 h3 => by
            rcases wipeE_inv h1 with rfl | ⟨n, h⟩
            · cases h2
            · rw [wipe_at_not n] at h3; exact rD j s h h2 h3
          refine ⟨fun i m Hc => m = ds.length - i ∧ i ≤ ds.length ∧ ∃ (Ac : Addr → Prop) (ρb : Env) (vacc : List V) (dacc rest : List Ev.D), Stp A1 H1 σ (lendL ls ρ0) Ac Hc (L2.wipe σ vs) ρb ∧ Hc D = some (.lst vacc) ∧ RepAll Ac Hc vacc dacc ∧ ¬ Ac D ∧
            NoRef (L2.wipe σ vs) ρb D ∧ compL2 (step2 t vs fc0 fi1 t1 vs1 fc fe) (ds.drop i) ρb = some (rest, ρ2) ∧ dacc ++ rest = rr,
            ⟨ds.length, rfl, Nat.zero_le _, A1, _, [], [], rr, b0.other hD nD rD0 (fun o u z => by rw [hD] at z; cases z), upd_same, .nil, nD, rD0, e2, rfl⟩, ?_⟩
          rintro i m Hc ⟨rfl, hi, Ac, ρb, vacc, dacc, rest, sb, hDc, ra, nDc, rDc, ec, er⟩
          have kc : Keep A1 H1 Hc := sb.keep f1
          have gk : ∀ a o, G a → H1 a = some o → Hc a = some o := fun a o hg z => sb.frame a o z (gm a hg).1
          obtain ⟨g1, g2, g3⟩ := gw Ac Hc sb.ext kc gk i
          by_cases hlt : i < ds.length
          · refine .inr ⟨g1 hlt, ?_⟩
            rw [List.drop_eq_getElem_cons hlt] at ec
            simp only [compL2] at ec
            split at ec
            · cases ec
            · rename_i o ρ3 e3
              split at ec
              · cases ec
              · rename_i r2 ρ4 e4
                cases ec
                refine ⟨fun Hn => ∃ (An : Addr → Prop) (vn : List V) (dn : List Ev.D), Stp A1 H1 σ (lendL ls ρ0) An Hn (L2.wipe σ vs) ρ3 ∧ Hn D = some (.lst vn) ∧ RepAll An Hn vn dn ∧ ¬ An D ∧ NoRef (L2.wipe σ vs) ρ3 D ∧ dn ++ r2 = rr, fun Hn hn => ?_, fun x H' y => ?_⟩
                · obtain ⟨An, vn, dn, z1, z2, z4, z5, z6, z7⟩ := hn
                  exact ⟨ds.length - (i + 1), by omega, rfl, hlt, An, ρ3, vn, dn, r2, z1, z2, z4, z5, z6, e4, z7⟩
                · have item : ∃ A', Stp Ac Hc (L2.wipe σ vs) ρb A' H' (L2.wipe σ vs) ρb ∧ Rep A' H' x ds[i] := by
                    rcases g3 x H' ds[i] (List.getElem?_eq_getElem hlt) y with ⟨rfl, rx⟩ | ⟨p, o', hp, rfl, rx⟩
                    · exact ⟨Ac, Stp.refl sb.fit, rx⟩
                    · exact ⟨_, Stp.frz sb.fit hp, rx⟩
                  obtain ⟨A', si, rx⟩ := item
                  unfold step2 at e3
                  split at e3
                  · cases e3
                  · rename_i ρa ea
                    refine ⟨A', ρb, ds[i], ρa, si.fit, rx, ea, fun σ' sa oa => ?_⟩
                    have wv : L2.wipe σ' vs = L2.wipe σ vs := by rw [wipe_only (oa.mono hts), wipe_wipe]
                    refine ⟨wv, ?_⟩
                    split at e3
                    · cases e3
                    · rename_i ρb' ec'
                      cases e3
                      refine ⟨A', ρa, false, ρb', sa.fit, ec', fun A2 H2 s2 => ?_⟩
                      show if false = true then _ else _
                      rw [if_neg Bool.false_ne_true]
                      have tot := (si.trans sa).trans s2
                      have all := (sb.trans tot).wipe nm
                      rw [wv] at all
                      have rn := rDc.stp tot hDc
                      refine ⟨A2, vacc, dacc, all, tot.frame D _ hDc rDc.nomut, RepAll.mono tot.ext (tot.keep sb.fit) ra, nofrz_stp nDc rDc tot hDc, fun j s h1 h2 h3 => ?_, er⟩
                      rcases wipeE_inv h1 with rfl | ⟨n, h⟩
                      · cases h2
                      · rw [← wv, wipe_at_not n] at h3; exact rn j s h h2 h3
                    · rename_i ρb' ec'
                      split at e3
                      · rename_i ds1 ρ1 ei
                        split at e3
                        · cases e3
                        · rename_i hq1
                          split at e3
                          · cases e3
                          · rename_i r1 ρ2' ee
                            cases e3
                            have hq1 : ∀ i ∈ vs1, ∃ s, ρ1[i]? = some s ∧ quietS s = true := fun i hi => by
                              have := (List.all_eq_true.mp (by simpa using hq1 : (vs1.all fun v => match ρ1[v]? with | some s => quietS s | none => false) = true)) i hi
                              split at this
                              · rename_i s hs; exact ⟨s, hs, this⟩
                              · cases this
                            refine ⟨A', ρa, true, ρb', sa.fit, ec', fun A2 H2 s2 => ?_⟩
                            show if true = true then _ else _
                            rw [if_pos rfl]
                            refine ⟨A2, ρb', ds1, ρ1, [], s2.fit, ei, fun A3 H3 J1 G1 s3 io1 gm1 len1 ow1 => ?_⟩
                            have tot := ((si.trans sa).trans s2).trans s3
                            have rn := rDc.stp tot hDc
                            have hD3 := tot.frame D _ hDc rDc.nomut
                            have na3 := nofrz_stp nDc rDc tot hDc
                            have sd := (sb.trans tot).del hD na3 rn (fun o u z => by rw [hD3] at z; cases z)
                            have ng : ¬ G1 D := fun z => by
                              rcases (gm1 D z).2 with h | ⟨j, s, h1, h2, h3⟩
                              · exact na3 h
                              · exact rn j s h1 h2 h3
                            have lc := loop_core (t := t1) (vs := vs1) (fc := fc) (fe := fe) hts1 (D := D) (vacc0 := vacc) (dacc0 := dacc) (r := o) (ρ2 := ρ2')
                              (Fin := fun Hn => ∃ (An : Addr → Prop) (vn : List V) (dn : List Ev.D), Stp A1 H1 σ (lendL ls ρ0) An Hn (L2.wipe σ vs) (wipeE vs ρ2') ∧ Hn D = some (.lst vn) ∧ RepAll An Hn vn dn ∧ ¬ An D ∧ NoRef (L2.wipe σ vs) (wipeE vs ρ2') D ∧ dn ++ r2 = rr)
                              sd.fit hq1 (io1.del na3 ng) (fun a ha => (gm1 a ha).1) (del_at _ _) na3 rn (by rw [upd_del hD3]; exact RepAll.mono tot.ext (tot.keep sb.fit) ra) ee
                              (by
                                have := congrArg List.length er
                                simp only [List.length_append] at this ⊢
                                omega)
                              (fun Ac' Hc' vacc' sK hDK raK naK rnK => by
                                have all := (sd.trans sK).wipe nm
                                rw [wipe_in hvs, wv] at all
                                refine ⟨Ac', vacc', dacc ++ o, all, hDK, raK, naK, fun j s h1 h2 h3 => ?_, by rw [List.append_assoc]; exact er⟩
                                rcases wipeE_inv h1 with rfl | ⟨n, h⟩
                                · cases h2
                                · rw [← wv, ← wipe_in hvs, wipe_at_not n] at h3; exact rnK j s h h2 h3)
                            rw [upd_del hD3] at lc
                            exact lc
                      · cases e3
          · have ie : i = ds.length := by omega
            subst ie
            refine .inl ⟨g2 (Nat.le_refl _), ?_⟩
            rw [List.drop_length] at ec
            simp only [compL2] at ec
            cases ec
            rw [List.append_nil] at er
            subst er
            have sk := Stp.back f1 sb hq
            have su := Stp.unlend ow sk
            refine k Ac Hc _ (s1.trans su) ⟨D, vacc, rfl, hDc, by rw [ra.length]; exact hz, ra, nDc, s1.dom D hD, fun j s h1 h2 => ?_⟩
            have hl2 : (lendL ls ρ0).length = ρ2.length := by rw [← f1.len, ← sb.fit.len, wipe_length]
            have bk : ∀ (u : Slot), (backE vs (lendL ls ρ0) ρ2)[j]? = some u → liveB u = true → σ[j]? ≠ some (some (.ref D)) := fun u hu lu h3 => by
              rw [backE_at vs _ _ j hl2] at hu
              split at hu
              · rename_i hj
                obtain ⟨u', z1, z2⟩ := hq j hj
                rw [hu] at z1; cases z1
                cases u <;> first | (cases lu; done) | (cases z2; done)
              · rename_i hj
                exact rDc j u hu lu (by rw [wipe_at_not hj]; exact h3)
            rcases unlend_inv h1 with ⟨z, _⟩ | ⟨es, rfl, z, _⟩
            · exact bk s z h2
            · exact bk _ z rfl
        · cases e
end Ev

set_option maxRecDepth 100000
/-! Ev12: statements. -/
namespace Ev
open PySem L2
variable [TheK]

def RtOk (A : Addr → Prop) (Hs H : Hp) (σ : St) (ρ : Env) (v : V) : Res → Prop
  | .fr d => Rep A H v d
  | .nw ds => ∃ a vs, v = .ref a ∧ H a = some (.lst vs) ∧ vs.length ≤ sizeLine ∧ RepAll A H vs ds ∧ ¬ A a ∧ (Hs a = none ∨ ∃ i : Nat, ρ[i]? = some (.own ds) ∧ σ[i]? = some (some (.ref a)))
theorem RtOk.start {A Hs Hs' H σ ρ v r} (h : RtOk A Hs H σ ρ v r) (d : ∀ a, Hs a = none → Hs' a = none) : RtOk A Hs' H σ ρ v r := by
  cases r with
  | fr _ => exact h
  | nw _ => obtain ⟨a, vs, h1, h2, h3, h4, h5, h6⟩ := h; exact ⟨a, vs, h1, h2, h3, h4, h5, h6.imp (d a) id⟩
/-- what is wanted behind a statement that ends so -/
def Kont (A : Addr → Prop) (H : Hp) (σ : St) (ρ : Env) (Dn : Ends) (ρ' : Env) : Out → Prop
  | .next => ∀ A' H' σ', Stp A H σ ρ A' H' σ' ρ' → Dn.nx σ' H'
  | .brk => ∀ A' H' σ', Stp A H σ ρ A' H' σ' ρ' → Dn.bk σ' H'
  | .cont => ∀ A' H' σ', Stp A H σ ρ A' H' σ' ρ' → Dn.ct σ' H'
  | .ret r => ∀ A' H' σ' v, Stp A H σ ρ A' H' σ' ρ' → RtOk A' H H' σ' ρ' v r → Dn.rt v H'
theorem Kont.after {A H σ ρ Dn ρ' o A1 H1 σ1 ρ1} (s : Stp A H σ ρ A1 H1 σ1 ρ1) (k : Kont A H σ ρ Dn ρ' o) : Kont A1 H1 σ1 ρ1 Dn ρ' o := by
  cases o with
  | next => exact fun A' H' σ' s' => k A' H' σ' (s.trans s')
  | brk => exact fun A' H' σ' s' => k A' H' σ' (s.trans s')
  | cont => exact fun A' H' σ' s' => k A' H' σ' (s.trans s')
  | ret r => exact fun A' H' σ' v s' r' => k A' H' σ' v (s.trans s') (r'.start s.dom)
def SndS (X : Cx) (st : Stmt) (f : Env → Option (Out × Env)) : Prop := ∃ t : TS, PS X st t ∧
  ∀ A H σ ρ o ρ', Fit A H σ ρ → f ρ = some (o, ρ') → ∀ Dn : Ends, Kont A H σ ρ Dn ρ' o → t Dn σ H
def SndSs (X : Cx) (st : List Stmt) (f : Env → Option (Out × Env)) : Prop := ∃ t : TS, PSs X st t ∧
  ∀ A H σ ρ o ρ', Fit A H σ ρ → f ρ = some (o, ρ') → ∀ Dn : Ends, Kont A H σ ρ Dn ρ' o → t Dn σ H
section
variable {X : Cx} {N : List Str} {q : Sc} {F : FT}
theorem sndSs_nil : SndSs X [] (fun ρ => some (.next, ρ)) := ⟨_, pss_nil, fun A H σ ρ o ρ' ft e Dn k => by cases e; exact k A H σ (Stp.refl ft)⟩
def fSeqS (fa fb : Env → Option (Out × Env)) (ρ : Env) : Option (Out × Env) := match fa ρ with
    | some (.next, ρ1) => fb ρ1
    | x => x
theorem sndSs_cons {st rest fa fb} (ha : SndS X st fa) (hb : SndSs X rest fb) : SndSs X (st :: rest) (fSeqS fa fb) := by
  obtain ⟨ta, pa, qa⟩ := ha
  obtain ⟨tb, pb, qb⟩ := hb
  refine ⟨_, pss_cons pa pb, fun A H σ ρ o ρ' ft e Dn k => ?_⟩
  unfold fSeqS at e
  split at e
  · rename_i ρ1 e1
    refine qa A H σ ρ .next ρ1 ft e1 _ fun A1 H1 σ1 s1 => ?_
    exact qb A1 H1 σ1 ρ1 o ρ' s1.fit e Dn (k.after s1)
  · rename_i n
    refine qa A H σ ρ o ρ' ft e _ ?_
    cases o with
    | next => exact absurd e (n ρ')
    | brk => exact k
    | cont => exact k
    | ret r => exact k
theorem snd_pass {pos} : SndS X (.Pass pos) (fun ρ => some (.next, ρ)) := ⟨_, ps_pass, fun A H σ ρ o ρ' ft e Dn k => by cases e; exact k A H σ (Stp.refl ft)⟩
theorem snd_brk {pos} : SndS X (.Break pos) (fun ρ => some (.brk, ρ)) := ⟨_, ps_break, fun A H σ ρ o ρ' ft e Dn k => by cases e; exact k A H σ (Stp.refl ft)⟩
theorem snd_cont {pos} : SndS X (.Continue pos) (fun ρ => some (.cont, ρ)) := ⟨_, ps_continue, fun A H σ ρ o ρ' ft e Dn k => by cases e; exact k A H σ (Stp.refl ft)⟩
theorem snd_retN {pos} : SndS X (.Return none pos) (fun ρ => some (.ret (.fr .none), ρ)) := ⟨_, ps_retN, fun A H σ ρ o ρ' ft e Dn k => by cases e; exact k A H σ .non (Stp.refl ft) .none⟩
def fDrop (fa : Env → Option (Res × Env)) (ρ : Env) : Option (Out × Env) := (fa ρ).map fun p => (.next, p.2)
def isComp : Expr → Bool
  | .ListComp .. | .SetComp .. | .DictComp .. => true
  | _ => false
theorem swaps_no {e : Expr} {t l env} (h : isComp e = false) : swapsWith e t l env = pure false := by
  cases e <;> first | rfl | cases h
theorem snd_ex {e pos fa} (hc : isComp e = false) (ha : SndE X e fa) : SndS X (.Expr e pos) (fDrop fa) := by
  obtain ⟨t, p, hq⟩ := ha.d
  refine ⟨_, ps_expr p (swaps_no hc), fun A H σ ρ o ρ' ft e Dn k => ?_⟩
  unfold fDrop at e
  cases e1 : fa ρ with
  | none => rw [e1] at e; cases e
  | some r =>
    rw [e1] at e
    cases e
    exact hq A H σ ρ r.1 r.2 ft e1 _ fun A' H' v s _ => k A' H' σ s
def fRet (fa : Env → Option (Res × Env)) (ρ : Env) : Option (Out × Env) := (fa ρ).map fun p => (.ret p.1, p.2)
theorem snd_ret {e pos fa} (ha : SndE X e fa) : SndS X (.Return (some e) pos) (fRet fa) := by
  obtain ⟨t, p, hq⟩ := ha
  refine ⟨_, ps_ret p, fun A H σ ρ o ρ' ft e Dn k => ?_⟩
  unfold fRet at e
  cases e1 : fa ρ with
  | none => rw [e1] at e; cases e
  | some r =>
    rw [e1] at e
    cases e
    refine hq A H σ ρ r.1 r.2 ft e1 _ fun A' H' v s ok => k A' H' σ v s ?_
    generalize r.1 = r1 at ok
    cases r1 with
    | fr d => exact ok
    | nw ds => obtain ⟨a, vs, h1, h2, h3, h4, h5, h6, _⟩ := ok; exact ⟨a, vs, h1, h2, h3, h4, h5, .inl h6⟩
def fRetV (i : Nat) (ρ : Env) : Option (Out × Env) := match ρ[i]? with
    | some (.fz d) => some (.ret (.fr d), ρ)
    | some (.own ds) => some (.ret (.nw ds), ρ)
    | _ => none
theorem snd_retV (C : CtxOk X N q F) {i x px pos} (h : nameB N q i x = true) : SndS X (.Return (some (.Name x px)) pos) (fRetV i) := by
  refine ⟨_, ps_ret (pe_name C h), fun A H σ ρ o ρ' ft e Dn k => ?_⟩
  unfold fRetV at e
  split at e
  · rename_i d hs
    cases e
    obtain ⟨ov, e1, w, rfl, r⟩ := ft.at hs
    exact ⟨w, e1, k A H σ w (Stp.refl ft) r⟩
  · rename_i ds hs
    cases e
    obtain ⟨ov, e1, a, vs, rfl, q1, q2, q3, q4⟩ := ft.at hs
    exact ⟨_, e1, k A H σ _ (Stp.refl ft) ⟨a, vs, rfl, q1, q2, q3, q4, .inr ⟨i, hs, e1⟩⟩⟩
  · cases e
def fIfS (fc : Env → Option (Res × Env)) (fa fb : Env → Option (Out × Env)) (ρ : Env) : Option (Out × Env) := match fc ρ with
    | some (.fr (.bool true), ρ1) => fa ρ1
    | some (.fr (.bool false), ρ1) => fb ρ1
    | _ => none
theorem snd_ife {c a b pos fc fa fb} (hc : SndT X c fc) (ha : SndSs X a fa) (hb : SndSs X b fb) : SndS X (.If c a b pos) (fIfS fc fa fb) := by
  obtain ⟨tc, pc, qc⟩ := hc
  obtain ⟨ta, pa, qa⟩ := ha
  obtain ⟨tb, pb, qb⟩ := hb
  refine ⟨_, ps_if pc pa pb, fun A H σ ρ o ρ' ft e Dn k => ?_⟩
  unfold fIfS at e
  split at e
  · rename_i ρ1 e1
    refine qc A H σ ρ _ ρ1 ft e1 _ fun A1 H1 s1 => ?_
    show if true = true then _ else _
    rw [if_pos rfl]
    exact qa A1 H1 σ ρ1 o ρ' s1.fit e Dn (k.after s1)
  · rename_i ρ1 e1
    refine qc A H σ ρ _ ρ1 ft e1 _ fun A1 H1 s1 => ?_
    show if false = true then _ else _
    rw [if_neg Bool.false_ne_true]
    exact qb A1 H1 σ ρ1 o ρ' s1.fit e Dn (k.after s1)
  · cases e

/-! ### names are set -/
def fAsg (t : T) (fa : Env → Option (Res × Env)) (ρ : Env) : Option (Out × Env) := match fa ρ with
    | none => none
    | some (r, ρ1) => (asgR t r ρ1).map fun ρ2 => (.next, ρ2)
theorem set_stp {A H σ ρ A1 H1 v r ρ1 i ρ'} (ft : Fit A H σ ρ) (s : Stp A H σ ρ A1 H1 σ ρ1) (ok : ResOk A1 H H1 σ ρ1 v r) (e : put i (slotOf r) ρ1 = some ρ') : Stp A H σ ρ A1 H1 (σ.set i (some v)) ρ' := by
  obtain ⟨t, ht, nm, rfl⟩ := put_inv e
  cases r with
  | fr d => exact s.trans (stp_fz s.fit ht nm ok)
  | nw ds =>
    refine stp_own s ht nm (fun es h => ?_) ok
    obtain ⟨_, ds', e2⟩ := s.mus i es h
    rw [ht] at e2; cases e2
    exact nm _ rfl
theorem snd_asgN (C : CtxOk X N q F) {i x px e pos fa} (hN : N[i]? = some x) (hl : locB q x = true) (hs : swapsWith e (some (.Name x px)) pos.line X.env = pure false) (ha : SndE X e fa) : SndS X (.Assign [.Name x px] e pos) (fAsg (.name i) fa) := by
  obtain ⟨t, p, hq⟩ := ha
  obtain ⟨h1, h2⟩ := loc_of C hl
  refine ⟨_, ps_set C.nd (by rw [C.N]; exact hN) h1 p hs h2, fun A H σ ρ o ρ' ft e Dn k => ?_⟩
  unfold fAsg at e
  split at e
  · cases e
  · rename_i r ρ1 e1
    simp only [asgR] at e
    cases e2 : put i (slotOf r) ρ1 with
    | none => rw [e2] at e; cases e
    | some ρ2 =>
      rw [e2] at e
      cases e
      exact hq A H σ ρ r ρ1 ft e1 _ fun A1 H1 v s1 ok => k A1 H1 _ (set_stp ft s1 ok e2)
theorem snd_asgT {tg e pos t fa} (ht : ∀ i, t ≠ .name i) (hs : swapsWithSole [tg] e pos.line X.env = pure false) (hw : swappedStores [tg] e X.env = pure none) (h1 : (assignEach [tg] X.env).map (·.2) = [assign tg X.env])
    (hg : SndG X tg t) (ha : SndE X e fa) : SndS X (.Assign [tg] e pos) (fAsg t fa) := by
  obtain ⟨te, pe, qe⟩ := ha.d
  obtain ⟨g, pg, qg⟩ := hg
  refine ⟨_, ps_asg pe pg hs hw h1, fun A H σ ρ o ρ' ft e Dn k => ?_⟩
  unfold fAsg at e
  split at e
  · cases e
  · rename_i r ρ1 e1
    have e' : (asgT t r.d ρ1).map (fun ρ2 => (Out.next, ρ2)) = some (o, ρ') := by
      cases t with
      | name i => exact absurd rfl (ht i)
      | tup ts => exact e
    cases e2 : asgT t r.d ρ1 with
    | none => rw [e2] at e'; cases e'
    | some ρ2 =>
      rw [e2] at e'
      cases e'
      refine qe A H σ ρ r ρ1 ft e1 _ fun A1 H1 v s1 r1 => ?_
      exact qg A1 H1 σ ρ1 v r.d _ s1.fit r1 e2 _ fun σ' s2 _ => k A1 H1 σ' (s1.trans s2)
def fPar (i j : Nat) (fs : Env → Option (List D × Env)) (ρ : Env) : Option (Out × Env) := match fs ρ with
    | some ([da, db], ρ2) => match put i (.fz da) ρ2 with
        | none => none
        | some ρ3 => (put j (.fz db) ρ3).map fun ρ4 => (.next, ρ4)
    | _ => none
theorem snd_par (C : CtxOk X N q F) {i j : Nat} {x y : Str} {a b : Expr} {px py pt pos : Pos} {kt k2 pt2 fs} (hi : N[i]? = some x) (hj : N[j]? = some y) (hij : i ≠ j) (hx : q.sc.names.lookup x = some .local) (hy : q.sc.names.lookup y = some .local)
    (hw : swappedStores [.Tuple [.Name x px, .Name y py] kt pt] (.Tuple [a, b] k2 pt2) X.env = pure (some [x, y])) (hs : SndA X [a, b] fs) :
    SndS X (.Assign [.Tuple [.Name x px, .Name y py] kt pt] (.Tuple [a, b] k2 pt2) pos) (fPar i j fs) := by
  obtain ⟨ts, ps, qs⟩ := hs
  refine ⟨_, ps_par C.calm C.nd (by rw [C.N]; exact hi) (by rw [C.N]; exact hj) hij (by rw [C.sc]; exact hx) (by rw [C.sc]; exact hy) ps hw, fun A H σ ρ o ρ' ft e Dn k => ?_⟩
  unfold fPar at e
  split at e
  · rename_i da db ρ2 e1
    split at e
    · cases e
    · rename_i ρ3 e2
      cases e3 : put j (.fz db) ρ3 with
      | none => rw [e3] at e; cases e
      | some ρ4 =>
        rw [e3] at e
        cases e
        refine qs A H σ ρ _ ρ2 ft e1 _ fun A1 H1 vs s1 r => ?_
        cases r with
        | cons r1 r2 =>
          cases r2 with
          | cons r2 r3 =>
            cases r3
            obtain ⟨t, ht, nm, rfl⟩ := put_inv e2
            obtain ⟨t', ht', nm', rfl⟩ := put_inv e3
            have s2 := stp_fz s1.fit ht nm r1
            exact ⟨_, _, rfl, k A1 H1 _ ((s1.trans s2).trans (stp_fz s2.fit ht' nm' (Rep.mono s2.ext (s2.keep s1.fit) r2)))⟩
  · cases e
/-- name op= e, of ints -/
def augOp (o : Bop) : Bool := match o with
  | .add | .sub | .mul => true
  | _ => false
theorem snd_iop (o : Bop) (h : augOp o = true) : ∃ r : R2, OpR X (inplaceOp (bop o)) r ∧ ∀ i j d, dBin o (.int i) (.int j) = some (.fr (.int d)) → ∀ H Q, Q (.int d) H → r (.int i) (.int j) H Q := by
  cases o <;> first | (cases h; done) | skip
  · refine ⟨_, iop_add, fun i j d e H Q k => ⟨i, j, rfl, rfl, ?_⟩⟩
    simp only [dBin] at e; cases e; exact k
  · refine ⟨_, iop_sub, fun i j d e H Q k => ⟨i, j, rfl, rfl, ?_⟩⟩
    simp only [dBin] at e; cases e; exact k
  · refine ⟨rI (fun i j => CMul i j ∨ CMulW i j) fun i j => .int (i * j), ?_, fun i j d e H Q k => ?_⟩
    · intro pins s σ H x y v u Q I rx ry h
      obtain ⟨i, j, rfl, rfl, c, q⟩ := h
      obtain ⟨t, rfl⟩ := rx
      obtain ⟨t', rfl⟩ := ry
      exact PyProof.Rows.imul_int ⟨.int _, H, I.tok _, ⟨_, rfl⟩, q⟩ (c.elim CMul.ok CMulW.ok)
    · simp only [dBin] at e
      split at e
      · rename_i hz; cases e; exact ⟨i, j, rfl, rfl, hz, k⟩
      · cases e
def fAug (o : Bop) (i : Nat) (fa : Env → Option (Res × Env)) (ρ : Env) : Option (Out × Env) := match ρ[i]? with
    | some (.fz (.int x)) => match fa ρ with
      | some (.fr (.int y), ρ1) => match dBin o (.int x) (.int y) with
        | some (.fr (.int z)) => (put i (.fz (.int z)) ρ1).map fun ρ2 => (.next, ρ2)
        | _ => none
      | _ => none
    | _ => none
theorem snd_aug (C : CtxOk X N q F) {o : Bop} {i : Nat} {x : Str} {px e pos fa} (ho : augOp o = true) (hN : N[i]? = some x) (hl : locB q x = true) (ha : SndE X e fa) : SndS X (.AugAssign (.Name x px) (bop o) e pos) (fAug o i fa) := by
  obtain ⟨t, p, hq⟩ := ha
  obtain ⟨h1, h2⟩ := loc_of C hl
  obtain ⟨r, pr, qr⟩ := snd_iop (X := X) o ho
  refine ⟨_, ps_aug C.nd (by rw [C.N]; exact hN) h1 p pr h2, fun A H σ ρ o' ρ' ft e Dn k => ?_⟩
  unfold fAug at e
  split at e
  · rename_i z hs
    obtain ⟨ov, e1, w, rfl, rw⟩ := ft.at hs
    cases rw
    refine ⟨_, e1, ?_⟩
    split at e
    · rename_i y ρ1 e2
      split at e
      · rename_i u e3
        cases e4 : put i (.fz (.int u)) ρ1 with
        | none => rw [e4] at e; cases e
        | some ρ2 =>
          rw [e4] at e
          cases e
          refine hq A H σ ρ _ ρ1 ft e2 _ fun A1 H1 v s1 ok => ?_
          cases ok
          refine qr z y u e3 H1 _ ?_
          obtain ⟨t, ht, nm, rfl⟩ := put_inv e4
          exact k A1 H1 _ (s1.trans (stp_fz s1.fit ht nm .int))
      · cases e
    · cases e
  · cases e

/-! ### an item is set -/
theorem Kont.nx {A H σ ρ Dn ρ' A1 H1 σ1} (k : Kont A H σ ρ Dn ρ' .next) (s : Stp A H σ ρ A1 H1 σ1 ρ') : Dn.nx σ1 H1 := k A1 H1 σ1 s
def fSetIx (i : Nat) (fi fa : Env → Option (Res × Env)) (ρ : Env) : Option (Out × Env) := match fa ρ with
    | none => none
    | some (r, ρ1) => match rd ρ1 i with
      | some (.list _) => match fi ρ1 with
        | some (.fr (.int k), ρ2) => match ρ2[i]? with
          | some (.own xs) => (ixN xs.length k).map fun j => (.next, ρ2.set i (.own (xs.set j r.d)))
          | some (.mu xs) => (ixN xs.length k).map fun j => (.next, ρ2.set i (.mu (xs.set j r.d)))
          | _ => none
        | _ => none
      | _ => none
/-- the address of a slot whose list is read -/
theorem rd_at {A H σ} {ρ : Env} {i : Nat} {ds} (f : Fit A H σ ρ) (h : rd ρ i = some (.list ds)) : ∃ a vs, σ[i]? = some (some (.ref a)) ∧ H a = some (.lst vs) ∧ vs.length ≤ sizeLine ∧ RepAll A H vs ds := by
  have hv : ∃ v, σ[i]? = some (some v) := by
    have h' := h
    simp only [rd] at h'
    split at h'
    · rename_i s hs
      obtain ⟨ov, e1, q⟩ := f.at hs
      cases s <;> simp only [Slot.d?, reduceCtorEq] at h'
      · obtain ⟨w, rfl, _⟩ := q; exact ⟨_, e1⟩
      all_goals (obtain ⟨a, vs, rfl, _⟩ := q; exact ⟨_, e1⟩)
    · cases h'
  obtain ⟨v, hv⟩ := hv
  obtain ⟨a, vs, rfl, h1, h2, h3⟩ := (rd_ok f hv h).list
  exact ⟨a, vs, hv, h1, h2, h3⟩
theorem list_len_set {A H vs ds} (h : RepAll A H vs ds) {n : Nat} {v : V} (hl : vs.length ≤ sizeLine) : (vs.set n v).length ≤ sizeLine := by rw [List.length_set]; exact hl
theorem snd_setIx (C : CtxOk X N q F) {i : Nat} {x : Str} {px ix e spos pos fi fa} (h : nameB N q i x = true)
    (hs : swapsWithSole [.Subscript (.Name x px) ix spos] e pos.line X.env = pure false) (hw : swappedStores [.Subscript (.Name x px) ix spos] e X.env = pure none)
    (hx : ∀ v, assign (.Subscript (.Name x px) ix spos) X.env v = (do
      let ov ← holding [v] (eval (.Name x px) X.env)
      let iv ← holding [v, ov] (eval ix X.env)
      standAt spos
      holding [v, ov, iv] (setItem ov iv v)
      release [v, ov, iv] [])) (hi : SndE X ix fi) (ha : SndE X e fa) : SndS X (.Assign [.Subscript (.Name x px) ix spos] e pos) (fSetIx i fi fa) := by
  obtain ⟨te, pe, qe⟩ := ha.d
  obtain ⟨ti, pi, qi⟩ := hi
  refine ⟨_, ps_asg pe (pg_sub (pe_name C h) pi set_list hx) hs hw rfl, fun A H σ ρ o ρ' ft e Dn k => ?_⟩
  unfold fSetIx at e
  split at e
  · cases e
  · rename_i r ρ1 e1
    split at e
    · rename_i ds0 e0
      split at e
      · rename_i kk ρ2 e2
        refine qe A H σ ρ r ρ1 ft e1 _ fun A1 H1 v s1 r1 => ?_
        obtain ⟨a, vs0, hv, _, _, _⟩ := rd_at s1.fit e0
        refine ⟨_, hv, qi A1 H1 σ ρ1 _ ρ2 s1.fit e2 _ fun A2 H2 w s2 ok => ?_⟩
        cases ok
        have go : ∀ s xs, ρ2[i]? = some s → mutL s = true → s.d? = some (.list xs) → (ixN xs.length kk).map (fun j => (Out.next, ρ2.set i (withL s (xs.set j r.d)))) = some (o, ρ') → rSetL (.ref a) (.int kk) v H2 fun H3 => Dn.nx σ H3 := fun s xs hs hm hd e => by
          cases e3 : ixN xs.length kk with
          | none => rw [e3] at e; cases e
          | some j =>
            rw [e3] at e
            cases e
            obtain ⟨a', vs', ds', q1, q2, q3, q4, q5, q6⟩ := s2.fit.mutl hs hm
            rw [hv] at q1; cases q1
            rw [hd] at q3; cases q3
            have r2 := Rep.mono s2.ext (s2.keep s1.fit) r1
            refine ⟨a, vs', kk, j, rfl, rfl, q4, by rw [q6.length]; exact e3, ?_⟩
            exact k.nx ((s1.trans s2).trans (stp_upd s2.fit hs hm hv (list_len_set q6 q5) (RepAll.set r2 j q6)))
        split at e
        · rename_i xs hs; exact go _ xs hs rfl rfl e
        · rename_i xs hs; exact go _ xs hs rfl rfl e
        · cases e
      · cases e
    · cases e
/-- o[i], by values, of a list -/
theorem get_list : PGet X (rIxL X.K) := by
  intro pins s σ H o i ov iv Q I ro ri h
  obtain ⟨p, xs, k, z, rfl, rfl, hq, he, q⟩ := h
  cases ro
  obtain ⟨t, rfl⟩ := ri
  obtain ⟨its, r, pl, hz⟩ := I.list hq
  obtain ⟨j, h1, h2, h3, h4, h5⟩ := atI_get he
  obtain ⟨w, ew, rw'⟩ := r.get h2
  have hl := r.length
  have hn := line63
  have fin : EP X pins σ Q w s := ⟨z, H, I, rw', q⟩
  by_cases h0 : 0 ≤ k
  · have hj : k.toNat = j := by
      rw [seqIndex_of h0 h5] at h1
      exact Option.some.inj h1
    exact wpAny_getItem_list pl.isList h0 (by omega) (by rw [hj]; simpa using ew) fin
  · have hj : (k + (its.toArray.size : Int)).toNat = j := by
      rw [seqIndex_neg (by omega) h4] at h1
      rw [List.size_toArray, ← hl]
      exact Option.some.inj h1
    exact wpAny_getItem_list_neg pl.isList (by omega) (by rw [List.size_toArray] <;> omega) (by omega) (by rw [hj]; simpa using ew) fin
def fAugIx (o : Bop) (i : Nat) (fi fa : Env → Option (Res × Env)) (ρ : Env) : Option (Out × Env) := match rd ρ i with
    | some (.list _) => match fi ρ with
      | some (.fr (.int k), ρ1) => match (match rd ρ1 i with | some (.list us) => atI us k | _ => none) with
        | some (.int x) => match fa ρ1 with
          | some (.fr (.int y), ρ2) => match dBin o (.int x) (.int y) with
            | some (.fr (.int z)) => match ρ2[i]? with
              | some (.own xs) => (ixN xs.length k).map fun j => (.next, ρ2.set i (.own (xs.set j (.int z))))
              | some (.mu xs) => (ixN xs.length k).map fun j => (.next, ρ2.set i (.mu (xs.set j (.int z))))
              | _ => none
            | _ => none
          | _ => none
        | _ => none
      | _ => none
    | _ => none
theorem snd_augIx (C : CtxOk X N q F) {o : Bop} {i : Nat} {x : Str} {px ix e spos pos fi fa} (ho : augOp o = true) (h : nameB N q i x = true)
    (hx : ∀ ov iv new, augStore ix ov iv new = (do holding [new, ov, iv] (setItem ov iv new); release [new, ov, iv] []; pure .next)) (hi : SndE X ix fi) (ha : SndE X e fa) :
    SndS X (.AugAssign (.Subscript (.Name x px) ix spos) (bop o) e pos) (fAugIx o i fi fa) := by
  obtain ⟨te, pe, qe⟩ := ha
  obtain ⟨ti, pi, qi⟩ := hi
  obtain ⟨r, pr, qr⟩ := snd_iop (X := X) o ho
  refine ⟨_, ps_augS (pe_name C h) pi get_list pe pr set_list hx, fun A H σ ρ o' ρ' ft e Dn k => ?_⟩
  unfold fAugIx at e
  split at e
  · rename_i ds0 e0
    obtain ⟨a, vs0, hv, _, _, _⟩ := rd_at ft e0
    split at e
    · rename_i kk ρ1 e1
      refine ⟨_, hv, qi A H σ ρ _ ρ1 ft e1 _ fun A1 H1 w s1 ok => ?_⟩
      cases ok
      split at e
      · rename_i xo ex
        split at ex
        · rename_i ds er
          obtain ⟨a', vs, hv', z1, z2, z3⟩ := rd_at s1.fit er
          rw [hv] at hv'; cases hv'
          obtain ⟨u, u1, u2⟩ := at_rep z3 ex
          cases u2
          refine ⟨a, vs, kk, _, rfl, rfl, SqL.of z1, u1, ?_⟩
          split at e
          · rename_i y ρ2 e2
            refine qe A1 H1 σ ρ1 _ ρ2 s1.fit e2 _ fun A2 H2 w2 s2 ok2 => ?_
            cases ok2
            split at e
            · rename_i zz e3
              refine qr xo y zz e3 H2 _ ?_
              have go : ∀ s xs, ρ2[i]? = some s → mutL s = true → s.d? = some (.list xs) → (ixN xs.length kk).map (fun j => (Out.next, ρ2.set i (withL s (xs.set j (.int zz))))) = some (o', ρ') → rSetL (.ref a) (.int kk) (.int zz) H2 fun H3 => Dn.nx σ H3 := fun s xs hs hm hd e => by
                cases e3 : ixN xs.length kk with
                | none => rw [e3] at e; cases e
                | some j =>
                  rw [e3] at e
                  cases e
                  obtain ⟨a', vs', ds', q1, q2, q3, q4, q5, q6⟩ := s2.fit.mutl hs hm
                  rw [hv] at q1; cases q1
                  rw [hd] at q3; cases q3
                  refine ⟨a, vs', kk, j, rfl, rfl, q4, by rw [q6.length]; exact e3, ?_⟩
                  exact k.nx ((s1.trans s2).trans (stp_upd s2.fit hs hm hv (list_len_set q6 q5) (RepAll.set .int j q6)))
              split at e
              · rename_i xs hs; exact go _ xs hs rfl rfl e
              · rename_i xs hs; exact go _ xs hs rfl rfl e
              · cases e
            · cases e
          · cases e
        · cases ex
      · cases e
    · cases e
  · cases e
end
end Ev

set_option maxRecDepth 100000
/-! Ev13: loops; a block's context. -/
namespace Ev
open PySem L2
variable [TheK]
section
variable {X : Cx} {N : List Str} {q : Sc} {F : FT}
theorem passes (C : CtxOk X N q F) : PassesOwn (model X.prog X.w) X.A X.env X.xe := by rw [C.nox]; exact PassesOwn.never
theorem whileL_out {c b} : ∀ {n} {ρ : Env} {o ρ'}, whileL c b n ρ = some (o, ρ') → o = .next ∨ ∃ r, o = .ret r
  | 0, _, _, _, e => by cases e
  | n + 1, ρ, o, ρ', e => by
    unfold whileL at e
    split at e
    · cases e; exact .inl rfl
    · split at e
      · cases e
      · exact whileL_out e
      · exact whileL_out e
      · cases e; exact .inl rfl
      · cases e; exact .inr ⟨_, rfl⟩
    · cases e
theorem snd_whl (C : CtxOk X N q F) {c b pos fc fb} (n : Nat) (hc : SndT X c fc) (hb : SndSs X b fb) : SndS X (.While c b [] pos) (whileL fc fb n) := by
  obtain ⟨tc, pc, qc⟩ := hc
  obtain ⟨tb, pb, qb⟩ := hb
  refine ⟨_, ps_while (passes C) pc pb, fun A H σ ρ o ρ' ft e Dn k => ?_⟩
  refine ⟨fun m σ H => ∃ A ρ, Fit A H σ ρ ∧ whileL fc fb m ρ = some (o, ρ') ∧ Kont A H σ ρ Dn ρ' o, ⟨n, A, ρ, ft, e, k⟩, ?_⟩
  rintro m σ H ⟨A, ρ, ft, e, k⟩
  cases m with
  | zero => cases e
  | succ m =>
    unfold whileL at e
    split at e
    · rename_i ρ1 e1
      cases e
      refine qc A H σ ρ _ ρ' ft e1 _ fun A1 H1 s1 => ?_
      show if false = true then _ else _
      rw [if_neg Bool.false_ne_true]
      exact k A1 H1 σ s1
    · rename_i ρ1 e1
      refine qc A H σ ρ _ ρ1 ft e1 _ fun A1 H1 s1 => ?_
      show if true = true then _ else _
      rw [if_pos rfl]
      refine ⟨fun σ' H' => ∃ A ρ, Fit A H' σ' ρ ∧ whileL fc fb m ρ = some (o, ρ') ∧ Kont A H' σ' ρ Dn ρ' o, fun σ' H' h => ⟨m, Nat.lt_succ_self m, h⟩, ?_⟩
      split at e
      · cases e
      · rename_i ρ2 e2
        exact qb A1 H1 σ ρ1 .next ρ2 s1.fit e2 _ fun A2 H2 σ2 s2 => ⟨A2, ρ2, s2.fit, e, k.after (s1.trans s2)⟩
      · rename_i ρ2 e2
        exact qb A1 H1 σ ρ1 .cont ρ2 s1.fit e2 _ fun A2 H2 σ2 s2 => ⟨A2, ρ2, s2.fit, e, k.after (s1.trans s2)⟩
      · rename_i ρ2 e2
        cases e
        exact qb A1 H1 σ ρ1 .brk _ s1.fit e2 _ fun A2 H2 σ2 s2 => k A2 H2 σ2 (s1.trans s2)
      · rename_i r ρ2 e2
        cases e
        exact qb A1 H1 σ ρ1 (.ret r) _ s1.fit e2 _ fun A2 H2 σ2 v s2 r2 => k A2 H2 σ2 v (s1.trans s2) (r2.start s1.dom)
    · cases e
def stepF (t : T) (fb : Env → Option (Out × Env)) (d : D) (ρ : Env) : Option (Out × Env) := match asgT t d ρ with
        | none => none
        | some ρa => fb ρa
def fFor (t : T) (fi : Env → Option (List D × Env × List Nat)) (fb : Env → Option (Out × Env)) (ρ : Env) : Option (Out × Env) := match fi ρ with
    | none => none
    | some (ds, ρ1, ls) => match forL (stepF t fb) ds (lendL ls ρ1) with
      | none => none
      | some (o, ρ2) => some (o, unlend ls ρ2)
theorem notSet_ok {iter : Expr} {env x} (h : (match iter with | .Set .. => false | _ => true) = true) : foldedSetIterable iter env x = pure x := by
  cases iter <;> first | rfl | cases h
theorem snd_for (C : CtxOk X N q F) {tg iter b pos t fi fb} (hs : (match iter with | .Set .. => false | _ => true) = true) (hi : SndI X tg iter fi) (hg : SndG X tg t) (hb : SndSs X b fb) : SndS X (.For tg iter b [] pos) (fFor t fi fb) := by
  obtain ⟨wi, pi, qi⟩ := hi
  obtain ⟨g, pg, qg⟩ := hg
  obtain ⟨tb, pb, qb⟩ := hb
  refine ⟨_, ps_for (passes C) C.calm pi pg pb fun x => notSet_ok hs, fun A H σ ρ o ρ' ft e Dn k => ?_⟩
  unfold fFor at e
  split at e
  · cases e
  · rename_i ds ρ0 ls e1
    split at e
    · cases e
    · rename_i o' ρe e2
      cases e
      refine qi A H σ ρ ds ρ0 ls ft e1 _ fun A1 H1 J G s1 io gm lens ow => ?_
      have f1 := s1.fit.lend ls
      obtain ⟨gt, gw⟩ := io
      -- what is wanted, behind the loop with its lists lent
      have kl : Kont A1 H1 σ (lendL ls ρ0) Dn ρe o := by
        cases o with
        | next => exact fun A' H' σ' s' => k A' H' σ' (s1.trans (s'.unlend ow))
        | brk => exact fun A' H' σ' s' => k A' H' σ' (s1.trans (s'.unlend ow))
        | cont => exact fun A' H' σ' s' => k A' H' σ' (s1.trans (s'.unlend ow))
        | ret r =>
          refine fun A' H' σ' v s' r' => k A' H' σ' v (s1.trans (s'.unlend ow)) ?_
          cases r with
          | fr d => exact r'
          | nw es =>
            obtain ⟨a, vs, h1, h2, h3, h4, h5, h6⟩ := r'
            refine ⟨a, vs, h1, h2, h3, h4, h5, h6.imp (s1.dom a) fun ⟨i, z1, z2⟩ => ⟨i, ?_, z2⟩⟩
            rw [unlend_at, z1]
      refine ⟨fun i m σc Hc => m = ds.length - i ∧ i ≤ ds.length ∧ ∃ Ac ρc, Stp A1 H1 σ (lendL ls ρ0) Ac Hc σc ρc ∧ forL (stepF t fb) (ds.drop i) ρc = some (o, ρe), ⟨ds.length, rfl, Nat.zero_le _, A1, _, Stp.refl f1, e2⟩, ?_⟩
      rintro i m σc Hc ⟨rfl, hi, Ac, ρc, sb, ec⟩
      have kc : Keep A1 H1 Hc := sb.keep f1
      have gk : ∀ a o, G a → H1 a = some o → Hc a = some o := fun a o hg z => sb.frame a o z (gm a hg).1
      obtain ⟨g1, g2, g3⟩ := gw Ac Hc sb.ext kc gk i
      by_cases hlt : i < ds.length
      · refine .inr ⟨g1 hlt, ?_⟩
        rw [List.drop_eq_getElem_cons hlt] at ec
        refine ⟨fun σn Hn => ∃ An ρn, Stp A1 H1 σ (lendL ls ρ0) An Hn σn ρn ∧ forL (stepF t fb) (ds.drop (i + 1)) ρn = some (o, ρe), fun σn Hn ⟨An, ρn, z1, z2⟩ => ⟨ds.length - (i + 1), by omega, rfl, hlt, An, ρn, z1, z2⟩, fun x H' y => ?_⟩
        have item : ∃ A', Stp Ac Hc σc ρc A' H' σc ρc ∧ Rep A' H' x ds[i] := by
          rcases g3 x H' ds[i] (List.getElem?_eq_getElem hlt) y with ⟨rfl, rx⟩ | ⟨p, o', hp, rfl, rx⟩
          · exact ⟨Ac, Stp.refl sb.fit, rx⟩
          · exact ⟨_, Stp.frz sb.fit hp, rx⟩
        obtain ⟨A', si, rx⟩ := item
        simp only [forL] at ec
        have ec' := ec
        unfold stepF at ec
        split at ec
        · cases ec
        all_goals (rename_i e3; split at e3)
        all_goals first | (cases e3; done) | skip
        · rename_i ρ2 _x ρa ea
          refine qg A' H' σc ρc x ds[i] ρa si.fit rx ea _ fun σ2 sa _ => ?_
          exact qb A' H' σ2 ρa .next ρ2 sa.fit e3 _ fun A3 H3 σ3 s3 => ⟨A3, ρ2, (sb.trans ((si.trans sa).trans s3)), ec⟩
        · rename_i ρ2 _x ρa ea
          refine qg A' H' σc ρc x ds[i] ρa si.fit rx ea _ fun σ2 sa _ => ?_
          exact qb A' H' σ2 ρa .cont ρ2 sa.fit e3 _ fun A3 H3 σ3 s3 => ⟨A3, ρ2, (sb.trans ((si.trans sa).trans s3)), ec⟩
        · rename_i ρ2 _x ρa ea
          cases ec
          refine qg A' H' σc ρc x ds[i] ρa si.fit rx ea _ fun σ2 sa _ => ?_
          exact qb A' H' σ2 ρa .brk _ sa.fit e3 _ fun A3 H3 σ3 s3 => kl A3 H3 σ3 (sb.trans ((si.trans sa).trans s3))
        · rename_i r ρ2 _x ρa ea
          cases ec
          refine qg A' H' σc ρc x ds[i] ρa si.fit rx ea _ fun σ2 sa _ => ?_
          exact qb A' H' σ2 ρa (.ret r) _ sa.fit e3 _ fun A3 H3 σ3 v s3 r3 => kl A3 H3 σ3 v (sb.trans ((si.trans sa).trans s3)) (r3.start ((sb.trans (si.trans sa))).dom)
      · have ie : i = ds.length := by omega
        subst ie
        rw [List.drop_length] at ec
        simp only [forL] at ec
        cases ec
        exact .inl ⟨g2 (Nat.le_refl _), kl Ac Hc σc sb⟩

/-! ### a comprehension's block -/
def blkSc (q : Sc) (scope : Scope) : Sc := ⟨relS scope q.sc, fun x => scope.names.lookup x == some .cell, q.gcd⟩
theorem CtxOk.blk (C : CtxOk X N q F) (s : Shared) (H : Hp) (scope : Scope) (c : Addr) (cl : List (Str × Addr)) (fp : List Addr) (hk : scope.kind = .function) : CtxOk (X.blk s H scope (compEnvC scope cl c X.env) fp) N (blkSc q scope) F where
  N := C.N
  nd := C.nd
  sc := by show relS scope X.env.scope = relS scope q.sc; rw [C.sc]
  fn := rfl
  calm := C.calm
  nox := rfl
  bl := C.bl
  un := C.un
  kk := C.kk
  kd := hk
  gc := C.gc
  fns := C.fns
end
end Ev

set_option maxRecDepth 100000
set_option maxHeartbeats 2000000
/-! EvS: sets of whole numbers, made by a comprehension, measured or sorted at once. The road of HandS.SetBool (truth values), gone with whole numbers. -/
namespace Ev
open PySem PySem.Spec PyProof.Rows L2
section
variable {X : Cx}
def ins (S : Int → Bool) (k : Int) : Int → Bool := fun j => S j || decide (j = k)
def gro (S : Int → Bool) (n : Nat) (k : Int) : Nat := if S k = true then n else n + 1
theorem add_set {pins : List (Addr × Obj)} {σ : L2.St} {H : Hp} {s : Shared} {E : Value → Shared → Prop} {D : Addr} {S : Int → Bool} {n : Nat} {k : Int} {tk : Tok} {Q : Value → Shared → Prop} (I : Inv X pins σ H s) (hD : H D = some (SetO X.w D S n)) (room : n + 1 < scanBound)
    (h : ∀ s', Inv X pins σ (upd H D (SetO X.w D (ins S k) (gro S n k))) s' → Q .none s') : wpAny (model X.prog X.w) X.A (call (.builtin "set.add") [.ref D, .int k tk]) Q E s := by
  refine setR_add (setO_get I hD) room fun h' sb new => h _ ?_
  have he : ∃ u, h'.get? D = some u := by
    obtain ⟨o, _, _, _, ho, _⟩ := new
    exact ⟨o, ho⟩
  exact I.write (e := D) (t' := s.toks + 1) (by rw [hD]; trivial) (.inl rfl) (fun b u hb hu => (sb.2 b hb).trans hu) he (setO_new new)
/-- the empty set at D -/
def set0 (w : World) (D : Addr) : HO := SetO w D (fun _ => false) 0
/-- {elt for tg in iter if ..}, elt a whole number -/
def tScI (w : World) (wi : TI) (g : TG) (tt : TT) (te : TE) (vs : List Nat) : TE := fun σ H Q => wi σ H fun J H1 => ∀ D, H1 D = none → ∃ W : Nat → Nat → Hp → Prop, (∃ m, W 0 m (upd H1 D (set0 w D))) ∧ ∀ i m H, W i m H →
  (J.stop i H ∧ Q (.ref D) H) ∨ (J.go i H ∧ ∃ Nx : Hp → Prop, (∀ H', Nx H' → ∃ m', m' < m ∧ W (i + 1) m' H') ∧ ∀ x H', J.yld i H x H' → g x (wipe σ vs) H' fun σ2 H2 => wipe σ2 vs = wipe σ vs ∧ tt σ2 H2 fun b H3 =>
    if b = true then te σ2 H3 fun y H4 => ∃ (k : Int) (S : Int → Bool) (n : Nat), y = .int k ∧ H4 D = some (SetO w D S n) ∧ n + 1 < scanBound ∧ Nx (upd H4 D (SetO w D (ins S k) (gro S n k))) else Nx H3)
theorem setc_core {pins : List (Addr × Obj)} {s : Shared} {σ : L2.St} {H : Hp} {Q : VK} {elt tg iter : Expr} {ifs : List Expr} {scope : Scope} {own : List (PySem.Str × Nat)} {pos pos' : Pos} {wi : TI} {g : TG} {tt : TT} {te : TE} {Qf : Value → Shared → Prop}
    (hc : X.calm = true) (hN : X.N.Nodup) (I : Inv X pins σ H s) (hi : PI X tg iter wi) (ok : BlkOk X.N X.env.scope scope own)
    (hg : ∀ (s : Shared) (H : Hp) (C : Addr) (cl : List (PySem.Str × Addr)) (fp : List Addr), PG (X.blk s H scope (compEnvC scope cl C X.env) fp) tg g) (ht : ∀ (s : Shared) (H : Hp) (C : Addr) (cl : List (PySem.Str × Addr)) (fp : List Addr), PTs (X.blk s H scope (compEnvC scope cl C X.env) fp) ifs tt)
    (he : ∀ (s : Shared) (H : Hp) (C : Addr) (cl : List (PySem.Str × Addr)) (fp : List Addr), PE (X.blk s H scope (compEnvC scope cl C X.env) fp) elt te) (hs : ∀ x, foldedSetIterable iter X.env x = pure x)
    (h : tScI X.w wi g tt te (own.map (·.2)) σ H Q)
    (fin : ∀ D C s' m H', Inv X pins σ H' s' → Q (.ref D) H' → s'.heap.Ns C m → FpOk X pins H' C → compPost (model X.prog X.w) X.A X.xe none Qf (.ref D) C (.ok .next) s') :
    wpAny (model X.prog X.w) X.A (comprehension (.SetComp elt [⟨tg, iter, ifs, 0⟩] scope pos) scope X.env pos' (newSet (.type "set")) false (eval iter X.env) none) Qf X.xe s := by
  have caught : ∀ y ∈ scope.names, y.2 = .free → ∃ c, X.env.cells.lookup y.1 = some c := fun y hy e => (ok.free y hy e).elim (fun k => I.ok.has _ (.inl k)) fun k => I.ok.has _ (.inr k)
  refine wpAny_comprehension_free (use := none) rfl hs (closure_ok caught) ok.kind (fun y hy e => by rw [ok.uniq y hy, e])
    (thn (hi.run pins s σ H _ I h) fun xv s1 hx => thn hx fun itv s2 h2 => ?_)
  obtain ⟨it, fp, tn, J, H2, rfl, I2, T, st2, f2, q⟩ := h2
  refine PpSet.newSet_ok (newEnv_comp ?_)
  generalize hD : s2.heap.objs.size = D
  obtain ⟨W, ⟨m0, w0⟩, turn⟩ := q D (I2.hok.fresh (Nat.le_of_eq hD))
  -- the set is laid
  generalize hs3 : ({ s2 with heap := s2.heap.push { cls := .type "set", dict := none, data := .set #[] 0 (.fresh 0 0 (!X.w.params.followText "set-order")) } } : Shared) = s3
  have h3 : s3.heap = s2.heap.push { cls := .type "set", dict := none, data := .set #[] 0 (.fresh 0 0 (!X.w.params.followText "set-order")) } := by rw [← hs3]
  have I3 : Inv X pins σ (upd H2 D (set0 X.w D)) s3 := by
    rw [← hs3]
    refine I2.laid (t' := s2.toks) (fun b o e => Heap.get?_push_of_some _ e) (Nat.le_of_eq hD) ?_
    rw [← hD]
    exact setO_new (setR_fresh X.w)
  have f3 : ∀ b ∈ fp, FpOk X pins (upd H2 D (set0 X.w D)) b ∧ b < s3.heap.objs.size := fun b hb => by
    obtain ⟨o, e, _⟩ := T.obj _ _ st2 b hb
    have hlt := Heap.lt_size e
    refine ⟨⟨?_, (f2 b hb).2⟩, by rw [h3, Heap.size_push]; exact Nat.lt_succ_of_lt hlt⟩
    rw [upd_ne (by rw [← hD]; exact Nat.ne_of_lt hlt)]
    exact (f2 b hb).1
  have st3 : tn 0 s3.heap := T.keep _ _ _ st2 fun b _ o e => by rw [h3]; exact Heap.get?_push_of_some _ e
  have I4 := block_start I3 ok hN f3
  have pg := hg s3 (upd H2 D (set0 X.w D)) s3.heap.objs.size (cellsFrom (s3.heap.objs.size + 1) scope.names (cloFrom X.env.cells scope.names [])) fp
  have pt := ht s3 (upd H2 D (set0 X.w D)) s3.heap.objs.size (cellsFrom (s3.heap.objs.size + 1) scope.names (cloFrom X.env.cells scope.names [])) fp
  have pe := he s3 (upd H2 D (set0 X.w D)) s3.heap.objs.size (cellsFrom (s3.heap.objs.size + 1) scope.names (cloFrom X.env.cells scope.names [])) fp
  have nfp : ∀ b ∈ fp, (upd H2 D (set0 X.w D)) b = none := fun b hb => (f3 b hb).1.1
  show codeAny _ _ (.compStart (.SetComp elt [⟨tg, iter, ifs, 0⟩] scope pos) 0 (.ref it) (.ref D) (compEnvC scope (cellsFrom (s3.heap.objs.size + 1) scope.names (cloFrom X.env.cells scope.names [])) s3.heap.objs.size X.env)) (compPost (model X.prog X.w) X.A X.xe none Qf (.ref D) s3.heap.objs.size) { s3 with heap := pushCells (s3.heap.push { cls := .type "dict", data := .dict #[] }) scope.names }
  generalize hce : compEnvC scope (cellsFrom (s3.heap.objs.size + 1) scope.names (cloFrom X.env.cells scope.names [])) s3.heap.objs.size X.env = ce at I4 pg pt pe ⊢
  have cL : ce.locals = s3.heap.objs.size := by subst hce; rfl
  generalize hH3 : upd H2 D (set0 X.w D) = H3 at I3 I4 pg pt pe w0 nfp f3
  generalize hs4 : ({ s3 with heap := pushCells (s3.heap.push { cls := .type "dict", data := .dict #[] }) scope.names } : Shared) = s4 at I4 ⊢
  have st4 : tn 0 s4.heap := T.keep _ _ _ st3 fun b _ o e => by rw [← hs4]; exact pushCells_keeps _ _ _ _ (Heap.get?_push_of_some _ e)
  have stat : ∀ {σ' : L2.St} {H' : Hp} {s' : Shared}, Inv (X.blk s3 H3 scope ce fp) [] σ' H' s' → (∀ b ∈ fp, H' b = none) → ∀ b ∈ fp, FpOk (X.blk s3 H3 scope ce fp) [] H' b := fun {σ' H' s'} I' hn b hb =>
    ⟨hn b hb, (I'.ok.exf b hb).1, I'.ok.exfs b hb, .inl hb, fun x c e => (I'.ok.exf b hb).2 x c e, fun p hp => absurd (show p ∈ ([] : List (Addr × Obj)) ++ [] from hp) (by simp)⟩
  have loop : codeAny (model X.prog X.w) X.A (.compLoop (.SetComp elt [⟨tg, iter, ifs, 0⟩] scope pos) 0 (.ref it) (.ref D) ce) (compPost (model X.prog X.w) X.A X.xe none Qf (.ref D) s3.heap.objs.size) s4 := by
    refine PpSet.compLoopS_any (fun n s' => ∃ i H', Inv (X.blk s3 H3 scope ce fp) [] (wipe σ (own.map (·.2))) H' s' ∧ tn i s'.heap ∧ (∀ b ∈ fp, H' b = none) ∧ W i n H') ?_ m0 ⟨0, H3, I4, st4, nfp, w0⟩
    rintro n s5 ⟨i, H5, I5, st5, n5, w5⟩
    rcases turn i n H5 w5 with ⟨stop, qq⟩ | ⟨go, Nx, hNx, step⟩
    · refine thnF (T.done (X.blk s3 H3 scope ce fp) rfl rfl rfl hc i [] s5 _ H5 (fun _ _ => False) I5 (stat I5 n5) st5 stop) fun r s6 ⟨hr, I6⟩ => ?_
      subst hr
      have I7 : Inv X pins σ H5 s6 := I3.call' (ch := fp) I6.os I6.base I6.hok I6.bare fun b hb => ⟨(f3 b hb).1.2.2.2.1, (f3 b hb).1.2.1, (f3 b hb).1.2.2.2.2.1, (f3 b hb).1.2.2.2.2.2⟩
      have nC : H5 s3.heap.objs.size = none := by
        have z : H5 ce.locals = none := I6.free
        rwa [cL] at z
      obtain ⟨m, hn, _⟩ := I6.loc
      have hn : s6.heap.Ns ce.locals m := hn
      rw [cL] at hn
      exact fin D s3.heap.objs.size s6 m H5 I7 qq hn (I3.fpOk (Nat.le_refl _) nC)
    · refine thnF (T.item (X.blk s3 H3 scope ce fp) rfl rfl rfl hc i [] s5 _ H5 (fun _ _ => False) I5 (stat I5 n5) st5 go) fun r s6 ⟨u, hr, h6⟩ => ?_
      subst hr
      refine thnF h6 fun _ s7 ⟨x, H7, I7, r7, y7, st7, n7⟩ => ?_
      have I7' := I7.pinned (stat I7 n7) (T.obj _ _ st7)
      refine thnF (pg.run _ s7 _ H7 x u _ I7' r7 (step x H7 y7)) fun _ s8 ⟨σ8, H8, I8, hw8, q8⟩ => ?_
      refine thnF (pt.run _ s8 σ8 H8 _ I8 q8) fun b s9 ⟨H9, I9, q9⟩ => ?_
      have close : ∀ {s' : Shared} {H' : Hp}, Inv (X.blk s3 H3 scope ce fp) ([] ++ pinsAt fp s7.heap) σ8 H' s' → Nx H' → ∃ m, m < n ∧ ∃ i H', Inv (X.blk s3 H3 scope ce fp) [] (wipe σ (own.map (·.2))) H' s' ∧ tn i s'.heap ∧ (∀ b ∈ fp, H' b = none) ∧ W i m H' := fun {s' H'} I' nx => by
        obtain ⟨m', hm, w'⟩ := hNx H' nx
        have pin' : ∀ b ∈ fp, ∀ o, s7.heap.get? b = some o → s'.heap.get? b = some o ∧ H' b = none := fun b hb o e =>
          let z := I'.pin (b, o) (List.mem_append_right _ (List.mem_append_right _ (mem_pinsAt hb e)))
          ⟨z.1, z.2.1⟩
        refine ⟨m', hm, i + 1, H', (I'.unpinned (pins := [])).weak (by rw [← hw8, wipe_length]) (fun j v e => ?_), T.keep _ _ _ st7 fun b hb o e => (pin' b hb o e).1, fun b hb => ?_, w'⟩
        · rw [← hw8] at e
          exact (wipe_some e).1
        · obtain ⟨o, e, _⟩ := T.obj _ _ st7 b hb
          exact (pin' b hb o e).2
      cases b with
      | false =>
        simp only [Bool.false_eq_true, if_false] at q9 ⊢
        exact close I9 q9
      | true =>
        simp only [if_true] at q9 ⊢
        refine thnF (pe.run _ s9 σ8 H9 _ I9 q9) fun z s10 ⟨yv, H10, I10, r10, kz, S0, n0, ey, hD10, hz10, nx⟩ => ?_
        subst ey
        obtain ⟨tk, rfl⟩ : ∃ tk, z = Value.int kz tk := r10
        exact add_set (X := X.blk s3 H3 scope ce fp) I10 hD10 hz10 fun s11 I11 => close I11 nx
  exact PpSet.codeAny_compStart_set loop (T.self X.A 0 _ _ _ st4 loop)
theorem pe_setc {elt tg iter : Expr} {ifs : List Expr} {scope : Scope} {own : List (PySem.Str × Nat)} {pos : Pos} {wi : TI} {g : TG} {tt : TT} {te : TE} (hc : X.calm = true) (hN : X.N.Nodup) (hi : PI X tg iter wi) (ok : BlkOk X.N X.env.scope scope own)
    (hg : ∀ (s : Shared) (H : Hp) (C : Addr) (cl : List (PySem.Str × Addr)) (fp : List Addr), PG (X.blk s H scope (compEnvC scope cl C X.env) fp) tg g) (ht : ∀ (s : Shared) (H : Hp) (C : Addr) (cl : List (PySem.Str × Addr)) (fp : List Addr), PTs (X.blk s H scope (compEnvC scope cl C X.env) fp) ifs tt)
    (he : ∀ (s : Shared) (H : Hp) (C : Addr) (cl : List (PySem.Str × Addr)) (fp : List Addr), PE (X.blk s H scope (compEnvC scope cl C X.env) fp) elt te) (hs : ∀ x, foldedSetIterable iter X.env x = pure x) :
    PE X (.SetComp elt [⟨tg, iter, ifs, 0⟩] scope pos) (tScI X.w wi g tt te (own.map (·.2))) := by
  refine ⟨fun pins s σ H Q I h => ?_⟩
  rw [PpSet.eval_SetComp]
  refine setc_core hc hN I hi ok hg ht he hs h fun D C s' m H' I' q hn f => ⟨m, hn, fun h'' sb => ?_⟩
  obtain ⟨f0, f1, f2, f3, f4, f5⟩ := f
  exact ⟨.ref D, H', I'.turned (t' := s'.toks) (fun b o hb e => (sb.2 b hb).trans e) f0 f1 f3 f4 f5, rfl, q⟩
/-- len of a set of whole numbers -/
theorem cr_lenSet : CallR X (.builtin "len") (fun vs H Q => ∃ (a : Addr) (S : Int → Bool) (n : Nat), vs = [V.ref a] ∧ H a = some (SetO X.w a S n) ∧ Q (.int n) H) := by
  intro pins s σ H vs us Q I r h
  obtain ⟨a, S, n, rfl, ha, q⟩ := h
  have R := setO_get I ha
  rw [Vals.ref1 r]
  obtain ⟨o, es, ep, t, ho, hex, hd, _, _, _, hb, hf, hn, _, _⟩ := R
  have hsb : (scanBound : Nat) = 4096 := rfl
  refine call_len_set ho hex hd hf (by omega) ⟨.int n, H, (I.tok _).tok _, ⟨_, by rw [← hn]⟩, q⟩
end
theorem dd_mem : ∀ (l : List Int) (x : Int), x ∈ dd l ↔ x ∈ l
  | [], x => by simp [dd]
  | y :: r, x => by
    unfold dd
    by_cases h : y ∈ r
    · rw [if_pos h, dd_mem r]
      simp only [List.mem_cons]
      constructor
      · exact .inr
      · rintro (rfl | h'); exact h; exact h'
    · rw [if_neg h]
      simp [dd_mem r]
theorem dd_nodup : ∀ l : List Int, (dd l).Nodup
  | [] => by simp [dd]
  | y :: r => by
    unfold dd
    by_cases h : y ∈ r
    · rw [if_pos h]; exact dd_nodup r
    · rw [if_neg h]; exact List.nodup_cons.mpr ⟨fun z => h ((dd_mem r y).mp z), dd_nodup r⟩
theorem dd_le : ∀ l : List Int, (dd l).length ≤ l.length
  | [] => by simp [dd]
  | y :: r => by
    have := dd_le r
    unfold dd
    by_cases h : y ∈ r
    · rw [if_pos h, List.length_cons]; omega
    · rw [if_neg h, List.length_cons, List.length_cons]; omega
def memB (l : List Int) : Int → Bool := fun j => decide (j ∈ l)
theorem ins_mem (l : List Int) (k : Int) : ins (memB l) k = memB (l ++ [k]) := by
  funext j
  unfold ins memB
  rw [Bool.eq_iff_iff]
  simp
theorem gro_dd (l : List Int) (k : Int) : gro (memB l) (dd l).length k = (dd (l ++ [k])).length := by
  unfold gro memB
  by_cases h : k ∈ l
  · rw [if_pos (by simpa using h)]
    apply List.Perm.length_eq
    rw [List.perm_ext_iff_of_nodup (dd_nodup _) (dd_nodup _)]
    intro a
    rw [dd_mem, dd_mem]
    simp only [List.mem_append, List.mem_singleton]
    constructor
    · exact .inl
    · rintro (h' | rfl); exact h'; exact h
  · rw [if_neg (by simpa using h)]
    have : (k :: dd l).Perm (dd (l ++ [k])) := by
      rw [List.perm_ext_iff_of_nodup (List.nodup_cons.mpr ⟨fun z => h ((dd_mem l k).mp z), dd_nodup l⟩) (dd_nodup _)]
      intro a
      rw [List.mem_cons, dd_mem, dd_mem]
      simp only [List.mem_append, List.mem_singleton]
      constructor
      · rintro (rfl | h'); exact .inr rfl; exact .inl h'
      · rintro (h' | rfl); exact .inr h'; exact .inl rfl
    simpa using this.length_eq
variable [TheK]
theorem set_core {w : World} {wi : TI} {t : T} {vs : List Nat} {fi fc fe} (hts : ∀ i ∈ tslots t, i ∈ vs)
    (qi : ∀ A H σ ρ ds ρ0 ls, Fit A H σ ρ → fi ρ = some (ds, ρ0, ls) → ∀ R : L2.It → Hp → Prop,
      (∀ A' H' J G, Stp A H σ ρ A' H' σ ρ0 → IterOk A' H' G J ds → (∀ a, G a → ¬ Mut σ (lendL ls ρ0) a ∧ Held A' σ ρ0 a) → ds.length ≤ sizeLine → Owns ρ0 ls → R J H') → wi σ H R)
    {A H σ ρ ns ρ'} (ft : Fit A H σ ρ) (e : fComp t vs fi fc fe ρ = some (.nw (ns.map .int), ρ')) (hz : ns.length < 4095) (Q : VK) (k : ∀ A' H' p, Stp A H σ ρ A' H' σ ρ' → H' p = some (SetO w p (memB ns) (dd ns).length) → Q (.ref p) H') :
    tScI w wi (gT t) (tT fc) (tE fe) vs σ H Q := by
  have hsb : (scanBound : Nat) = 4096 := rfl
  unfold fComp at e
  split at e
  · cases e
  · rename_i ds ρ0 ls e1
    split at e
    · cases e
    · rename_i hq
      split at e
      · cases e
      · rename_i rr ρ2 e2
        cases e
        have hq : ∀ i ∈ vs, ∃ s, (lendL ls ρ0)[i]? = some s ∧ quietS s = true := fun i hi => by
          have := (List.all_eq_true.mp ((Bool.not_eq_false _).mp hq)) i hi
          split at this
          · rename_i s hs; exact ⟨s, hs, this⟩
          · cases this
        have nm : ∀ i ∈ vs, ∀ es, (lendL ls ρ0)[i]? = some (.mu es) → False := fun i hi es h => by
          obtain ⟨s, z1, z2⟩ := hq i hi
          rw [h] at z1; cases z1; cases z2
        refine qi A H σ ρ ds ρ0 ls ft e1 _ fun A1 H1 J G s1 io gm lens ow => ?_
        have f1 := s1.fit.lend ls
        obtain ⟨gt, gw⟩ := io
        intro D hD
        have nD : ¬ A1 D := f1.nofrz hD
        have rD : NoRef σ (lendL ls ρ0) D := fun j s h1 h2 => f1.noref hD j s h1 h2
        have b0 : Stp A1 H1 σ (lendL ls ρ0) A1 H1 (L2.wipe σ vs) (wipeE vs (lendL ls ρ0)) := (Stp.refl f1).wipe nm
        have rD0 : NoRef (L2.wipe σ vs) (wipeE vs (lendL ls ρ0)) D := fun j s h1 h2 h3 => by
          rcases wipeE_inv h1 with rfl | ⟨n, h⟩
          · cases h2
          · rw [wipe_at_not n] at h3; exact rD j s h h2 h3
        refine ⟨fun i m Hc => m = ds.length - i ∧ i ≤ ds.length ∧ ∃ (Ac : Addr → Prop) (ρb : Env) (acc : List Int) (rest : List Ev.D), Stp A1 H1 σ (lendL ls ρ0) Ac Hc (L2.wipe σ vs) ρb ∧ Hc D = some (SetO w D (memB acc) (dd acc).length) ∧ ¬ Ac D ∧
          NoRef (L2.wipe σ vs) ρb D ∧ compL (stepC t vs fc fe) (ds.drop i) ρb = some (rest, ρ2) ∧ acc.map .int ++ rest = ns.map .int,
          ⟨ds.length, rfl, Nat.zero_le _, A1, _, [], ns.map .int, b0.other hD nD rD0 (fun o u z => by rw [hD] at z; cases z), upd_same, nD, rD0, e2, rfl⟩, ?_⟩
        rintro i m Hc ⟨rfl, hi, Ac, ρb, acc, rest, sb, hDc, nDc, rDc, ec, er⟩
        have kc : Keep A1 H1 Hc := sb.keep f1
        have gk : ∀ a o, G a → H1 a = some o → Hc a = some o := fun a o hg z => sb.frame a o z (gm a hg).1
        obtain ⟨g1, g2, g3⟩ := gw Ac Hc sb.ext kc gk i
        by_cases hlt : i < ds.length
        · refine .inr ⟨g1 hlt, ?_⟩
          rw [List.drop_eq_getElem_cons hlt] at ec
          simp only [compL] at ec
          split at ec
          · cases ec
          · rename_i o ρ3 e3
            split at ec
            · cases ec
            · rename_i r2 ρ4 e4
              cases ec
              refine ⟨fun Hn => ∃ (An : Addr → Prop) (an : List Int), Stp A1 H1 σ (lendL ls ρ0) An Hn (L2.wipe σ vs) ρ3 ∧ Hn D = some (SetO w D (memB an) (dd an).length) ∧ ¬ An D ∧ NoRef (L2.wipe σ vs) ρ3 D ∧ an.map .int ++ r2 = ns.map .int, fun Hn hn => ?_, fun x H' y => ?_⟩
              · obtain ⟨An, an, z1, z2, z5, z6, z7⟩ := hn
                exact ⟨ds.length - (i + 1), by omega, rfl, hlt, An, ρ3, an, r2, z1, z2, z5, z6, e4, z7⟩
              · have item : ∃ A', Stp Ac Hc (L2.wipe σ vs) ρb A' H' (L2.wipe σ vs) ρb ∧ Rep A' H' x ds[i] := by
                  rcases g3 x H' ds[i] (List.getElem?_eq_getElem hlt) y with ⟨rfl, rx⟩ | ⟨p, o', hp, rfl, rx⟩
                  · exact ⟨Ac, Stp.refl sb.fit, rx⟩
                  · exact ⟨_, Stp.frz sb.fit hp, rx⟩
                obtain ⟨A', si, rx⟩ := item
                unfold stepC at e3
                split at e3
                · cases e3
                · rename_i ρa ea
                  refine ⟨A', ρb, ds[i], ρa, si.fit, rx, ea, fun σ' sa oa => ?_⟩
                  have wv : L2.wipe σ' vs = L2.wipe σ vs := by rw [wipe_only (oa.mono hts), wipe_wipe]
                  refine ⟨wv, ?_⟩
                  split at e3
                  · cases e3
                  · rename_i ρb' ec'
                    cases e3
                    refine ⟨A', ρa, false, ρb', sa.fit, ec', fun A2 H2 s2 => ?_⟩
                    show if false = true then _ else _
                    rw [if_neg Bool.false_ne_true]
                    have tot := (si.trans sa).trans s2
                    have all := (sb.trans tot).wipe nm
                    rw [wv] at all
                    have rn := rDc.stp tot hDc
                    refine ⟨A2, acc, all, tot.frame D _ hDc rDc.nomut, nofrz_stp nDc rDc tot hDc, fun j s h1 h2 h3 => ?_, er⟩
                    rcases wipeE_inv h1 with rfl | ⟨n, h⟩
                    · cases h2
                    · rw [← wv, wipe_at_not n] at h3; exact rn j s h h2 h3
                  · rename_i ρb' ec'
                    split at e3
                    · cases e3
                    · rename_i re ρc ee
                      cases e3
                      refine ⟨A', ρa, true, ρb', sa.fit, ec', fun A2 H2 s2 => ?_⟩
                      show if true = true then _ else _
                      rw [if_pos rfl]
                      refine ⟨A2, ρb', re, ρc, s2.fit, ee, fun A3 H3 y3 s3 r3 => ?_⟩
                      have tot := ((si.trans sa).trans s2).trans s3
                      have all := (sb.trans tot).wipe nm
                      rw [wv] at all
                      have rn := rDc.stp tot hDc
                      have hD3 := tot.frame D _ hDc rDc.nomut
                      have na3 := nofrz_stp nDc rDc tot hDc
                      have rn3 : NoRef (L2.wipe σ vs) (wipeE vs ρc) D := fun j s h1 h2 h3 => by
                        rcases wipeE_inv h1 with rfl | ⟨n, h⟩
                        · cases h2
                        · rw [← wv, wipe_at_not n] at h3; exact rn j s h h2 h3
                      -- the item is a whole number
                      have hk : ∃ kz : Int, re.d = .int kz := by
                        have hm : re.d ∈ ns.map (PyData.int) := by rw [← er]; simp
                        obtain ⟨kz, _, e⟩ := List.mem_map.mp hm
                        exact ⟨kz, e.symm⟩
                      obtain ⟨kz, hk⟩ := hk
                      rw [hk] at r3 er
                      cases r3
                      have hlen : acc.length < ns.length := by
                        have := congrArg List.length er
                        simp only [List.length_append, List.length_map, List.length_cons] at this
                        omega
                      have hdd := dd_le acc
                      refine ⟨kz, memB acc, (dd acc).length, rfl, hD3, by omega, A3, acc ++ [kz], all.other hD na3 rn3 (fun o u z => by rw [hD3] at z; cases z), ?_, na3, rn3, ?_⟩
                      · rw [upd_same, ins_mem, gro_dd]
                      · rw [List.map_append, List.append_assoc]; exact er
        · have ie : i = ds.length := by omega
          subst ie
          refine .inl ⟨g2 (Nat.le_refl _), ?_⟩
          rw [List.drop_length] at ec
          simp only [compL] at ec
          cases ec
          rw [List.append_nil] at er
          have ea : acc = ns := by
            have inj : ∀ a b : List Int, a.map PyData.int = b.map PyData.int → a = b := by
              intro a
              induction a with
              | nil => intro b h; cases b with | nil => rfl | cons _ _ => simp at h
              | cons x a ih =>
                intro b h
                cases b with
                | nil => simp at h
                | cons y b =>
                  simp only [List.map_cons, List.cons.injEq, PyData.int.injEq] at h
                  rw [h.1, ih b h.2]
            exact inj _ _ er
          subst ea
          exact k Ac Hc D (s1.trans (Stp.unlend ow (Stp.back f1 sb hq))) hDc
theorem ints_of_all : ∀ {rr : List Ev.D} {ns : List Int}, allInts rr = some ns → rr = ns.map .int
  | [], ns, h => by cases h; rfl
  | d :: l, ns, h => by
    cases d <;> simp only [allInts, reduceCtorEq] at h
    cases h' : allInts l with
    | none => rw [h'] at h; cases h
    | some ms => rw [h'] at h; cases h; rw [List.map_cons, ints_of_all h']
theorem fSetc_inv {srt t vs fi fc fe ρ r ρ'} (e : fSetc srt t vs fi fc fe ρ = some (r, ρ')) : ∃ ns : List Int, fComp t vs fi fc fe ρ = some (.nw (ns.map .int), ρ') ∧ ns.length < 4095 ∧ ((srt = true ∧ (dd ns).length < 64 ∧ r = .nw ((sortI (dd ns)).map .int)) ∨ (srt = false ∧ r = .fr (.int ((dd ns).length : Nat)))) := by
  rw [fSetc_eq] at e
  split at e
  · rename_i rr ρ1 h1
    cases hs : setR srt rr with
    | none => rw [hs] at e; cases e
    | some x =>
      rw [hs] at e
      cases e
      unfold setR at hs
      split at hs
      · cases hs
      · rename_i ns ha
        rw [ints_of_all ha] at h1
        split at hs
        · rename_i hz
          refine ⟨ns, h1, hz, ?_⟩
          cases srt with
          | true =>
            simp only at hs
            split at hs
            · rename_i h64; cases hs; exact .inl ⟨rfl, h64, rfl⟩
            · cases hs
          | false => simp only at hs; cases hs; exact .inr ⟨rfl, rfl⟩
        · cases hs
  · cases e
/-- len({..}), sorted({..}) -/
theorem snd_setc {X : Cx} {N : List Str} {q : Sc} {F : FT} (C : CtxOk X N q F) {srt : Bool} {tg iter elt : Expr} {ifs : List Expr} {scope : Scope} {pos p pc : Pos} {t : T} {vs : List Nat} {wi : TI} {fi fc fe} {own : List (Str × Nat)}
    (hg : glB q.sc (Str.ofString (if srt then "sorted" else "len")) = true) (hts : ∀ i ∈ tslots t, i ∈ vs) (hv : own.map (·.2) = vs)
    (qi : ∀ A H σ ρ ds ρ0 ls, Fit A H σ ρ → fi ρ = some (ds, ρ0, ls) → ∀ R : L2.It → Hp → Prop,
      (∀ A' H' J G, Stp A H σ ρ A' H' σ ρ0 → IterOk A' H' G J ds → (∀ a, G a → ¬ Mut σ (lendL ls ρ0) a ∧ Held A' σ ρ0 a) → ds.length ≤ sizeLine → Owns ρ0 ls → R J H') → wi σ H R)
    (pi : PI X tg iter wi) (bo : BlkOk X.N X.env.scope scope own)
    (pg : ∀ (s : Shared) (H : Hp) (a : Addr) (cl : List (Str × Addr)) (fp : List Addr), PG (X.blk s H scope (compEnvC scope cl a X.env) fp) tg (gT t))
    (pt : ∀ (s : Shared) (H : Hp) (a : Addr) (cl : List (Str × Addr)) (fp : List Addr), PTs (X.blk s H scope (compEnvC scope cl a X.env) fp) ifs (tT fc))
    (pe : ∀ (s : Shared) (H : Hp) (a : Addr) (cl : List (Str × Addr)) (fp : List Addr), PE (X.blk s H scope (compEnvC scope cl a X.env) fp) elt (tE fe))
    (hs : ∀ x, foldedSetIterable iter X.env x = pure x) :
    SndE X (.Call (.Name (Str.ofString (if srt then "sorted" else "len")) p) [.SetComp elt [⟨tg, iter, ifs, 0⟩] scope pc] [] pos) (fSetc srt t vs fi fc fe) := by
  have ps := pe_setc (pos := pc) C.calm C.nd pi bo pg pt pe hs
  rw [hv] at ps
  cases srt with
  | false =>
    refine ⟨_, pe_callB cr_lenSet (gl_of C hg) (C.bl "len" (by decide)) PySem.boot_len (pa_cons ps pa_nil (star_cons rfl)) (by decide) (by decide) (star_cons rfl) rfl, fun A H σ ρ r ρ' ft e Q k => ?_⟩
    obtain ⟨ns, e1, hz, ⟨h, _⟩ | ⟨_, rfl⟩⟩ := fSetc_inv e
    · cases h
    · delta tCB tCons tNil
      dsimp only
      refine set_core (w := X.w) hts qi ft e1 hz _ fun A' H' a s1 ha => ?_
      exact ⟨a, _, _, rfl, ha, k A' H' _ s1 .int⟩
  | true =>
    refine ⟨_, pe_callB (cr_sortedSet C.calm) (gl_of C hg) (C.bl "sorted" (by decide)) PyProof.Rows.boot_sorted (pa_cons ps pa_nil (star_cons rfl)) (by decide) (by decide) (star_cons rfl) rfl, fun A H σ ρ r ρ' ft e Q k => ?_⟩
    obtain ⟨ns, e1, hz, ⟨_, h64, rfl⟩ | ⟨h, _⟩⟩ := fSetc_inv e
    · delta tCB tCons tNil
      dsimp only
      refine set_core (w := X.w) hts qi ft e1 hz _ fun A' H' a s1 ha => ?_
      refine ⟨a, _, _, rfl, ha, h64, fun ns' p hs1 hs2 hl hp => ?_⟩
      have en : ns' = sortI (dd ns) := by
        refine sort_uniq ?_ (hs1.imp fun h => by omega) (sortI_sorted _)
        refine List.Perm.trans ?_ (sortI_perm (dd ns)).symm
        rw [List.perm_ext_iff_of_nodup (hs1.imp fun h => by omega) (dd_nodup ns)]
        intro x
        rw [hs2, dd_mem]
        simp [memB]
      subst en
      have hlen : ((sortI (dd ns)).map V.int).length ≤ sizeLine := by
        rw [List.length_map, hl]
        have : (64 : Nat) ≤ sizeLine := by decide
        omega
      exact k _ _ _ (s1.trans (Stp.grow s1.fit (upd_grow hp))) (ResOk.start (res_new s1.fit hp hlen (rep_ints _)) s1.dom)
    · cases h
end Ev

set_option maxRecDepth 100000
/-! EvD: a dict of one's own, by ints. -/
namespace Ev
open PySem L2
variable [TheK]
theorem kv_get {A H} : ∀ {ws : List (Key × V)} {kvs : List (Int × D)} (k : Int), KvRep A H ws kvs → (kvGet kvs k = none ∧ valV ws (.inl k) = none) ∨ ∃ d v, kvGet kvs k = some d ∧ valV ws (.inl k) = some v ∧ Rep A H v d
  | [], [], k, _ => .inl ⟨rfl, rfl⟩
  | [], _ :: _, _, h => by have := h.1; simp at this
  | _ :: _, [], _, h => by have := h.1; simp at this
  | (k1, v) :: ws, (k2, d) :: kvs, k, h => by
    obtain ⟨h1, h2⟩ := h
    simp only [List.map_cons, List.cons.injEq] at h1
    obtain ⟨rfl, h1⟩ := h1
    cases h2 with
    | cons r1 r2 =>
      by_cases e : k2 = k
      · subst e
        exact .inr ⟨d, v, by simp [kvGet], by rw [valV_pos rfl], r1⟩
      · have e' : ¬ ((Sum.inl k2 : Key) = Sum.inl k) := fun z => e (Sum.inl.inj z)
        rw [valV_neg (p := ((Sum.inl k2 : Key), v)) e']
        have : kvGet ((k2, d) :: kvs) k = kvGet kvs k := by simp [kvGet, List.find?_cons, e]
        rw [this]
        exact kv_get k ⟨h1, r2⟩
theorem kv_any {A H} : ∀ {ws : List (Key × V)} {kvs : List (Int × D)} (k : Int), KvRep A H ws kvs → (ws.any fun p => decide (p.1 = (Sum.inl k : Key))) = kvs.any fun p => decide (p.1 = k)
  | [], [], k, _ => rfl
  | [], _ :: _, _, h => by have := h.1; simp at this
  | _ :: _, [], _, h => by have := h.1; simp at this
  | (k1, v) :: ws, (k2, d) :: kvs, k, h => by
    obtain ⟨h1, h2⟩ := h
    simp only [List.map_cons, List.cons.injEq] at h1
    obtain ⟨rfl, h1⟩ := h1
    cases h2 with
    | cons r1 r2 =>
      rw [List.any_cons, List.any_cons, kv_any k ⟨h1, r2⟩]
      congr 1
      by_cases e : k2 = k <;> simp [e]
theorem kv_map {A H v d} (r : Rep A H v d) : ∀ {ws : List (Key × V)} {kvs : List (Int × D)} (k : Int), KvRep A H ws kvs → KvRep A H (ws.map fun p => if p.1 = (Sum.inl k : Key) then (p.1, v) else p) (kvs.map fun p => if p.1 = k then (p.1, d) else p)
  | [], [], k, _ => ⟨rfl, .nil⟩
  | [], _ :: _, _, h => by have := h.1; simp at this
  | _ :: _, [], _, h => by have := h.1; simp at this
  | (k1, w) :: ws, (k2, e) :: kvs, k, h => by
    obtain ⟨h1, h2⟩ := h
    simp only [List.map_cons, List.cons.injEq] at h1
    obtain ⟨rfl, h1⟩ := h1
    cases h2 with
    | cons r1 r2 =>
      obtain ⟨g1, g2⟩ := kv_map r k (ws := ws) (kvs := kvs) ⟨h1, r2⟩
      by_cases e : k2 = k
      · subst e
        refine ⟨?_, ?_⟩
        · simp only [List.map_cons, if_true, List.cons.injEq, true_and]; exact g1
        · simp only [List.map_cons, if_true]; exact .cons r g2
      · have e' : ¬ ((Sum.inl k2 : Key) = Sum.inl k) := fun z => e (Sum.inl.inj z)
        refine ⟨?_, ?_⟩
        · simp only [List.map_cons, if_neg e, if_neg e', List.cons.injEq, true_and]; exact g1
        · simp only [List.map_cons, if_neg e, if_neg e']; exact .cons r1 g2
theorem kv_put {A H v d} {ws : List (Key × V)} {kvs : List (Int × D)} (k : Int) (h : KvRep A H ws kvs) (r : Rep A H v d) : KvRep A H (putK ws (Sum.inl k) v) (kvPut kvs k d) := by
  unfold putK kvPut
  rw [kv_any k h]
  split
  · exact kv_map r k h
  · refine ⟨?_, ?_⟩
    · simp only [List.map_append, List.map_cons, List.map_nil]; rw [h.1]
    · simp only [List.map_append, List.map_cons, List.map_nil]; exact h.2.append (.cons r .nil)
theorem kv_len {A H ws kvs} (h : KvRep A H ws kvs) : ws.length = kvs.length := by
  have := congrArg List.length h.1
  simpa using this
theorem dct_at {A H σ} {ρ : Env} {i : Nat} {kvs} (f : Fit A H σ ρ) (h : ρ[i]? = some (.dct kvs)) : ∃ a ws, σ[i]? = some (some (.ref a)) ∧ H a = some (.dK ws) ∧ ws.length ≤ sizeLine ∧ KvRep A H ws kvs ∧ ¬ A a := by
  obtain ⟨ov, e1, a, ws, rfl, h1, h2, h3, h4⟩ := f.at h
  exact ⟨a, ws, e1, h1, h2, h3, h4⟩
theorem dctB_at {A H σ} {ρ : Env} {i : Nat} (f : Fit A H σ ρ) (h : dctB ρ i = true) : ∃ a, σ[i]? = some (some (.ref a)) := by
  unfold dctB at h
  split at h
  · rename_i kvs hs
    obtain ⟨a, ws, h1, _⟩ := dct_at f hs
    exact ⟨a, h1⟩
  · cases h
/-- a dict is changed -/
theorem stp_dct {A H σ} {ρ : Env} {i : Nat} {a : Addr} {kvs kvs' : List (Int × D)} {ws : List (Key × V)} (f : Fit A H σ ρ) (hs : ρ[i]? = some (.dct kvs)) (ha : σ[i]? = some (some (.ref a))) (hl : ws.length ≤ sizeLine) (r : KvRep A H ws kvs') :
    Stp A H σ ρ A (upd H a (.dK ws)) σ (ρ.set i (.dct kvs')) := by
  have m : Mut σ ρ a := ⟨i, _, hs, rfl, ha⟩
  have na : ¬ A a := fun z => f.nomut z m
  have k : Keep A H (upd H a (.dK ws)) := fun b o hb e => by
    have : b ≠ a := fun z => na (z ▸ hb)
    rw [upd_ne this]; exact e
  have mt : ∀ b, Mut σ (ρ.set i (.dct kvs')) b → Mut σ ρ b := fun b ⟨j, t, h1, h2, h3⟩ => by
    rcases get_set h1 with ⟨rfl, rfl⟩ | ⟨_, h1⟩
    · exact ⟨i, _, hs, rfl, h3⟩
    · exact ⟨j, t, h1, h2, h3⟩
  obtain ⟨oa, hoa⟩ := f.mut_at m
  refine ⟨fun _ h => h, fun b o h n => ?_, fun b h => ?_, fun b m => .inl (mt b m), fun j es h => ⟨rfl, ?_⟩, fun b hb => .inl hb, fun j es h o => ?_, ⟨by rw [List.length_set]; exact f.len, fun j t ov h1 h2 => ?_, fun j l t u b hjl h1 h2 h3 h4 h5 h6 => ?_, fun b hb => ?_⟩⟩
  · have : b ≠ a := fun z => n (z ▸ m)
    rw [upd_ne this]; exact h
  · by_cases e : b = a
    · subst e; rw [upd_same] at h; cases h
    · rw [upd_ne e] at h; exact h
  · by_cases hj : i = j
    · subst hj; rw [hs] at h; cases h
    · exact ⟨es, by rw [List.getElem?_set_ne hj]; exact h⟩
  · rcases get_set h with ⟨rfl, h8⟩ | ⟨_, h⟩
    · subst h8; cases o
    · exact ⟨h, rfl⟩
  · rcases get_set h1 with ⟨rfl, rfl⟩ | ⟨hj, h1⟩
    · rw [ha] at h2; cases h2
      exact ⟨a, ws, rfl, upd_same, hl, KvRep.mono (fun _ z => z) k r, na⟩
    · have ok := f.slot j t _ h1 h2
      refine ok.go (fun _ z => z) k (fun b o hb z e => ?_) (fun b lt z => by subst z; exact ok.nofz lt) fun b o u e => ?_
      · subst z
        have : b ≠ a := fun z => by subst z; exact f.apart i j _ t _ hj hs h1 rfl hb ha h2
        rw [upd_ne this]; exact e
      · have : b ≠ a := fun z => by
          subst z
          exact f.mut_nofrz m _ _ e
        rw [upd_ne this]; exact e
  · rcases get_set h1 with ⟨rfl, rfl⟩ | ⟨n1, h1⟩
    · rcases get_set h2 with ⟨rfl, rfl⟩ | ⟨_, h2⟩
      · exact hjl rfl
      · exact f.apart i l _ u b hjl hs h2 rfl h4 h5 h6
    · rcases get_set h2 with ⟨rfl, rfl⟩ | ⟨_, h2⟩
      · exact f.apart j i t _ b hjl h1 hs h3 rfl h5 h6
      · exact f.apart j l t u b hjl h1 h2 h3 h4 h5 h6
  · obtain ⟨o, e⟩ := f.trk b hb
    exact ⟨o, k b o hb e⟩
/-- a new dict gets a name -/
theorem stp_dnew {A0 H0 σ0 ρ0 A H σ p ws kvs} {ρ : Env} {i : Nat} {t : Slot} (s : Stp A0 H0 σ0 ρ0 A H σ ρ) (ht : ρ[i]? = some t) (nm : ∀ es, t ≠ .mu es) (h0 : ∀ es, ρ0[i]? = some (.mu es) → False)
    (r1 : H p = some (.dK ws)) (r2 : ws.length ≤ sizeLine) (r3 : KvRep A H ws kvs) (r4 : ¬ A p) (r5 : H0 p = none) (r6 : ∀ (j : Nat) u, ρ[j]? = some u → liveB u = true → σ[j]? ≠ some (some (.ref p))) : Stp A0 H0 σ0 ρ0 A H (σ.set i (some (.ref p))) (ρ.set i (.dct kvs)) := by
  have other : ∀ (j : Nat) (s : Slot), (ρ.set i (.dct kvs))[j]? = some s → (i = j ∧ s = .dct kvs ∧ (σ.set i (some (.ref p)))[j]? = some (some (.ref p))) ∨ (i ≠ j ∧ ρ[j]? = some s ∧ (σ.set i (some (.ref p)))[j]? = σ[j]?) := fun j u h => by
    rcases get_set h with ⟨e, z⟩ | ⟨e, z⟩
    · subst e
      exact .inl ⟨rfl, z, List.getElem?_set_self (by rw [s.fit.len]; exact (List.getElem?_eq_some_iff.mp ht).1)⟩
    · exact .inr ⟨e, z, List.getElem?_set_ne e⟩
  refine ⟨s.ext, s.frame, s.dom, fun a ⟨j, u, h1, h2, h3⟩ => ?_, fun j es h => ?_, s.news, fun j u h o => ?_, ⟨by rw [List.length_set, List.length_set]; exact s.fit.len, fun j u ov h1 h2 => ?_, fun j l u w a jl h1 h2 h3 h4 h5 h6 => ?_, s.fit.trk⟩⟩
  · rcases other j u h1 with ⟨_, rfl, e⟩ | ⟨_, z, e⟩
    · rw [e] at h3; cases h3; exact .inr r5
    · rw [e] at h3; exact s.sub a ⟨j, u, z, h2, h3⟩
  · have ij : i ≠ j := fun e => by subst e; exact h0 es h
    obtain ⟨e1, es', e2⟩ := s.mus j es h
    exact ⟨by rw [List.getElem?_set_ne ij]; exact e1, es', by rw [List.getElem?_set_ne ij]; exact e2⟩
  · rcases other j u h with ⟨_, rfl, _⟩ | ⟨_, z, e⟩
    · cases o
    · rw [e]; exact s.lents j u z o
  · rcases other j u h1 with ⟨rfl, rfl, e⟩ | ⟨_, z, e⟩
    · rw [e] at h2; cases h2; exact ⟨p, ws, rfl, r1, r2, r3, r4⟩
    · rw [e] at h2; exact s.fit.slot j u ov z h2
  · rcases other j u h1 with ⟨rfl, rfl, e⟩ | ⟨_, z, e⟩
    · rw [e] at h5; cases h5
      rcases other l w h2 with ⟨rfl, _, _⟩ | ⟨_, z', e'⟩
      · exact jl rfl
      · rw [e'] at h6; exact r6 l w z' h4 h6
    · rcases other l w h2 with ⟨rfl, rfl, e'⟩ | ⟨_, z', e'⟩
      · rw [e'] at h6; cases h6
        rw [e] at h5; exact r6 j u z (liveB_of h3) h5
      · rw [e] at h5; rw [e'] at h6
        exact s.fit.apart j l u w a jl z z' h3 h4 h5 h6
section
variable {X : Cx} {N : List Str} {q : Sc} {F : FT}
def fDget (i : Nat) (fk : Env → Option (Res × Env)) (ρ : Env) : Option (Res × Env) := match dctB ρ i with
    | false => none
    | true => match fk ρ with
      | some (.fr (.int j), ρ1) => (dGetS ρ1 i j).map fun d => (.fr d, ρ1)
      | _ => none
theorem snd_dget (C : CtxOk X N q F) {i : Nat} {x : Str} {px k pos fk} (h : nameB N q i x = true) (hs : NoSl k) (hk : SndE X k fk) : SndE X (.Subscript (.Name x px) k pos) (fDget i fk) := by
  obtain ⟨t, p, hq⟩ := hk
  have hu := C.un
  refine ⟨_, pe_dget (by omega) (pe_name C h) p hs, fun A H σ ρ r ρ' ft e Q kk => ?_⟩
  unfold fDget at e
  split at e
  · cases e
  · rename_i hb
    obtain ⟨a, ha⟩ := dctB_at ft hb
    split at e
    · rename_i j ρ1 e1
      cases e2 : dGetS ρ1 i j with
      | none => rw [e2] at e; cases e
      | some d =>
        rw [e2] at e
        cases e
        refine ⟨_, ha, hq A H σ ρ _ ρ' ft e1 _ fun A1 H1 v s1 ok => ?_⟩
        cases ok
        unfold dGetS at e2
        split at e2
        · rename_i kvs hs1
          obtain ⟨a', ws, g1, g2, g3, g4, g5⟩ := dct_at s1.fit hs1
          rw [ha] at g1; cases g1
          rcases kv_get j g4 with ⟨z, _⟩ | ⟨d', w, z1, z2, z3⟩
          · rw [z] at e2; cases e2
          · rw [z1] at e2; cases e2
            refine ⟨a, w, rfl, ?_, kk A1 H1 w s1 z3⟩
            have := DGet.k (k := (Sum.inl j : Key)) g2
            rw [z2] at this
            exact this
        · cases e2
    · cases e
def fDin (neg : Bool) (i : Nat) (fk : Env → Option (Res × Env)) (ρ : Env) : Option (Res × Env) := match fk ρ with
    | some (.fr (.int j), ρ1) => (dInS ρ1 i j).map fun b => (.fr (.bool (neg != b)), ρ1)
    | _ => none
theorem din_core {A H σ ρ r ρ' neg i fk} {t : TE} (hq : ∀ A H σ ρ r ρ', Fit A H σ ρ → fk ρ = some (r, ρ') → ∀ Q : VK, (∀ A' H' v, Stp A H σ ρ A' H' σ ρ' → ResOk A' H H' σ ρ' v r → Q v H') → t σ H Q) (ft : Fit A H σ ρ) (e : fDin neg i fk ρ = some (r, ρ')) (Q : VK)
    (k : ∀ A' H' (a : Addr) (y : V) (o : Option V) (b : Bool), Stp A H σ ρ A' H' σ ρ' → σ[i]? = some (some (.ref a)) → DGet H' a y o → o.isSome = b → r = .fr (.bool (neg != b)) → Q y H') : t σ H Q := by
  unfold fDin at e
  split at e
  · rename_i j ρ1 e1
    cases e2 : dInS ρ1 i j with
    | none => rw [e2] at e; cases e
    | some b =>
      rw [e2] at e
      cases e
      refine hq A H σ ρ _ ρ' ft e1 _ fun A1 H1 v s1 ok => ?_
      cases ok
      unfold dInS at e2
      split at e2
      · rename_i kvs hs1
        cases e2
        obtain ⟨a', ws, g1, g2, g3, g4, g5⟩ := dct_at s1.fit hs1
        have g := DGet.k (k := (Sum.inl j : Key)) g2
        refine k A1 H1 a' _ _ (kvGet kvs j).isSome s1 g1 g ?_ rfl
        rcases kv_get j g4 with ⟨z1, z2⟩ | ⟨d', w, z1, z2, z3⟩
        · rw [z1, z2]; rfl
        · rw [z1, z2]; rfl
      · cases e2
  · cases e
def dop (neg : Bool) : CmpOp := if neg then .NotIn else .In
theorem pc_dn (C : CtxOk X N q F) (neg : Bool) {i : Nat} {x : Str} {px k} (h : nameB N q i x = true) {t : TE} (p : PE X k t) : ∃ t' : TE, PC X (dop neg) k (.Name x px) t' ∧
    ∀ σ H (Q : VK), (t σ H fun y H1 => ∃ w, σ[i]? = some (some w) ∧ ∃ a o, w = .ref a ∧ DGet H1 a y o ∧ Q (.bl (neg != o.isSome)) H1) → t' σ H Q := by
  have hu := C.un
  cases neg with
  | false =>
    refine ⟨_, pc_din (by omega) p (pe_name C h), fun σ H Q z => ?_⟩
    have e : ∀ b : Bool, (false != b) = b := fun b => by cases b <;> rfl
    simp only [e] at z
    exact z
  | true =>
    refine ⟨_, pc_dnotin (by omega) p (pe_name C h), fun σ H Q z => ?_⟩
    have e : ∀ b : Bool, (true != b) = !b := fun b => by cases b <;> rfl
    simp only [e] at z
    exact z
theorem snd_din (C : CtxOk X N q F) (neg : Bool) {i : Nat} {x : Str} {px k pos fk} (h : nameB N q i x = true) (hm : behindInMarks (dop neg) (.Name x px) = false) (hk : SndE X k fk) : SndE X (.Compare k [dop neg] [.Name x px] pos) (fDin neg i fk) ∧ SndT X (.Compare k [dop neg] [.Name x px] pos) (fDin neg i fk) := by
  obtain ⟨t, p, hq⟩ := hk
  obtain ⟨t', pc, g⟩ := pc_dn C neg (px := px) h p
  constructor
  · refine ⟨_, pe_cmp pc hm, fun A H σ ρ r ρ' ft e Q kk => g σ H Q (din_core hq ft e _ fun A' H' a y o b s ha hg hb er => ?_)⟩
    exact ⟨_, ha, a, o, rfl, hg, kk A' H' _ s (by rw [er, hb]; exact .bool)⟩
  · refine ⟨_, pt_cmp pc hm, fun A H σ ρ r ρ' ft e Q kk => g σ H _ (din_core hq ft e _ fun A' H' a y o b s ha hg hb er => ?_)⟩
    exact ⟨_, ha, a, o, rfl, hg, _, rfl, by cases er; rw [hb]; exact kk A' H' s⟩
def fDput (i : Nat) (fk fv : Env → Option (Res × Env)) (ρ : Env) : Option (Out × Env) := match fv ρ with
    | some (r, ρ1) => match dctB ρ1 i with
      | false => none
      | true => match fk ρ1 with
        | some (.fr (.int j), ρ2) => (dPutS ρ2 i j r.d).map fun ρ3 => (.next, ρ3)
        | _ => none
    | none => none
theorem snd_dput (C : CtxOk X N q F) {i : Nat} {x : Str} {px k v spos pos fk fv} (h : nameB N q i x = true) (hs : swapsWith v (some (.Subscript (.Name x px) k spos)) pos.line X.env = pure false) (hk : SndE X k fk) (hv : SndE X v fv) :
    SndS X (.Assign [.Subscript (.Name x px) k spos] v pos) (fDput i fk fv) := by
  obtain ⟨tv, pv, qv⟩ := hv.d
  obtain ⟨tk, pk, qk⟩ := hk
  have hu := C.un
  refine ⟨_, ps_dput (by omega) (pe_name C h) pk pv hs, fun A H σ ρ o ρ' ft e Dn kk => ?_⟩
  unfold fDput at e
  split at e
  · rename_i r ρ1 e1
    split at e
    · cases e
    · rename_i hb
      split at e
      · rename_i j ρ2 e2
        cases e3 : dPutS ρ2 i j r.d with
        | none => rw [e3] at e; cases e
        | some ρ3 =>
          rw [e3] at e
          cases e
          refine qv A H σ ρ r ρ1 ft e1 _ fun A1 H1 v s1 r1 => ?_
          obtain ⟨a, ha⟩ := dctB_at s1.fit hb
          refine ⟨_, ha, qk A1 H1 σ ρ1 _ ρ2 s1.fit e2 _ fun A2 H2 w s2 ok => ?_⟩
          cases ok
          unfold dPutS at e3
          split at e3
          · rename_i kvs hs1
            split at e3
            · rename_i hlen
              cases e3
              obtain ⟨a', ws, g1, g2, g3, g4, g5⟩ := dct_at s2.fit hs1
              rw [ha] at g1; cases g1
              have hl : ws.length < sizeLine := by rw [kv_len g4]; exact hlen
              have r2 := Rep.mono s2.ext (s2.keep s1.fit) r1
              refine ⟨a, _, rfl, DPut.k (k := (Sum.inl j : Key)) g2 hl, ?_⟩
              have hl2 : (putK ws (Sum.inl j : Key) v).length ≤ sizeLine := by have := length_putK ws (Sum.inl j : Key) v; omega
              exact kk.nx ((s1.trans s2).trans (stp_dct s2.fit hs1 ha hl2 (kv_put j g4 r2)))
            · cases e3
          · cases e3
      · cases e
  · cases e
def fDnew (i : Nat) (fk fv : Env → Option (Res × Env)) (ρ : Env) : Option (Out × Env) := match fk ρ with
    | some (.fr (.int j), ρ1) => match fv ρ1 with
      | some (r, ρ2) => (put i (.dct [(j, r.d)]) ρ2).map fun ρ3 => (.next, ρ3)
      | none => none
    | _ => none
theorem snd_dnew (C : CtxOk X N q F) {i x px k v dpos pos fk fv} (hN : N[i]? = some x) (hl : locB q x = true) (hk : SndE X k fk) (hv : SndE X v fv) : SndS X (.Assign [.Name x px] (.Dict [some k] [v] dpos) pos) (fDnew i fk fv) := by
  obtain ⟨tk, pk, qk⟩ := hk
  obtain ⟨tv, pv, qv⟩ := hv.d
  obtain ⟨h1, h2⟩ := loc_of C hl
  refine ⟨_, ps_set C.nd (by rw [C.N]; exact hN) h1 (pe_disp (pps_cons pk pv pps_nil) rfl rfl (by simp) (by simp)) rfl h2, fun A H σ ρ o ρ' ft e Dn kk => ?_⟩
  unfold fDnew at e
  split at e
  · rename_i j ρ1 e1
    split at e
    · rename_i r ρ2 e2
      cases e3 : put i (.dct [(j, r.d)]) ρ2 with
      | none => rw [e3] at e; cases e
      | some ρ3 =>
        rw [e3] at e
        cases e
        intro p hp
        have s0 := Stp.grow ft (upd_grow (o := .dK []) hp)
        refine qk A _ σ ρ _ ρ1 s0.fit e1 _ fun A1 H1 w s1 ok => ?_
        cases ok
        refine qv A1 H1 σ ρ1 r ρ2 s1.fit e2 _ fun A2 H2 v s2 r2 => ?_
        have s12 := s1.trans s2
        have nr : ∀ (j : Nat) u, ρ[j]? = some u → liveB u = true → σ[j]? ≠ some (some (.ref p)) := fun j u hu hl => ft.noref hp j u hu hl
        have nomut : ¬ Mut σ ρ p := fun ⟨j, u, m1, m2, m3⟩ => nr j u m1 (by cases u <;> first | rfl | (cases m2; done)) m3
        have hp2 : H2 p = some (.dK []) := s12.frame p _ upd_same nomut
        refine ⟨hp2, [((Sum.inl j : Key), v)], rfl, by simp, ?_⟩
        have na : ¬ A2 p := fun z => by
          rcases s12.news p z with q | q | q | ⟨l, ds, q1, q2⟩
          · exact ft.nofrz hp q
          · rw [upd_same] at q; cases q
          · exact nomut q
          · exact nr l _ q1 rfl q2
        have nr2 : ∀ (j : Nat) u, ρ2[j]? = some u → liveB u = true → σ[j]? ≠ some (some (.ref p)) := fun l u hu hl2 hz => by
          by_cases hm : mutS u = true
          · rcases s12.sub p ⟨l, u, hu, hm, hz⟩ with q | q
            · exact nomut q
            · rw [upd_same] at q; cases q
          · have ho : oldS u = true := by cases u <;> first | rfl | (cases hl2; done) | (exact absurd rfl hm)
            obtain ⟨q1, q2⟩ := s12.lents l u hu ho
            exact nr l u q1 hl2 hz
        have k3 : Keep A2 H2 (upd H2 p (.dK [((Sum.inl j : Key), v)])) := fun b o hb e => by
          have : b ≠ p := fun z => na (z ▸ hb)
          rw [upd_ne this]; exact e
        obtain ⟨t, ht, nm, rfl⟩ := put_inv e3
        have smut : ¬ Mut σ ρ2 p := fun ⟨l, u, m1, m2, m3⟩ => nr2 l u m1 (by cases u <;> first | rfl | (cases m2; done)) m3
        -- the dict's own heap: p is nobody's
        have f3 : Fit A2 (upd H2 p (.dK [((Sum.inl j : Key), v)])) σ ρ2 := by
          refine ⟨s2.fit.len, fun l u ov g1 g2 => ?_, s2.fit.apart, fun b hb => ?_⟩
          · have ok := s2.fit.slot l u ov g1 g2
            refine ok.go (fun _ z => z) k3 (fun b o lb z e => ?_) (fun b lt z => by subst z; exact ok.nofz lt) fun b o u' e => ?_
            · subst z
              have : b ≠ p := fun z => by subst z; exact nr2 l u g1 lb g2
              rw [upd_ne this]; exact e
            · have : b ≠ p := fun z => by subst z; rw [hp2] at e; cases e
              rw [upd_ne this]; exact e
          · obtain ⟨o, e⟩ := s2.fit.trk b hb
            exact ⟨o, k3 b o hb e⟩
        have s3 : Stp A H σ ρ A2 (upd H2 p (.dK [((Sum.inl j : Key), v)])) σ ρ2 := by
          have s02 := s0.trans s12
          refine ⟨s02.ext, fun b o e n => ?_, fun b e => ?_, s02.sub, s02.mus, s02.news, s02.lents, f3⟩
          · have : b ≠ p := fun z => by subst z; rw [hp] at e; cases e
            rw [upd_ne this]; exact s02.frame b o e n
          · by_cases hbp : b = p
            · subst hbp; exact hp
            · rw [upd_ne hbp] at e; exact s02.dom b e
        have eq1 : mergeK [] [((Sum.inl j : Key), v)] = [((Sum.inl j : Key), v)] := rfl
        rw [eq1]
        refine kk.nx (stp_dnew s3 ht nm (fun es z => ?_) upd_same (by simp [sizeLine]) ⟨rfl, .cons (Rep.mono (fun _ z => z) k3 r2) .nil⟩ na hp nr2)
        obtain ⟨_, ds', z2⟩ := s3.mus i es z
        rw [ht] at z2; cases z2
        exact nm _ rfl
    · cases e
  · cases e
/-! ### methods that change nothing -/
def mthName : Mth → String
  | .count => "count"
  | .index => "index"
def MthSnd (X : Cx) (id : String) (m : Mth) : Prop := ∃ r : V → List V → Hp → VK → Prop, MtR X id r ∧
  ∀ A H a vs ds y d res, H a = some (.lst vs) → vs.length ≤ sizeLine → RepAll A H vs ds → Rep A H y d → dMth m (.list ds) d = some res → ∀ Q : VK, (∀ w, Rep A H w res → Q w H) → r (.ref a) [y] H Q
theorem mth_count : MthSnd X "list.count" .count := by
  refine ⟨_, mt_lcount, fun A H a vs ds y d res h1 h2 h3 h4 e Q k => ?_⟩
  cases d <;> simp only [dMth, reduceCtorEq] at e
  rename_i i
  cases h4
  cases e1 : allInts ds with
  | none => rw [e1] at e; cases e
  | some ns =>
    rw [e1] at e
    cases e
    obtain ⟨rfl, _⟩ := rep_of_ints h3 e1
    exact ⟨a, ns, i, rfl, rfl, SqL.of h1, k _ .int⟩
theorem indexD_at (d : D) : ∀ {ds : List D} {n : Nat}, indexD d ds = some n → ∃ z, ds[n]? = some z ∧ PyData.eqv z d = true ∧ ∀ (m : Nat) (z' : D), m < n → ds[m]? = some z' → PyData.eqv z' d = false
  | [], n, h => by cases h
  | x :: r, n, h => by
    unfold indexD at h
    by_cases hx : PyData.eqv x d = true
    · rw [if_pos hx] at h; cases h
      exact ⟨x, rfl, hx, fun m z' hm _ => by omega⟩
    · rw [if_neg hx] at h
      cases e : indexD d r with
      | none => rw [e] at h; cases h
      | some j =>
        rw [e] at h; cases h
        obtain ⟨z, h1, h2, h3⟩ := indexD_at d e
        refine ⟨z, h1, h2, fun m z' hm hz => ?_⟩
        cases m with
        | zero => cases hz; simpa using hx
        | succ m =>
          have hm' : m + 1 < j + 1 := hm
          exact h3 m z' (by omega) hz
theorem mth_index (hu : X.A.units + 65 < cLine) : MthSnd X "list.index" .index := by
  refine ⟨_, mt_indexD hu, fun A H a vs ds y d res h1 h2 h3 h4 e Q k => ?_⟩
  simp only [dMth] at e
  split at e
  · rename_i hs
    rw [Bool.and_eq_true] at hs
    cases e1 : indexD d ds with
    | none => rw [e1] at e; cases e
    | some n =>
      rw [e1] at e
      cases e
      obtain ⟨z, g1, g2, g3⟩ := indexD_at d e1
      exact ⟨a, y, d, ds, n, z, rfl, rfl, .lst (SqL.of h1) (RepAll.dp h3), Rep.dp h4, hs.2, hs.1, g1, g2, g3, k _ .int⟩
  · cases e
def fMth (m : Mth) (fo : Env → Option (Opd × Env)) (fa : Env → Option (Res × Env)) (ρ : Env) : Option (Res × Env) := match fo ρ with
    | none => none
    | some (oo, ρ1) => match isLB (oo.get ρ1) with
      | false => none
      | true => match fa ρ1 with
        | none => none
        | some (ra, ρ2) => match oo.get ρ2 with
          | none => none
          | some d => (dMth m d ra.d).map fun r => (.fr r, ρ2)
theorem snd_mth {m : Mth} {id : String} {o : Expr} {e apos cpos fo fa} (hc : MthSnd X id m) (slot : PySem.Slot "list" (Str.ofString (mthName m)) id) (hty : typeOf (.builtin id) = pure (.type "method_descriptor"))
    (hb : attributeBase o (Str.ofString (mthName m)) X.env (eval o X.env) = eval o X.env) (st : notStar e = true) (hl : (apos.endLine == cpos.line) = true) (ho : SndO X o fo) (ha : SndE X e fa) :
    SndE X (.Call (.Attribute o (Str.ofString (mthName m)) apos) [e] [] cpos) (fMth m fo fa) := by
  obtain ⟨r, pr, qr⟩ := hc
  obtain ⟨to, po, qo⟩ := ho
  obtain ⟨ta, pa, qa⟩ := ha.d
  refine ⟨_, pe_bm PySem.F.plainAttrs_list slot hty pr po (pa_cons pa pa_nil (star_cons st)) hb (few_ok (by simp [st]) (by simp)) hl (star_cons st) (star_any rfl), fun A H σ ρ res ρ' ft e Q k => ?_⟩
  unfold fMth at e
  split at e
  · cases e
  · rename_i oo ρ1 e1
    split at e
    · cases e
    · rename_i hb1
      split at e
      · cases e
      · rename_i ra ρ2 e2
        split at e
        · cases e
        · rename_i d e3
          cases e4 : dMth m d ra.d with
          | none => rw [e4] at e; cases e
          | some z =>
            rw [e4] at e
            cases e
            refine qo A H σ ρ oo ρ1 ft e1 _ fun A1 H1 v s1 k1 => ?_
            have hl1 : ∃ ds1, oo.get ρ1 = some (.list ds1) := by
              unfold isLB at hb1
              split at hb1
              · rename_i ds1 hg; exact ⟨ds1, hg⟩
              · cases hb1
            obtain ⟨ds1, hg⟩ := hl1
            obtain ⟨a, vs, rfl, g1, g2, g3⟩ := (Opd.ok s1.fit k1 hg).list
            refine ⟨.inl ⟨rfl, vs, SqL.of g1⟩, qa A1 H1 σ ρ1 ra ρ' s1.fit e2 _ fun A2 H2 w s2 r2 => ?_⟩
            have k2 := k1.mono s2.ext (s2.keep s1.fit)
            have w2 := Opd.ok s2.fit k2 e3
            have hd : ∃ ds, d = .list ds := by
              cases m <;> cases d <;> first | exact ⟨_, rfl⟩ | (simp [dMth] at e4; done)
            obtain ⟨ds, rfl⟩ := hd
            obtain ⟨a', vs', ea, q1, q2, q3⟩ := w2.list
            cases ea
            exact qr A2 H2 a vs' ds w ra.d z q1 q2 q3 r2 e4 Q fun u ru => k A2 H2 u (s1.trans s2) ru
theorem snd_rse {e c pos} : SndS X (.Raise e c pos) (fun _ => none) := ⟨fun _ _ _ => False, ⟨fun _ _ _ _ _ _ h => h.elim⟩, fun A H σ ρ o ρ' ft e Dn k => by cases e⟩
end
end Ev


set_option maxRecDepth 100000
/-! Ev14: the checker: an IR against the syntax. -/
namespace Ev
open PySem L2
variable [TheK]

def bltName : Blt → String
  | .abs => "abs" | .int => "int" | .str => "str" | .repr => "repr" | .sum => "sum" | .max => "max" | .min => "min" | .max2 => "max" | .min2 => "min"
  | .all => "all" | .any => "any" | .sorted => "sorted" | .list => "list" | .tuple => "tuple" | .gcd => "gcd"
def ownOf (N : List Str) (vs : List Nat) : List (Str × Nat) := vs.filterMap fun v => (N[v]?).map fun x => (x, v)
def notSet : Expr → Bool
  | .Set .. => false
  | _ => true
def notTup : Expr → Bool
  | .Tuple .. => false
  | _ => true
def notSlice : Expr → Bool
  | .Slice .. => false
  | _ => true
mutual
def chkT (N : List Str) (q : Sc) : T → Expr → Bool
  | .name i, ex => (match ex with
    | .Name x _ => decide (N[i]? = some x) && locB q x
    | _ => false)
  | .tup ts, ex => (match ex with
    | .Tuple es _ _ => es.all notStar && chkTs N q ts es
    | _ => false)
def chkTs (N : List Str) (q : Sc) : Ts → List Expr → Bool
  | .nil, es => (match es with
    | [] => true
    | _ => false)
  | .cons t ts, es => (match es with
    | e :: r => chkT N q t e && chkTs N q ts r
    | _ => false)
end
mutual
def chkE (N : List Str) (q : Sc) : E → Expr → Bool
  | .var i, ex => (match ex with
    | .Name x _ => nameB N q i x
    | _ => false)
  | .int n, ex => (match ex with
    | .Constant (.int m) _ _ => decide (m = n)
    | _ => false)
  | .bl b, ex => (match ex with
    | .Constant (.bool m) _ _ => decide (m = b)
    | _ => false)
  | .non, ex => (match ex with
    | .Constant .none _ _ => true
    | _ => false)
  | .str s, ex => (match ex with
    | .Constant (.str m) _ _ => decide (m = Str.ofString s)
    | _ => false)
  | .bin o a b, ex => (match ex with
    | .BinOp l op r _ => decide (op = bop o) && chkE N q a l && chkE N q b r
    | _ => false)
  | .neg a, ex => (match ex with
    | .UnaryOp op x _ => decide (op = .USub) && chkE N q a x
    | _ => false)
  | .no a, ex => (match ex with
    | .UnaryOp op x _ => decide (op = .Not) && chkE N q a x
    | _ => false)
  | .cmp o a b, ex => (match ex with
    | .Compare l [op] [r] _ => decide (op = cop o) && !behindInMarks op r && chkE N q a l && chkE N q b r
    | _ => false)
  | .cmp2 o p a b c, ex => (match ex with
    | .Compare l [op, op'] [r, r'] _ => decide (op = cop o) && decide (op' = cop p) && !lastMarks [op, op'] [r, r'] && chkE N q a l && chkE N q b r && chkE N q c r'
    | _ => false)
  | .and a b, ex => (match ex with
    | .BoolOp op (x :: y :: rest) pos => decide (op = .And) && chkE N q a x && (match rest with
      | [] => chkE N q b y
      | _ :: _ => chkE N q b (.BoolOp .And (y :: rest) pos))
    | _ => false)
  | .or a b, ex => (match ex with
    | .BoolOp op (x :: y :: rest) pos => decide (op = .Or) && chkE N q a x && (match rest with
      | [] => chkE N q b y
      | _ :: _ => chkE N q b (.BoolOp .Or (y :: rest) pos))
    | _ => false)
  | .ite c a b, ex => (match ex with
    | .IfExp c' a' b' _ => chkE N q c c' && chkE N q a a' && chkE N q b b'
    | _ => false)
  | .idx a i, ex => (match ex with
    | .Subscript e s _ => notSlice s && chkE N q a e && chkE N q i s
    | _ => false)
  | .slc a lo hi, ex => (match ex with
    | .Subscript e (.Slice l h none _) _ => chkE N q a e && chkO N q lo l && chkO N q hi h
    | _ => false)
  | .rvs a, ex => (match ex with
    | .Subscript e (.Slice none none (some (.UnaryOp .USub (.Constant (.int 1) _ _) _)) _) _ => chkE N q a e
    | _ => false)
  | .dget i k, ex => (match ex with
    | .Subscript (.Name x _) s _ => notSlice s && nameB N q i x && chkE N q k s
    | _ => false)
  | .din neg i k, ex => (match ex with
    | .Compare l [op] [.Name x px] _ => decide (op = dop neg) && nameB N q i x && !behindInMarks op (.Name x px) && chkE N q k l
    | _ => false)
  | .tup es, ex => (match ex with
    | .Tuple xs _ _ => xs.all notStar && chkEs N q es xs
    | _ => false)
  | .lst es, ex => (match ex with
    | .List xs _ => xs.all notStar && chkEs N q es xs
    | _ => false)
  | .comp elt t it c vs, ex => (match ex with
    | .ListComp e [⟨tg, iter, ifs, z⟩] scope _ => decide (z = 0) && notSet iter && decide ((ownOf N vs).map (·.2) = vs) && blkC N q.sc scope (ownOf N vs) && (tslots t).all (fun i => decide (i ∈ vs)) &&
        chkI N q it tg iter && chkT N (blkSc q scope) t tg && chkC N (blkSc q scope) c ifs && chkE N (blkSc q scope) elt e
    | _ => false)
  | .comp2 elt t it c0 t1 it1 c vs vs1, ex => (match ex with
    | .ListComp e [⟨tg, iter, ifs, z⟩, ⟨tg1, iter1, ifs1, z1⟩] scope _ => decide (z = 0) && decide (z1 = 0) && notSet iter && notSet iter1 && decide ((ownOf N vs).map (·.2) = vs) && blkC N q.sc scope (ownOf N vs) && (tslots t).all (fun i => decide (i ∈ vs)) && (tslots t1).all (fun i => decide (i ∈ vs1)) && vs1.all (fun i => decide (i ∈ vs)) &&
        chkI N q it tg iter && chkT N (blkSc q scope) t tg && chkC N (blkSc q scope) c0 ifs && chkI N (blkSc q scope) it1 tg1 iter1 && chkT N (blkSc q scope) t1 tg1 && chkC N (blkSc q scope) c ifs1 && chkE N (blkSc q scope) elt e
    | _ => false)
  | .setc srt elt t it c vs, ex => (match ex with
    | .Call (.Name x _) [.SetComp e [⟨tg, iter, ifs, z⟩] scope _] [] _ => decide (x = Str.ofString (if srt then "sorted" else "len")) && glB q.sc x && decide (z = 0) && notSet iter && decide ((ownOf N vs).map (·.2) = vs) && blkC N q.sc scope (ownOf N vs) && (tslots t).all (fun i => decide (i ∈ vs)) &&
        chkI N q it tg iter && chkT N (blkSc q scope) t tg && chkC N (blkSc q scope) c ifs && chkE N (blkSc q scope) elt e
    | _ => false)
  | .call f es, ex => (match ex with
    | .Call (.Name x _) xs [] _ => decide (x = Str.ofString f) && glB q.sc x && !(x == ("__debug__" : Str)) && xs.all notStar && chkEs N q es xs
    | _ => false)
  | .pcall f es, ex => (match ex with
    | .Call (.Name x _) (y :: ys) [] _ => decide (x = Str.ofString f) && glB q.sc x && !(x == ("__debug__" : Str)) && (y :: ys).all notStar && chkPks N q es (y :: ys)
    | _ => false)
  | .blt b es, ex => (match ex with
    | .Call (.Name x _) (y :: ys) [] _ => decide (x = Str.ofString (bltName b)) && glB q.sc x && (!decide (b = .gcd) || q.gcd) && (y :: ys).all notStar && chkEs N q es (y :: ys)
    | _ => false)
  | .isi a t, ex => (match ex with
    | .Call (.Name x _) [e, .Name y _] [] _ => decide (x = Str.ofString "isinstance") && decide (y = Str.ofString (tyName t)) && glB q.sc x && glB q.sc y && notStar e && chkE N q a e
    | _ => false)
  | .len a, ex => (match ex with
    | .Call (.Name x _) [e] [] _ => decide (x = Str.ofString "len") && glB q.sc x && notStar e && chkE N q a e
    | _ => false)
  | .rngs t it, ex => (match ex with
    | .Call (.Name x _) [e] [] _ => decide (x = Str.ofString (if t then "tuple" else "list")) && glB q.sc x && notStar e && (match it with
      | .rng1 .. => true
      | .rng2 .. => true
      | _ => false) && chkI N q it e e
    | _ => false)
  | .meth m o a, ex => (match ex with
    | .Call (.Attribute (.Name x px) nm apos) [e] [] cpos => (match o with
      | .var _ => true
      | _ => false) && decide (nm = Str.ofString (mthName m)) && notStar e && (apos.endLine == cpos.line) && chkE N q o (.Name x px) && chkE N q a e
    | _ => false)
  | .chg m i es, ex => (match ex with
    | .Call (.Attribute (.Name x _) nm apos) xs [] cpos => nameB N q i x && decide (nm = Str.ofString (cthName m)) && (apos.endLine == cpos.line) && xs.all notStar && decide (xs.length < 29) &&
        (match m with
        | .append => !xs.isEmpty
        | .insert => !xs.isEmpty
        | .extend => !xs.isEmpty
        | .remove => !xs.isEmpty
        | .popAt => !xs.isEmpty
        | .pop => xs.isEmpty
        | .reverse => xs.isEmpty) && chkEs N q es xs
    | _ => false)
def chkO (N : List Str) (q : Sc) : OE → Option Expr → Bool
  | .none, ex => (match ex with
    | none => true
    | _ => false)
  | .some e, ex => (match ex with
    | some x => chkE N q e x
    | _ => false)
def chkC (N : List Str) (q : Sc) : OE → List Expr → Bool
  | .none, ex => (match ex with
    | [] => true
    | _ => false)
  | .some e, ex => (match ex with
    | [x] => chkE N q e x
    | _ => false)
def chkI (N : List Str) (q : Sc) : Wk → Expr → Expr → Bool
  | .seq a, _, ex => chkE N q a ex
  | .rng1 a, _, ex => (match ex with
    | .Call (.Name x _) [e] [] _ => decide (x = Str.ofString "range") && glB q.sc x && notStar e && chkE N q a e
    | _ => false)
  | .rng2 a b, _, ex => (match ex with
    | .Call (.Name x _) [e, e'] [] _ => decide (x = Str.ofString "range") && glB q.sc x && notStar e && notStar e' && chkE N q a e && chkE N q b e'
    | _ => false)
  | .enm a, tg, ex => !notTup tg && (match ex with
    | .Call (.Name x _) [e] [] _ => decide (x = Str.ofString "enumerate") && glB q.sc x && notStar e && chkE N q a e
    | _ => false)
  | .zip a b, tg, ex => !notTup tg && (match ex with
    | .Call (.Name x _) [e, e'] [] _ => decide (x = Str.ofString "zip") && glB q.sc x && notStar e && notStar e' && chkE N q a e && chkE N q b e'
    | _ => false)
  | .rev a, _, ex => (match ex with
    | .Call (.Name x _) [e] [] _ => decide (x = Str.ofString "reversed") && glB q.sc x && notStar e && chkE N q a e
    | _ => false)
  | .rrng1 a, _, ex => (match ex with
    | .Call (.Name y _) [.Call (.Name x _) [e] [] _] [] _ => decide (y = Str.ofString "reversed") && decide (x = Str.ofString "range") && glB q.sc y && glB q.sc x && notStar e && chkE N q a e
    | _ => false)
  | .rrng2 a b, _, ex => (match ex with
    | .Call (.Name y _) [.Call (.Name x _) [e, e'] [] _] [] _ => decide (y = Str.ofString "reversed") && decide (x = Str.ofString "range") && glB q.sc y && glB q.sc x && notStar e && notStar e' && chkE N q a e && chkE N q b e'
    | _ => false)
  | .dwn a b, _, ex => (match ex with
    | .Call (.Name x _) [e, e', .UnaryOp .USub (.Constant (.int 1) _ _) _] [] _ => decide (x = Str.ofString "range") && glB q.sc x && notStar e && notStar e' && chkE N q a e && chkE N q b e'
    | _ => false)
def chkEs (N : List Str) (q : Sc) : Es → List Expr → Bool
  | .nil, es => (match es with
    | [] => true
    | _ => false)
  | .cons e es, xs => (match xs with
    | x :: r => chkE N q e x && chkEs N q es r
    | _ => false)
end
/-- a comprehension's list is stored from within its frame -/
def swB (q : Sc) (x : Str) (px : Pos) : Expr → Bool
  | .ListComp _ _ scope pos => (match q.sc.names.lookup x with
    | some .local => true
    | _ => false) && px.line == pos.line && !(scope.names.any fun (n, k) => n == x && (k == .local || k == .cell))
  | _ => false
def cellB (q : Sc) (x : Str) : Bool := match q.sc.names.lookup x with
  | some .cell => true
  | _ => false
/-- two names, one of them a cell's, set to two values: a tuple that is taken apart -/
def cellTup (q : Sc) : Expr → Expr → Bool
  | .Tuple [.Name x _, .Name y _] _ _, .Tuple [a, b] _ _ => cellB q x || cellB q y
  | _, _ => false
def parB (q : Sc) (x y : Str) (px py : Pos) (a b : Expr) : Bool :=
  (match q.sc.names.lookup x with
    | some .local => true
    | _ => false) && (match q.sc.names.lookup y with
    | some .local => true
    | _ => false) && px.line == py.line && !(x == y) && notStar a && notStar b && !([a, b].all (foldedForSure 8)) && !([a, b].all (constantsAlone 8))
mutual
def chkS (N : List Str) (q : Sc) : S → Stmt → Bool
  | .asg t e, st => (match st with
    | .Assign [tg] v pos => (match t with
      | .name i => (match tg with
        | .Name x px => decide (N[i]? = some x) && locB q x && chkE N q e v && (!isComp v || swB q x px v || cellB q x)
        | _ => false)
      | .tup _ => (notTup v || cellTup q tg v) && (match tg with
        | .Tuple .. => true
        | _ => false) && chkT N q t tg && chkE N q e v)
    | _ => false)
  | .par i j a b, st => (match st with
    | .Assign [.Tuple [.Name x px, .Name y py] _ _] (.Tuple [a', b'] _ _) _ => decide (N[i]? = some x) && decide (N[j]? = some y) && decide (i ≠ j) && parB q x y px py a' b' && chkE N q a a' && chkE N q b b'
    | _ => false)
  | .aug o i e, st => (match st with
    | .AugAssign (.Name x _) op v _ => decide (op = bop o) && augOp o && decide (N[i]? = some x) && locB q x && chkE N q e v
    | _ => false)
  | .dnew i k v, st => (match st with
    | .Assign [.Name x _] (.Dict [some k'] [v'] _) _ => decide (N[i]? = some x) && locB q x && chkE N q k k' && chkE N q v v'
    | _ => false)
  | .dput i k v, st => (match st with
    | .Assign [.Subscript (.Name x _) k' _] v' _ => nameB N q i x && !isComp v' && chkE N q k k' && chkE N q v v'
    | _ => false)
  | .rse, st => (match st with
    | .Raise _ _ _ => true
    | _ => false)
  | .setIx i ix e, st => (match st with
    | .Assign [.Subscript (.Name x _) ix' _] v _ => nameB N q i x && notSlice ix' && chkE N q ix ix' && chkE N q e v
    | _ => false)
  | .augIx o i ix e, st => (match st with
    | .AugAssign (.Subscript (.Name x _) ix' _) op v _ => decide (op = bop o) && augOp o && nameB N q i x && notSlice ix' && chkE N q ix ix' && chkE N q e v
    | _ => false)
  | .ex e, st => (match st with
    | .Expr v _ => !isComp v && chkE N q e v
    | _ => false)
  | .ret e, st => (match st with
    | .Return (some v) _ => chkE N q e v
    | _ => false)
  | .retN, st => (match st with
    | .Return none _ => true
    | _ => false)
  | .brk, st => (match st with
    | .Break _ => true
    | _ => false)
  | .cont, st => (match st with
    | .Continue _ => true
    | _ => false)
  | .pass, st => (match st with
    | .Pass _ => true
    | _ => false)
  | .ife c a b, st => (match st with
    | .If c' a' b' _ => chkE N q c c' && chkSs N q a a' && chkSs N q b b'
    | _ => false)
  | .whl _ c b, st => (match st with
    | .While c' b' [] _ => chkE N q c c' && chkSs N q b b'
    | _ => false)
  | .forr t it b, st => (match st with
    | .For tg iter b' [] _ => notSet iter && chkI N q it tg iter && chkT N q t tg && chkSs N q b b'
    | _ => false)
def chkSs (N : List Str) (q : Sc) : Ss → List Stmt → Bool
  | .nil, st => (match st with
    | [] => true
    | _ => false)
  | .cons s ss, st => (match st with
    | x :: r => chkS N q s x && chkSs N q ss r
    | _ => false)
end
end Ev


set_option maxRecDepth 100000
/-! Ev15: soundness of the evaluator. -/
namespace Ev
open PySem L2
variable [TheK]
section
variable {N : List Str} {F : FT}
theorem plain_of {b : Expr} (h : notSlice b = true) : PlainIx b := by
  intro o i
  cases b <;> first | rfl | cases h
def plainT : Expr → Bool
  | .UnaryOp .Not _ _ => false
  | .BoolOp .. => false
  | .IfExp .. => false
  | .Compare .. => false
  | _ => true
theorem plainT_ok {e : Expr} {env : PySem.Env} (h : plainT e = true) (whole : Sem Value) : isTrue e env whole = (do let v ← whole; standAt e.pos; holding [v] (truthy v)) := by
  cases e <;> first | rfl | (cases h; done) | (rename_i op x pos; cases op <;> first | rfl | cases h)
theorem fold_of {iter : Expr} {env x} (h : notSet iter = true) : foldedSetIterable iter env x = pure x := by
  cases iter <;> first | rfl | cases h
def isBO : Expr → Bool
  | .BoolOp .. => true
  | _ => false
def P (X : Cx) (F : FT) (e : E) (ex : Expr) : Prop := SndE X ex (ev F e) ∧ SndT X ex (ev F e) ∧ (isBO ex = true → SndW X ex (ev F e))
theorem P.of {X e ex} (h : SndE X ex (ev F e)) (pl : plainT ex = true) : P X F e ex := ⟨h, h.t (plainT_ok pl), fun z => by cases ex <;> first | (cases z; done) | (cases pl; done)⟩
theorem blt_ok {X q} (C : CtxOk X N q F) (b : Blt) (hb : b ≠ .gcd) {es : List Expr} {e : Expr} {p pos fs} (hg : glB q.sc (Str.ofString (bltName b)) = true) (st : (e :: es).all notStar = true) (hs : SndP X (e :: es) fs) :
    SndE X (.Call (.Name (Str.ofString (bltName b)) p) (e :: es) [] pos) (fBlt (dBlt b) fs) := by
  cases b with
  | abs => exact snd_bltB C cs_abs (name := "abs") (by decide) hg (by decide +kernel) (by decide) (by decide) st hs
  | int => exact snd_bltT C cs_int (name := "int") (by decide) hg (by decide +kernel) (by decide) (by decide) st hs
  | str => exact snd_bltT C cs_str (name := "str") (by decide) hg (by decide +kernel) (by decide) (by decide) st hs
  | repr => exact snd_bltB C cs_repr (name := "repr") (by decide) hg (by decide +kernel) (by decide) (by decide) st hs
  | sum => exact snd_bltB C (cs_sum C.calm) (name := "sum") (by decide) hg (by decide +kernel) (by decide) (by decide) st hs
  | max => exact snd_bltB C (cs_max C.calm C.un) (name := "max") (by decide) hg (by decide +kernel) (by decide) (by decide) st hs
  | min => exact snd_bltB C (cs_min C.calm C.un) (name := "min") (by decide) hg (by decide +kernel) (by decide) (by decide) st hs
  | max2 => exact snd_bltB C (cs_max2 C.calm) (name := "max") (by decide) hg (by decide +kernel) (by decide) (by decide) st hs
  | min2 => exact snd_bltB C (cs_min2 C.calm) (name := "min") (by decide) hg (by decide +kernel) (by decide) (by decide) st hs
  | all => exact snd_bltB C (cs_all C.calm) (name := "all") (by decide) hg (by decide +kernel) (by decide) (by decide) st hs
  | any => exact snd_bltB C (cs_any C.calm) (name := "any") (by decide) hg (by decide +kernel) (by decide) (by decide) st hs
  | sorted => exact snd_bltB C (cs_sorted C.un) (name := "sorted") (by decide) hg (by decide +kernel) (by decide) (by decide) st hs
  | list => exact snd_bltT C cs_list (name := "list") (by decide) hg (by decide +kernel) (by decide) (by decide) st hs
  | tuple => exact snd_bltT C cs_tuple (name := "tuple") (by decide) hg (by decide +kernel) (by decide) (by decide) st hs
  | gcd => exact absurd rfl hb
theorem snd_gcd {X q} (C : CtxOk X N q F) (hq : q.gcd = true) {es : List Expr} {e : Expr} {p pos fs} (hg : glB q.sc (Str.ofString "gcd") = true) (st : (e :: es).all notStar = true) (hs : SndP X (e :: es) fs) :
    SndE X (.Call (.Name (Str.ofString "gcd") p) (e :: es) [] pos) (fBlt (dBlt .gcd) fs) := by
  obtain ⟨r, pr, qr⟩ := cs_gcd (X := X)
  obtain ⟨ts, ps, qs⟩ := hs
  rw [List.all_cons, Bool.and_eq_true] at st
  exact ⟨_, pe_callBfun pr (gl_of C hg) (C.gc hq) ps (by decide) (star_cons st.1) (star_any st.2), fun A H σ ρ r ρ' ft e Q k => blt_core qs qr ft e k⟩
/-- list(range ..), tuple(range ..) -/
theorem prg_res {X e} {te : St → Hp → (Int → Int → Hp → Prop) → Prop} {f : Env → Option (List D × Env × List Nat)} {t : Bool} {name : String} {p pos q} (C : CtxOk X N q F) (hname : name = (if t then "tuple" else "list")) (hg : glB q.sc (Str.ofString name) = true) (hn : notStar e = true)
    (pe : PRg X e te) (qe : ∀ A H σ ρ ds ρ' ls, Fit A H σ ρ → f ρ = some (ds, ρ', ls) → ∀ Q : Int → Int → Hp → Prop, (∀ A' H' a b, Stp A H σ ρ A' H' σ ρ' → ds = rngD a b → RgOk a b → Q a b H') → te σ H Q) :
    SndE X (.Call (.Name (Str.ofString name) p) [e] [] pos) (fun ρ => match f ρ with | some (ds, ρ1, _) => some (if t then .fr (.tuple ds) else .nw ds, ρ1) | none => none) := by
  have rep : ∀ {A H} (a b : Int), RepAll A H (rgV a b) (rngD a b) := fun {A H} a b => by
    have : ∀ l : List Nat, RepAll A H (l.map fun i => V.int (a + (i : Nat))) (l.map fun (i : Nat) => .int (a + i)) := fun l => by
      induction l with
      | nil => exact .nil
      | cons x r ih => exact .cons .int ih
    exact this _
  cases t with
  | true =>
    subst hname
    refine ⟨_, pe_tupRg C.calm (gl_of C hg) (C.bl "tuple" (by decide)) pe (star_cons hn), fun A H σ ρ r ρ' ft e Q k => ?_⟩
    simp only at e
    split at e
    · rename_i ds ρ1 ls e1
      cases e
      refine qe A H σ ρ ds ρ' ls ft e1 _ fun A1 H1 a b s1 hd ok => ⟨ok, fun p hp => ?_⟩
      subst hd
      have hl : (rgV a b).length ≤ sizeLine := by rw [rgV_length]; exact ok.2.2.2.2
      exact k _ _ _ (s1.trans (Stp.frz s1.fit hp)) (rep_newT hp hl (rep a b))
    · cases e
  | false =>
    subst hname
    refine ⟨_, pe_listRg C.calm (gl_of C hg) (C.bl "list" (by decide)) pe (star_cons hn), fun A H σ ρ r ρ' ft e Q k => ?_⟩
    simp only at e
    split at e
    · rename_i ds ρ1 ls e1
      cases e
      refine qe A H σ ρ ds ρ' ls ft e1 _ fun A1 H1 a b s1 hd ok => ⟨ok, fun p hp => ?_⟩
      subst hd
      have hl : (rgV a b).length ≤ sizeLine := by rw [rgV_length]; exact ok.2.2.2.2
      exact k _ _ _ (s1.trans (Stp.grow s1.fit (upd_grow hp))) ((res_new s1.fit hp hl (rep a b)).start s1.dom)
    · cases e
theorem snd_rngs1 {X q} (C : CtxOk X N q F) {e p pos p' pos' fa} (t : Bool) {name : String} (hname : name = (if t then "tuple" else "list")) (hg : glB q.sc (Str.ofString name) = true) (hg2 : glB q.sc (Str.ofString "range") = true) (hn : notStar e = true) (ha : SndE X e fa) :
    SndE X (.Call (.Name (Str.ofString name) p) [.Call (.Name (Str.ofString "range") p') [e] [] pos'] [] pos) (fun ρ => match fRng1 fa ρ with | some (ds, ρ1, _) => some (if t then .fr (.tuple ds) else .nw ds, ρ1) | none => none) := by
  obtain ⟨ta, pa, qa⟩ := ha
  refine prg_res C hname hg rfl (prg_1 (gl_of C hg2) (C.bl "range" (by decide)) pa (star_cons hn)) fun A H σ ρ ds ρ' ls ft e Q k => ?_
  unfold fRng1 at e
  split at e
  · rename_i i ρ1 e1
    split at e
    · rename_i hz
      cases e
      refine qa A H σ ρ _ ρ' ft e1 _ fun A1 H1 v s1 ok => ?_
      cases ok
      have hs : (sizeLine : Int) = 2 ^ 24 := by decide
      exact ⟨i, rfl, k A1 H1 0 i s1 rfl ⟨by omega, by omega, by omega, by omega, by omega⟩⟩
    · cases e
  · cases e
theorem snd_rngs2 {X q} (C : CtxOk X N q F) {e e' p pos p' pos' fa fb} (t : Bool) {name : String} (hname : name = (if t then "tuple" else "list")) (hg : glB q.sc (Str.ofString name) = true) (hg2 : glB q.sc (Str.ofString "range") = true) (hn : notStar e = true) (hn' : notStar e' = true) (ha : SndE X e fa) (hb : SndE X e' fb) :
    SndE X (.Call (.Name (Str.ofString name) p) [.Call (.Name (Str.ofString "range") p') [e, e'] [] pos'] [] pos) (fun ρ => match fRng2 fa fb ρ with | some (ds, ρ1, _) => some (if t then .fr (.tuple ds) else .nw ds, ρ1) | none => none) := by
  obtain ⟨ta, pa, qa⟩ := ha
  obtain ⟨tb, pb, qb⟩ := hb
  refine prg_res C hname hg rfl (prg_2 (gl_of C hg2) (C.bl "range" (by decide)) pa pb (by rw [star_cons hn]) (star_cons hn') (star_any (by simp [hn']))) fun A H σ ρ ds ρ' ls ft e Q k => ?_
  unfold fRng2 at e
  split at e
  · rename_i i ρ1 e1
    split at e
    · rename_i j ρ2 e2
      split at e
      · rename_i hz
        cases e
        refine qa A H σ ρ _ ρ1 ft e1 _ fun A1 H1 v s1 ok => ?_
        cases ok
        refine qb A1 H1 σ ρ1 _ ρ' s1.fit e2 _ fun A2 H2 v s2 ok => ?_
        cases ok
        have hs : (sizeLine : Int) = 2 ^ 24 := by decide
        exact ⟨i, j, rfl, rfl, k A2 H2 i j (s1.trans s2) rfl ⟨by omega, by omega, by omega, by omega, by omega⟩⟩
      · cases e
    · cases e
  · cases e
theorem opd_eq {a : E} {f : Env → Option (Res × Env)} : True := trivial
/-- an operand -/
theorem P.o {X q e ex} (C : CtxOk X N q F) (h : P X F e ex) (hc : chkE N q e ex = true) : SndO X ex (opd e (ev F e)) := by
  cases e with
  | var i =>
    unfold chkE at hc
    split at hc
    · exact sndO_var C hc
    · cases hc
  | _ => exact h.1.o (fun i z => by cases z)

theorem ownOf_names {N : List Str} {vs : List Nat} {p : Str × Nat} (h : p ∈ ownOf N vs) : N[p.2]? = some p.1 := by
  unfold ownOf at h
  obtain ⟨v, _, hv⟩ := List.mem_filterMap.mp h
  cases e : N[v]? with
  | none => rw [e] at hv; cases hv
  | some x => rw [e] at hv; cases hv; exact e
mutual
theorem snd_T : ∀ (t : T) {X : Cx} {q : Sc} {ex : Expr}, CtxOk X N q F → chkT N q t ex = true → SndG X ex t
  | .name i, X, q, ex, C, h => by
    unfold chkT at h
    split at h
    · simp only [Bool.and_eq_true, decide_eq_true_eq] at h
      exact sndG_name C h.1 h.2
    · cases h
  | .tup ts, X, q, ex, C, h => by
    unfold chkT at h
    split at h
    · rw [Bool.and_eq_true] at h
      obtain ⟨h1, h2⟩ := snd_Ts ts C h.2 h.1
      exact sndG_tup C h2 h.1 h1
    · cases h
theorem snd_Ts : ∀ (ts : Ts) {X : Cx} {q : Sc} {es : List Expr}, CtxOk X N q F → chkTs N q ts es = true → es.all notStar = true → SndGs X es ts ∧ es.length = tsLen ts
  | .nil, X, q, es, C, h, st => by
    unfold chkTs at h
    split at h
    · exact ⟨sndGs_nil, rfl⟩
    · cases h
  | .cons t ts, X, q, es, C, h, st => by
    unfold chkTs at h
    split at h
    · rw [Bool.and_eq_true] at h
      rw [List.all_cons, Bool.and_eq_true] at st
      obtain ⟨h1, h2⟩ := snd_Ts ts C h.2 st.2
      exact ⟨sndGs_cons st.1 (snd_T t C h.1) h1, by simp [tsLen, h2]⟩
    · cases h
end
/-- what a comprehension's parts do, anywhere -/
theorem comp_parts {elt : E} {t : T} {it : Wk} {c : OE} {vs : List Nat} {X : Cx} {q : Sc} {e tg iter : Expr} {ifs : List Expr} {scope : Scope} (C : CtxOk X N q F)
    (h0 : notSet iter = true) (h1 : (ownOf N vs).map (·.2) = vs) (h2 : blkC N q.sc scope (ownOf N vs) = true) (h3 : ((tslots t).all fun i => decide (i ∈ vs)) = true)
    (hi : SndI X tg iter (evI F it)) (hg : ∀ {X' : Cx}, CtxOk X' N (blkSc q scope) F → SndG X' tg t) (hc : ∀ {X' : Cx}, CtxOk X' N (blkSc q scope) F → SndC X' ifs (evC F c)) (he : ∀ {X' : Cx}, CtxOk X' N (blkSc q scope) F → SndE X' e (ev F elt)) :
    ∃ wi : TI, PI X tg iter wi ∧ BlkOk X.N X.env.scope scope (ownOf N vs) ∧
      (∀ (s : Shared) (H : Hp) (a : Addr) (cl : List (Str × Addr)) (fp : List Addr), PG (X.blk s H scope (compEnvC scope cl a X.env) fp) tg (gT t)) ∧
      (∀ (s : Shared) (H : Hp) (a : Addr) (cl : List (Str × Addr)) (fp : List Addr), PTs (X.blk s H scope (compEnvC scope cl a X.env) fp) ifs (tT (evC F c))) ∧
      (∀ (s : Shared) (H : Hp) (a : Addr) (cl : List (Str × Addr)) (fp : List Addr), PE (X.blk s H scope (compEnvC scope cl a X.env) fp) e (tE (ev F elt))) ∧
      ∀ A H σ ρ r ρ', Fit A H σ ρ → fComp t vs (evI F it) (evC F c) (ev F elt) ρ = some (r, ρ') → ∀ Q : VK, (∀ A' H' v, Stp A H σ ρ A' H' σ ρ' → ResOk A' H H' σ ρ' v r → Q v H') → tLc wi (gT t) (tT (evC F c)) (tE (ev F elt)) ((ownOf N vs).map (·.2)) σ H Q := by
  obtain ⟨wi, pi, qi⟩ := hi
  have bo : BlkOk N q.sc scope (ownOf N vs) := blkOk_by h2
  have cb : ∀ (s : Shared) (H : Hp) (a : Addr) (cl : List (Str × Addr)) (fp : List Addr), CtxOk (X.blk s H scope (compEnvC scope cl a X.env) fp) N (blkSc q scope) F := fun s H a cl fp => C.blk s H scope a cl fp bo.kind
  refine ⟨wi, pi, by rw [C.N, C.sc]; exact bo, fun s H a cl fp => (hg (cb s H a cl fp)).pg, fun s H a cl fp => (hc (cb s H a cl fp)).pts, fun s H a cl fp => (he (cb s H a cl fp)).pe, fun A H σ ρ r ρ' ft e Q k => ?_⟩
  rw [h1]
  exact comp_core (fun i hi => by have := List.all_eq_true.mp h3 i hi; simpa using this) qi ft e Q k
theorem comp2_parts {elt : E} {t t1 : T} {it it1 : Wk} {c0 c : OE} {vs vs1 : List Nat} {X : Cx} {q : Sc} {e tg iter tg1 iter1 : Expr} {ifs ifs1 : List Expr} {scope : Scope} (C : CtxOk X N q F)
    (h0 : notSet iter = true) (h1 : (ownOf N vs).map (·.2) = vs) (h2 : blkC N q.sc scope (ownOf N vs) = true) (h3 : ((tslots t).all fun i => decide (i ∈ vs)) = true) (h4 : ((tslots t1).all fun i => decide (i ∈ vs1)) = true) (h5 : (vs1.all fun i => decide (i ∈ vs)) = true)
    (hi : SndI X tg iter (evI F it)) (hg : ∀ {X' : Cx}, CtxOk X' N (blkSc q scope) F → SndG X' tg t) (hc0 : ∀ {X' : Cx}, CtxOk X' N (blkSc q scope) F → SndC X' ifs (evC F c0))
    (hi1 : ∀ {X' : Cx}, CtxOk X' N (blkSc q scope) F → SndI X' tg1 iter1 (evI F it1)) (hg1 : ∀ {X' : Cx}, CtxOk X' N (blkSc q scope) F → SndG X' tg1 t1) (hc : ∀ {X' : Cx}, CtxOk X' N (blkSc q scope) F → SndC X' ifs1 (evC F c)) (he : ∀ {X' : Cx}, CtxOk X' N (blkSc q scope) F → SndE X' e (ev F elt)) :
    ∃ wi : TI, PI X tg iter wi ∧ BlkOk X.N X.env.scope scope (ownOf N vs) ∧ (∀ i ∈ vs1, i ∈ (ownOf N vs).map (·.2)) ∧
      (∀ (s : Shared) (H : Hp) (a : Addr) (cl : List (Str × Addr)) (fp : List Addr), PG (X.blk s H scope (compEnvC scope cl a X.env) fp) tg (gT t)) ∧
      (∀ (s : Shared) (H : Hp) (a : Addr) (cl : List (Str × Addr)) (fp : List Addr), PTs (X.blk s H scope (compEnvC scope cl a X.env) fp) ifs (tT (evC F c0))) ∧
      (∀ (s : Shared) (H : Hp) (a : Addr) (cl : List (Str × Addr)) (fp : List Addr), PI (X.blk s H scope (compEnvC scope cl a X.env) fp) tg1 iter1 (tI (evI F it1))) ∧
      (∀ (s : Shared) (H : Hp) (a : Addr) (cl : List (Str × Addr)) (fp : List Addr), PG (X.blk s H scope (compEnvC scope cl a X.env) fp) tg1 (gT t1)) ∧
      (∀ (s : Shared) (H : Hp) (a : Addr) (cl : List (Str × Addr)) (fp : List Addr), PTs (X.blk s H scope (compEnvC scope cl a X.env) fp) ifs1 (tT (evC F c))) ∧
      (∀ (s : Shared) (H : Hp) (a : Addr) (cl : List (Str × Addr)) (fp : List Addr), PE (X.blk s H scope (compEnvC scope cl a X.env) fp) e (tE (ev F elt))) ∧
      ∀ A H σ ρ r ρ', Fit A H σ ρ → fComp2 t vs (evI F it) (evC F c0) (evI F it1) t1 vs1 (evC F c) (ev F elt) ρ = some (r, ρ') → ∀ Q : VK, (∀ A' H' v, Stp A H σ ρ A' H' σ ρ' → ResOk A' H H' σ ρ' v r → Q v H') →
        tLc2 wi (gT t) (tT (evC F c0)) (tI (evI F it1)) (gT t1) (tT (evC F c)) (tE (ev F elt)) ((ownOf N vs).map (·.2)) vs1 σ H Q := by
  obtain ⟨wi, pi, qi⟩ := hi
  have bo : BlkOk N q.sc scope (ownOf N vs) := blkOk_by h2
  have cb : ∀ (s : Shared) (H : Hp) (a : Addr) (cl : List (Str × Addr)) (fp : List Addr), CtxOk (X.blk s H scope (compEnvC scope cl a X.env) fp) N (blkSc q scope) F := fun s H a cl fp => C.blk s H scope a cl fp bo.kind
  have v1 : ∀ i ∈ vs1, i ∈ vs := fun i hi => by have := List.all_eq_true.mp h5 i hi; simpa using this
  refine ⟨wi, pi, by rw [C.N, C.sc]; exact bo, by rw [h1]; exact v1, fun s H a cl fp => (hg (cb s H a cl fp)).pg, fun s H a cl fp => (hc0 (cb s H a cl fp)).pts, fun s H a cl fp => (hi1 (cb s H a cl fp)).pi, fun s H a cl fp => (hg1 (cb s H a cl fp)).pg, fun s H a cl fp => (hc (cb s H a cl fp)).pts, fun s H a cl fp => (he (cb s H a cl fp)).pe, fun A H σ ρ r ρ' ft e Q k => ?_⟩
  rw [h1]
  exact comp2_core (fun i hi => by have := List.all_eq_true.mp h3 i hi; simpa using this) (fun i hi => by have := List.all_eq_true.mp h4 i hi; simpa using this) v1 qi ft e Q k
mutual
theorem snd_E : ∀ (e : E) {X : Cx} {q : Sc} {ex : Expr}, CtxOk X N q F → chkE N q e ex = true → P X F e ex
  | .var i, X, q, ex, C, h => by
    unfold chkE at h
    split at h
    · exact .of (snd_var C h) rfl
    · cases h
  | .int n, X, q, ex, C, h => by
    unfold chkE at h
    split at h
    · simp only [decide_eq_true_eq] at h; subst h
      exact .of (snd_flat pe_int (fun _ _ => .int) fun ρ => rfl) rfl
    · cases h
  | .bl b, X, q, ex, C, h => by
    unfold chkE at h
    split at h
    · simp only [decide_eq_true_eq] at h; subst h
      exact .of (snd_flat pe_bl (fun _ _ => .bool) fun ρ => rfl) rfl
    · cases h
  | .non, X, q, ex, C, h => by
    unfold chkE at h
    split at h
    · exact .of (snd_flat pe_non (fun _ _ => .none) fun ρ => rfl) rfl
    · cases h
  | .str s, X, q, ex, C, h => by
    unfold chkE at h
    split at h
    · simp only [decide_eq_true_eq] at h; subst h
      exact .of (snd_flat pe_str (fun _ _ => .str) fun ρ => rfl) rfl
    · cases h
  | .bin o a b, X, q, ex, C, h => by
    unfold chkE at h
    split at h
    · simp only [Bool.and_eq_true, decide_eq_true_eq] at h
      obtain ⟨⟨rfl, h1⟩, h2⟩ := h
      exact .of (snd_bin o ((snd_E a C h1).o C h1) ((snd_E b C h2).o C h2)) rfl
    · cases h
  | .neg a, X, q, ex, C, h => by
    unfold chkE at h
    split at h
    · simp only [Bool.and_eq_true, decide_eq_true_eq] at h
      obtain ⟨rfl, h1⟩ := h
      exact .of (snd_neg (snd_E a C h1).1) rfl
    · cases h
  | .no a, X, q, ex, C, h => by
    unfold chkE at h
    split at h
    · simp only [Bool.and_eq_true, decide_eq_true_eq] at h
      obtain ⟨rfl, h1⟩ := h
      have ih := snd_E a C h1
      exact ⟨snd_no ih.1, sndT_no ih.2.1, fun z => by cases z⟩
    · cases h
  | .cmp o a b, X, q, ex, C, h => by
    unfold chkE at h
    split at h
    · simp only [Bool.and_eq_true, decide_eq_true_eq, Bool.not_eq_true'] at h
      obtain ⟨⟨⟨rfl, hm⟩, h1⟩, h2⟩ := h
      have ia := (snd_E a C h1).o C h1
      have ib := (snd_E b C h2).o C h2
      exact ⟨snd_cmp C o hm ia ib, sndT_cmp C o hm ia ib, fun z => by cases z⟩
    · cases h
  | .cmp2 o p a b c, X, q, ex, C, h => by
    unfold chkE at h
    split at h
    · simp only [Bool.and_eq_true, decide_eq_true_eq, Bool.not_eq_true'] at h
      obtain ⟨⟨⟨⟨⟨rfl, rfl⟩, hm⟩, h1⟩, h2⟩, h3⟩ := h
      have ia := snd_E a C h1
      have ib := snd_E b C h2
      have ic := snd_E c C h3
      exact ⟨snd_cmp2 C o p hm ia.1 ib.1 ic.1, sndT_cmp2 C o p hm ia.1 ib.1 ic.1, fun z => by cases z⟩
    · cases h
  | .and a b, X, q, ex, C, h => by
    unfold chkE at h
    split at h
    · simp only [Bool.and_eq_true, decide_eq_true_eq] at h
      obtain ⟨⟨rfl, h1⟩, h2⟩ := h
      have ia := snd_E a C h1
      split at h2
      · have ib := snd_E b C h2
        have w := sndW_and ia.2.1 (sndW_and1 (pos := by assumption) ib.2.1)
        exact ⟨snd_and ia.1 (snd_one ib.1), w.t, fun _ => w⟩
      · have ib := snd_E b C h2
        have w := sndW_and ia.2.1 (ib.2.2 rfl)
        exact ⟨snd_and ia.1 ib.1, w.t, fun _ => w⟩
    · cases h
  | .or a b, X, q, ex, C, h => by
    unfold chkE at h
    split at h
    · simp only [Bool.and_eq_true, decide_eq_true_eq] at h
      obtain ⟨⟨rfl, h1⟩, h2⟩ := h
      have ia := snd_E a C h1
      split at h2
      · have ib := snd_E b C h2
        have w := sndW_or ia.2.1 (sndW_or1 (pos := by assumption) ib.2.1)
        exact ⟨snd_or ia.1 (snd_one ib.1), w.t, fun _ => w⟩
      · have ib := snd_E b C h2
        have w := sndW_or ia.2.1 (ib.2.2 rfl)
        exact ⟨snd_or ia.1 ib.1, w.t, fun _ => w⟩
    · cases h
  | .ite c a b, X, q, ex, C, h => by
    unfold chkE at h
    split at h
    · simp only [Bool.and_eq_true] at h
      obtain ⟨⟨h0, h1⟩, h2⟩ := h
      have ic := snd_E c C h0
      have ia := snd_E a C h1
      have ib := snd_E b C h2
      exact ⟨snd_if ic.2.1 ia.1 ib.1, sndT_if ic.2.1 ia.2.1 ib.2.1, fun z => by cases z⟩
    · cases h
  | .idx a i, X, q, ex, C, h => by
    unfold chkE at h
    split at h
    · simp only [Bool.and_eq_true] at h
      obtain ⟨⟨h0, h1⟩, h2⟩ := h
      exact .of (snd_idx C (plain_of h0) ((snd_E a C h1).o C h1) (snd_E i C h2).1) rfl
    · cases h
  | .slc a lo hi, X, q, ex, C, h => by
    unfold chkE at h
    split at h
    · simp only [Bool.and_eq_true] at h
      obtain ⟨⟨h0, h1⟩, h2⟩ := h
      exact .of (snd_slc ((snd_E a C h0).o C h0) (snd_O lo C h1) (snd_O hi C h2)) rfl
    · cases h
  | .rvs a, X, q, ex, C, h => by
    unfold chkE at h
    split at h
    · exact .of (snd_rvs ((snd_E a C h).o C h)) rfl
    · cases h
  | .dget i k, X, q, ex, C, h => by
    unfold chkE at h
    split at h
    · rename_i x px s pos
      simp only [Bool.and_eq_true] at h
      obtain ⟨⟨h0, h1⟩, h2⟩ := h
      have hn : NoSl s := by
        intro o i
        cases s <;> first | rfl | cases h0
      exact .of (snd_dget C h1 hn (snd_E k C h2).1) rfl
    · cases h
  | .din neg i k, X, q, ex, C, h => by
    unfold chkE at h
    split at h
    · simp only [Bool.and_eq_true, decide_eq_true_eq, Bool.not_eq_true'] at h
      obtain ⟨⟨⟨rfl, h1⟩, h2⟩, h3⟩ := h
      have g := fun pos => snd_din (pos := pos) C neg h1 h2 (snd_E k C h3).1
      exact ⟨(g _).1, (g _).2, fun z => by cases z⟩
    · cases h
  | .tup es, X, q, ex, C, h => by
    unfold chkE at h
    split at h
    · simp only [Bool.and_eq_true] at h
      exact .of (snd_tup (snd_Es es C h.2 h.1).1) rfl
    · cases h
  | .lst es, X, q, ex, C, h => by
    unfold chkE at h
    split at h
    · simp only [Bool.and_eq_true] at h
      exact .of (snd_lst (snd_Es es C h.2 h.1).1) rfl
    · cases h
  | .comp elt t it c vs, X, q, ex, C, h => by
    unfold chkE at h
    split at h
    · simp only [Bool.and_eq_true, decide_eq_true_eq] at h
      obtain ⟨⟨⟨⟨⟨⟨⟨⟨rfl, h1⟩, h2⟩, h3⟩, h4⟩, h5⟩, h6⟩, h7⟩, h8⟩ := h
      obtain ⟨wi, pi, bo, pg, pt, pe, qc⟩ := comp_parts C h1 h2 h3 h4 (snd_I it C h5) (fun C' => snd_T t C' h6) (fun C' => snd_C c C' h7) (fun C' => (snd_E elt C' h8).1)
      exact .of ⟨_, pe_lc C.calm C.nd pi bo pg pt pe (fun x => fold_of h1), qc⟩ rfl
    · cases h
  | .comp2 elt t it c0 t1 it1 c vs vs1, X, q, ex, C, h => by
    unfold chkE at h
    split at h
    · simp only [Bool.and_eq_true, decide_eq_true_eq] at h
      obtain ⟨⟨⟨⟨⟨⟨⟨⟨⟨⟨⟨⟨⟨⟨⟨rfl, rfl⟩, h1⟩, h1'⟩, h2⟩, h3⟩, h4⟩, h5⟩, h6⟩, k1⟩, k2⟩, k3⟩, k4⟩, k5⟩, k6⟩, k7⟩ := h
      obtain ⟨wi, pi, bo, hv, pg, pt, pi1, pg1, pt1, pe, qc⟩ := comp2_parts C h1 h2 h3 h4 h5 h6 (snd_I it C k1) (fun C' => snd_T t C' k2) (fun C' => snd_C c0 C' k3) (fun C' => snd_I it1 C' k4) (fun C' => snd_T t1 C' k5) (fun C' => snd_C c C' k6) (fun C' => (snd_E elt C' k7).1)
      exact .of ⟨_, pe_lc2 C.calm C.nd pi bo hv pg pt pi1 pg1 pt1 pe (fun x => fold_of h1) (fun env x => fold_of h1'), qc⟩ rfl
    · cases h
  | .setc srt elt t it c vs, X, q, ex, C, h => by
    unfold chkE at h
    split at h
    · simp only [Bool.and_eq_true, decide_eq_true_eq] at h
      obtain ⟨⟨⟨⟨⟨⟨⟨⟨⟨⟨rfl, hg⟩, rfl⟩, h1⟩, h2⟩, h3⟩, h4⟩, h5⟩, h6⟩, h7⟩, h8⟩ := h
      have hi := snd_I it C h5
      have bo : BlkOk N q.sc _ (ownOf N vs) := blkOk_by h3
      have cb : ∀ (s : Shared) (H : Hp) (a : Addr) (cl : List (Str × Addr)) (fp : List Addr), CtxOk (X.blk s H _ (compEnvC _ cl a X.env) fp) N (blkSc q _) F := fun s H a cl fp => C.blk s H _ a cl fp bo.kind
      obtain ⟨wi, pi, qi⟩ := hi
      refine .of (snd_setc C hg (fun i hi => by have := List.all_eq_true.mp h4 i hi; simpa using this) h2 qi pi (by rw [C.N, C.sc]; exact bo) (fun s H a cl fp => (snd_T t (cb s H a cl fp) h6).pg) (fun s H a cl fp => (snd_C c (cb s H a cl fp) h7).pts) (fun s H a cl fp => (snd_E elt (cb s H a cl fp) h8).1.pe) (fun x => fold_of h1)) rfl
    · cases h
  | .call f es, X, q, ex, C, h => by
    unfold chkE at h
    split at h
    · simp only [Bool.and_eq_true, decide_eq_true_eq, Bool.not_eq_true'] at h
      obtain ⟨⟨⟨⟨rfl, h1⟩, h2⟩, h3⟩, h4⟩ := h
      rename_i xs _
      have ih := snd_Es es C h4 h3
      cases xs with
      | nil =>
        have he : es = .nil := by
          cases es with
          | nil => rfl
          | cons _ _ => unfold chkEs at h4; cases h4
        subst he
        refine .of (snd_call0 C h1 h2 fun ks ρ os ρ' e => ?_) rfl
        cases ks with
        | nil => simp only [evA, Option.some.injEq, Prod.mk.injEq] at e; exact ⟨e.1.symm, e.2.symm⟩
        | cons k ks => cases k <;> simp [evA] at e
      | cons x r => exact .of (snd_call C h1 h2 h3 ih.2.2) rfl
    · cases h
  | .pcall f es, X, q, ex, C, h => by
    unfold chkE at h
    split at h
    · simp only [Bool.and_eq_true, decide_eq_true_eq, Bool.not_eq_true'] at h
      obtain ⟨⟨⟨⟨rfl, h1⟩, h2⟩, h3⟩, h4⟩ := h
      exact .of (snd_pcall C h1 h2 h3 (snd_pks es C h4 h3)) rfl
    · cases h
  | .blt b es, X, q, ex, C, h => by
    unfold chkE at h
    split at h
    · simp only [Bool.and_eq_true, decide_eq_true_eq, Bool.or_eq_true, Bool.not_eq_true', decide_eq_false_iff_not] at h
      obtain ⟨⟨⟨⟨rfl, h1⟩, h2⟩, h3⟩, h4⟩ := h
      have ih := (snd_Es es C h4 h3).2.1
      by_cases hb : b = .gcd
      · subst hb
        exact .of (snd_gcd C (h2.resolve_left fun z => z rfl) h1 h3 ih) rfl
      · exact .of (blt_ok C b hb h1 h3 ih) rfl
    · cases h
  | .isi a t, X, q, ex, C, h => by
    unfold chkE at h
    split at h
    · simp only [Bool.and_eq_true, decide_eq_true_eq] at h
      obtain ⟨⟨⟨⟨⟨rfl, rfl⟩, h1⟩, h2⟩, h3⟩, h4⟩ := h
      exact .of (snd_isi C t h1 h2 h3 ((snd_E a C h4).o C h4)) rfl
    · cases h
  | .len a, X, q, ex, C, h => by
    unfold chkE at h
    split at h
    · simp only [Bool.and_eq_true, decide_eq_true_eq] at h
      obtain ⟨⟨⟨rfl, h1⟩, h2⟩, h3⟩ := h
      exact .of (snd_len C h1 h2 ((snd_E a C h3).o C h3)) rfl
    · cases h
  | .rngs t it, X, q, ex, C, h => by
    unfold chkE at h
    split at h
    · simp only [Bool.and_eq_true, decide_eq_true_eq] at h
      obtain ⟨⟨⟨⟨rfl, h1⟩, h2⟩, h3⟩, h4⟩ := h
      cases it with
      | rng1 a =>
        unfold chkI at h4
        split at h4
        · simp only [Bool.and_eq_true, decide_eq_true_eq] at h4
          obtain ⟨⟨⟨rfl, z1⟩, z2⟩, z3⟩ := h4
          exact .of (snd_rngs1 C t rfl h1 z1 z2 (snd_E a C z3).1) rfl
        · cases h4
      | rng2 a b =>
        unfold chkI at h4
        split at h4
        · simp only [Bool.and_eq_true, decide_eq_true_eq] at h4
          obtain ⟨⟨⟨⟨⟨rfl, z1⟩, z2⟩, z3⟩, z4⟩, z5⟩ := h4
          exact .of (snd_rngs2 C t rfl h1 z1 z2 z3 (snd_E a C z4).1 (snd_E b C z5).1) rfl
        · cases h4
      | _ => cases h3
    · cases h
  | .meth m o a, X, q, ex, C, h => by
    unfold chkE at h
    split at h
    · simp only [Bool.and_eq_true, decide_eq_true_eq] at h
      obtain ⟨⟨⟨⟨⟨h1, rfl⟩, h2⟩, h3⟩, h4⟩, h5⟩ := h
      have ia := (snd_E a C h5).1
      cases o with
      | var i =>
        unfold chkE at h4
        have io := fun pos => sndO_var (pos := pos) (g := ev F (.var i)) C h4
        cases m with
        | count => exact .of (snd_mth mth_count PySem.F.slot_list_count PySem.F.type_list_count rfl h2 h3 (io _) ia) rfl
        | index => exact .of (snd_mth (mth_index C.un) PySem.F.slot_list_index PySem.F.type_list_index rfl h2 h3 (io _) ia) rfl
      | _ => cases h1
    · cases h
  | .chg m i es, X, q, ex, C, h => by
    unfold chkE at h
    split at h
    · simp only [Bool.and_eq_true, decide_eq_true_eq] at h
      obtain ⟨⟨⟨⟨⟨⟨h1, rfl⟩, h2⟩, h3⟩, h4⟩, h5⟩, h6⟩ := h
      rename_i xs _
      have ih := (snd_Es es C h6 h3).1
      have hn : i < N.length := by
        unfold nameB at h1
        simp only [Bool.and_eq_true, decide_eq_true_eq] at h1
        exact (List.getElem?_eq_some_iff.mp h1.1.1).1
      have nil_of : xs = [] → es = .nil := fun z => by
        subst z
        cases es with
        | nil => rfl
        | cons _ _ => unfold chkEs at h6; cases h6
      cases m with
      | append =>
        cases xs with
        | nil => cases h5
        | cons x r => exact .of (snd_chg C chg_append PySem.F.slot_list_append PySem.F.type_list_append h1 hn h3 h4 h2 ih) rfl
      | popAt =>
        cases xs with
        | nil => cases h5
        | cons x r => exact .of (snd_chg C chg_popAt PySem.F.slot_list_pop PySem.F.type_list_pop h1 hn h3 h4 h2 ih) rfl
      | pop =>
        cases xs with
        | nil =>
          cases nil_of rfl
          exact .of (snd_chg0 C chg_pop PySem.F.slot_list_pop PySem.F.type_list_pop h1 h2) rfl
        | cons x r => cases h5
      | reverse =>
        cases xs with
        | nil =>
          cases nil_of rfl
          exact .of (snd_chg0 C chg_reverse PySem.F.slot_list_reverse PySem.F.type_list_reverse h1 h2) rfl
        | cons x r => cases h5
      | insert =>
        cases xs with
        | nil => cases h5
        | cons x r => exact .of (snd_chg C chg_insert PySem.F.slot_list_insert PySem.F.type_list_insert h1 hn h3 h4 h2 ih) rfl
      | extend =>
        cases xs with
        | nil => cases h5
        | cons x r => exact .of (snd_chg C chg_extend PySem.F.slot_list_extend PySem.F.type_list_extend h1 hn h3 h4 h2 ih) rfl
      | remove =>
        cases xs with
        | nil => cases h5
        | cons x r => exact .of (snd_chg C (chg_remove C.un) PySem.F.slot_list_remove PySem.F.type_list_remove h1 hn h3 h4 h2 ih) rfl
    · cases h
theorem snd_O : ∀ (o : OE) {X : Cx} {q : Sc} {ex : Option Expr}, CtxOk X N q F → chkO N q o ex = true → SndPart X ex (evO F o)
  | .none, X, q, ex, C, h => by
    unfold chkO at h
    split at h
    · exact sndPart_none
    · cases h
  | .some e, X, q, ex, C, h => by
    unfold chkO at h
    split at h
    · exact sndPart_some (snd_E e C h).1
    · cases h
theorem snd_C : ∀ (o : OE) {X : Cx} {q : Sc} {ifs : List Expr}, CtxOk X N q F → chkC N q o ifs = true → SndC X ifs (evC F o)
  | .none, X, q, ex, C, h => by
    unfold chkC at h
    split at h
    · exact sndC_nil
    · cases h
  | .some e, X, q, ex, C, h => by
    unfold chkC at h
    split at h
    · exact sndC_one (snd_E e C h).2.1
    · cases h
theorem snd_I : ∀ (w : Wk) {X : Cx} {q : Sc} {tg ex : Expr}, CtxOk X N q F → chkI N q w tg ex = true → SndI X tg ex (evI F w)
  | .seq a, X, q, tg, ex, C, h => by
    unfold chkI at h
    exact sndI_seq ((snd_E a C h).o C h)
  | .rng1 a, X, q, tg, ex, C, h => by
    unfold chkI at h
    split at h
    · simp only [Bool.and_eq_true, decide_eq_true_eq] at h
      obtain ⟨⟨⟨rfl, h1⟩, h2⟩, h3⟩ := h
      exact sndI_rng1 C h1 h2 (snd_E a C h3).1
    · cases h
  | .rng2 a b, X, q, tg, ex, C, h => by
    unfold chkI at h
    split at h
    · simp only [Bool.and_eq_true, decide_eq_true_eq] at h
      obtain ⟨⟨⟨⟨⟨rfl, h1⟩, h2⟩, h3⟩, h4⟩, h5⟩ := h
      exact sndI_rng2 C h1 h2 h3 (snd_E a C h4).1 (snd_E b C h5).1
    · cases h
  | .enm a, X, q, tg, ex, C, h => by
    unfold chkI at h
    rw [Bool.and_eq_true] at h
    obtain ⟨ht, h⟩ := h
    cases tg <;> first
      | (cases ht; done)
      | (split at h
         · simp only [Bool.and_eq_true, decide_eq_true_eq] at h
           obtain ⟨⟨⟨rfl, h1⟩, h2⟩, h3⟩ := h
           exact sndI_enm C h1 h2 ((snd_E a C h3).o C h3)
         · cases h)
  | .zip a b, X, q, tg, ex, C, h => by
    unfold chkI at h
    rw [Bool.and_eq_true] at h
    obtain ⟨ht, h⟩ := h
    cases tg <;> first
      | (cases ht; done)
      | (split at h
         · simp only [Bool.and_eq_true, decide_eq_true_eq] at h
           obtain ⟨⟨⟨⟨⟨rfl, h1⟩, h2⟩, h3⟩, h4⟩, h5⟩ := h
           exact sndI_zip C h1 h2 h3 ((snd_E a C h4).o C h4) ((snd_E b C h5).o C h5)
         · cases h)
  | .rev a, X, q, tg, ex, C, h => by
    unfold chkI at h
    split at h
    · simp only [Bool.and_eq_true, decide_eq_true_eq] at h
      obtain ⟨⟨⟨rfl, h1⟩, h2⟩, h3⟩ := h
      exact sndI_rev C h1 h2 ((snd_E a C h3).o C h3)
    · cases h
  | .rrng1 a, X, q, tg, ex, C, h => by
    unfold chkI at h
    split at h
    · simp only [Bool.and_eq_true, decide_eq_true_eq] at h
      obtain ⟨⟨⟨⟨⟨rfl, rfl⟩, h0⟩, h1⟩, h2⟩, h3⟩ := h
      exact sndI_rrng1 C h0 h1 h2 (snd_E a C h3).1
    · cases h
  | .rrng2 a b, X, q, tg, ex, C, h => by
    unfold chkI at h
    split at h
    · simp only [Bool.and_eq_true, decide_eq_true_eq] at h
      obtain ⟨⟨⟨⟨⟨⟨⟨rfl, rfl⟩, h0⟩, h1⟩, h2⟩, h3⟩, h4⟩, h5⟩ := h
      exact sndI_rrng2 C h0 h1 h2 h3 (snd_E a C h4).1 (snd_E b C h5).1
    · cases h
  | .dwn a b, X, q, tg, ex, C, h => by
    unfold chkI at h
    split at h
    · simp only [Bool.and_eq_true, decide_eq_true_eq] at h
      obtain ⟨⟨⟨⟨⟨rfl, h1⟩, h2⟩, h3⟩, h4⟩, h5⟩ := h
      exact sndI_dwn C h1 h2 h3 (snd_E a C h4).1 (snd_E b C h5).1
    · cases h
theorem snd_Es : ∀ (es : Es) {X : Cx} {q : Sc} {xs : List Expr}, CtxOk X N q F → chkEs N q es xs = true → xs.all notStar = true → SndA X xs (evs F es) ∧ SndP X xs (evP F es) ∧ ∀ ks, SndP X xs (evA F ks es)
  | .nil, X, q, xs, C, h, st => by
    unfold chkEs at h
    split at h
    · refine ⟨sndA_nil, sndP_nil, fun ks => ?_⟩
      cases ks with
      | nil => exact sndP_nil
      | cons k ks =>
        refine ⟨_, pa_nil, fun A H σ ρ r ρ' ft e Q kk => ?_⟩
        cases k <;> simp [evA] at e
    · cases h
  | .cons e es, X, q, xs, C, h, st => by
    unfold chkEs at h
    split at h
    · rename_i x r
      rw [Bool.and_eq_true] at h
      rw [List.all_cons, Bool.and_eq_true] at st
      have ie := snd_E e C h.1
      have io := ie.o C h.1
      obtain ⟨i1, i2, i3⟩ := snd_Es es C h.2 st.2
      refine ⟨sndA_cons st.1 ie.1 i1, sndP_cons st.1 io i2, fun ks => ?_⟩
      cases ks with
      | nil =>
        obtain ⟨t, p, _⟩ := sndP_cons st.1 io i2
        refine ⟨t, p, fun A H σ ρ r ρ' ft e Q k => ?_⟩
        simp [evA] at e
      | cons k ks =>
        cases k with
        | B => exact sndP_cons st.1 io (i3 ks)
        | M => exact sndP_cons st.1 io (i3 ks)
        | I =>
          have := sndP_cons st.1 ie.1.ov (i3 ks)
          have e' : evA F (.I :: ks) (.cons e es) = fConsP (fun ρ => match ev F e ρ with | none => none | some (r, ρ1) => some (.v r.d, ρ1)) (evA F ks es) := by
            funext ρ
            simp only [evA, fConsP]
            cases ev F e ρ <;> rfl
          rw [e']
          exact this
    · cases h
end
end
end Ev


set_option maxRecDepth 100000
/-! Ev16: soundness of statements. -/
namespace Ev
open PySem L2
variable [TheK]
section
variable {N : List Str} {F : FT}
theorem cell_of {q : Sc} {x} (h : cellB q x = true) : q.sc.names.lookup x = some .cell := by
  unfold cellB at h
  split at h
  · assumption
  · cases h
theorem swaps_cell {X : Cx} {q : Sc} (C : CtxOk X N q F) {e : Expr} {x px l} (h : cellB q x = true) : swapsWith e (some (.Name x px)) l X.env = pure false := by
  have hk : X.env.kindOf x = some .cell := by
    show X.env.scope.names.lookup x = some .cell
    rw [C.sc]; exact cell_of h
  cases e <;> first | rfl | (unfold swapsWith; simp [hk, show (NameKind.cell == NameKind.local) = false from rfl])
theorem swaps_sub {e : Expr} {o i p l env} : swapsWithSole [.Subscript o i p] e l env = pure false := by cases e <;> rfl
theorem swaps_tup {e : Expr} {es k p l env} : swapsWithSole [.Tuple es k p] e l env = pure false := by cases e <;> rfl
theorem stores_sub {e : Expr} {o i p env} : swappedStores [.Subscript o i p] e env = pure none := by cases e <;> rfl
theorem stores_tup {e : Expr} {es k p env} (h : notTup e = true) : swappedStores [.Tuple es k p] e env = pure none := by
  cases e <;> first | rfl | cases h
theorem assign_sub {o ix : Expr} {spos env} (h : notSlice ix = true) : ∀ v, assign (.Subscript o ix spos) env v = (do
      let ov ← holding [v] (eval o env)
      let iv ← holding [v, ov] (eval ix env)
      standAt spos
      holding [v, ov, iv] (setItem ov iv v)
      release [v, ov, iv] []) := by
  intro v
  cases ix <;> first | rfl | cases h
theorem aug_sub {ix : Expr} (h : notSlice ix = true) : ∀ ov iv new, augStore ix ov iv new = (do holding [new, ov, iv] (setItem ov iv new); release [new, ov, iv] []; pure .next) := by
  intro ov iv new
  cases ix <;> first | rfl | cases h
theorem star_match : ∀ (e : Expr), notStar e = true → (match e with | .Starred .. => true | _ => false) = false := fun e h => by cases e <;> first | rfl | cases h
theorem stores_par {X : Cx} {q : Sc} (C : CtxOk X N q F) {x y : Str} {px py pt pt2 : Pos} {kt k2 : Nat} {a b : Expr} (h : parB q x y px py a b = true) :
    q.sc.names.lookup x = some .local ∧ q.sc.names.lookup y = some .local ∧ swappedStores [.Tuple [.Name x px, .Name y py] kt pt] (.Tuple [a, b] k2 pt2) X.env = pure (some [x, y]) := by
  unfold parB at h
  simp only [Bool.and_eq_true, Bool.not_eq_true'] at h
  obtain ⟨⟨⟨⟨⟨⟨⟨h1, h2⟩, h3⟩, h4⟩, h5⟩, h6⟩, h7⟩, h8⟩ := h
  have l1 : q.sc.names.lookup x = some .local := by
    split at h1
    · assumption
    · cases h1
  have l2 : q.sc.names.lookup y = some .local := by
    split at h2
    · assumption
    · cases h2
  refine ⟨l1, l2, ?_⟩
  have k1 : X.env.kindOf x = some .local := by show X.env.scope.names.lookup x = some .local; rw [C.sc]; exact l1
  have k2 : X.env.kindOf y = some .local := by show X.env.scope.names.lookup y = some .local; rw [C.sc]; exact l2
  have bk : X.env.blockKind = .function := by unfold PySem.Env.blockKind; rw [C.kd]; rfl
  have pl : py.line = px.line := (eq_of_beq h3).symm
  have ne : ¬ x = y := fun z => by subst z; simp at h4
  have ne2 : ¬ y = x := fun z => ne z.symm
  have sa := star_match a h5
  have sb := star_match b h6
  unfold swappedStores
  simp only [List.length_cons, List.length_nil, bk, List.any_cons, List.any_nil, sa, sb, List.filterMap_cons, List.filterMap_nil, k1, k2, Expr.pos, pl, h7, h8]
  have ne3 : (y == x) = false := by simp [ne2]
  simp [k1, k2, pl, ne3, List.eraseDups, List.eraseDupsBy, List.eraseDupsBy.loop, Expr.pos]
  intro h
  exfalso
  rcases h with h | h
  · exact absurd (h.symm.trans sa) (by decide)
  · exact absurd (h.symm.trans sb) (by decide)
theorem stores_cell {X : Cx} {q : Sc} (C : CtxOk X N q F) {es : List Expr} {v : Expr} {k : _} {p : Pos} (h : cellTup q (.Tuple es k p) v = true) : swappedStores [.Tuple es k p] v X.env = pure none := by
  unfold cellTup at h
  split at h
  · rename_i x px y py kt pt a b k2 pt2 heq
    cases heq
    have bk : X.env.blockKind = .function := by unfold PySem.Env.blockKind; rw [C.kd]; rfl
    have hc : ∀ z, cellB q z = true → (X.env.kindOf z == some .local) = false := fun z hz => by
      unfold cellB at hz
      split at hz
      · rename_i hz'
        have : X.env.kindOf z = some .cell := by show X.env.scope.names.lookup z = some .cell; rw [C.sc]; exact hz'
        rw [this]; rfl
      · cases hz
    unfold swappedStores
    simp only [List.length_cons, List.length_nil, bk, List.any_cons, List.any_nil, List.filterMap_cons, List.filterMap_nil, Expr.pos]
    rcases Bool.or_eq_true_iff.mp h with h | h
    · have := hc _ h
      simp [this]
      split
      · simp
      · simp
        intro _ h2
        exfalso
        revert h2
        split <;> simp
    · have := hc _ h
      simp [this]
      split
      · simp
      · simp
        intro _ h2
        exfalso
        revert h2
        split <;> simp
  · cases h
mutual
theorem snd_S : ∀ (s : S) {X : Cx} {q : Sc} {st : Stmt}, CtxOk X N q F → chkS N q s st = true → SndS X st (ex F s)
  | .asg t e, X, q, st, C, h => by
    unfold chkS at h
    split at h
    · rename_i tg v pos
      cases t with
      | name i =>
        simp only at h
        split at h
        · rename_i x px
          simp only [Bool.and_eq_true, decide_eq_true_eq, Bool.or_eq_true, Bool.not_eq_true'] at h
          obtain ⟨⟨⟨h1, h2⟩, h3⟩, h4⟩ := h
          rcases h4 with (h4 | h4) | h4
          · exact snd_asgN C h1 h2 (swaps_no h4) (snd_E e C h3).1
          · -- a comprehension, stored from within its frame
            cases v with
            | ListComp elt' gens scope pos' =>
              cases e with
              | comp elt t it c vs =>
                unfold chkE at h3
                split at h3
                · rename_i e' tg iter ifs z scope' pos'' heq
                  cases heq
                  simp only [Bool.and_eq_true, decide_eq_true_eq] at h3
                  obtain ⟨⟨⟨⟨⟨⟨⟨⟨rfl, g1⟩, g2⟩, g3⟩, g4⟩, g5⟩, g6⟩, g7⟩, g8⟩ := h3
                  unfold swB at h4
                  simp only [Bool.and_eq_true, Bool.not_eq_true'] at h4
                  obtain ⟨⟨m1, m2⟩, m3⟩ := h4
                  have ll : q.sc.names.lookup x = some .local := by
                    split at m1
                    · assumption
                    · cases m1
                  have ll' : X.env.scope.names.lookup x = some .local := by rw [C.sc]; exact ll
                  obtain ⟨wi, pi, bo, pg, pt, pe, qc⟩ := comp_parts C g1 g2 g3 g4 (snd_I it C g5) (fun C' => snd_T t C' g6) (fun C' => snd_C c C' g7) (fun C' => (snd_E elt C' g8).1)
                  refine ⟨_, ps_setLc C.calm C.nd (by rw [C.N]; exact h1) ll' (sw_true C.kd ll' m2 m3) pi bo pg pt pe (fun x => fold_of g1), fun A H σ ρ o ρ' ft e Dn k => ?_⟩
                  have e' : fAsg (.name i) (fComp t vs (evI F it) (evC F c) (ev F elt)) ρ = some (o, ρ') := e
                  unfold fAsg at e'
                  split at e'
                  · cases e'
                  · rename_i r ρ1 e1
                    simp only [asgR] at e'
                    cases e2 : put i (slotOf r) ρ1 with
                    | none => rw [e2] at e'; cases e'
                    | some ρ2 =>
                      rw [e2] at e'
                      cases e'
                      exact qc A H σ ρ r ρ1 ft e1 _ fun A1 H1 v s1 ok => k A1 H1 _ (set_stp ft s1 ok e2)
                · cases h3
              | comp2 elt t it c0 t1 it1 c vs vs1 =>
                unfold chkE at h3
                split at h3
                · rename_i e' tg iter ifs z tg1 iter1 ifs1 z1 scope' pos'' heq
                  cases heq
                  simp only [Bool.and_eq_true, decide_eq_true_eq] at h3
                  obtain ⟨⟨⟨⟨⟨⟨⟨⟨⟨⟨⟨⟨⟨⟨⟨rfl, rfl⟩, g1⟩, g1'⟩, g2⟩, g3⟩, g4⟩, g5⟩, g6⟩, k1⟩, k2⟩, k3⟩, k4⟩, k5⟩, k6⟩, k7⟩ := h3
                  unfold swB at h4
                  simp only [Bool.and_eq_true, Bool.not_eq_true'] at h4
                  obtain ⟨⟨m1, m2⟩, m3⟩ := h4
                  have ll : q.sc.names.lookup x = some .local := by
                    split at m1
                    · assumption
                    · cases m1
                  have ll' : X.env.scope.names.lookup x = some .local := by rw [C.sc]; exact ll
                  obtain ⟨wi, pi, bo, hv, pg, pt, pi1, pg1, pt1, pe, qc⟩ := comp2_parts C g1 g2 g3 g4 g5 g6 (snd_I it C k1) (fun C' => snd_T t C' k2) (fun C' => snd_C c0 C' k3) (fun C' => snd_I it1 C' k4) (fun C' => snd_T t1 C' k5) (fun C' => snd_C c C' k6) (fun C' => (snd_E elt C' k7).1)
                  refine ⟨_, ps_setLc2 C.calm C.nd (by rw [C.N]; exact h1) ll' (sw_true C.kd ll' m2 m3) pi bo hv pg pt pi1 pg1 pt1 pe (fun x => fold_of g1) (fun env x => fold_of g1'), fun A H σ ρ o ρ' ft e Dn k => ?_⟩
                  have e' : fAsg (.name i) (fComp2 t vs (evI F it) (evC F c0) (evI F it1) t1 vs1 (evC F c) (ev F elt)) ρ = some (o, ρ') := e
                  unfold fAsg at e'
                  split at e'
                  · cases e'
                  · rename_i r ρ1 e1
                    simp only [asgR] at e'
                    cases e2 : put i (slotOf r) ρ1 with
                    | none => rw [e2] at e'; cases e'
                    | some ρ2 =>
                      rw [e2] at e'
                      cases e'
                      exact qc A H σ ρ r ρ1 ft e1 _ fun A1 H1 v s1 ok => k A1 H1 _ (set_stp ft s1 ok e2)
                · cases h3
              | _ =>
                exfalso
                unfold chkE at h3
                first | (cases h3; done) | (split at h3 <;> rename_i heq <;> cases heq)
            | _ => cases h4
          · exact snd_asgN C h1 h2 (swaps_cell C h4) (snd_E e C h3).1
        · cases h
      | tup ts =>
        simp only [Bool.and_eq_true] at h
        obtain ⟨⟨⟨h1, h2⟩, h3⟩, h4⟩ := h
        have ig := snd_T (.tup ts) C h3
        split at h2
        · refine snd_asgT (fun i z => by cases z) swaps_tup ?_ rfl ig (snd_E e C h4).1
          rcases Bool.or_eq_true_iff.mp h1 with h1 | h1
          · exact stores_tup h1
          · exact stores_cell C h1
        · cases h2
    · cases h
  | .par i j a b, X, q, st, C, h => by
    unfold chkS at h
    split at h
    · simp only [Bool.and_eq_true, decide_eq_true_eq] at h
      obtain ⟨⟨⟨⟨⟨h1, h2⟩, h3⟩, h4⟩, h5⟩, h6⟩ := h
      obtain ⟨l1, l2, l3⟩ := stores_par C h4
      have n1 : notStar _ = true := (by
        unfold parB at h4
        simp only [Bool.and_eq_true] at h4
        exact h4.1.1.1.2)
      have n2 : notStar _ = true := (by
        unfold parB at h4
        simp only [Bool.and_eq_true] at h4
        exact h4.1.1.2)
      have hs := sndA_cons n1 (snd_E a C h5).1 (sndA_cons n2 (snd_E b C h6).1 sndA_nil)
      obtain ⟨t, p, hq⟩ := snd_par C h1 h2 h3 l1 l2 l3 hs
      refine ⟨t, p, fun A H σ ρ o ρ' ft e Dn k => hq A H σ ρ o ρ' ft ?_ Dn k⟩
      rw [← e]
      simp only [ex, fPar, fCons]
      cases ev F a ρ with
      | none => rfl
      | some p1 =>
        simp only
        cases ev F b p1.2 with
        | none => rfl
        | some p2 => rfl
    · cases h
  | .aug o i e, X, q, st, C, h => by
    unfold chkS at h
    split at h
    · simp only [Bool.and_eq_true, decide_eq_true_eq] at h
      obtain ⟨⟨⟨⟨rfl, h1⟩, h2⟩, h3⟩, h4⟩ := h
      exact snd_aug C h1 h2 h3 (snd_E e C h4).1
    · cases h
  | .dnew i k v, X, q, st, C, h => by
    unfold chkS at h
    split at h
    · simp only [Bool.and_eq_true, decide_eq_true_eq] at h
      obtain ⟨⟨⟨h1, h2⟩, h3⟩, h4⟩ := h
      exact snd_dnew C h1 h2 (snd_E k C h3).1 (snd_E v C h4).1
    · cases h
  | .dput i k v, X, q, st, C, h => by
    unfold chkS at h
    split at h
    · simp only [Bool.and_eq_true, Bool.not_eq_true'] at h
      obtain ⟨⟨⟨h1, h2⟩, h3⟩, h4⟩ := h
      exact snd_dput C h1 (swaps_no h2) (snd_E k C h3).1 (snd_E v C h4).1
    · cases h
  | .rse, X, q, st, C, h => by
    unfold chkS at h
    split at h
    · exact snd_rse
    · cases h
  | .setIx i ix e, X, q, st, C, h => by
    unfold chkS at h
    split at h
    · simp only [Bool.and_eq_true] at h
      obtain ⟨⟨⟨h1, h2⟩, h3⟩, h4⟩ := h
      exact snd_setIx C h1 swaps_sub stores_sub (assign_sub h2) (snd_E ix C h3).1 (snd_E e C h4).1
    · cases h
  | .augIx o i ix e, X, q, st, C, h => by
    unfold chkS at h
    split at h
    · simp only [Bool.and_eq_true, decide_eq_true_eq] at h
      obtain ⟨⟨⟨⟨⟨rfl, h1⟩, h2⟩, h3⟩, h4⟩, h5⟩ := h
      exact snd_augIx C h1 h2 (aug_sub h3) (snd_E ix C h4).1 (snd_E e C h5).1
    · cases h
  | .ex e, X, q, st, C, h => by
    unfold chkS at h
    split at h
    · simp only [Bool.and_eq_true, Bool.not_eq_true'] at h
      exact snd_ex h.1 (snd_E e C h.2).1
    · cases h
  | .ret e, X, q, st, C, h => by
    unfold chkS at h
    split at h
    · rename_i v pos
      cases e with
      | var i =>
        unfold chkE at h
        split at h
        · exact snd_retV C h
        · cases h
      | _ => exact snd_ret (snd_E _ C h).1
    · cases h
  | .retN, X, q, st, C, h => by
    unfold chkS at h
    split at h
    · exact snd_retN
    · cases h
  | .brk, X, q, st, C, h => by
    unfold chkS at h
    split at h
    · exact snd_brk
    · cases h
  | .cont, X, q, st, C, h => by
    unfold chkS at h
    split at h
    · exact snd_cont
    · cases h
  | .pass, X, q, st, C, h => by
    unfold chkS at h
    split at h
    · exact snd_pass
    · cases h
  | .ife c a b, X, q, st, C, h => by
    unfold chkS at h
    split at h
    · simp only [Bool.and_eq_true] at h
      obtain ⟨⟨h1, h2⟩, h3⟩ := h
      exact snd_ife (snd_E c C h1).2.1 (snd_Ss a C h2) (snd_Ss b C h3)
    · cases h
  | .whl n c b, X, q, st, C, h => by
    unfold chkS at h
    split at h
    · simp only [Bool.and_eq_true] at h
      exact snd_whl C n (snd_E c C h.1).2.1 (snd_Ss b C h.2)
    · cases h
  | .forr t it b, X, q, st, C, h => by
    unfold chkS at h
    split at h
    · simp only [Bool.and_eq_true] at h
      obtain ⟨⟨⟨h1, h2⟩, h3⟩, h4⟩ := h
      rename_i tg iter b' pos
      exact snd_for C (by cases iter <;> first | rfl | cases h1) (snd_I it C h2) (snd_T t C h3) (snd_Ss b C h4)
    · cases h
theorem snd_Ss : ∀ (s : Ss) {X : Cx} {q : Sc} {st : List Stmt}, CtxOk X N q F → chkSs N q s st = true → SndSs X st (exs F s)
  | .nil, X, q, st, C, h => by
    unfold chkSs at h
    split at h
    · exact sndSs_nil
    · cases h
  | .cons s ss, X, q, st, C, h => by
    unfold chkSs at h
    split at h
    · rw [Bool.and_eq_true] at h
      exact sndSs_cons (snd_S s C h.1) (snd_Ss ss C h.2)
    · cases h
end
end
end Ev

set_option maxRecDepth 100000
/-! Ev17: defs by level. -/
namespace Ev
open PySem L2
variable [TheK]
theorem kinds_at : ∀ {ks args} {i : Nat} {s : Slot}, kindsB ks args = true → args[i]? = some s → (mutS s = true → ks[i]? = some .M ∧ ∃ ds, s = .mu ds) ∧ s ≠ .un ∧ (∀ ds, s ≠ .lent ds) ∧ (ks[i]? = some .M → ∃ ds, s = .mu ds)
  | [], [], i, s, _, h => by simp at h
  | [], _ :: _, i, s, hk, h => by cases hk
  | k :: ks, [], i, s, hk, h => by cases k <;> cases hk
  | k :: ks, t :: args, 0, s, hk, h => by
    simp at h; subst h
    cases k <;> cases t <;> first | (cases hk; done) | (simp [mutS])
  | k :: ks, t :: args, i + 1, s, hk, h => by
    have hk' : kindsB ks args = true := by cases k <;> cases t <;> first | (cases hk; done) | exact hk
    simpa using kinds_at hk' (by simpa using h)
theorem kinds_len : ∀ {ks args}, kindsB ks args = true → args.length = ks.length
  | [], [], _ => rfl
  | [], _ :: _, hk => by cases hk
  | k :: ks, [], hk => by cases k <;> cases hk
  | k :: ks, t :: args, hk => by
    have hk' : kindsB ks args = true := by cases k <;> cases t <;> first | (cases hk; done) | exact hk
    simp [kinds_len hk']
/-- the frame at its entry -/
theorem fit_start {A H} {N : List Str} {vs : List V} {args : List Slot} (f : Fit A H (vs.map some) args) (hN : args.length ≤ N.length) : Fit A H (start N vs) (args ++ List.replicate (N.length - args.length) .un) := by
  have hl : vs.length = args.length := by have := f.len; rwa [List.length_map] at this
  have inv : ∀ (i : Nat) (s : Slot), (args ++ List.replicate (N.length - args.length) .un)[i]? = some s → s = .un ∨ (args[i]? = some s ∧ (start N vs)[i]? = (vs.map some)[i]?) := fun i s h => by
    by_cases hi : i < args.length
    · rw [List.getElem?_append_left hi] at h
      refine .inr ⟨h, ?_⟩
      unfold L2.start
      rw [List.getElem?_append_left (by rw [List.length_map, hl]; exact hi)]
    · rw [List.getElem?_append_right (by omega)] at h
      exact .inl (List.eq_of_mem_replicate (List.mem_of_getElem? h))
  refine ⟨?_, fun i s ov h1 h2 => ?_, fun i j s t a ij h1 h2 h3 h4 h5 h6 => ?_, f.trk⟩
  · unfold L2.start
    rw [List.length_append, List.length_map, List.length_replicate, List.length_append, List.length_replicate, hl]
  · rcases inv i s h1 with rfl | ⟨z, e⟩
    · trivial
    · rw [e] at h2; exact f.slot i s ov z h2
  · rcases inv i s h1 with rfl | ⟨z, e⟩
    · cases h3
    · rcases inv j t h2 with rfl | ⟨z', e'⟩
      · cases h4
      · rw [e] at h5; rw [e'] at h6
        exact f.apart i j s t a ij z z' h3 h4 h5 h6
theorem mut_start {N : List Str} {vs : List V} {args : List Slot} {a : Addr} (hl : vs.length = args.length) (m : Mut (start N vs) (args ++ List.replicate (N.length - args.length) .un) a) : Mut (vs.map some) args a := by
  obtain ⟨i, s, h1, h2, h3⟩ := m
  by_cases hi : i < args.length
  · rw [List.getElem?_append_left hi] at h1
    unfold L2.start at h3
    rw [List.getElem?_append_left (by rw [List.length_map, hl]; exact hi)] at h3
    exact ⟨i, s, h1, h2, h3⟩
  · rw [List.getElem?_append_right (by omega)] at h1
    cases List.eq_of_mem_replicate (List.mem_of_getElem? h1)
    cases h2
theorem start_at {N : List Str} {vs : List V} {i : Nat} {v : V} (h : vs[i]? = some v) : (start N vs)[i]? = some (some v) := by
  unfold L2.start
  have hi := (List.getElem?_eq_some_iff.mp h).1
  rw [List.getElem?_append_left (by rw [List.length_map]; exact hi), List.getElem?_map, h]
  rfl
/-- the lists behind the def's run -/
theorem outs_ok {A H} : ∀ {ks : List PK} {vs : List V} {σ : St} {ρ : Env} {outs}, outsOf ks ρ = some outs → vs.length = ks.length →
    (∀ (i : Nat) (v : V) (ds : List D), vs[i]? = some v → ks[i]? = some .M → ρ[i]? = some (.mu ds) → ∃ a ws, v = .ref a ∧ H a = some (.lst ws) ∧ ws.length ≤ sizeLine ∧ RepAll A H ws ds ∧ ¬ A a) → OutsOk A H ks vs outs
  | [], [], _, _, outs, e, _, _ => by simp [outsOf] at e; subst e; trivial
  | [], _ :: _, _, _, outs, e, hl, _ => by simp at hl
  | k :: ks, [], _, _, outs, e, hl, _ => by simp at hl
  | k :: ks, v :: vs, σ, ρ, outs, e, hl, h => by
    have hl' : vs.length = ks.length := by simpa using hl
    cases ρ with
    | nil => cases k <;> simp [outsOf] at e
    | cons s ρ =>
      have ih := fun outs e => outs_ok (σ := σ) (ks := ks) (vs := vs) (ρ := ρ) (outs := outs) e hl' fun i w ds h1 h2 h3 => h (i + 1) w ds (by simpa using h1) (by simpa using h2) (by simpa using h3)
      cases k with
      | B => exact ih outs (by cases s <;> exact e)
      | I => exact ih outs (by cases s <;> exact e)
      | M =>
        cases s with
        | mu ds =>
          simp only [outsOf] at e
          cases e1 : outsOf ks ρ with
          | none => rw [e1] at e; cases e
          | some r =>
            rw [e1] at e
            cases e
            exact ⟨h 0 v ds rfl rfl rfl, ih r e1⟩
        | _ => simp [outsOf] at e
theorem run_fin {A H N D0} {vs : List V} {args : List Slot} {r outs} {F : FT} {Q : VK} (f : Fit A H (vs.map some) args) (hN : args.length ≤ N.length) (hn : N.length = (D0 : Def).N.length) (e : runD F D0 args = some (r, outs))
    (k : ∀ (A' : Addr → Prop) (H' : Hp) (v : V), (∀ a, A a → A' a) → (∀ a o, H a = some o → ¬ Mut (vs.map some) args a → H' a = some o) → (∀ a, H' a = none → H a = none) →
      (∀ a, A' a → A a ∨ H a = none) → (∀ a, A' a → ∃ o, H' a = some o) → RetOk A' H H' v r → OutsOk A' H' D0.ks vs outs → Q v H') :
    ∃ o ρ', exs F D0.body (args ++ List.replicate (N.length - args.length) .un) = some (o, ρ') ∧ Kont A H (start N vs) (args ++ List.replicate (N.length - args.length) .un) { nx := fun _ H' => Q .non H', rt := Q } ρ' o := by
  have hl : vs.length = args.length := by have := f.len; rwa [List.length_map] at this
  unfold runD at e
  split at e
  · cases e
  · rename_i hk
    have hk : kindsB D0.ks args = true := by simpa using hk
    have hlk := kinds_len hk
    rw [← hn] at e
    have go : ∀ (A' : Addr → Prop) (H' : Hp) (σ' : St) (ρ' : Env) (v : V) (r' : Res), Stp A H (start N vs) (args ++ List.replicate (N.length - args.length) .un) A' H' σ' ρ' → RtOk A' H H' σ' ρ' v r' → r' = r → outsOf D0.ks ρ' = some outs → Q v H' := fun A' H' σ' ρ' v r' s rt er eo => by
      subst er
      have at_args : ∀ (i : Nat) (t : Slot), args[i]? = some t → (args ++ List.replicate (N.length - args.length) .un)[i]? = some t := fun i t h => by
        rw [List.getElem?_append_left (List.getElem?_eq_some_iff.mp h).1]; exact h
      -- what is Mut at the entry is a parameter's list, and stays that
      have mutP : ∀ a, Mut (start N vs) (args ++ List.replicate (N.length - args.length) .un) a → ∃ (i : Nat) (ds' : List D), ρ'[i]? = some (.mu ds') ∧ σ'[i]? = some (some (.ref a)) := fun a m => by
        obtain ⟨i, t, h1, h2, h3⟩ := mut_start hl m
        obtain ⟨_, ds, rfl⟩ := (kinds_at hk h1).1 h2
        obtain ⟨e1, ds', e2⟩ := s.mus i ds (at_args i _ h1)
        have : vs[i]? = some (.ref a) := by
          rw [List.getElem?_map] at h3
          cases q : vs[i]? with
          | none => rw [q] at h3; cases h3
          | some v => rw [q] at h3; cases h3; rfl
        exact ⟨i, ds', e2, by rw [e1]; exact start_at this⟩
      refine k A' H' v s.ext (fun a o h n => s.frame a o h fun m => n (mut_start hl m)) s.dom (fun a h => ?_) s.fit.trk ?_ ?_
      · rcases s.news a h with z | z | z | ⟨i, ds, z1, z2⟩
        · exact .inl z
        · exact .inr z
        · obtain ⟨i, ds', z1, z2⟩ := mutP a z
          exact absurd h ((s.fit.slot i _ _ z1 z2).nofz rfl)
        · by_cases hi : i < args.length
          · rw [List.getElem?_append_left hi] at z1
            exact absurd rfl ((kinds_at hk z1).2.2.1 ds)
          · rw [List.getElem?_append_right (by omega)] at z1
            cases List.eq_of_mem_replicate (List.mem_of_getElem? z1)
      · cases r' with
        | fr d => exact rt
        | nw ds =>
          obtain ⟨a, ws, h1, h2, h3, h4, h5, h6⟩ := rt
          refine ⟨a, ws, h1, h2, h3, h4, h5, ?_⟩
          rcases h6 with z | ⟨i, z1, z2⟩
          · exact z
          · rcases s.sub a ⟨i, _, z1, rfl, z2⟩ with m | m
            · obtain ⟨j, ds', y1, y2⟩ := mutP a m
              have ij : i ≠ j := fun z => by subst z; rw [z1] at y1; cases y1
              exact (s.fit.apart i j _ _ a ij z1 y1 rfl rfl z2 y2).elim
            · exact m
      · refine outs_ok (σ := σ') eo (by rw [hl, hlk]) fun i v ds h1 h2 h3 => ?_
        have hi : i < args.length := by rw [← hl]; exact (List.getElem?_eq_some_iff.mp h1).1
        obtain ⟨ds0, h4⟩ := (kinds_at hk (List.getElem?_eq_getElem hi)).2.2.2 h2
        obtain ⟨e1, _⟩ := s.mus i ds0 (at_args i _ (by rw [List.getElem?_eq_getElem hi, h4]))
        rw [start_at h1] at e1
        obtain ⟨a, ws, z1, z2⟩ := s.fit.slot i _ _ h3 e1
        cases z1
        exact ⟨a, ws, rfl, z2⟩
    split at e
    · rename_i r' ρ' e1
      cases e2 : outsOf D0.ks ρ' with
      | none => rw [e2] at e; cases e
      | some o =>
        rw [e2] at e
        cases e
        exact ⟨_, ρ', e1, fun A' H' σ' v s rt => go A' H' σ' ρ' v r s rt rfl e2⟩
    · rename_i ρ' e1
      cases e2 : outsOf D0.ks ρ' with
      | none => rw [e2] at e; cases e
      | some o =>
        rw [e2] at e
        cases e
        exact ⟨_, ρ', e1, fun A' H' σ' s => go A' H' σ' ρ' .non (.fr .none) s .none rfl e2⟩
    · cases e

/-! ### the table -/
def namesOf (l : List String) : List Str := l.map Str.ofString
/-- a def of the table stands in the module as the syntax st -/
structure DefOk (K : PySem.W.Frag) (mg : Str → Option Value) (gcd : Bool) (d : Def) (st : Stmt) (ps : List Str) (f : Addr) (fd : FuncData) : Prop where
  at_ : mg (Str.ofString d.name) = some (.ref f)
  fn : FunD K (Str.ofString d.name) (Str.ofString d.name) (defArgs st) (defBody st) (defScope st) [] [] f fd
  bnd : Binds K fd ps []
  sc : FnScope (namesOf d.N) ps (defScope st)
  len : ps.length = d.ks.length
  lenN : d.ks.length ≤ d.N.length
  chk : chkSs (namesOf d.N) ⟨defScope st, fun _ => true, gcd⟩ d.body (defBody st) = true
def TabOk (K : PySem.W.Frag) (mg : Str → Option Value) (gcd : Bool) (T : Tab) : Prop := ∀ d ∈ T, ∃ st ps f fd, DefOk K mg gcd d st ps f fd
structure ModOk (K : PySem.W.Frag) (mg : Str → Option Value) (gcd : Bool) : Prop where
  kk : TheK.K = K
  bl : ∀ x, x ∈ bltNames → mg (Str.ofString x) = none
  gc : gcd = true → mg (Str.ofString "gcd") = some (.builtin "math.gcd")
section
variable {P : Program} {w : World} {K : PySem.W.Frag} {mg : Str → Option Value} {base : Heap} {gcd : Bool}
theorem def_ok {T : Tab} {d : Def} {st ps f fd} {k : Nat} (M : ModOk K mg gcd) (h : DefOk K mg gcd d st ps f fd)
    (ih : ∀ g ks fn, callF T k g = some (ks, fn) → ∃ (fa : Addr) (fd : FuncData) (ps : List Str), mg (Str.ofString g) = some (.ref fa) ∧ PySem.W.keepIn K (.ref fa) = true ∧ Binds K fd ps [] ∧ FnOk P w K mg base CX0 k fa fd ps (spOf ks fn)) :
    FnOk P w K mg base CX0 (k + 1) f fd ps (spOf d.ks (runD (callF T k) d)) := by
  refine h.fn.ok h.sc (fun vs H Q E hs => by rw [h.len]; exact hs.1) fun cdv A outer s H vs Q E hr hs => ?_
  obtain ⟨hl, Az, args, r, outs, ft, e, kk⟩ := hs
  have C : CtxOk (cxOf CX0 P w K mg base (namesOf d.N) (Str.ofString d.name) (defScope st) f cdv A outer s H E).nox (namesOf d.N) ⟨defScope st, fun _ => true, gcd⟩ (callF T k) :=
    { N := rfl, nd := h.sc.nd, sc := rfl, fn := rfl, calm := rfl, nox := rfl, bl := M.bl, un := (by
        have := hr.un
        show (A.deeper (PyProof.Rows.envOfC (Str.ofString d.name) (defScope st) s.heap.objs.size f cdv)).units + 65 < cLine
        omega), kk := M.kk, kd := h.sc.kind, gc := M.gc
      fns := fun g ks fn hg => by
        obtain ⟨fa, fd', ps', z1, z2, z3, z4⟩ := ih g ks fn hg
        exact ⟨fa, fd', ps', k, z1, z2, z3, hr, z4⟩ }
  obtain ⟨t, pt, qt⟩ := snd_Ss d.body C h.chk
  have hal : args.length = vs.length := by have := ft.len; rw [List.length_map] at this; exact this.symm
  have hN : args.length ≤ (namesOf d.N).length := by
    rw [hal, hl]; unfold namesOf; rw [List.length_map]; exact h.lenN
  obtain ⟨o, ρ', e1, k1⟩ := run_fin ft hN (by unfold namesOf; rw [List.length_map]) e kk
  exact ⟨t, pt.nox, qt Az H _ _ o ρ' (fit_start ft hN) e1 _ k1⟩
theorem tab_ok {T : Tab} (M : ModOk K mg gcd) (h : TabOk K mg gcd T) : ∀ k g ks fn, callF T k g = some (ks, fn) → ∃ (fa : Addr) (fd : FuncData) (ps : List Str), mg (Str.ofString g) = some (.ref fa) ∧ PySem.W.keepIn K (.ref fa) = true ∧ Binds K fd ps [] ∧ FnOk P w K mg base CX0 k fa fd ps (spOf ks fn)
  | 0, g, ks, fn, e => by simp [callF] at e
  | k + 1, g, ks, fn, e => by
    simp only [callF] at e
    split at e
    · cases e
    · rename_i d hd
      cases e
      have hm : d ∈ T := List.mem_of_find?_eq_some hd
      have hn : d.name = g := by have := List.find?_some hd; simpa using this
      obtain ⟨st, ps, f, fd, ok⟩ := h d hm
      subst hn
      exact ⟨f, fd, ps, ok.at_, ok.fn.kp, ok.bnd, def_ok M ok fun g' ks' fn' e' => tab_ok M h k g' ks' fn' e'⟩
/-- the law's call, of a script -/
theorem law_sp {fn : Fn} {H : Hp} {a : Addr} {ns : List Int} {K : PySem.W.Frag} (kk : TheK.K = K) (hl : ns.length ≤ sizeLine) (hO : Only H) (hS : SqL K H a (ns.map V.int)) (e : fn [.ro (ns.map .int)] = some (.fr (.bool true), [])) :
    spOf [.B] fn [.ref a] H (fun v _ => v = .bl true) fun _ _ _ => False := by
  refine ⟨rfl, fun _ => False, [.ro (ns.map .int)], .fr (.bool true), [], ⟨rfl, fun i s ov h1 h2 => ?_, fun i j s t b ij h1 h2 h3 => ?_, fun _ z => z.elim⟩, e, fun A' H' v _ _ _ _ _ r _ => by cases r; rfl⟩
  · cases i with
    | zero =>
      simp at h1 h2
      subst h1 h2
      refine ⟨a, ns.map V.int, rfl, ?_, by rw [List.length_map]; exact hl, rep_ints ns⟩
      rcases hS with (hS | ⟨o, hS⟩) | hS
      · rcases hO a with z | ⟨o, xs, z⟩
        · rw [hS] at z; cases z
        · rw [hS] at z; cases z
      · exact .inl ⟨o, hS⟩
      · exact .inr (by rw [kk]; exact hS)
    | succ i => simp at h1
  · cases i with
    | zero => simp at h1; subst h1; cases h3
    | succ i => simp at h1
end
end Ev

set_option maxRecDepth 100000
/-! Ev18: the head's facts for a table of defs. -/
namespace Ev
open PySem L2
def gcdB (K : PySem.W.Frag) : Bool := He.eqO (PySem.W.nsIn K mainGlobals (Str.ofString "gcd")) (some (some (.builtin "math.gcd")))
abbrev AlG : Type := He.AlD × Bool
def obsGG (n : Nat) (fa : List He.Fa) (fn : List He.DefD) (g : Bool) (h : Addr → Option Obj) : AlG := (He.obsDG n fa fn h, !g || gcdB (He.frG h (He.asD h n)))
def SaysG (fa : List He.Fa) (fn : List He.DefD) (g : Bool) (K : PySem.W.Frag) : Prop := He.SaysD fa fn K ∧ (!g || gcdB K) = true
def hookG (n : Nat) (fa : List He.Fa) (fn : List He.DefD) (g : Bool) : PySem.W.Hook where
  α := AlG
  obs := fun s => obsGG n fa fn g s.heap.get?
  val := fun _ => (He.valD fn, true)
  says := fun _ h => ∃ K : PySem.W.Frag, K.In h ∧ SaysG fa fn g K
  of := fun _ _ e => ⟨_, He.frG_in, congrArg (fun z : AlG => z.1) e, congrArg (fun z : AlG => z.2) e⟩
  keeps := fun _ _ _ ⟨K, hK, c⟩ k => ⟨K, PySem.W.Frag.In.keeps hK k, c⟩
theorem obsGG_eq {n : Nat} {fa : List He.Fa} {fn : List He.DefD} {g : Bool} {h : Addr → Option Obj} {s : Shared} (e : ∀ a, h a = s.heap.get? a) : obsGG n fa fn g h = (hookG n fa fn g).obs s := by
  have e : h = s.heap.get? := funext e
  rw [e] <;> rfl
section
variable [TheK] {P : Program} {w : World} {K : PySem.W.Frag} {h : Heap} {mg : Str → Option Value} {base : Heap} {g : Bool}
theorem mod_ok {fa : List He.Fa} {fn : List He.DefD} (kk : TheK.K = K) (X : K.In h) (G : h.Ns mainGlobals mg) (c : SaysG fa fn g K) (hb : ∀ x, x ∈ bltNames → ∃ i : Nat, fa[i]? = some (He.Fa.free (Str.ofString x))) : ModOk K mg g where
  kk := kk
  bl := fun x hx => by
    obtain ⟨i, hi⟩ := hb x hx
    exact He.free_ok X G (c.1.fact i hi)
  gc := fun hg => by
    have := c.2
    rw [hg] at this
    exact PySem.W.mg_of X G (He.eqO_ok this)
theorem law_fn {T : Tab} {d : Def} {st ps f fd} {k : Nat} (M : ModOk K mg g) (TB : TabOk K mg g T) (h : DefOk K mg g d st ps f fd) : FnOk P w K mg base CX0 (k + 1) f fd ps (spOf d.ks (runD (callF T k) d)) :=
  def_ok M h (tab_ok M TB k)
end
end Ev

set_option maxRecDepth 100000
/-! Lw: the evaluator's equations as simp rules that go step by step: what comes behind a step is not looked at before the step has its value. -/
namespace Ev
open PySem L2
/-! ### combinators: what comes behind stands in an instance, at which simp does not look -/
class Kt (α β : Type) where
  f : α → Option β
class K2 (β : Type) where
  a : Option β
  b : Option β
def bd {α β : Type} (x : Option α) [k : Kt α β] : Option β := match x with
  | none => none
  | some a => k.f a
@[simp] theorem bd_some {α β : Type} (a : α) [k : Kt α β] : bd (some a) (k := k) = k.f a := id rfl
@[simp] theorem bd_none {α β : Type} [k : Kt α β] : bd none (k := k) = none := id rfl
open Classical in
noncomputable def gd {β : Type} (c : Prop) (x : Option β) : Option β := if c then x else none
theorem if_gd {β : Type} (c : Prop) [Decidable c] (x : Option β) : (if c then x else none) = gd c x := by
  unfold gd; by_cases h : c <;> simp [h]
@[simp] theorem gd_pos {β : Type} {c : Prop} {x : Option β} (h : c) : gd c x = x := if_pos h
def brB {β : Type} (t : Bool) [k : K2 β] : Option β := match t with
  | true => k.a
  | false => k.b
@[simp] theorem brB_true {β : Type} [k : K2 β] : brB true (k := k) = k.a := id rfl
@[simp] theorem brB_false {β : Type} [k : K2 β] : brB false (k := k) = k.b := id rfl
def iteR (t : Bool) [k : K2 (Res × Env)] : Option (Res × Env) := brB t
@[simp] theorem iteR_true [k : K2 (Res × Env)] : iteR true (k := k) = k.a := id rfl
@[simp] theorem iteR_false [k : K2 (Res × Env)] : iteR false (k := k) = k.b := id rfl
def andR (t : Bool) (A : Option (Res × Env)) (ρ : Env) : Option (Res × Env) := match t with
  | true => A
  | false => some (.fr (.bool false), ρ)
@[simp] theorem andR_true (A ρ) : andR true A ρ = A := id rfl
@[simp] theorem andR_false (A ρ) : andR false A ρ = some (.fr (.bool false), ρ) := id rfl
@[simp] theorem andR_some (t u ρ) : andR t (some (.fr (.bool u), ρ)) ρ = some (.fr (.bool (t && u)), ρ) := by cases t <;> rfl
def orR (t : Bool) (A : Option (Res × Env)) (ρ : Env) : Option (Res × Env) := match t with
  | true => some (.fr (.bool true), ρ)
  | false => A
@[simp] theorem orR_true (A ρ) : orR true A ρ = some (.fr (.bool true), ρ) := id rfl
@[simp] theorem orR_false (A ρ) : orR false A ρ = A := id rfl
@[simp] theorem orR_some (t u ρ) : orR t (some (.fr (.bool u), ρ)) ρ = some (.fr (.bool (t || u)), ρ) := by cases t <;> rfl
def intR : Res → Option Int
  | .fr (.int i) => some i
  | _ => none
@[simp] theorem intR_int (i) : intR (.fr (.int i)) = some i := id rfl
def boolR : Res → Option Bool
  | .fr (.bool i) => some i
  | _ => none
@[simp] theorem boolR_bool (i) : boolR (.fr (.bool i)) = some i := id rfl
def sq (x : Option (Out × Env)) [k : Kt Env (Out × Env)] : Option (Out × Env) := match x with
  | some (.next, ρ) => k.f ρ
  | x => x
@[simp] theorem sq_next (ρ) [k : Kt Env (Out × Env)] : sq (some (.next, ρ)) (k := k) = k.f ρ := id rfl
@[simp] theorem sq_ret (r ρ) [k : Kt Env (Out × Env)] : sq (some (.ret r, ρ)) (k := k) = some (.ret r, ρ) := id rfl
@[simp] theorem sq_brk (ρ) [k : Kt Env (Out × Env)] : sq (some (.brk, ρ)) (k := k) = some (.brk, ρ) := id rfl
@[simp] theorem sq_cont (ρ) [k : Kt Env (Out × Env)] : sq (some (.cont, ρ)) (k := k) = some (.cont, ρ) := id rfl
/-- behind a loop's turn -/
def fq (x : Option (Out × Env)) [k : Kt Env (Out × Env)] : Option (Out × Env) := match x with
  | none => none
  | some (.next, ρ) => k.f ρ
  | some (.cont, ρ) => k.f ρ
  | some (.brk, ρ) => some (.next, ρ)
  | some (.ret r, ρ) => some (.ret r, ρ)
@[simp] theorem fq_next (ρ) [k : Kt Env (Out × Env)] : fq (some (.next, ρ)) (k := k) = k.f ρ := id rfl
@[simp] theorem fq_cont (ρ) [k : Kt Env (Out × Env)] : fq (some (.cont, ρ)) (k := k) = k.f ρ := id rfl
@[simp] theorem fq_brk (ρ) [k : Kt Env (Out × Env)] : fq (some (.brk, ρ)) (k := k) = some (.next, ρ) := id rfl
@[simp] theorem fq_ret (r ρ) [k : Kt Env (Out × Env)] : fq (some (.ret r, ρ)) (k := k) = some (.ret r, ρ) := id rfl
@[simp] theorem forL_nil (b ρ) : forL b [] ρ = some (.next, ρ) := id rfl
@[simp] theorem forL_cons (b d ds ρ) : forL b (d :: ds) ρ = fq (b d ρ) (k := ⟨fun ρ2 => forL b ds ρ2⟩) := by
  rw [forL]; rcases b d ρ with _ | ⟨o, ρ2⟩
  · rfl
  · cases o <;> rfl
def getAll (ρ : Env) : List Opd → Option (List D)
  | [] => some []
  | o :: os => bd (o.get ρ) (k := ⟨fun d => bd (getAll ρ os) (k := ⟨fun ds => some (d :: ds)⟩)⟩)
theorem mapM_get (ρ : Env) : ∀ l : List Opd, l.mapM (Opd.get ρ) = getAll ρ l
  | [] => rfl
  | o :: l => by
    rw [List.mapM_cons, mapM_get ρ l, getAll]
    cases Opd.get ρ o <;> cases getAll ρ l <;> rfl
@[simp] theorem getAll_nil (ρ) : getAll ρ [] = some [] := id rfl
@[simp] theorem getAll_cons (ρ o l) : getAll ρ (o :: l) = bd (o.get ρ) (k := ⟨fun d => bd (getAll ρ l) (k := ⟨fun ds => some (d :: ds)⟩)⟩) := id rfl
theorem map_bd {α β : Type} (x : Option α) (f : α → β) : x.map f = bd x (k := ⟨fun a => some (f a)⟩) := by cases x <;> rfl
theorem bind_bd {α β : Type} (x : Option α) (f : α → Option β) : x.bind f = bd x (k := ⟨f⟩) := by cases x <;> rfl
@[simp] theorem sizeLine_eq : sizeLine = 16777216 := by decide

/-! ### expressions -/
section
variable {F : FT} {ρ : Env}
@[simp] theorem ev_var (i) : ev F (.var i) ρ = freeze i ρ := by simp only [ev]
@[simp] theorem ev_int (n) : ev F (.int n) ρ = some (.fr (.int n), ρ) := by simp only [ev]
@[simp] theorem ev_bl (b) : ev F (.bl b) ρ = some (.fr (.bool b), ρ) := by simp only [ev]
@[simp] theorem ev_non : ev F .non ρ = some (.fr .none, ρ) := by simp only [ev]
@[simp] theorem ev_str (s) : ev F (.str s) ρ = some (.fr (.str (Str.ofString s)), ρ) := by simp only [ev]
@[simp] theorem ev_bin (o a b) : ev F (.bin o a b) ρ = bd (opd a (ev F a) ρ) (k := ⟨fun p => bd (opd b (ev F b) p.2) (k := ⟨fun q => bd (p.1.get q.2) (k := ⟨fun da => bd (q.1.get q.2) (k := ⟨fun db => bd (dBin o da db) (k := ⟨fun r => some (r, q.2)⟩)⟩)⟩)⟩)⟩) := by
  simp only [ev]
  rcases opd a (ev F a) ρ with _ | ⟨oa, ρ1⟩
  · rfl
  · simp only [bd_some]
    rcases opd b (ev F b) ρ1 with _ | ⟨ob, ρ2⟩
    · rfl
    · simp only [bd_some]
      cases Opd.get ρ2 oa <;> cases Opd.get ρ2 ob <;> simp [map_bd]
@[simp] theorem ev_cmp (o a b) : ev F (.cmp o a b) ρ = bd (opd a (ev F a) ρ) (k := ⟨fun p => bd (opd b (ev F b) p.2) (k := ⟨fun q => bd (p.1.get q.2) (k := ⟨fun da => bd (q.1.get q.2) (k := ⟨fun db => bd (dCmp o da db) (k := ⟨fun r => some (.fr (.bool r), q.2)⟩)⟩)⟩)⟩)⟩) := by
  simp only [ev]
  rcases opd a (ev F a) ρ with _ | ⟨oa, ρ1⟩
  · rfl
  · simp only [bd_some]
    rcases opd b (ev F b) ρ1 with _ | ⟨ob, ρ2⟩
    · rfl
    · simp only [bd_some]
      cases Opd.get ρ2 oa <;> cases Opd.get ρ2 ob <;> simp [map_bd]
@[simp] theorem ev_neg (a) : ev F (.neg a) ρ = bd (ev F a ρ) (k := ⟨fun p => bd (intR p.1) (k := ⟨fun i => some (.fr (.int (-i)), p.2)⟩)⟩) := by
  simp only [ev]
  rcases ev F a ρ with _ | ⟨r, ρ1⟩
  · rfl
  · rcases r with d | d
    · cases d <;> rfl
    · rfl
@[simp] theorem ev_no (a) : ev F (.no a) ρ = bd (ev F a ρ) (k := ⟨fun p => bd (boolR p.1) (k := ⟨fun i => some (.fr (.bool (!i)), p.2)⟩)⟩) := by
  simp only [ev]
  rcases ev F a ρ with _ | ⟨r, ρ1⟩
  · rfl
  · rcases r with d | d
    · cases d <;> rfl
    · rfl
@[simp] theorem ev_cmp2 (o p a b c) : ev F (.cmp2 o p a b c) ρ = bd (ev F a ρ) (k := ⟨fun x => bd (ev F b x.2) (k := ⟨fun y => bd (dCmp o x.1.d y.1.d) (k := ⟨fun t => andR t (bd (ev F c y.2) (k := ⟨fun z => bd (dCmp p y.1.d z.1.d) (k := ⟨fun r => some (.fr (.bool r), z.2)⟩)⟩)) y.2⟩)⟩)⟩) := by
  simp only [ev]
  rcases ev F a ρ with _ | ⟨ra, ρ1⟩
  · rfl
  · simp only [bd_some]
    rcases ev F b ρ1 with _ | ⟨rb, ρ2⟩
    · rfl
    · simp only [bd_some]
      rcases dCmp o ra.d rb.d with _ | t
      · rfl
      · cases t
        · rfl
        · simp only [bd_some, andR_true]
          rcases ev F c ρ2 with _ | ⟨rc, ρ3⟩
          · rfl
          · simp only [bd_some, map_bd]
@[simp] theorem ev_and (a b) : ev F (.and a b) ρ = bd (ev F a ρ) (k := ⟨fun p => bd (boolR p.1) (k := ⟨fun t => andR t (ev F b p.2) p.2⟩)⟩) := by
  simp only [ev]
  rcases ev F a ρ with _ | ⟨r, ρ1⟩
  · rfl
  · rcases r with d | d
    · cases d with
      | bool t => cases t <;> rfl
      | _ => rfl
    · rfl
@[simp] theorem ev_or (a b) : ev F (.or a b) ρ = bd (ev F a ρ) (k := ⟨fun p => bd (boolR p.1) (k := ⟨fun t => orR t (ev F b p.2) p.2⟩)⟩) := by
  simp only [ev]
  rcases ev F a ρ with _ | ⟨r, ρ1⟩
  · rfl
  · rcases r with d | d
    · cases d with
      | bool t => cases t <;> rfl
      | _ => rfl
    · rfl
@[simp] theorem ev_ite (c a b) : ev F (.ite c a b) ρ = bd (ev F c ρ) (k := ⟨fun p => bd (boolR p.1) (k := ⟨fun t => iteR t (k := ⟨(ev F a p.2), (ev F b p.2)⟩)⟩)⟩) := by
  simp only [ev]
  rcases ev F c ρ with _ | ⟨r, ρ1⟩
  · rfl
  · rcases r with d | d
    · cases d with
      | bool t => cases t <;> rfl
      | _ => rfl
    · rfl
@[simp] theorem ev_idx (a i) : ev F (.idx a i) ρ = bd (opd a (ev F a) ρ) (k := ⟨fun p => bd (ev F i p.2) (k := ⟨fun q => bd (p.1.getR q.2) (k := ⟨fun da => bd (dIdx da q.1.d) (k := ⟨fun d => some (.fr d, q.2)⟩)⟩)⟩)⟩) := by
  simp only [ev]
  rcases opd a (ev F a) ρ with _ | ⟨oa, ρ1⟩
  · rfl
  · simp only [bd_some]
    rcases ev F i ρ1 with _ | ⟨ob, ρ2⟩
    · rfl
    · simp only [bd_some]
      cases Opd.getR ρ2 oa <;> simp [map_bd]
@[simp] theorem ev_slc (a lo hi) : ev F (.slc a lo hi) ρ = bd (opd a (ev F a) ρ) (k := ⟨fun p => bd (evO F lo p.2) (k := ⟨fun l => bd (evO F hi l.2) (k := ⟨fun h => bd (p.1.get h.2) (k := ⟨fun da => bd (dSlc da l.1 h.1) (k := ⟨fun r => some (r, h.2)⟩)⟩)⟩)⟩)⟩) := by
  simp only [ev]
  rcases opd a (ev F a) ρ with _ | ⟨oa, ρ1⟩
  · rfl
  · simp only [bd_some]
    rcases evO F lo ρ1 with _ | ⟨l, ρ2⟩
    · rfl
    · simp only [bd_some]
      rcases evO F hi ρ2 with _ | ⟨h, ρ3⟩
      · rfl
      · simp only [bd_some]
        cases Opd.get ρ3 oa <;> simp [map_bd]
def dctR (s : Option Slot) : Option (List (Int × D)) := match s with
  | some (.dct kvs) => some kvs
  | _ => none
@[simp] theorem dctR_some (kvs) : dctR (some (.dct kvs)) = some kvs := id rfl
theorem dctB_of {ρ : Env} {i : Nat} : dctB ρ i = (dctR ρ[i]?).isSome := by
  unfold dctB
  rcases ρ[i]? with _ | s
  · rfl
  · cases s <;> rfl
theorem dGetS_of {ρ : Env} {i : Nat} {k} : dGetS ρ i k = bd (dctR ρ[i]?) (k := ⟨fun kvs => kvGet kvs k⟩) := by
  unfold dGetS
  rcases ρ[i]? with _ | s
  · rfl
  · cases s <;> rfl
theorem dInS_of {ρ : Env} {i : Nat} {k} : dInS ρ i k = bd (dctR ρ[i]?) (k := ⟨fun kvs => some (kvGet kvs k).isSome⟩) := by
  unfold dInS
  rcases ρ[i]? with _ | s
  · rfl
  · cases s <;> rfl
theorem dPutS_of {ρ : Env} {i : Nat} {k d} : dPutS ρ i k d = bd (dctR ρ[i]?) (k := ⟨fun kvs => gd (kvs.length < sizeLine) (some (ρ.set i (.dct (kvPut kvs k d))))⟩) := by
  unfold dPutS
  rcases h : ρ[i]? with _ | s
  · rfl
  · cases s <;> first | rfl | exact if_gd _ _
@[simp] theorem ev_dget (i k) : ev F (.dget i k) ρ = bd (dctR ρ[i]?) (k := ⟨fun _ => bd (ev F k ρ) (k := ⟨fun p => bd (intR p.1) (k := ⟨fun j => bd (dctR p.2[i]?) (k := ⟨fun kvs => bd (kvGet kvs j) (k := ⟨fun d => some (.fr d, p.2)⟩)⟩)⟩)⟩)⟩) := by
  simp only [ev, dctB_of]
  cases h : dctR ρ[i]? with
  | none => rfl
  | some kvs =>
    simp only [Option.isSome_some, bd_some]
    rcases ev F k ρ with _ | ⟨r, ρ1⟩
    · rfl
    · simp only [bd_some]
      cases r with
      | nw _ => rfl
      | fr d =>
        cases d <;> first | rfl | skip
        simp only [intR_int, bd_some, dGetS_of, map_bd]
        cases dctR ρ1[i]? with
        | none => rfl
        | some kvs' => simp only [bd_some]
@[simp] theorem ev_din (b i k) : ev F (.din b i k) ρ = bd (ev F k ρ) (k := ⟨fun p => bd (intR p.1) (k := ⟨fun j => bd (dctR p.2[i]?) (k := ⟨fun kvs => some (.fr (.bool (b != (kvGet kvs j).isSome)), p.2)⟩)⟩)⟩) := by
  simp only [ev]
  rcases ev F k ρ with _ | ⟨r, ρ1⟩
  · rfl
  · simp only [bd_some]
    cases r with
    | nw _ => rfl
    | fr d =>
      cases d <;> first | rfl | skip
      simp only [intR_int, bd_some, dInS_of]
      cases dctR ρ1[i]? <;> rfl
@[simp] theorem ev_rvs (a) : ev F (.rvs a) ρ = bd (opd a (ev F a) ρ) (k := ⟨fun p => bd (p.1.get p.2) (k := ⟨fun d => bd (dRev d) (k := ⟨fun r => some (r, p.2)⟩)⟩)⟩) := by
  simp only [ev]
  rcases opd a (ev F a) ρ with _ | ⟨oa, ρ1⟩
  · rfl
  · simp only [bd_some]
    cases Opd.get ρ1 oa <;> simp [map_bd]
@[simp] theorem dRev_list (xs) : dRev (.list xs) = some (.nw xs.reverse) := id rfl
@[simp] theorem dRev_tuple (xs) : dRev (.tuple xs) = some (.fr (.tuple xs.reverse)) := id rfl
@[simp] theorem ev_tup (es) : ev F (.tup es) ρ = bd (evs F es ρ) (k := ⟨fun p => gd (p.1.length ≤ sizeLine) (some (.fr (.tuple p.1), p.2))⟩) := by
  simp only [ev]
  rcases evs F es ρ with _ | ⟨ds, ρ1⟩
  · rfl
  · exact if_gd _ _
@[simp] theorem ev_lst (es) : ev F (.lst es) ρ = bd (evs F es ρ) (k := ⟨fun p => gd (p.1.length ≤ sizeLine) (some (.nw p.1, p.2))⟩) := by
  simp only [ev]
  rcases evs F es ρ with _ | ⟨ds, ρ1⟩
  · rfl
  · exact if_gd _ _
/-- one turn of a comprehension -/
def cstep (F : FT) (t : T) (c : OE) (elt : E) (vs : List Nat) (d : D) (ρ : Env) : Option (Option D × Env) :=
  bd (asgT t d ρ) (k := ⟨fun ρa => bd (evC F c ρa) (k := ⟨fun q => brB q.1 (k := ⟨(bd (ev F elt q.2) (k := ⟨fun r => some (some r.1.d, wipeE vs r.2)⟩)), (some (none, wipeE vs q.2))⟩)⟩)⟩)
@[simp] theorem ev_comp (elt t it c vs) : ev F (.comp elt t it c vs) ρ = bd (evI F it ρ) (k := ⟨fun p => gd ((vs.all fun v => match (lendL p.2.2 p.2.1)[v]? with | some s => quietS s | none => false) = true)
    (bd (compL (cstep F t c elt vs) p.1 (wipeE vs (lendL p.2.2 p.2.1))) (k := ⟨fun q => some (.nw q.1, unlend p.2.2 (backE vs (lendL p.2.2 p.2.1) q.2))⟩))⟩) := by
  simp only [ev]
  rcases evI F it ρ with _ | ⟨ds, ρ0, ls⟩
  · rfl
  · simp only [bd_some]
    have e : (fun d ρ => match asgT t d ρ with
        | none => none
        | some ρa => match evC F c ρa with
          | none => none
          | some (false, ρb) => some (none, wipeE vs ρb)
          | some (true, ρb) => match ev F elt ρb with
            | none => none
            | some (r, ρc) => some (some r.d, wipeE vs ρc)) = cstep F t c elt vs := by
      funext d ρ
      unfold cstep
      rcases asgT t d ρ with _ | ρa
      · rfl
      · simp only [bd_some]
        rcases evC F c ρa with _ | ⟨b, ρb⟩
        · rfl
        · cases b
          · rfl
          · simp only [bd_some, brB_true]
            rcases ev F elt ρb with _ | ⟨r, ρc⟩ <;> rfl
    unfold gd
    cases hq : (vs.all fun v => match (lendL ls ρ0)[v]? with | some s => quietS s | none => false)
    · simp
    · simp only [Bool.true_eq_false, ↓reduceIte]
      rw [← e]
      rcases compL _ ds (wipeE vs (lendL ls ρ0)) with _ | ⟨r, ρ2⟩ <;> rfl
/-- one turn of the first of two clauses -/
noncomputable def cstep2 (F : FT) (t : T) (c0 : OE) (it1 : Wk) (t1 : T) (c : OE) (elt : E) (vs vs1 : List Nat) (d : D) (ρ : Env) : Option (List D × Env) :=
  bd (asgT t d ρ) (k := ⟨fun ρa => bd (evC F c0 ρa) (k := ⟨fun q => brB q.1 (k := ⟨(bd (evI F it1 q.2) (k := ⟨fun p => gd (p.2.2 = []) (gd ((vs1.all fun v => match p.2.1[v]? with | some s => quietS s | none => false) = true)
    (bd (compL (cstep F t1 c elt vs1) p.1 (wipeE vs1 p.2.1)) (k := ⟨fun u => some (u.1, wipeE vs u.2)⟩)))⟩)), (some ([], wipeE vs q.2))⟩)⟩)⟩)
theorem cstep_eq (F : FT) (t : T) (c : OE) (elt : E) (vs : List Nat) : (fun d ρ => match asgT t d ρ with
        | none => none
        | some ρa => match evC F c ρa with
          | none => none
          | some (false, ρb) => some (none, wipeE vs ρb)
          | some (true, ρb) => match ev F elt ρb with
            | none => none
            | some (r, ρc) => some (some r.d, wipeE vs ρc)) = cstep F t c elt vs := by
  funext d ρ
  unfold cstep
  rcases asgT t d ρ with _ | ρa
  · rfl
  · simp only [bd_some]
    rcases evC F c ρa with _ | ⟨b, ρb⟩
    · rfl
    · cases b
      · rfl
      · simp only [bd_some, brB_true]
        rcases ev F elt ρb with _ | ⟨r, ρc⟩ <;> rfl
@[simp] theorem ev_comp2 (elt t it c0 t1 it1 c vs vs1) : ev F (.comp2 elt t it c0 t1 it1 c vs vs1) ρ = bd (evI F it ρ) (k := ⟨fun p => gd ((vs.all fun v => match (lendL p.2.2 p.2.1)[v]? with | some s => quietS s | none => false) = true)
    (bd (compL2 (cstep2 F t c0 it1 t1 c elt vs vs1) p.1 (wipeE vs (lendL p.2.2 p.2.1))) (k := ⟨fun q => gd (q.1.length ≤ sizeLine) (some (.nw q.1, unlend p.2.2 (backE vs (lendL p.2.2 p.2.1) q.2)))⟩))⟩) := by
  simp only [ev]
  rcases evI F it ρ with _ | ⟨ds, ρ0, ls⟩
  · rfl
  · simp only [bd_some]
    have e : (fun d ρ => match asgT t d ρ with
        | none => none
        | some ρa => match evC F c0 ρa with
          | none => none
          | some (false, ρb) => some ([], wipeE vs ρb)
          | some (true, ρb) => match evI F it1 ρb with
            | some (ds1, ρ1, []) => if (vs1.all fun v => match ρ1[v]? with | some s => quietS s | none => false) = false then none else
              match compL (fun d ρ => match asgT t1 d ρ with
                | none => none
                | some ρa => match evC F c ρa with
                  | none => none
                  | some (false, ρb) => some (none, wipeE vs1 ρb)
                  | some (true, ρb) => match ev F elt ρb with
                    | none => none
                    | some (r, ρc) => some (some r.d, wipeE vs1 ρc)) ds1 (wipeE vs1 ρ1) with
              | none => none
              | some (r, ρ2) => some (r, wipeE vs ρ2)
            | _ => none) = cstep2 F t c0 it1 t1 c elt vs vs1 := by
      funext d ρ
      unfold cstep2
      rw [← cstep_eq]
      rcases asgT t d ρ with _ | ρa
      · rfl
      · simp only [bd_some]
        rcases evC F c0 ρa with _ | ⟨b, ρb⟩
        · rfl
        · cases b
          · rfl
          · simp only [bd_some, brB_true]
            rcases evI F it1 ρb with _ | ⟨ds1, ρ1, ls1⟩
            · rfl
            · simp only [bd_some]
              cases ls1 with
              | cons x l => unfold gd; simp
              | nil =>
                unfold gd
                simp only [if_true]
                cases hq : (vs1.all fun v => match ρ1[v]? with | some s => quietS s | none => false)
                · simp
                · simp only [Bool.true_eq_false, ↓reduceIte]
                  rcases compL _ ds1 (wipeE vs1 ρ1) with _ | ⟨r, ρ2⟩ <;> rfl
    unfold gd
    cases hq : (vs.all fun v => match (lendL ls ρ0)[v]? with | some s => quietS s | none => false)
    · simp
    · simp only [Bool.true_eq_false, ↓reduceIte]
      rw [← e]
      rcases compL2 _ ds (wipeE vs (lendL ls ρ0)) with _ | ⟨r, ρ2⟩
      · rfl
      · simp only [bd_some]
noncomputable def setK : Bool → List Int → Option Res
  | true, ns => gd ((dd ns).length < 64) (some (.nw ((sortI (dd ns)).map .int)))
  | false, ns => some (.fr (.int ((dd ns).length : Nat)))
theorem setR_eq (srt r) : setR srt r = bd (allInts r) (k := ⟨fun ns => gd (ns.length < 4095) (setK srt ns)⟩) := by
  unfold setR
  cases allInts r with
  | none => rfl
  | some ns =>
    simp only [bd_some]
    cases srt
    · exact if_gd _ _
    · show (if ns.length < 4095 then (if (dd ns).length < 64 then _ else none) else none) = _
      rw [if_gd]; congr 1; exact if_gd _ _
@[simp] theorem setK_true (ns) : setK true ns = gd ((dd ns).length < 64) (some (.nw ((sortI (dd ns)).map .int))) := id rfl
@[simp] theorem setK_false (ns) : setK false ns = some (.fr (.int ((dd ns).length : Nat))) := id rfl
@[simp] theorem ev_setc (srt elt t it c vs) : ev F (.setc srt elt t it c vs) ρ = bd (evI F it ρ) (k := ⟨fun p => gd ((vs.all fun v => match (lendL p.2.2 p.2.1)[v]? with | some s => quietS s | none => false) = true)
    (bd (compL (cstep F t c elt vs) p.1 (wipeE vs (lendL p.2.2 p.2.1))) (k := ⟨fun q => bd (bd (allInts q.1) (k := ⟨fun ns => gd (ns.length < 4095) (setK srt ns)⟩)) (k := ⟨fun r => some (r, unlend p.2.2 (backE vs (lendL p.2.2 p.2.1) q.2))⟩)⟩))⟩) := by
  simp only [ev]
  rcases evI F it ρ with _ | ⟨ds, ρ0, ls⟩
  · rfl
  · simp only [bd_some]
    rw [← cstep_eq]
    unfold gd
    cases hq : (vs.all fun v => match (lendL ls ρ0)[v]? with | some s => quietS s | none => false)
    · simp
    · simp only [Bool.true_eq_false, ↓reduceIte]
      rcases compL _ ds (wipeE vs (lendL ls ρ0)) with _ | ⟨r, ρ2⟩
      · rfl
      · simp only [bd_some, map_bd, setR_eq]
        rfl
@[simp] theorem ev_call (f es) : ev F (.call f es) ρ = bd (F f) (k := ⟨fun kf => bd (evA F kf.1 es ρ) (k := ⟨fun p => gd (apartB kf.1 p.1 = true) (bd (argsOf p.2 kf.1 p.1) (k := ⟨fun ss => bd (kf.2 ss) (k := ⟨fun r => bd (outsIn (muts kf.1 p.1) r.2 p.2) (k := ⟨fun ρ2 => some (r.1, ρ2)⟩)⟩)⟩))⟩)⟩) := by
  simp only [ev]
  rcases F f with _ | ⟨ks, fn⟩
  · rfl
  · simp only [bd_some]
    rcases evA F ks es ρ with _ | ⟨oo, ρ1⟩
    · rfl
    · simp only [bd_some]
      unfold gd
      cases apartB ks oo
      · simp
      · simp only [Bool.true_eq_false, ↓reduceIte]
        rcases argsOf ρ1 ks oo with _ | ss
        · rfl
        · simp only [bd_some]
          rcases fn ss with _ | ⟨r, outs⟩
          · rfl
          · simp only [bd_some]
            rcases outsIn (muts ks oo) outs ρ1 with _ | ρ2 <;> rfl
@[simp] theorem pks_nil : pks ρ .nil = some [] := by simp only [pks]
@[simp] theorem pks_cons (e es) : pks ρ (.cons e es) = bd (pk ρ e) (k := ⟨fun d => bd (pks ρ es) (k := ⟨fun ds => some (d :: ds)⟩)⟩) := by
  simp only [pks]
  cases pk ρ e with
  | none => rfl
  | some d => cases pks ρ es <;> rfl
@[simp] theorem pk_var (i) : pk ρ (.var i) = rd ρ i := by simp only [pk]
@[simp] theorem pk_int (n) : pk ρ (.int n) = some (.int n) := by simp only [pk]
@[simp] theorem pk_tup (es) : pk ρ (.tup es) = bd (pks ρ es) (k := ⟨fun ds => gd (ds.length ≤ sizeLine) (some (.tuple ds))⟩) := by
  simp only [pk]
  cases pks ρ es with
  | none => rfl
  | some ds => exact if_gd _ _
@[simp] theorem flatO_some (d) : flatO ρ (some (.fr d, [])) = gd (isFlat d = true) (some (.fr d, ρ)) := if_gd _ _
@[simp] theorem notM_B : notM .B = true := id rfl
@[simp] theorem notM_I : notM .I = true := id rfl
@[simp] theorem ev_pcall (f es) : ev F (.pcall f es) ρ = bd (F f) (k := ⟨fun kf => bd (pks ρ es) (k := ⟨fun ds => gd ((kf.1.all notM && decide (ds.length = kf.1.length)) = true) (flatO ρ (kf.2 (ds.map .fz)))⟩)⟩) := by
  simp only [ev]
  cases F f with
  | none => rfl
  | some kf =>
    obtain ⟨ks, fn⟩ := kf
    simp only [bd_some]
    cases pks ρ es with
    | none => rfl
    | some ds => exact if_gd _ _
@[simp] theorem ev_blt (b es) : ev F (.blt b es) ρ = bd (evP F es ρ) (k := ⟨fun p => bd (getAll p.2 p.1) (k := ⟨fun ds => bd (dBlt b ds) (k := ⟨fun r => some (r, p.2)⟩)⟩)⟩) := by
  simp only [ev, mapM_get]
  rcases evP F es ρ with _ | ⟨oo, ρ1⟩
  · rfl
  · simp only [bd_some]
    rcases getAll ρ1 oo with _ | ds
    · rfl
    · simp only [bd_some, map_bd]
@[simp] theorem ev_isi (a t) : ev F (.isi a t) ρ = bd (opd a (ev F a) ρ) (k := ⟨fun p => bd (p.1.get p.2) (k := ⟨fun d => some (.fr (.bool (tyIs t d)), p.2)⟩)⟩) := by
  simp only [ev]
  rcases opd a (ev F a) ρ with _ | ⟨oa, ρ1⟩
  · rfl
  · simp only [bd_some, map_bd]
@[simp] theorem ev_len (a) : ev F (.len a) ρ = bd (opd a (ev F a) ρ) (k := ⟨fun p => bd (p.1.getR p.2) (k := ⟨fun d => bd (dLen d) (k := ⟨fun r => some (.fr r, p.2)⟩)⟩)⟩) := by
  simp only [ev]
  rcases opd a (ev F a) ρ with _ | ⟨oa, ρ1⟩
  · rfl
  · simp only [bd_some, map_bd]
    cases Opd.getR ρ1 oa <;> rfl
@[simp] theorem ev_rngs (t it) : ev F (.rngs t it) ρ = bd (evI F it ρ) (k := ⟨fun p => some (if t then .fr (.tuple p.1) else .nw p.1, p.2.1)⟩) := by
  simp only [ev]
  rcases evI F it ρ with _ | ⟨ds, ρ1, ls⟩ <;> rfl
def isL : D → Option Unit
  | .list _ => some ()
  | _ => none
@[simp] theorem isL_list (ds) : isL (.list ds) = some () := id rfl
theorem isLB_of (x : Option D) : isLB x = (bd x (k := ⟨isL⟩)).isSome := by
  cases x with
  | none => rfl
  | some d => cases d <;> rfl
@[simp] theorem ev_meth (m o a) : ev F (.meth m o a) ρ = bd (opd o (ev F o) ρ) (k := ⟨fun p => bd (bd (p.1.get p.2) (k := ⟨isL⟩)) (k := ⟨fun _ => bd (ev F a p.2) (k := ⟨fun q => bd (p.1.get q.2) (k := ⟨fun d => bd (dMth m d q.1.d) (k := ⟨fun r => some (.fr r, q.2)⟩)⟩)⟩)⟩)⟩) := by
  simp only [ev]
  rcases opd o (ev F o) ρ with _ | ⟨oa, ρ1⟩
  · rfl
  · simp only [bd_some, isLB_of]
    cases h : bd (Opd.get ρ1 oa) (k := ⟨isL⟩) with
    | none => rfl
    | some _ =>
      simp only [Option.isSome_some, bd_some]
      rcases ev F a ρ1 with _ | ⟨ob, ρ2⟩
      · rfl
      · simp only [bd_some]
        cases Opd.get ρ2 oa <;> simp [map_bd]
/-- a changed list goes back to its slot -/
def chgS (m : Cth) (i : Nat) (s : Option Slot) (ds : List D) (ρ : Env) : Option (Res × Env) := match s with
  | some (.own xs) => bd (dChg m xs ds) (k := ⟨fun p => some (.fr p.2, ρ.set i (.own p.1))⟩)
  | some (.mu xs) => bd (dChg m xs ds) (k := ⟨fun p => some (.fr p.2, ρ.set i (.mu p.1))⟩)
  | _ => none
@[simp] theorem chgS_own (m i xs ds) : chgS m i (some (.own xs)) ds ρ = bd (dChg m xs ds) (k := ⟨fun p => some (.fr p.2, ρ.set i (.own p.1))⟩) := id rfl
@[simp] theorem chgS_mu (m i xs ds) : chgS m i (some (.mu xs)) ds ρ = bd (dChg m xs ds) (k := ⟨fun p => some (.fr p.2, ρ.set i (.mu p.1))⟩) := id rfl
@[simp] theorem ev_chg (m i es) : ev F (.chg m i es) ρ = bd (bd (rd ρ i) (k := ⟨isL⟩)) (k := ⟨fun _ => bd (evs F es ρ) (k := ⟨fun p => chgS m i p.2[i]? p.1 p.2⟩)⟩) := by
  simp only [ev]
  cases rd ρ i with
  | none => rfl
  | some d =>
    cases d <;> first
      | rfl
      | (simp only [bd_some, isL_list]
         rcases evs F es ρ with _ | ⟨ds, ρ1⟩
         · rfl
         · simp only [bd_some]
           rcases ρ1[i]? with _ | s
           · rfl
           · cases s <;> first | rfl | (simp only [chgS, map_bd]))
@[simp] theorem evO_none : evO F .none ρ = some (none, ρ) := by simp only [evO]
@[simp] theorem evO_some (e) : evO F (.some e) ρ = bd (ev F e ρ) (k := ⟨fun p => bd (intR p.1) (k := ⟨fun i => some (some i, p.2)⟩)⟩) := by
  simp only [evO]
  rcases ev F e ρ with _ | ⟨r, ρ1⟩
  · rfl
  · rcases r with d | d
    · cases d <;> rfl
    · rfl
@[simp] theorem evC_none : evC F .none ρ = some (true, ρ) := by simp only [evC]
@[simp] theorem evC_some (e) : evC F (.some e) ρ = bd (ev F e ρ) (k := ⟨fun p => bd (boolR p.1) (k := ⟨fun i => some (i, p.2)⟩)⟩) := by
  simp only [evC]
  rcases ev F e ρ with _ | ⟨r, ρ1⟩
  · rfl
  · rcases r with d | d
    · cases d <;> rfl
    · rfl
@[simp] theorem evI_seq (a) : evI F (.seq a) ρ = bd (opd a (ev F a) ρ) (k := ⟨fun p => gd (noMu p.1 p.2 = true) (bd (p.1.get p.2) (k := ⟨fun d => bd (seqOf d) (k := ⟨fun ds => some (ds, p.2, lends p.1 p.2)⟩)⟩))⟩) := by
  simp only [evI]
  rcases opd a (ev F a) ρ with _ | ⟨oa, ρ1⟩
  · rfl
  · simp only [bd_some]
    unfold gd
    cases noMu oa ρ1
    · simp
    · simp only [Bool.true_eq_false, ↓reduceIte]
      rcases Opd.get ρ1 oa with _ | d
      · rfl
      · simp only [bd_some, Option.bind_some]
        cases seqOf d <;> rfl
@[simp] theorem evI_rev (a) : evI F (.rev a) ρ = bd (opd a (ev F a) ρ) (k := ⟨fun p => gd (noMu p.1 p.2 = true) (bd (p.1.get p.2) (k := ⟨fun d => bd (seqOf d) (k := ⟨fun ds => some (ds.reverse, p.2, lends p.1 p.2)⟩)⟩))⟩) := by
  simp only [evI]
  rcases opd a (ev F a) ρ with _ | ⟨oa, ρ1⟩
  · rfl
  · simp only [bd_some]
    unfold gd
    cases noMu oa ρ1
    · simp
    · simp only [Bool.true_eq_false, ↓reduceIte]
      rcases Opd.get ρ1 oa with _ | d
      · rfl
      · simp only [bd_some, Option.bind_some]
        cases seqOf d <;> rfl
@[simp] theorem evI_enm (a) : evI F (.enm a) ρ = bd (opd a (ev F a) ρ) (k := ⟨fun p => gd (noMu p.1 p.2 = true) (bd (p.1.get p.2) (k := ⟨fun d => bd (seqOf d) (k := ⟨fun ds => some (enumD ds, p.2, lends p.1 p.2)⟩)⟩))⟩) := by
  simp only [evI]
  rcases opd a (ev F a) ρ with _ | ⟨oa, ρ1⟩
  · rfl
  · simp only [bd_some]
    unfold gd
    cases noMu oa ρ1
    · simp
    · simp only [Bool.true_eq_false, ↓reduceIte]
      rcases Opd.get ρ1 oa with _ | d
      · rfl
      · simp only [bd_some, Option.bind_some]
        cases seqOf d <;> rfl
def zipOf : D → D → Option (List D)
  | .list xs, .list ys => some (pairD xs ys)
  | .tuple xs, .tuple ys => some (pairD xs ys)
  | _, _ => none
@[simp] theorem zipOf_list (xs ys) : zipOf (.list xs) (.list ys) = some (pairD xs ys) := id rfl
@[simp] theorem zipOf_tuple (xs ys) : zipOf (.tuple xs) (.tuple ys) = some (pairD xs ys) := id rfl
@[simp] theorem evI_zip (a b) : evI F (.zip a b) ρ = bd (opd a (ev F a) ρ) (k := ⟨fun p => bd (opd b (ev F b) p.2) (k := ⟨fun q => gd (noMu p.1 q.2 = true) (gd (noMu q.1 q.2 = true)
    (bd (p.1.get q.2) (k := ⟨fun d => bd (q.1.get q.2) (k := ⟨fun e => bd (zipOf d e) (k := ⟨fun ds => some (ds, q.2, lends p.1 q.2 ++ lends q.1 q.2)⟩)⟩)⟩)))⟩)⟩) := by
  simp only [evI]
  rcases opd a (ev F a) ρ with _ | ⟨oa, ρ1⟩
  · rfl
  · simp only [bd_some]
    rcases opd b (ev F b) ρ1 with _ | ⟨ob, ρ2⟩
    · rfl
    · simp only [bd_some]
      unfold gd
      cases noMu oa ρ2
      · simp
      · simp only [Bool.true_eq_false, ↓reduceIte]
        cases noMu ob ρ2
        · simp
        · simp only [Bool.true_eq_false, ↓reduceIte]
          rcases Opd.get ρ2 oa with _ | d
          · rfl
          · simp only [bd_some]
            cases Opd.get ρ2 ob with
            | none => cases d <;> rfl
            | some e => cases d <;> cases e <;> rfl
@[simp] theorem evI_rng1 (a) : evI F (.rng1 a) ρ = bd (ev F a ρ) (k := ⟨fun p => bd (intR p.1) (k := ⟨fun i => gd (-(2 ^ 62) ≤ i ∧ i ≤ (sizeLine : Int)) (some (rngD 0 i, p.2, []))⟩)⟩) := by
  simp only [evI]
  rcases ev F a ρ with _ | ⟨r, ρ1⟩
  · rfl
  · rcases r with d | d
    · cases d <;> first | rfl | exact if_gd _ _
    · rfl
@[simp] theorem evI_rrng1 (a) : evI F (.rrng1 a) ρ = bd (ev F a ρ) (k := ⟨fun p => bd (intR p.1) (k := ⟨fun i => gd (-(2 ^ 62) ≤ i ∧ i ≤ (sizeLine : Int)) (some ((rngD 0 i).reverse, p.2, []))⟩)⟩) := by
  simp only [evI]
  rcases ev F a ρ with _ | ⟨r, ρ1⟩
  · rfl
  · rcases r with d | d
    · cases d <;> first | rfl | exact if_gd _ _
    · rfl
@[simp] theorem evI_rrng2 (a b) : evI F (.rrng2 a b) ρ = bd (ev F a ρ) (k := ⟨fun p => bd (intR p.1) (k := ⟨fun i => bd (ev F b p.2) (k := ⟨fun q => bd (intR q.1) (k := ⟨fun j => gd (-(2 ^ 62) ≤ i ∧ i < 2 ^ 62 ∧ j < 2 ^ 62 ∧ -(2 ^ 62) ≤ j ∧ j - i ≤ (sizeLine : Int)) (some ((rngD i j).reverse, q.2, []))⟩)⟩)⟩)⟩) := by
  simp only [evI]
  rcases ev F a ρ with _ | ⟨r, ρ1⟩
  · rfl
  · rcases r with d | d
    · cases d <;> first
        | rfl
        | (simp only [bd_some, intR_int]
           rcases ev F b ρ1 with _ | ⟨r, ρ2⟩
           · rfl
           · rcases r with d | d
             · cases d <;> first | rfl | exact if_gd _ _
             · rfl)
    · rfl
@[simp] theorem evI_dwn (a b) : evI F (.dwn a b) ρ = bd (ev F a ρ) (k := ⟨fun p => bd (intR p.1) (k := ⟨fun i => bd (ev F b p.2) (k := ⟨fun q => bd (intR q.1) (k := ⟨fun j => gd (-(2 ^ 62) ≤ i ∧ i < 2 ^ 62 ∧ j < 2 ^ 62 ∧ -(2 ^ 62) ≤ j ∧ i - j ≤ (sizeLine : Int)) (some (dwnD i j, q.2, []))⟩)⟩)⟩)⟩) := by
  simp only [evI]
  rcases ev F a ρ with _ | ⟨r, ρ1⟩
  · rfl
  · rcases r with d | d
    · cases d <;> first
        | rfl
        | (simp only [bd_some, intR_int]
           rcases ev F b ρ1 with _ | ⟨r, ρ2⟩
           · rfl
           · rcases r with d | d
             · cases d <;> first | rfl | exact if_gd _ _
             · rfl)
    · rfl
@[simp] theorem evI_rng2 (a b) : evI F (.rng2 a b) ρ = bd (ev F a ρ) (k := ⟨fun p => bd (intR p.1) (k := ⟨fun i => bd (ev F b p.2) (k := ⟨fun q => bd (intR q.1) (k := ⟨fun j => gd (-(2 ^ 62) ≤ i ∧ i < 2 ^ 62 ∧ j < 2 ^ 62 ∧ -(2 ^ 62) ≤ j ∧ j - i ≤ (sizeLine : Int)) (some (rngD i j, q.2, []))⟩)⟩)⟩)⟩) := by
  simp only [evI]
  rcases ev F a ρ with _ | ⟨r, ρ1⟩
  · rfl
  · rcases r with d | d
    · cases d <;> first
        | rfl
        | (simp only [bd_some, intR_int]
           rcases ev F b ρ1 with _ | ⟨r, ρ2⟩
           · rfl
           · rcases r with d | d
             · cases d <;> first | rfl | exact if_gd _ _
             · rfl)
    · rfl
@[simp] theorem evs_nil : evs F .nil ρ = some ([], ρ) := by simp only [evs]
@[simp] theorem evs_cons (e es) : evs F (.cons e es) ρ = bd (ev F e ρ) (k := ⟨fun p => bd (evs F es p.2) (k := ⟨fun q => some (p.1.d :: q.1, q.2)⟩)⟩) := by
  simp only [evs]
  rcases ev F e ρ with _ | ⟨r, ρ1⟩
  · rfl
  · simp only [bd_some]
    rcases evs F es ρ1 with _ | ⟨ds, ρ2⟩ <;> rfl
@[simp] theorem evP_nil : evP F .nil ρ = some ([], ρ) := by simp only [evP]
@[simp] theorem evP_cons (e es) : evP F (.cons e es) ρ = bd (opd e (ev F e) ρ) (k := ⟨fun p => bd (evP F es p.2) (k := ⟨fun q => some (p.1 :: q.1, q.2)⟩)⟩) := by
  simp only [evP]
  rcases opd e (ev F e) ρ with _ | ⟨r, ρ1⟩
  · rfl
  · simp only [bd_some]
    rcases evP F es ρ1 with _ | ⟨ds, ρ2⟩ <;> rfl
@[simp] theorem evA_nil : evA F [] .nil ρ = some ([], ρ) := by simp only [evA]
@[simp] theorem evA_I (ks e es) : evA F (.I :: ks) (.cons e es) ρ = bd (ev F e ρ) (k := ⟨fun p => bd (evA F ks es p.2) (k := ⟨fun q => some (.v p.1.d :: q.1, q.2)⟩)⟩) := by
  simp only [evA]
  rcases ev F e ρ with _ | ⟨r, ρ1⟩
  · rfl
  · simp only [bd_some]
    rcases evA F ks es ρ1 with _ | ⟨ds, ρ2⟩ <;> rfl
@[simp] theorem evA_B (ks e es) : evA F (.B :: ks) (.cons e es) ρ = bd (opd e (ev F e) ρ) (k := ⟨fun p => bd (evA F ks es p.2) (k := ⟨fun q => some (p.1 :: q.1, q.2)⟩)⟩) := by
  simp only [evA]
  rcases opd e (ev F e) ρ with _ | ⟨r, ρ1⟩
  · rfl
  · simp only [bd_some]
    rcases evA F ks es ρ1 with _ | ⟨ds, ρ2⟩ <;> rfl
@[simp] theorem evA_M (ks e es) : evA F (.M :: ks) (.cons e es) ρ = bd (opd e (ev F e) ρ) (k := ⟨fun p => bd (evA F ks es p.2) (k := ⟨fun q => some (p.1 :: q.1, q.2)⟩)⟩) := by
  simp only [evA]
  rcases opd e (ev F e) ρ with _ | ⟨r, ρ1⟩
  · rfl
  · simp only [bd_some]
    rcases evA F ks es ρ1 with _ | ⟨ds, ρ2⟩ <;> rfl

/-! ### statements -/
@[simp] theorem exs_nil : exs F .nil ρ = some (.next, ρ) := by simp only [exs]
@[simp] theorem exs_cons (s ss) : exs F (.cons s ss) ρ = sq (ex F s ρ) (k := ⟨fun ρ1 => exs F ss ρ1⟩) := by
  simp only [exs]
  rcases ex F s ρ with _ | ⟨o, ρ1⟩
  · rfl
  · cases o <;> rfl
@[simp] theorem ex_asg (t e) : ex F (.asg t e) ρ = bd (ev F e ρ) (k := ⟨fun p => bd (asgR t p.1 p.2) (k := ⟨fun ρ2 => some (.next, ρ2)⟩)⟩) := by
  simp only [ex]
  rcases ev F e ρ with _ | ⟨r, ρ1⟩
  · rfl
  · simp only [bd_some, map_bd]
@[simp] theorem ex_par (i j a b) : ex F (.par i j a b) ρ = bd (ev F a ρ) (k := ⟨fun p => bd (ev F b p.2) (k := ⟨fun q => bd (put i (.fz p.1.d) q.2) (k := ⟨fun ρ3 => bd (put j (.fz q.1.d) ρ3) (k := ⟨fun ρ4 => some (.next, ρ4)⟩)⟩)⟩)⟩) := by
  simp only [ex]
  rcases ev F a ρ with _ | ⟨r, ρ1⟩
  · rfl
  · simp only [bd_some]
    rcases ev F b ρ1 with _ | ⟨r2, ρ2⟩
    · rfl
    · simp only [bd_some]
      rcases put i (.fz r.d) ρ2 with _ | ρ3
      · rfl
      · simp only [bd_some, map_bd]
def fzI : Option Slot → Option Int
  | some (.fz (.int x)) => some x
  | _ => none
@[simp] theorem fzI_int (x) : fzI (some (.fz (.int x))) = some x := id rfl
@[simp] theorem ex_aug (o i e) : ex F (.aug o i e) ρ = bd (fzI ρ[i]?) (k := ⟨fun x => bd (ev F e ρ) (k := ⟨fun p => bd (intR p.1) (k := ⟨fun y => bd (dBin o (.int x) (.int y)) (k := ⟨fun r => bd (intR r) (k := ⟨fun z => bd (put i (.fz (.int z)) p.2) (k := ⟨fun ρ2 => some (.next, ρ2)⟩)⟩)⟩)⟩)⟩)⟩) := by
  simp only [ex]
  rcases ρ[i]? with _ | s
  · rfl
  · cases s <;> first
      | rfl
      | (rename_i d
         cases d <;> first
          | rfl
          | (simp only [fzI_int, bd_some]
             rcases ev F e ρ with _ | ⟨r, ρ1⟩
             · rfl
             · simp only [bd_some]
               rcases r with d | d
               · cases d <;> first
                  | rfl
                  | (simp only [intR_int, bd_some]
                     rcases dBin o _ _ with _ | r
                     · rfl
                     · rcases r with d | d
                       · cases d <;> first
                          | rfl
                          | (simp only [intR_int, bd_some, map_bd])
                       · rfl)
               · rfl))
/-- an item put into a slot's list -/
def setS (i : Nat) (s : Option Slot) (k : Int) (d : D) (ρ : Env) : Option (Out × Env) := match s with
  | some (.own xs) => bd (ixN xs.length k) (k := ⟨fun j => some (.next, ρ.set i (.own (xs.set j d)))⟩)
  | some (.mu xs) => bd (ixN xs.length k) (k := ⟨fun j => some (.next, ρ.set i (.mu (xs.set j d)))⟩)
  | _ => none
@[simp] theorem setS_own (i xs k d) : setS i (some (.own xs)) k d ρ = bd (ixN xs.length k) (k := ⟨fun j => some (.next, ρ.set i (.own (xs.set j d)))⟩) := id rfl
@[simp] theorem setS_mu (i xs k d) : setS i (some (.mu xs)) k d ρ = bd (ixN xs.length k) (k := ⟨fun j => some (.next, ρ.set i (.mu (xs.set j d)))⟩) := id rfl
@[simp] theorem ex_dput (i k v) : ex F (.dput i k v) ρ = bd (ev F v ρ) (k := ⟨fun p => bd (dctR p.2[i]?) (k := ⟨fun _ => bd (ev F k p.2) (k := ⟨fun q => bd (intR q.1) (k := ⟨fun j => bd (dctR q.2[i]?) (k := ⟨fun kvs => gd (kvs.length < sizeLine) (some (.next, q.2.set i (.dct (kvPut kvs j p.1.d))))⟩)⟩)⟩)⟩)⟩) := by
  simp only [ex]
  rcases ev F v ρ with _ | ⟨r, ρ1⟩
  · rfl
  · simp only [bd_some, dctB_of]
    cases h : dctR ρ1[i]? with
    | none => rfl
    | some kvs =>
      simp only [Option.isSome_some, bd_some]
      rcases ev F k ρ1 with _ | ⟨r', ρ2⟩
      · rfl
      · simp only [bd_some]
        cases r' with
        | nw _ => rfl
        | fr d =>
          cases d <;> first | rfl | skip
          simp only [intR_int, bd_some, dPutS_of]
          cases dctR ρ2[i]? with
          | none => rfl
          | some kvs' =>
            simp only [bd_some, ← if_gd]
            split <;> rfl
@[simp] theorem ex_dnew (i k v) : ex F (.dnew i k v) ρ = bd (ev F k ρ) (k := ⟨fun p => bd (intR p.1) (k := ⟨fun j => bd (ev F v p.2) (k := ⟨fun q => bd (put i (.dct [(j, q.1.d)]) q.2) (k := ⟨fun ρ3 => some (.next, ρ3)⟩)⟩)⟩)⟩) := by
  simp only [ex]
  rcases ev F k ρ with _ | ⟨r, ρ1⟩
  · rfl
  · simp only [bd_some]
    cases r with
    | nw _ => rfl
    | fr d =>
      cases d <;> first | rfl | skip
      simp only [intR_int, bd_some]
      rcases ev F v ρ1 with _ | ⟨r', ρ2⟩
      · rfl
      · simp only [bd_some]
        cases put i _ ρ2 <;> rfl
@[simp] theorem ex_rse : ex F .rse ρ = none := by simp only [ex]
@[simp] theorem ex_setIx (i ix e) : ex F (.setIx i ix e) ρ = bd (ev F e ρ) (k := ⟨fun p => bd (bd (rd p.2 i) (k := ⟨isL⟩)) (k := ⟨fun _ => bd (ev F ix p.2) (k := ⟨fun q => bd (intR q.1) (k := ⟨fun k => setS i q.2[i]? k p.1.d q.2⟩)⟩)⟩)⟩) := by
  simp only [ex]
  rcases ev F e ρ with _ | ⟨r, ρ1⟩
  · rfl
  · simp only [bd_some]
    rcases rd ρ1 i with _ | d
    · rfl
    · cases d <;> first
        | rfl
        | (simp only [bd_some, isL_list]
           rcases ev F ix ρ1 with _ | ⟨r2, ρ2⟩
           · rfl
           · simp only [bd_some]
             rcases r2 with d | d
             · cases d <;> first
                | rfl
                | (simp only [intR_int, bd_some]
                   rcases ρ2[i]? with _ | s
                   · rfl
                   · cases s <;> first | rfl | (simp only [setS, map_bd]))
             · rfl)
def atL : D → Int → Option Int
  | .list us, k => (atI us k).bind intOf
  | _, _ => none
@[simp] theorem atL_list (us k) : atL (.list us) k = bd (atI us k) (k := ⟨intOf⟩) := by
  show (atI us k).bind intOf = _
  rw [bind_bd]
@[simp] theorem intOf_int (i) : intOf (.int i) = some i := id rfl
@[simp] theorem ex_augIx (o i ix e) : ex F (.augIx o i ix e) ρ = bd (bd (rd ρ i) (k := ⟨isL⟩)) (k := ⟨fun _ => bd (ev F ix ρ) (k := ⟨fun p => bd (intR p.1) (k := ⟨fun k => bd (bd (rd p.2 i) (k := ⟨fun d => atL d k⟩)) (k := ⟨fun x => bd (ev F e p.2) (k := ⟨fun q => bd (intR q.1) (k := ⟨fun y =>
    bd (dBin o (.int x) (.int y)) (k := ⟨fun r => bd (intR r) (k := ⟨fun z => setS i q.2[i]? k (.int z) q.2⟩)⟩)⟩)⟩)⟩)⟩)⟩)⟩) := by
  simp only [ex]
  rcases rd ρ i with _ | d
  · rfl
  · cases d <;> first
      | rfl
      | (simp only [bd_some, isL_list]
         rcases ev F ix ρ with _ | ⟨r, ρ1⟩
         · rfl
         · simp only [bd_some]
           rcases r with d | d
           · cases d <;> first
              | rfl
              | (simp only [intR_int, bd_some]
                 rename_i k
                 rcases rd ρ1 i with _ | d
                 · rfl
                 · cases d <;> first
                    | rfl
                    | (simp only [bd_some, atL]
                       rename_i us
                       rcases atI us k with _ | x
                       · rfl
                       · cases x <;> first
                          | rfl
                          | (simp only [Option.bind_some, intOf_int, bd_some]
                             rcases ev F e ρ1 with _ | ⟨r, ρ2⟩
                             · rfl
                             · simp only [bd_some]
                               rcases r with d | d
                               · cases d <;> first
                                  | rfl
                                  | (simp only [intR_int, bd_some]
                                     rcases dBin o _ _ with _ | r
                                     · rfl
                                     · rcases r with d | d
                                       · cases d <;> first
                                          | rfl
                                          | (simp only [intR_int, bd_some]
                                             rcases ρ2[i]? with _ | s
                                             · rfl
                                             · cases s <;> first | rfl | (simp only [setS, map_bd]))
                                       · rfl)
                               · rfl)))
           · rfl)
@[simp] theorem ex_ex (e) : ex F (.ex e) ρ = bd (ev F e ρ) (k := ⟨fun p => some (.next, p.2)⟩) := by simp only [ex, map_bd]
@[simp] theorem ex_retN : ex F .retN ρ = some (.ret (.fr .none), ρ) := by simp only [ex]
@[simp] theorem ex_brk : ex F .brk ρ = some (.brk, ρ) := by simp only [ex]
@[simp] theorem ex_cont : ex F .cont ρ = some (.cont, ρ) := by simp only [ex]
@[simp] theorem ex_pass : ex F .pass ρ = some (.next, ρ) := by simp only [ex]
@[simp] theorem ex_ife (c a b) : ex F (.ife c a b) ρ = bd (ev F c ρ) (k := ⟨fun p => bd (boolR p.1) (k := ⟨fun t => brB t (k := ⟨(exs F a p.2), (exs F b p.2)⟩)⟩)⟩) := by
  simp only [ex]
  rcases ev F c ρ with _ | ⟨r, ρ1⟩
  · rfl
  · rcases r with d | d
    · cases d with
      | bool t => cases t <;> rfl
      | _ => rfl
    · rfl
@[simp] theorem ex_whl (n c b) : ex F (.whl n c b) ρ = whileL (ev F c) (exs F b) n ρ := by simp only [ex]
def fstep (F : FT) (t : T) (b : Ss) (d : D) (ρ : Env) : Option (Out × Env) := bd (asgT t d ρ) (k := ⟨fun ρa => exs F b ρa⟩)
@[simp] theorem ex_forr (t it b) : ex F (.forr t it b) ρ = bd (evI F it ρ) (k := ⟨fun p => bd (forL (fstep F t b) p.1 (lendL p.2.2 p.2.1)) (k := ⟨fun q => some (q.1, unlend p.2.2 q.2)⟩)⟩) := by
  simp only [ex]
  rcases evI F it ρ with _ | ⟨ds, ρ1, ls⟩
  · rfl
  · simp only [bd_some]
    have e : (fun d ρ => match asgT t d ρ with
        | none => none
        | some ρa => exs F b ρa) = fstep F t b := by
      funext d ρ
      unfold fstep
      cases asgT t d ρ <;> rfl
    rw [← e]
    rcases forL _ ds (lendL ls ρ1) with _ | ⟨o, ρ2⟩ <;> rfl
end
def finD (ks : List PK) (x : Option (Out × Env)) : Option (Res × List (List D)) := match x with
  | some (.ret r, ρ) => bd (outsOf ks ρ) (k := ⟨fun o => some (r, o)⟩)
  | some (.next, ρ) => bd (outsOf ks ρ) (k := ⟨fun o => some (.fr .none, o)⟩)
  | _ => none
@[simp] theorem finD_ret (ks r ρ) : finD ks (some (.ret r, ρ)) = bd (outsOf ks ρ) (k := ⟨fun o => some (r, o)⟩) := id rfl
@[simp] theorem finD_next (ks ρ) : finD ks (some (.next, ρ)) = bd (outsOf ks ρ) (k := ⟨fun o => some (.fr .none, o)⟩) := id rfl
theorem runD_eq (F d args) : runD F d args = gd (kindsB d.ks args = true) (finD d.ks (exs F d.body (args ++ List.replicate (d.N.length - args.length) .un))) := by
  unfold runD gd
  cases kindsB d.ks args
  · simp
  · simp only [Bool.true_eq_false, ↓reduceIte]
    rcases exs F d.body _ with _ | ⟨o, ρ⟩
    · rfl
    · cases o <;> simp only [finD, map_bd]
@[simp] theorem asgT_1 : asgT (.name i) d ρ = put i (.fz d) ρ := by simp only [asgT] <;> rfl
@[simp] theorem asgT_2 : asgT (.tup ts) (.tuple ds) ρ = asgTs ts ds ρ := by simp only [asgT] <;> rfl
@[simp] theorem asgTs_1 : asgTs .nil [] ρ = some ρ := by simp only [asgTs] <;> rfl
@[simp] theorem asgTs_2 : asgTs (.cons t ts) (d :: ds) ρ = match asgT t d ρ with
    | some ρ1 => asgTs ts ds ρ1
    | none => none := by simp only [asgTs] <;> rfl
@[simp] theorem asgR_1 : asgR (.name i) r ρ = put i (slotOf r) ρ := by simp only [asgR] <;> rfl
@[simp] theorem lendL_1 : lendL [] ρ = ρ := by simp only [lendL] <;> rfl
@[simp] theorem lendL_2 : lendL (i :: r) ρ = match ρ[i]? with
    | some (.own ds) => lendL r (ρ.set i (.lent ds))
    | _ => lendL r ρ := by simp only [lendL] <;> rfl
@[simp] theorem unlend_1 : unlend [] ρ = ρ := by simp only [unlend] <;> rfl
@[simp] theorem unlend_2 : unlend (i :: r) ρ = match ρ[i]? with
    | some (.lent ds) => unlend r (ρ.set i (.own ds))
    | _ => unlend r ρ := by simp only [unlend] <;> rfl
@[simp] theorem outsIn_1 : outsIn [] [] ρ = some ρ := by simp only [outsIn] <;> rfl
@[simp] theorem outsIn_2 : outsIn (i :: is) (ds :: r) ρ = match ρ[i]? with
    | some (.own _) => outsIn is r (ρ.set i (.own ds))
    | some (.mu _) => outsIn is r (ρ.set i (.mu ds))
    | _ => none := by simp only [outsIn] <;> rfl
@[simp] theorem outsOf_1 : outsOf (.M :: ks) (.mu ds :: ρ) = (outsOf ks ρ).map (ds :: ·) := by simp only [outsOf] <;> rfl
@[simp] theorem muts_1 : muts (.M :: ks) (.sl i :: oo) = i :: muts ks oo := by simp only [muts] <;> rfl
@[simp] theorem argsOf_1 : argsOf ρ [] [] = some [] := by simp only [argsOf] <;> rfl
@[simp] theorem argsOf_2 : argsOf ρ (k :: ks) (o :: oo) = match argOf ρ k o with
    | none => none
    | some s => match argsOf ρ ks oo with
      | none => none
      | some ss => some (s :: ss) := by simp only [argsOf] <;> rfl
@[simp] theorem dIdx_1 : dIdx (.list xs) (.int i) = atI xs i := by simp only [dIdx] <;> rfl
@[simp] theorem dIdx_2 : dIdx (.tuple xs) (.int i) = atI xs i := by simp only [dIdx] <;> rfl
@[simp] theorem dIdx_3 : dIdx (.str z) (.int i) = if z.length ≤ sizeLine then (atI z.cps.toList i).map fun c => .str ⟨#[c]⟩ else none := by simp only [dIdx] <;> rfl
@[simp] theorem dSlc_1 : dSlc (.list xs) lo hi = some (.nw (cutD xs lo hi)) := by simp only [dSlc] <;> rfl
@[simp] theorem dSlc_2 : dSlc (.tuple xs) lo hi = some (.fr (.tuple (cutD xs lo hi))) := by simp only [dSlc] <;> rfl
@[simp] theorem dSlc_3 : dSlc (.str z) lo hi = if z.length ≤ sizeLine then some (.fr (.str (cutS z lo hi))) else none := by simp only [dSlc] <;> rfl
@[simp] theorem dLen_1 : dLen (.list xs) = some (.int xs.length) := by simp only [dLen] <;> rfl
@[simp] theorem dLen_2 : dLen (.tuple xs) = some (.int xs.length) := by simp only [dLen] <;> rfl
@[simp] theorem dLen_3 : dLen (.str z) = if z.length ≤ sizeLine then some (.int z.length) else none := by simp only [dLen] <;> rfl
@[simp] theorem dMth_1 : dMth .count (.list xs) (.int i) = (allInts xs).map fun ns => .int (ns.count i) := by simp only [dMth] <;> rfl
@[simp] theorem slotOf_1 : slotOf (.fr d) = .fz d := by simp only [slotOf] <;> rfl
@[simp] theorem slotOf_2 : slotOf (.nw ds) = .own ds := by simp only [slotOf] <;> rfl
@[simp] theorem quietS_1 : quietS .un = true := by simp only [quietS] <;> rfl
@[simp] theorem boolOf_1 : boolOf (.bool b) = some b := by simp only [boolOf] <;> rfl
@[simp] theorem seqOf_1 : seqOf (.list ds) = some ds := by simp only [seqOf] <;> rfl
@[simp] theorem seqOf_2 : seqOf (.tuple ds) = some ds := by simp only [seqOf] <;> rfl
@[simp] theorem allInts_1 : allInts [] = some [] := by simp only [allInts] <;> rfl
@[simp] theorem allInts_2 : allInts (.int i :: r) = (allInts r).map (i :: ·) := by simp only [allInts] <;> rfl
@[simp] theorem allBools_1 : allBools [] = some [] := by simp only [allBools] <;> rfl
@[simp] theorem allBools_2 : allBools (.bool i :: r) = (allBools r).map (i :: ·) := by simp only [allBools] <;> rfl
@[simp] theorem asgR_tup : asgR (.tup ts) r ρ = asgT (.tup ts) r.d ρ := id rfl
@[simp] theorem freeze_eq : freeze i ρ = match ρ[i]? with
  | some (.fz d) => some (.fr d, ρ)
  | some (.own ds) => some (.fr (.list ds), ρ.set i (.fz (.list ds)))
  | some (.lent ds) => some (.fr (.list ds), ρ.set i (.fz (.list ds)))
  | _ => none := rfl
/-- an unset or a frozen slot -/
def qs : Option D → Slot
  | none => .un
  | some d => .fz d
def putK (s : Slot) (ρ : Env) : Option Env := match s with
  | .mu _ => none
  | _ => some ρ
@[simp] theorem putK_un (ρ) : putK .un ρ = some ρ := id rfl
@[simp] theorem putK_fz (d ρ) : putK (.fz d) ρ = some ρ := id rfl
@[simp] theorem putK_own (d ρ) : putK (.own d) ρ = some ρ := id rfl
@[simp] theorem putK_lent (d ρ) : putK (.lent d) ρ = some ρ := id rfl
@[simp] theorem putK_bor (d ρ) : putK (.bor d) ρ = some ρ := id rfl
@[simp] theorem putK_ro (d ρ) : putK (.ro d) ρ = some ρ := id rfl
@[simp] theorem putK_qs (o ρ) : putK (qs o) ρ = some ρ := by cases o <;> rfl
@[simp] theorem quietS_qs (o) : quietS (qs o) = true := by cases o <;> rfl
@[simp] theorem put_eq : put i s ρ = bd ρ[i]? (k := ⟨fun o => putK o (ρ.set i s)⟩) := by
  unfold put
  rcases ρ[i]? with _ | o
  · rfl
  · cases o <;> rfl
@[simp] theorem rd_eq : rd ρ i = match ρ[i]? with
  | some s => s.d?
  | none => none := rfl
@[simp] theorem rdr_eq : rdr ρ i = match ρ[i]? with
  | some s => s.dr?
  | none => none := rfl
@[simp] theorem get_v : Opd.get ρ (.v d) = some d := id rfl
@[simp] theorem get_sl : Opd.get ρ (.sl i) = rd ρ i := id rfl
@[simp] theorem getR_v : Opd.getR ρ (.v d) = some d := id rfl
@[simp] theorem getR_sl : Opd.getR ρ (.sl i) = rdr ρ i := id rfl
@[simp] theorem d_fr : (Res.fr d).d = d := id rfl
@[simp] theorem d_nw : (Res.nw ds).d = .list ds := id rfl
@[simp] theorem sd_un : Slot.un.d? = none := id rfl
@[simp] theorem sd_fz : (Slot.fz d).d? = some d := id rfl
@[simp] theorem sd_own : (Slot.own ds).d? = some (.list ds) := id rfl
@[simp] theorem sd_lent : (Slot.lent ds).d? = some (.list ds) := id rfl
@[simp] theorem sd_bor : (Slot.bor ds).d? = some (.list ds) := id rfl
@[simp] theorem sd_mu : (Slot.mu ds).d? = some (.list ds) := id rfl
@[simp] theorem sr_ro : (Slot.ro ds).dr? = some (.list ds) := id rfl
@[simp] theorem sr_fz : (Slot.fz d).dr? = some d := id rfl
@[simp] theorem sr_own : (Slot.own ds).dr? = some (.list ds) := id rfl
@[simp] theorem sr_lent : (Slot.lent ds).dr? = some (.list ds) := id rfl
@[simp] theorem sr_bor : (Slot.bor ds).dr? = some (.list ds) := id rfl
@[simp] theorem sr_mu : (Slot.mu ds).dr? = some (.list ds) := id rfl
@[simp] theorem noMu_v : noMu (.v d) ρ = true := id rfl
@[simp] theorem noMu_sl : noMu (.sl i) ρ = match ρ[i]? with
  | some (.mu _) => false
  | _ => true := rfl
@[simp] theorem lends_v : lends (.v d) ρ = [] := id rfl
@[simp] theorem lends_sl : lends (.sl i) ρ = match ρ[i]? with
  | some (.own ds) => [i]
  | _ => [] := rfl
@[simp] theorem wipe_nil : wipeE [] ρ = ρ := id rfl
@[simp] theorem wipe_cons : wipeE (v :: r) ρ = (wipeE r ρ).set v .un := id rfl
@[simp] theorem back_nil : backE [] ρ0 ρ = ρ := id rfl
@[simp] theorem back_cons : backE (v :: r) ρ0 ρ = match ρ0[v]? with
  | some s => (backE r ρ0 ρ).set v s
  | none => backE r ρ0 ρ := rfl
@[simp] theorem argOf_Bv : argOf ρ .B (.v d) = some (.fz d) := id rfl
@[simp] theorem argOf_Iv : argOf ρ .I (.v d) = some (.fz d) := id rfl
@[simp] theorem argOf_Bs : argOf ρ .B (.sl i) = match ρ[i]? with
    | some (.fz d) => some (.fz d)
    | some (.own ds) => some (.bor ds)
    | some (.lent ds) => some (.bor ds)
    | some (.bor ds) => some (.bor ds)
    | some (.mu ds) => some (.bor ds)
    | some (.ro ds) => some (.ro ds)
    | _ => none := rfl
@[simp] theorem argOf_Ms : argOf ρ .M (.sl i) = match ρ[i]? with
    | some (.own ds) => some (.mu ds)
    | some (.mu ds) => some (.mu ds)
    | _ => none := rfl
@[simp] theorem muts_B : muts (.B :: ks) (o :: oo) = muts ks oo := by cases o <;> rfl
@[simp] theorem muts_I : muts (.I :: ks) (o :: oo) = muts ks oo := by cases o <;> rfl
@[simp] theorem muts_nil : muts [] oo = [] := by cases oo <;> rfl
@[simp] theorem kinds_nil : kindsB [] [] = true := id rfl
@[simp] theorem kinds_M : kindsB (.M :: ks) (.mu ds :: r) = kindsB ks r := id rfl
@[simp] theorem kinds_Bf : kindsB (.B :: ks) (.fz d :: r) = kindsB ks r := id rfl
@[simp] theorem kinds_Bb : kindsB (.B :: ks) (.bor d :: r) = kindsB ks r := id rfl
@[simp] theorem kinds_Br : kindsB (.B :: ks) (.ro d :: r) = kindsB ks r := id rfl
@[simp] theorem kinds_I : kindsB (.I :: ks) (.fz d :: r) = kindsB ks r := id rfl
@[simp] theorem outsOf_B : outsOf (.B :: ks) (s :: ρ) = outsOf ks ρ := id rfl
@[simp] theorem outsOf_I : outsOf (.I :: ks) (s :: ρ) = outsOf ks ρ := id rfl
@[simp] theorem outsOf_M : outsOf (.M :: ks) (.mu ds :: ρ) = (outsOf ks ρ).map (ds :: ·) := id rfl
@[simp] theorem outsOf_nil : outsOf [] ρ = some [] := id rfl
@[simp] theorem opd_var : opd (.var i) f ρ = match ρ[i]? with
    | some (.fz d) => some (.v d, ρ)
    | some .un => none
    | some _ => some (.sl i, ρ)
    | none => none := rfl
@[simp] theorem ret_var : ex F (.ret (.var i)) ρ = match ρ[i]? with
    | some (.fz d) => some (.ret (.fr d), ρ)
    | some (.own ds) => some (.ret (.nw ds), ρ)
    | _ => none := by simp only [ex] <;> rfl
@[simp] theorem opd_int : opd (.int n) f ρ = bd (f ρ) (k := ⟨fun p => some (.v p.1.d, p.2)⟩) := by simp only [opd]; cases f ρ <;> rfl
@[simp] theorem ret_int : ex F (.ret (.int n)) ρ = bd (ev F (.int n) ρ) (k := ⟨fun p => some (.ret p.1, p.2)⟩) := by simp only [ex, map_bd]
@[simp] theorem opd_bl : opd (.bl b) f ρ = bd (f ρ) (k := ⟨fun p => some (.v p.1.d, p.2)⟩) := by simp only [opd]; cases f ρ <;> rfl
@[simp] theorem ret_bl : ex F (.ret (.bl b)) ρ = bd (ev F (.bl b) ρ) (k := ⟨fun p => some (.ret p.1, p.2)⟩) := by simp only [ex, map_bd]
@[simp] theorem opd_non : opd (.non) f ρ = bd (f ρ) (k := ⟨fun p => some (.v p.1.d, p.2)⟩) := by simp only [opd]; cases f ρ <;> rfl
@[simp] theorem ret_non : ex F (.ret (.non)) ρ = bd (ev F (.non) ρ) (k := ⟨fun p => some (.ret p.1, p.2)⟩) := by simp only [ex, map_bd]
@[simp] theorem opd_str : opd (.str s) f ρ = bd (f ρ) (k := ⟨fun p => some (.v p.1.d, p.2)⟩) := by simp only [opd]; cases f ρ <;> rfl
@[simp] theorem ret_str : ex F (.ret (.str s)) ρ = bd (ev F (.str s) ρ) (k := ⟨fun p => some (.ret p.1, p.2)⟩) := by simp only [ex, map_bd]
@[simp] theorem opd_bin : opd (.bin o a b) f ρ = bd (f ρ) (k := ⟨fun p => some (.v p.1.d, p.2)⟩) := by simp only [opd]; cases f ρ <;> rfl
@[simp] theorem ret_bin : ex F (.ret (.bin o a b)) ρ = bd (ev F (.bin o a b) ρ) (k := ⟨fun p => some (.ret p.1, p.2)⟩) := by simp only [ex, map_bd]
@[simp] theorem opd_neg : opd (.neg a) f ρ = bd (f ρ) (k := ⟨fun p => some (.v p.1.d, p.2)⟩) := by simp only [opd]; cases f ρ <;> rfl
@[simp] theorem ret_neg : ex F (.ret (.neg a)) ρ = bd (ev F (.neg a) ρ) (k := ⟨fun p => some (.ret p.1, p.2)⟩) := by simp only [ex, map_bd]
@[simp] theorem opd_no : opd (.no a) f ρ = bd (f ρ) (k := ⟨fun p => some (.v p.1.d, p.2)⟩) := by simp only [opd]; cases f ρ <;> rfl
@[simp] theorem ret_no : ex F (.ret (.no a)) ρ = bd (ev F (.no a) ρ) (k := ⟨fun p => some (.ret p.1, p.2)⟩) := by simp only [ex, map_bd]
@[simp] theorem opd_cmp : opd (.cmp o a b) f ρ = bd (f ρ) (k := ⟨fun p => some (.v p.1.d, p.2)⟩) := by simp only [opd]; cases f ρ <;> rfl
@[simp] theorem ret_cmp : ex F (.ret (.cmp o a b)) ρ = bd (ev F (.cmp o a b) ρ) (k := ⟨fun p => some (.ret p.1, p.2)⟩) := by simp only [ex, map_bd]
@[simp] theorem opd_cmp2 : opd (.cmp2 o p a b c) f ρ = bd (f ρ) (k := ⟨fun p => some (.v p.1.d, p.2)⟩) := by simp only [opd]; cases f ρ <;> rfl
@[simp] theorem ret_cmp2 : ex F (.ret (.cmp2 o p a b c)) ρ = bd (ev F (.cmp2 o p a b c) ρ) (k := ⟨fun p => some (.ret p.1, p.2)⟩) := by simp only [ex, map_bd]
@[simp] theorem opd_and : opd (.and a b) f ρ = bd (f ρ) (k := ⟨fun p => some (.v p.1.d, p.2)⟩) := by simp only [opd]; cases f ρ <;> rfl
@[simp] theorem ret_and : ex F (.ret (.and a b)) ρ = bd (ev F (.and a b) ρ) (k := ⟨fun p => some (.ret p.1, p.2)⟩) := by simp only [ex, map_bd]
@[simp] theorem opd_or : opd (.or a b) f ρ = bd (f ρ) (k := ⟨fun p => some (.v p.1.d, p.2)⟩) := by simp only [opd]; cases f ρ <;> rfl
@[simp] theorem ret_or : ex F (.ret (.or a b)) ρ = bd (ev F (.or a b) ρ) (k := ⟨fun p => some (.ret p.1, p.2)⟩) := by simp only [ex, map_bd]
@[simp] theorem opd_ite : opd (.ite c a b) f ρ = bd (f ρ) (k := ⟨fun p => some (.v p.1.d, p.2)⟩) := by simp only [opd]; cases f ρ <;> rfl
@[simp] theorem ret_ite : ex F (.ret (.ite c a b)) ρ = bd (ev F (.ite c a b) ρ) (k := ⟨fun p => some (.ret p.1, p.2)⟩) := by simp only [ex, map_bd]
@[simp] theorem opd_idx : opd (.idx a i) f ρ = bd (f ρ) (k := ⟨fun p => some (.v p.1.d, p.2)⟩) := by simp only [opd]; cases f ρ <;> rfl
@[simp] theorem ret_idx : ex F (.ret (.idx a i)) ρ = bd (ev F (.idx a i) ρ) (k := ⟨fun p => some (.ret p.1, p.2)⟩) := by simp only [ex, map_bd]
@[simp] theorem opd_slc : opd (.slc a lo hi) f ρ = bd (f ρ) (k := ⟨fun p => some (.v p.1.d, p.2)⟩) := by simp only [opd]; cases f ρ <;> rfl
@[simp] theorem ret_slc : ex F (.ret (.slc a lo hi)) ρ = bd (ev F (.slc a lo hi) ρ) (k := ⟨fun p => some (.ret p.1, p.2)⟩) := by simp only [ex, map_bd]
@[simp] theorem opd_dget : opd (.dget i k) f ρ = bd (f ρ) (k := ⟨fun p => some (.v p.1.d, p.2)⟩) := by simp only [opd]; cases f ρ <;> rfl
@[simp] theorem ret_dget : ex F (.ret (.dget i k)) ρ = bd (ev F (.dget i k) ρ) (k := ⟨fun p => some (.ret p.1, p.2)⟩) := by simp only [ex, map_bd]
@[simp] theorem opd_din : opd (.din b i k) f ρ = bd (f ρ) (k := ⟨fun p => some (.v p.1.d, p.2)⟩) := by simp only [opd]; cases f ρ <;> rfl
@[simp] theorem ret_din : ex F (.ret (.din b i k)) ρ = bd (ev F (.din b i k) ρ) (k := ⟨fun p => some (.ret p.1, p.2)⟩) := by simp only [ex, map_bd]
@[simp] theorem opd_rvs : opd (.rvs a) f ρ = bd (f ρ) (k := ⟨fun p => some (.v p.1.d, p.2)⟩) := by simp only [opd]; cases f ρ <;> rfl
@[simp] theorem ret_rvs : ex F (.ret (.rvs a)) ρ = bd (ev F (.rvs a) ρ) (k := ⟨fun p => some (.ret p.1, p.2)⟩) := by simp only [ex, map_bd]
@[simp] theorem opd_tup : opd (.tup es) f ρ = bd (f ρ) (k := ⟨fun p => some (.v p.1.d, p.2)⟩) := by simp only [opd]; cases f ρ <;> rfl
@[simp] theorem ret_tup : ex F (.ret (.tup es)) ρ = bd (ev F (.tup es) ρ) (k := ⟨fun p => some (.ret p.1, p.2)⟩) := by simp only [ex, map_bd]
@[simp] theorem opd_lst : opd (.lst es) f ρ = bd (f ρ) (k := ⟨fun p => some (.v p.1.d, p.2)⟩) := by simp only [opd]; cases f ρ <;> rfl
@[simp] theorem ret_lst : ex F (.ret (.lst es)) ρ = bd (ev F (.lst es) ρ) (k := ⟨fun p => some (.ret p.1, p.2)⟩) := by simp only [ex, map_bd]
@[simp] theorem opd_comp : opd (.comp elt t it c vs) f ρ = bd (f ρ) (k := ⟨fun p => some (.v p.1.d, p.2)⟩) := by simp only [opd]; cases f ρ <;> rfl
@[simp] theorem ret_comp : ex F (.ret (.comp elt t it c vs)) ρ = bd (ev F (.comp elt t it c vs) ρ) (k := ⟨fun p => some (.ret p.1, p.2)⟩) := by simp only [ex, map_bd]
@[simp] theorem opd_comp2 : opd (.comp2 elt t it c0 t1 it1 c vs vs1) f ρ = bd (f ρ) (k := ⟨fun p => some (.v p.1.d, p.2)⟩) := by simp only [opd]; cases f ρ <;> rfl
@[simp] theorem ret_comp2 : ex F (.ret (.comp2 elt t it c0 t1 it1 c vs vs1)) ρ = bd (ev F (.comp2 elt t it c0 t1 it1 c vs vs1) ρ) (k := ⟨fun p => some (.ret p.1, p.2)⟩) := by simp only [ex, map_bd]
@[simp] theorem opd_setc : opd (.setc bb elt t it c vs) f ρ = bd (f ρ) (k := ⟨fun p => some (.v p.1.d, p.2)⟩) := by simp only [opd]; cases f ρ <;> rfl
@[simp] theorem ret_setc : ex F (.ret (.setc bb elt t it c vs)) ρ = bd (ev F (.setc bb elt t it c vs) ρ) (k := ⟨fun p => some (.ret p.1, p.2)⟩) := by simp only [ex, map_bd]
@[simp] theorem opd_call : opd (.call g es) f ρ = bd (f ρ) (k := ⟨fun p => some (.v p.1.d, p.2)⟩) := by simp only [opd]; cases f ρ <;> rfl
@[simp] theorem ret_call : ex F (.ret (.call g es)) ρ = bd (ev F (.call g es) ρ) (k := ⟨fun p => some (.ret p.1, p.2)⟩) := by simp only [ex, map_bd]
@[simp] theorem opd_pcall : opd (.pcall g es) f ρ = bd (f ρ) (k := ⟨fun p => some (.v p.1.d, p.2)⟩) := by simp only [opd]; cases f ρ <;> rfl
@[simp] theorem ret_pcall : ex F (.ret (.pcall g es)) ρ = bd (ev F (.pcall g es) ρ) (k := ⟨fun p => some (.ret p.1, p.2)⟩) := by simp only [ex, map_bd]
@[simp] theorem opd_blt : opd (.blt bb es) f ρ = bd (f ρ) (k := ⟨fun p => some (.v p.1.d, p.2)⟩) := by simp only [opd]; cases f ρ <;> rfl
@[simp] theorem ret_blt : ex F (.ret (.blt bb es)) ρ = bd (ev F (.blt bb es) ρ) (k := ⟨fun p => some (.ret p.1, p.2)⟩) := by simp only [ex, map_bd]
@[simp] theorem opd_isi : opd (.isi a ty) f ρ = bd (f ρ) (k := ⟨fun p => some (.v p.1.d, p.2)⟩) := by simp only [opd]; cases f ρ <;> rfl
@[simp] theorem ret_isi : ex F (.ret (.isi a ty)) ρ = bd (ev F (.isi a ty) ρ) (k := ⟨fun p => some (.ret p.1, p.2)⟩) := by simp only [ex, map_bd]
@[simp] theorem opd_len : opd (.len a) f ρ = bd (f ρ) (k := ⟨fun p => some (.v p.1.d, p.2)⟩) := by simp only [opd]; cases f ρ <;> rfl
@[simp] theorem ret_len : ex F (.ret (.len a)) ρ = bd (ev F (.len a) ρ) (k := ⟨fun p => some (.ret p.1, p.2)⟩) := by simp only [ex, map_bd]
@[simp] theorem opd_rngs : opd (.rngs bb it) f ρ = bd (f ρ) (k := ⟨fun p => some (.v p.1.d, p.2)⟩) := by simp only [opd]; cases f ρ <;> rfl
@[simp] theorem ret_rngs : ex F (.ret (.rngs bb it)) ρ = bd (ev F (.rngs bb it) ρ) (k := ⟨fun p => some (.ret p.1, p.2)⟩) := by simp only [ex, map_bd]
@[simp] theorem opd_meth : opd (.meth m o a) f ρ = bd (f ρ) (k := ⟨fun p => some (.v p.1.d, p.2)⟩) := by simp only [opd]; cases f ρ <;> rfl
@[simp] theorem ret_meth : ex F (.ret (.meth m o a)) ρ = bd (ev F (.meth m o a) ρ) (k := ⟨fun p => some (.ret p.1, p.2)⟩) := by simp only [ex, map_bd]
@[simp] theorem opd_chg : opd (.chg m i es) f ρ = bd (f ρ) (k := ⟨fun p => some (.v p.1.d, p.2)⟩) := by simp only [opd]; cases f ρ <;> rfl
@[simp] theorem ret_chg : ex F (.ret (.chg m i es)) ρ = bd (ev F (.chg m i es) ρ) (k := ⟨fun p => some (.ret p.1, p.2)⟩) := by simp only [ex, map_bd]

@[simp] theorem dBin_addI (i j) : dBin .add (.int i) (.int j) = some (.fr (.int (i + j))) := id rfl
@[simp] theorem dBin_subI (i j) : dBin .sub (.int i) (.int j) = some (.fr (.int (i - j))) := id rfl
@[simp] theorem dBin_addL (x y) : dBin .add (.list x) (.list y) = gd (x.length + y.length ≤ sizeLine) (some (.nw (x ++ y))) := if_gd _ _
@[simp] theorem dBin_addT (x y) : dBin .add (.tuple x) (.tuple y) = gd (x.length + y.length ≤ sizeLine) (some (.fr (.tuple (x ++ y)))) := if_gd _ _
@[simp] theorem dBin_addS (x y : Str) : dBin .add (.str x) (.str y) = gd (x.length + y.length ≤ sizeLine) (some (.fr (.str (x ++ y)))) := if_gd _ _
/-- what * asks -/
def mulOk (i j : Int) : Prop := CMul i j ∨ CMulW i j
theorem mulOk_r {i j : Int} (h0 : -18446744073709551616 < j) (h1 : j < 18446744073709551616) : mulOk i j := .inl (.inr ⟨by omega, by omega⟩)
theorem mulOk_l {i j : Int} (h0 : -18446744073709551616 < i) (h1 : i < 18446744073709551616) : mulOk i j := .inl (.inl ⟨by omega, by omega⟩)
theorem mulOk_w {i j : Int} {a b : Nat} (ha : i.natAbs < 2 ^ a) (hb : j.natAbs < 2 ^ b) (h0 : 0 < a) (h1 : 0 < b) (h : a + b ≤ 1000000) : mulOk i j := .inr (wide_mul ha hb h0 h1 h)
@[simp] theorem dBin_mulI (i j) : dBin .mul (.int i) (.int j) = gd (mulOk i j) (some (.fr (.int (i * j)))) := if_gd _ _
@[simp] theorem dBin_mulL (x j) : dBin .mul (.list x) (.int j) = gd (-(2 ^ 63) ≤ j ∧ j < 2 ^ 63 ∧ x.length * j.toNat ≤ sizeLine) (some (.nw (List.replicate j.toNat x).flatten)) := if_gd _ _
@[simp] theorem dBin_fdiv (i j) : dBin .fdiv (.int i) (.int j) = gd (j ≠ 0 ∧ j.natAbs.log2 < 9000) (some (.fr (.int (i.fdiv j)))) := if_gd _ _
@[simp] theorem dBin_mod (i j) : dBin .mod (.int i) (.int j) = gd (j ≠ 0) (some (.fr (.int (i.fmod j)))) := if_gd _ _
@[simp] theorem dBin_pow (i j) : dBin .pow (.int i) (.int j) = gd (CPow i j) (some (.fr (.int (i ^ j.toNat)))) := if_gd _ _
@[simp] theorem dCmp_lt (i j) : dCmp .lt (.int i) (.int j) = some (decide (i < j)) := id rfl
@[simp] theorem dCmp_le (i j) : dCmp .le (.int i) (.int j) = some (decide (i ≤ j)) := id rfl
@[simp] theorem dCmp_gt (i j) : dCmp .gt (.int i) (.int j) = some (decide (j < i)) := id rfl
@[simp] theorem dCmp_ge (i j) : dCmp .ge (.int i) (.int j) = some (decide (j ≤ i)) := id rfl
theorem ordC_gd (d e b) : ordC d e b = gd (ordOk d e = true) (some b) := if_gd _ _
@[simp] theorem dCmp_ltT (x y) : dCmp .lt (.tuple x) (.tuple y) = gd (ordOk (.tuple x) (.tuple y) = true) (some (PySem.W.dataLt (.tuple x) (.tuple y))) := ordC_gd _ _ _
@[simp] theorem dCmp_gtT (x y) : dCmp .gt (.tuple x) (.tuple y) = gd (ordOk (.tuple x) (.tuple y) = true) (some (PySem.W.dataLt (.tuple y) (.tuple x))) := ordC_gd _ _ _
@[simp] theorem dCmp_leT (x y) : dCmp .le (.tuple x) (.tuple y) = gd (ordOk (.tuple x) (.tuple y) = true) (some (!PySem.W.dataLt (.tuple y) (.tuple x))) := ordC_gd _ _ _
@[simp] theorem dCmp_geT (x y) : dCmp .ge (.tuple x) (.tuple y) = gd (ordOk (.tuple x) (.tuple y) = true) (some (!PySem.W.dataLt (.tuple x) (.tuple y))) := ordC_gd _ _ _
@[simp] theorem dCmp_ltL (x y) : dCmp .lt (.list x) (.list y) = gd (ordOk (.list x) (.list y) = true) (some (PySem.W.dataLt (.list x) (.list y))) := ordC_gd _ _ _
@[simp] theorem dCmp_gtL (x y) : dCmp .gt (.list x) (.list y) = gd (ordOk (.list x) (.list y) = true) (some (PySem.W.dataLt (.list y) (.list x))) := ordC_gd _ _ _
@[simp] theorem dCmp_isN (d) : dCmp .is d .none = some (match d with | .none => true | _ => false) := id rfl
@[simp] theorem dCmp_isnN (d) : dCmp .isn d .none = some (match d with | .none => false | _ => true) := id rfl
@[simp] theorem dCmp_isB (d b) : dCmp .is d (.bool b) = some (match d with | .bool c => b == c | _ => false) := id rfl
@[simp] theorem dCmp_isnB (d b) : dCmp .isn d (.bool b) = some (match d with | .bool c => b != c | _ => true) := id rfl
theorem dCmp_eq (d e) : dCmp .eq d e = gd ((SeqAt.shaped d && SeqAt.shaped e) = true) (some (PyData.eqv d e)) := by
  simp only [dCmp]
  cases d <;> cases e <;> exact if_gd _ _
theorem dCmp_ne (d e) : dCmp .ne d e = gd ((SeqAt.shaped d && SeqAt.shaped e) = true) (some (!PyData.eqv d e)) := by
  simp only [dCmp]
  cases d <;> cases e <;> exact if_gd _ _
@[simp] theorem dCmp_innL (d ds) : dCmp .inn d (.list ds) = gd ((SeqAt.shaped d && SeqAt.shaped (.list ds)) = true) (some (ds.any fun z => PyData.eqv z d)) := by
  rw [← if_gd]
  cases d <;> first | rfl | simp [dCmp, isFlat]
@[simp] theorem dCmp_ninL (d ds) : dCmp .nin d (.list ds) = gd ((SeqAt.shaped d && SeqAt.shaped (.list ds)) = true) (some (!ds.any fun z => PyData.eqv z d)) := by
  rw [← if_gd]
  cases d <;> first | rfl | simp [dCmp, isFlat]
@[simp] theorem dCmp_innT (d ds) : dCmp .inn d (.tuple ds) = gd ((isFlat d && ds.all isFlat) = true) (some (ds.any fun z => PyData.eqv z d)) := by
  rw [← if_gd]
  cases d <;> first | rfl | simp [dCmp, isFlat]
@[simp] theorem dCmp_ninT (d ds) : dCmp .nin d (.tuple ds) = gd ((isFlat d && ds.all isFlat) = true) (some (!ds.any fun z => PyData.eqv z d)) := by
  rw [← if_gd]
  cases d <;> first | rfl | simp [dCmp, isFlat]
@[simp] theorem dBlt_abs (i) : dBlt .abs [.int i] = some (.fr (.int i.natAbs)) := id rfl
@[simp] theorem dBlt_intI (i) : dBlt .int [.int i] = some (.fr (.int i)) := id rfl
@[simp] theorem dBlt_intB (b) : dBlt .int [.bool b] = some (.fr (.int (if b then 1 else 0))) := id rfl
@[simp] theorem dBlt_str (i) : dBlt .str [.int i] = gd (i.natAbs.log2 < 1920) (some (.fr (.str (Str.ofString (toString i))))) := if_gd _ _
@[simp] theorem dBlt_repr (i) : dBlt .repr [.int i] = gd (i.natAbs.log2 < 1920) (some (.fr (.str (Str.ofString (toString i))))) := if_gd _ _
@[simp] theorem dBlt_sum (xs) : dBlt .sum [.list xs] = bd (allInts xs) (k := ⟨fun ns => some (.fr (.int ns.sum))⟩) := by simp only [dBlt, map_bd]
@[simp] theorem mxR_some (x r xs) : mxR (some (x :: r)) xs = some (.fr (.int (maxI x r))) := id rfl
@[simp] theorem mnR_some (x r xs) : mnR (some (x :: r)) xs = some (.fr (.int (minI x r))) := id rfl
@[simp] theorem mxR_none (x r) : mxR none (x :: r) = gd (mmOk (x :: r) = true) (some (.fr (PySem.W.maxD x r))) := if_gd _ _
@[simp] theorem mnR_none (x r) : mnR none (x :: r) = gd (mmOk (x :: r) = true) (some (.fr (PySem.W.minD x r))) := if_gd _ _
@[simp] theorem srtR_some (ns xs) : srtR (some ns) xs = some (.nw ((sortI ns).map .int)) := id rfl
@[simp] theorem srtR_none (xs) : srtR none xs = gd (sortOk xs = true) (some (.nw (sortD xs))) := if_gd _ _
@[simp] theorem dBlt_max (xs) : dBlt .max [.list xs] = mxR (allInts xs) xs := id rfl
@[simp] theorem dBlt_min (xs) : dBlt .min [.list xs] = mnR (allInts xs) xs := id rfl
@[simp] theorem dBlt_maxT (xs) : dBlt .max [.tuple xs] = mxR (allInts xs) xs := id rfl
@[simp] theorem dBlt_minT (xs) : dBlt .min [.tuple xs] = mnR (allInts xs) xs := id rfl
@[simp] theorem dBlt_max2 (i j) : dBlt .max2 [.int i, .int j] = some (.fr (.int (if j > i then j else i))) := id rfl
@[simp] theorem dBlt_min2 (i j) : dBlt .min2 [.int i, .int j] = some (.fr (.int (if j < i then j else i))) := id rfl
@[simp] theorem dBlt_all (xs) : dBlt .all [.list xs] = bd (allBools xs) (k := ⟨fun ns => some (.fr (.bool (ns.all id)))⟩) := by simp only [dBlt, map_bd]
@[simp] theorem dBlt_any (xs) : dBlt .any [.list xs] = bd (allBools xs) (k := ⟨fun ns => some (.fr (.bool (ns.any id)))⟩) := by simp only [dBlt, map_bd]
@[simp] theorem dBlt_sorted (xs) : dBlt .sorted [.list xs] = srtR (allInts xs) xs := id rfl
@[simp] theorem dBlt_sortedT (xs) : dBlt .sorted [.tuple xs] = bd (allInts xs) (k := ⟨fun ns => some (.nw ((sortI ns).map .int))⟩) := by simp only [dBlt, map_bd]
@[simp] theorem dBlt_listL (xs) : dBlt .list [.list xs] = some (.nw xs) := id rfl
@[simp] theorem dBlt_listT (xs) : dBlt .list [.tuple xs] = some (.nw xs) := id rfl
@[simp] theorem dBlt_tupL (xs) : dBlt .tuple [.list xs] = some (.fr (.tuple xs)) := id rfl
@[simp] theorem dBlt_tupT (xs) : dBlt .tuple [.tuple xs] = some (.fr (.tuple xs)) := id rfl
@[simp] theorem dBlt_gcd (a b) : dBlt .gcd [.int a, .int b] = some (.fr (.int (Nat.gcd a.natAbs b.natAbs : Nat))) := id rfl
@[simp] theorem dChg_append (xs d) : dChg .append xs [d] = gd (xs.length < sizeLine) (some (xs ++ [d], .none)) := if_gd _ _
def popR (xs : List D) : Option (List D × D) := match xs.getLast? with | none => none | some z => some (xs.dropLast, z)
@[simp] theorem dChg_pop (xs) : dChg .pop xs [] = popR xs := id rfl
@[simp] theorem popR_snoc (xs z) : popR (xs ++ [z]) = some (xs, z) := by simp [popR]
@[simp] theorem dChg_popAt (xs i) : dChg .popAt xs [.int i] = bd (ixN xs.length i) (k := ⟨fun j => bd xs[j]? (k := ⟨fun z => some (xs.eraseIdx j, z)⟩)⟩) := by
  show ((ixN xs.length i).bind fun j => (xs[j]?).map fun z => (xs.eraseIdx j, z)) = _
  simp only [bind_bd, map_bd]
@[simp] theorem dChg_insert (xs i d) : dChg .insert xs [.int i, d] = gd (0 ≤ i ∧ i < 2 ^ 63 ∧ xs.length < sizeLine) (some (xs.take i.toNat ++ [d] ++ xs.drop i.toNat, .none)) := if_gd _ _
@[simp] theorem dChg_extend (xs ys) : dChg .extend xs [.list ys] = gd (xs.length + ys.length ≤ sizeLine) (some (xs ++ ys, .none)) := if_gd _ _
@[simp] theorem dChg_remove (xs d) : dChg .remove xs [d] = gd ((SeqAt.shaped d && SeqAt.shaped (.list xs)) = true) (bd (indexD d xs) (k := ⟨fun j => some (xs.eraseIdx j, .none)⟩)) := by
  simp only [dChg, map_bd]; exact if_gd _ _
@[simp] theorem dChg_reverse (xs) : dChg .reverse xs [] = some (xs.reverse, .none) := id rfl
end Ev



set_option maxRecDepth 100000
/-! Lx: rules for loops. -/
namespace Ev
open PySem L2
class Kp where
  p : Env → Prop
/-- a turn goes on, to a state with p -/
def St (x : Option (Out × Env)) [k : Kp] : Prop := ∃ ρ', x = some (.next, ρ') ∧ k.p ρ'
theorem St.next {ρ : Env} {k : Kp} (h : k.p ρ) : St (some (.next, ρ)) (k := k) := ⟨ρ, rfl, h⟩
theorem St.mono {x} {P Q : Env → Prop} (h : St x (k := ⟨P⟩)) (m : ∀ ρ, P ρ → Q ρ) : St x (k := ⟨Q⟩) := by
  obtain ⟨ρ, e, p⟩ := h
  exact ⟨ρ, e, m ρ p⟩
class Kr where
  p : Res → List (List D) → Prop
/-- a def's run ends, with p -/
def Rt (x : Option (Res × List (List D))) [k : Kr] : Prop := ∃ r o, x = some (r, o) ∧ k.p r o
theorem Rt.ok {r : Res} {o : List (List D)} {k : Kr} (h : k.p r o) : Rt (some (r, o)) (k := k) := ⟨r, o, rfl, h⟩
theorem forL_use {b : D → Env → Option (Out × Env)} {ds : List D} {ρ : Env} {x : Option (Out × Env)} (hf : forL b ds ρ = x) (P : Nat → Env → Prop) (h0 : P 0 ρ)
    (hs : ∀ (i : Nat) (d : D) (ρ : Env), ds[i]? = some d → P i ρ → St (b d ρ) (k := ⟨P (i + 1)⟩)) : ∃ ρ', x = some (.next, ρ') ∧ P ds.length ρ' := by
  induction ds generalizing ρ P with
  | nil => exact ⟨ρ, by rw [← hf]; rfl, h0⟩
  | cons d ds ih =>
    obtain ⟨ρ1, e1, h1⟩ := hs 0 d ρ rfl h0
    rw [forL_cons, e1] at hf
    obtain ⟨ρ2, e2, h2⟩ := ih hf (fun i => P (i + 1)) h1 fun i d ρ hd hp => hs (i + 1) d ρ (by simpa using hd) hp
    exact ⟨ρ2, e2, h2⟩
theorem rng_get {a b : Int} {i : Nat} {d : D} (h : (rngD a b)[i]? = some d) : i < (b - a).toNat ∧ d = .int (a + i) := by
  unfold rngD at h
  rw [List.getElem?_map] at h
  cases e : (List.range (b - a).toNat)[i]? with
  | none => rw [e] at h; cases h
  | some j =>
    rw [e] at h
    cases h
    obtain ⟨hl, hj⟩ := List.getElem?_eq_some_iff.mp e
    rw [List.getElem_range] at hj
    subst hj
    exact ⟨by simpa using hl, rfl⟩
@[simp] theorem rng_len (a b : Int) : (rngD a b).length = (b - a).toNat := by simp [rngD]
theorem forR_use {b : D → Env → Option (Out × Env)} {m n : Int} {ρ : Env} {x : Option (Out × Env)} (hf : forL b (rngD m n) ρ = x) (P : Nat → Env → Prop) (h0 : P 0 ρ)
    (hs : ∀ (i : Nat) (ρ : Env), i < (n - m).toNat → P i ρ → St (b (.int (m + i)) ρ) (k := ⟨P (i + 1)⟩)) : ∃ ρ', x = some (.next, ρ') ∧ P (n - m).toNat ρ' := by
  have := forL_use hf P h0 fun i d ρ hd hp => by
    obtain ⟨hi, rfl⟩ := rng_get hd
    exact hs i ρ hi hp
  rwa [rng_len] at this
theorem forM_use {α : Type} {enc : α → D} {xs : List α} {b : D → Env → Option (Out × Env)} {ρ : Env} {x : Option (Out × Env)} (hf : forL b (xs.map enc) ρ = x) (P : Nat → Env → Prop) (h0 : P 0 ρ)
    (hs : ∀ (i : Nat) (a : α) (ρ : Env), xs[i]? = some a → P i ρ → St (b (enc a) ρ) (k := ⟨P (i + 1)⟩)) : ∃ ρ', x = some (.next, ρ') ∧ P xs.length ρ' := by
  have := forL_use hf P h0 fun i d ρ hd hp => by
    rw [List.getElem?_map] at hd
    cases e : xs[i]? with
    | none => rw [e] at hd; cases hd
    | some a => rw [e] at hd; cases hd; exact hs i a ρ e hp
  rwa [List.length_map] at this
/-- the first k turns go on, then the loop is left -/
theorem forL_ret {b : D → Env → Option (Out × Env)} {ds : List D} {ρ : Env} {x : Option (Out × Env)} (hf : forL b ds ρ = x) (P : Nat → Env → Prop) (n : Nat) (R : Res → Env → Prop) (h0 : P 0 ρ) (hn : n < ds.length)
    (hs : ∀ (i : Nat) (d : D) (ρ : Env), i < n → ds[i]? = some d → P i ρ → St (b d ρ) (k := ⟨P (i + 1)⟩))
    (hr : ∀ (d : D) (ρ : Env), ds[n]? = some d → P n ρ → ∃ r ρ', b d ρ = some (.ret r, ρ') ∧ R r ρ') : ∃ r ρ', x = some (.ret r, ρ') ∧ R r ρ' := by
  induction n generalizing ds ρ P with
  | zero =>
    cases ds with
    | nil => simp at hn
    | cons d ds =>
      obtain ⟨r, ρ1, e1, h1⟩ := hr d ρ rfl h0
      rw [forL_cons, e1] at hf
      exact ⟨r, ρ1, hf.symm, h1⟩
  | succ n ih =>
    cases ds with
    | nil => simp at hn
    | cons d ds =>
      obtain ⟨ρ1, e1, h1⟩ := hs 0 d ρ (by omega) rfl h0
      rw [forL_cons, e1] at hf
      exact ih hf (fun i => P (i + 1)) h1 (by simpa using hn) (fun i d ρ hi hd hp => hs (i + 1) d ρ (by omega) (by simpa using hd) hp) (fun d ρ hd hp => hr d ρ (by simpa using hd) hp)
theorem compL_use {stp : D → Env → Option (Option D × Env)} {ds : List D} {ρ : Env} {x : Option (List D × Env)} (hf : compL stp ds ρ = x) (f : D → Option D) (hs : ∀ d ∈ ds, stp d ρ = some (f d, ρ)) : x = some (ds.filterMap f, ρ) := by
  subst hf
  induction ds with
  | nil => rfl
  | cons d ds ih =>
    rw [compL, hs d (by simp)]
    simp only
    rw [ih fun d hd => hs d (by simp [hd])]
    cases e : f d <;> simp [e]
theorem compM_use {α : Type} {enc : α → D} {xs : List α} {stp : D → Env → Option (Option D × Env)} {ρ : Env} {x : Option (List D × Env)} (hf : compL stp (xs.map enc) ρ = x) (f : α → Option D) (hs : ∀ d ∈ xs, stp (enc d) ρ = some (f d, ρ)) : x = some (xs.filterMap f, ρ) := by
  subst hf
  induction xs with
  | nil => rfl
  | cons d ds ih =>
    rw [List.map_cons, compL, hs d (by simp)]
    simp only
    rw [ih fun d hd => hs d (by simp [hd])]
    cases e : f d <;> simp [*]
/-- a comprehension over a range, an item each -/
theorem compR_use {m n : Int} {stp : D → Env → Option (Option D × Env)} {ρ : Env} {x : Option (List D × Env)} (hf : compL stp (rngD m n) ρ = x) (f : Nat → Option D) (hs : ∀ i, i < (n - m).toNat → stp (.int (m + (i : Nat))) ρ = some (f i, ρ)) :
    x = some ((List.range (n - m).toNat).filterMap f, ρ) :=
  compM_use (enc := fun i : Nat => PyData.int (m + i)) (xs := List.range (n - m).toNat) hf f fun i hi => hs i (by simpa using hi)
theorem compL_st {stp : D → Env → Option (Option D × Env)} {ds : List D} {ρ : Env} {x : Option (List D × Env)} (hf : compL stp ds ρ = x) (P : Nat → List D → Env → Prop) (h0 : P 0 [] ρ)
    (hs : ∀ (i : Nat) (d : D) (r : List D) (ρ : Env), ds[i]? = some d → P i r ρ → ∃ o ρ', stp d ρ = some (o, ρ') ∧ P (i + 1) (r ++ o.toList) ρ') : ∃ r ρ', x = some (r, ρ') ∧ P ds.length r ρ' := by
  suffices h : ∀ (r0 : List D) (P : Nat → List D → Env → Prop), P 0 r0 ρ → (∀ (i : Nat) (d : D) (r : List D) (ρ : Env), ds[i]? = some d → P i r ρ → ∃ o ρ', stp d ρ = some (o, ρ') ∧ P (i + 1) (r ++ o.toList) ρ') →
      ∃ r ρ', x = some (r, ρ') ∧ P ds.length (r0 ++ r) ρ' by
    simpa using h [] P h0 hs
  clear h0 hs P
  intro r0 P h0 hs
  induction ds generalizing ρ P r0 x with
  | nil => exact ⟨[], ρ, by rw [← hf]; rfl, by simpa using h0⟩
  | cons d ds ih =>
    obtain ⟨o, ρ1, e1, h1⟩ := hs 0 d r0 ρ rfl h0
    rw [compL, e1] at hf
    simp only at hf
    obtain ⟨r, ρ2, e2, h2⟩ := ih rfl (r0 ++ o.toList) (fun i => P (i + 1)) h1 fun i d r ρ hd hp => hs (i + 1) d r ρ (by simpa using hd) hp
    rw [e2] at hf
    refine ⟨o.toList ++ r, ρ2, ?_, by simpa using h2⟩
    rw [← hf]
    cases o <;> rfl
theorem whileL_use {σ : Type} {c : Env → Option (Res × Env)} {b : Env → Option (Out × Env)} {n : Nat} {x : Option (Out × Env)} (st : σ → Env) (μ : σ → Nat) (I Q : σ → Prop) {s : σ} (hf : whileL c b n (st s) = x) (hI : I s) (hn : μ s < n)
    (hs : ∀ s, I s → (c (st s) = some (.fr (.bool false), st s) ∧ Q s) ∨ ∃ s', c (st s) = some (.fr (.bool true), st s) ∧ b (st s) = some (.next, st s') ∧ I s' ∧ μ s' < μ s) : ∃ s', x = some (.next, st s') ∧ Q s' := by
  subst hf
  induction n generalizing s with
  | zero => omega
  | succ n ih =>
    rw [whileL]
    rcases hs s hI with ⟨e, q⟩ | ⟨s', e1, e2, i, m⟩
    · rw [e]; exact ⟨s, rfl, q⟩
    · rw [e1]
      simp only [e2]
      exact ih i (by omega)
end Ev

set_option maxRecDepth 100000
/-! Ly: data: indices, equality, integers. -/
namespace Ev
open PySem L2
@[simp] theorem ixN_nat (n k : Nat) : ixN n (k : Int) = if k < n then some k else none := by
  unfold ixN; simp
theorem ixN_lt {n k : Nat} (h : k < n) : ixN n (k : Int) = some k := by simp [h]
@[simp] theorem ixN_0 (n : Nat) : ixN n 0 = if 0 < n then some 0 else none := ixN_nat n 0
@[simp] theorem ixN_1 (n : Nat) : ixN n 1 = if 1 < n then some 1 else none := ixN_nat n 1
@[simp] theorem ixN_2 (n : Nat) : ixN n 2 = if 2 < n then some 2 else none := ixN_nat n 2
@[simp] theorem ixN_3 (n : Nat) : ixN n 3 = if 3 < n then some 3 else none := ixN_nat n 3
theorem ixN_m1 (n : Nat) (h : 0 < n) : ixN n (-1) = some (n - 1) := by
  unfold ixN
  rw [if_neg (by omega), if_pos (by omega)]
  congr 1; omega
@[simp] theorem atI_nat {α : Type} (xs : List α) (k : Nat) : atI xs (k : Int) = xs[k]? := by
  unfold atI
  by_cases h : k < xs.length
  · simp [h]
  · simp [h]
@[simp] theorem atI_0 {α : Type} (xs : List α) : atI xs 0 = xs[0]? := atI_nat xs 0
@[simp] theorem atI_1 {α : Type} (xs : List α) : atI xs 1 = xs[1]? := atI_nat xs 1
@[simp] theorem atI_2 {α : Type} (xs : List α) : atI xs 2 = xs[2]? := atI_nat xs 2
@[simp] theorem atI_3 {α : Type} (xs : List α) : atI xs 3 = xs[3]? := atI_nat xs 3
theorem atI_of {α : Type} (xs : List α) {i : Int} (h : 0 ≤ i) : atI xs i = xs[i.toNat]? := by
  obtain ⟨k, rfl⟩ := Int.eq_ofNat_of_zero_le h
  simp
theorem atI_m1 {α : Type} (xs : List α) : atI xs (-1) = xs.getLast? := by
  unfold atI
  cases xs with
  | nil => rfl
  | cons x xs =>
    rw [ixN_m1 _ (by simp)]
    simp [List.getLast?_eq_getElem?]
@[simp] theorem bd_map {α β γ : Type} (x : Option α) (f : α → β) [k : Kt β γ] : bd (Option.map f x) (k := k) = bd x (k := ⟨fun a => k.f (f a)⟩) := by cases x <;> rfl
@[simp] theorem allInts_ints (ns : List Int) : allInts (ns.map .int) = some ns := by
  induction ns with
  | nil => rfl
  | cons n ns ih => simp [allInts, ih]
@[simp] theorem allBools_bools (ns : List Bool) : allBools (ns.map .bool) = some ns := by
  induction ns with
  | nil => rfl
  | cons n ns ih => simp [allBools, ih]
@[simp] theorem eqv_int (i j) : PyData.eqv (.int i) (.int j) = (i == j) := by simp [PyData.eqv]
@[simp] theorem eqv_bool (i j) : PyData.eqv (.bool i) (.bool j) = (i == j) := by simp [PyData.eqv]
@[simp] theorem eqv_str (i j) : PyData.eqv (.str i) (.str j) = (i == j) := by simp [PyData.eqv]
theorem eqvAll_ints : ∀ (xs ys : List Int), PyData.eqvAll (xs.map .int) (ys.map .int) = (xs == ys)
  | [], [] => rfl
  | [], _ :: _ => rfl
  | _ :: _, [] => rfl
  | x :: xs, y :: ys => by simp [PyData.eqvAll, eqvAll_ints xs ys]
@[simp] theorem eqv_ints (xs ys : List Int) : PyData.eqv (.list (xs.map .int)) (.list (ys.map .int)) = (xs == ys) := by
  simp only [PyData.eqv]; exact eqvAll_ints xs ys
@[simp] theorem eqv_intsT (xs ys : List Int) : PyData.eqv (.tuple (xs.map .int)) (.tuple (ys.map .int)) = (xs == ys) := by
  simp only [PyData.eqv]; exact eqvAll_ints xs ys
theorem eqvAll_nil (xs : List D) : PyData.eqvAll xs [] = xs.isEmpty := by cases xs <;> rfl
@[simp] theorem eqv_nilL (xs : List D) : PyData.eqv (.list xs) (.list []) = xs.isEmpty := by simp only [PyData.eqv]; exact eqvAll_nil xs
@[simp] theorem shaped_int (i) : SeqAt.shaped (.int i) = true := by simp [SeqAt.shaped, PyData.canLay0, PyData.depth]
@[simp] theorem shaped_bool (i) : SeqAt.shaped (.bool i) = true := by simp [SeqAt.shaped, PyData.canLay0, PyData.depth]
@[simp] theorem shaped_none : SeqAt.shaped .none = true := by simp [SeqAt.shaped, PyData.canLay0, PyData.depth]
theorem strOk_of (z : String) : PyData.strOk (Str.ofString z) = true := by
  unfold PyData.strOk
  rw [Str.ofString_eq_toList, Array.all_eq_true_iff_forall_mem]
  intro x hx
  rw [List.mem_toArray] at hx
  obtain ⟨c, _, rfl⟩ := List.mem_map.mp hx
  have h := c.valid
  have e : c.toNat = c.val.toNat := rfl
  simp only [UInt32.isValidChar, Nat.isValidChar] at h
  exact decide_eq_true (by omega)
theorem shaped_str (z : String) : SeqAt.shaped (.str (Str.ofString z)) = true := by
  simp [SeqAt.shaped, PyData.canLay0, PyData.depth, strOk_of]
@[simp] theorem dCmp_eqI (i j) : dCmp .eq (.int i) (.int j) = some (decide (i = j)) := by
  rw [dCmp_eq, gd_pos (by simp), eqv_int]; rfl
@[simp] theorem dCmp_neI (i j) : dCmp .ne (.int i) (.int j) = some (!decide (i = j)) := by
  rw [dCmp_ne, gd_pos (by simp), eqv_int]; rfl
@[simp] theorem qs_some (d) : qs (some d) = .fz d := id rfl
@[simp] theorem qs_none : qs none = .un := id rfl
def okAll (p : PK × Opd) : List (PK × Opd) → Bool
  | [] => true
  | q :: r => okPair p q && okAll p r
@[simp] theorem okAll_nil (p) : okAll p [] = true := id rfl
@[simp] theorem okAll_cons (p q r) : okAll p (q :: r) = (okPair p q && okAll p r) := id rfl
theorem okAll_iff (p) : ∀ r, okAll p r = true ↔ ∀ q ∈ r, okPair p q = true
  | [] => by simp
  | q :: r => by simp [okAll_iff p r]
@[simp] theorem apartB_nil (os : List Opd) : apartB [] os = true := by simp [apartB]
@[simp] theorem apartB_cons (k ks o) (oo : List Opd) : apartB (k :: ks) (o :: oo) = (okAll (k, o) (ks.zip oo) && apartB ks oo) := by
  rw [Bool.eq_iff_iff]
  simp only [apartB, List.zip_cons_cons, decide_eq_true_eq, List.pairwise_cons, Bool.and_eq_true, okAll_iff]
@[simp] theorem okPair_l (k d q) : okPair (k, .v d) q = true := by cases q with | mk a b => cases b <;> rfl
@[simp] theorem okPair_r (k d q) : okPair q (k, .v d) = true := by cases q with | mk a b => cases b <;> rfl
@[simp] theorem okPair_s (k k' i j) : okPair (k, .sl i) (k', .sl j) = if k = .M ∨ k' = .M then i != j else true := id rfl
/-- data of limited depth, whose texts are none -/
theorem canLayAll_of {xs : List D} (h : ∀ x ∈ xs, PyData.canLay0 x = true) : PyData.canLayAll0 xs = true := by
  induction xs with
  | nil => rfl
  | cons x xs ih => simp only [PyData.canLayAll0, Bool.and_eq_true]; exact ⟨h x (by simp), ih fun y hy => h y (by simp [hy])⟩
theorem depthAll_of {xs : List D} {n : Nat} (h : ∀ x ∈ xs, PyData.depth x ≤ n) : PyData.depthAll xs ≤ n := by
  induction xs with
  | nil => simp [PyData.depthAll]
  | cons x xs ih => simp only [PyData.depthAll]; have := h x (by simp); have := ih fun y hy => h y (by simp [hy]); omega
def shp (n : Nat) (d : D) : Prop := d.canLay0 = true ∧ d.depth ≤ n
theorem shp_int (i) : shp 0 (.int i) := by simp [shp, PyData.canLay0, PyData.depth]
theorem shp_list {n : Nat} {xs : List D} (h : ∀ x ∈ xs, shp n x) : shp (n + 1) (.list xs) := by
  refine ⟨?_, ?_⟩
  · simp only [PyData.canLay0]; exact canLayAll_of fun x hx => (h x hx).1
  · simp only [PyData.depth]; have := depthAll_of fun x hx => (h x hx).2; omega
theorem shp_tuple {n : Nat} {xs : List D} (h : ∀ x ∈ xs, shp n x) : shp (n + 1) (.tuple xs) := by
  refine ⟨?_, ?_⟩
  · simp only [PyData.canLay0]; exact canLayAll_of fun x hx => (h x hx).1
  · simp only [PyData.depth]; have := depthAll_of fun x hx => (h x hx).2; omega
theorem shaped_of {n : Nat} {d : D} (h : shp n d) (hn : n ≤ 64) : SeqAt.shaped d = true := by
  simp only [SeqAt.shaped, Bool.and_eq_true, decide_eq_true_eq]; exact ⟨h.1, by have := h.2; omega⟩
@[simp] theorem shaped_ints (xs : List Int) : SeqAt.shaped (.list (xs.map .int)) = true := shaped_of (n := 1) (shp_list fun x hx => by
  obtain ⟨i, _, rfl⟩ := List.mem_map.mp hx; exact shp_int i) (by omega)
@[simp] theorem shaped_nil : SeqAt.shaped (.list []) = true := shaped_ints []
@[simp] theorem shaped_intsT (xs : List Int) : SeqAt.shaped (.tuple (xs.map .int)) = true := shaped_of (n := 1) (shp_tuple fun x hx => by
  obtain ⟨i, _, rfl⟩ := List.mem_map.mp hx; exact shp_int i) (by omega)
@[simp] theorem tyF_int_none : tyIs .int .none = false := rfl
@[simp] theorem tyF_int_bool : tyIs .int (.bool b) = true := rfl
@[simp] theorem tyF_int_int : tyIs .int (.int i) = true := rfl
@[simp] theorem tyF_int_str : tyIs .int (.str x) = false := rfl
@[simp] theorem tyF_int_tuple : tyIs .int (.tuple ds) = false := rfl
@[simp] theorem tyF_int_list : tyIs .int (.list ds) = false := rfl
@[simp] theorem tyF_bool_none : tyIs .bool .none = false := rfl
@[simp] theorem tyF_bool_bool : tyIs .bool (.bool b) = true := rfl
@[simp] theorem tyF_bool_int : tyIs .bool (.int i) = false := rfl
@[simp] theorem tyF_bool_str : tyIs .bool (.str x) = false := rfl
@[simp] theorem tyF_bool_tuple : tyIs .bool (.tuple ds) = false := rfl
@[simp] theorem tyF_bool_list : tyIs .bool (.list ds) = false := rfl
@[simp] theorem tyF_str_none : tyIs .str .none = false := rfl
@[simp] theorem tyF_str_bool : tyIs .str (.bool b) = false := rfl
@[simp] theorem tyF_str_int : tyIs .str (.int i) = false := rfl
@[simp] theorem tyF_str_str : tyIs .str (.str x) = true := rfl
@[simp] theorem tyF_str_tuple : tyIs .str (.tuple ds) = false := rfl
@[simp] theorem tyF_str_list : tyIs .str (.list ds) = false := rfl
@[simp] theorem tyF_tuple_none : tyIs .tuple .none = false := rfl
@[simp] theorem tyF_tuple_bool : tyIs .tuple (.bool b) = false := rfl
@[simp] theorem tyF_tuple_int : tyIs .tuple (.int i) = false := rfl
@[simp] theorem tyF_tuple_str : tyIs .tuple (.str x) = false := rfl
@[simp] theorem tyF_tuple_tuple : tyIs .tuple (.tuple ds) = true := rfl
@[simp] theorem tyF_tuple_list : tyIs .tuple (.list ds) = false := rfl
@[simp] theorem tyF_list_none : tyIs .list .none = false := rfl
@[simp] theorem tyF_list_bool : tyIs .list (.bool b) = false := rfl
@[simp] theorem tyF_list_int : tyIs .list (.int i) = false := rfl
@[simp] theorem tyF_list_str : tyIs .list (.str x) = false := rfl
@[simp] theorem tyF_list_tuple : tyIs .list (.tuple ds) = false := rfl
@[simp] theorem tyF_list_list : tyIs .list (.list ds) = true := rfl
/-- the parameter's slot holds x -/
def isS (s : Slot) (x : D) : Prop := s = .fz x ∨ ∃ ds, x = .list ds ∧ s = .bor ds
theorem isS_fz (x) : isS (.fz x) x := .inl rfl
theorem isS_bor (ds) : isS (.bor ds) (.list ds) := .inr ⟨ds, rfl, rfl⟩
/-- data that _law_same finds like themselves, nested at most so deep -/
def Good : Nat → D → Prop
  | 0, _ => False
  | _ + 1, .none => True
  | _ + 1, .bool _ => True
  | _ + 1, .int i => i.natAbs.log2 < 1920
  | j + 1, .list ds => ds.length ≤ 16777216 ∧ ∀ d ∈ ds, Good j d
  | j + 1, .tuple ds => ds.length ≤ 16777216 ∧ ∀ d ∈ ds, Good j d
  | _ + 1, _ => False
theorem lg {n : Nat} (h : n < 18446744073709551616) : n.log2 < 9000 := by
  by_cases h0 : n = 0
  · subst h0; simp
  · have : n.log2 < 64 := (Nat.log2_lt h0).mpr (by omega)
    omega
theorem lgs {n : Nat} (h : n < 18446744073709551616) : n.log2 < 1920 := by
  by_cases h0 : n = 0
  · subst h0; simp
  · have : n.log2 < 64 := (Nat.log2_lt h0).mpr (by omega)
    omega
theorem fmod_nat (a b : Nat) : ((a : Int).fmod (b : Int)) = ((a % b : Nat) : Int) := by
  rw [Int.fmod_eq_emod_of_nonneg _ (by omega)]; omega
theorem fmod_lt (a : Int) {m : Nat} (h : 0 < m) : ∃ r : Nat, r < m ∧ a.fmod m = r := by
  have h1 : 0 ≤ a.fmod m := Int.fmod_nonneg_of_pos a (by omega)
  have h2 : a.fmod m < m := Int.fmod_lt_of_pos a (by omega)
  exact ⟨(a.fmod m).toNat, by omega, by omega⟩
end Ev

set_option maxRecDepth 100000
/-! Lz: loops that may be left; comprehensions with effects; lists of numbers. -/
namespace Ev
open PySem L2
class Kc where
  p : Option D → Env → Prop
def Ct (x : Option (Option D × Env)) [k : Kc] : Prop := ∃ o ρ, x = some (o, ρ) ∧ k.p o ρ
theorem Ct.ok {o ρ} {k : Kc} (h : k.p o ρ) : Ct (some (o, ρ)) (k := k) := ⟨o, ρ, rfl, h⟩
theorem compT_use {stp : D → Env → Option (Option D × Env)} {ds : List D} {ρ : Env} {x : Option (List D × Env)} (hf : compL stp ds ρ = x) (P : Nat → List D → Env → Prop) (h0 : P 0 [] ρ)
    (hs : ∀ (i : Nat) (d : D) (r : List D) (ρ : Env), ds[i]? = some d → P i r ρ → Ct (stp d ρ) (k := ⟨fun o ρ' => P (i + 1) (r ++ o.toList) ρ'⟩)) : ∃ r ρ', x = some (r, ρ') ∧ P ds.length r ρ' :=
  compL_st hf P h0 hs
theorem comp2_use {α : Type} {enc : α → D} {xs : List α} {stp : D → Env → Option (List D × Env)} {ρ : Env} {x : Option (List D × Env)} (hf : compL2 stp (xs.map enc) ρ = x) (f : α → List D) (hs : ∀ d ∈ xs, stp (enc d) ρ = some (f d, ρ)) : x = some ((xs.map f).flatten, ρ) := by
  subst hf
  induction xs with
  | nil => rfl
  | cons d ds ih =>
    rw [List.map_cons, compL2, hs d (by simp)]
    simp only
    rw [ih fun d hd => hs d (by simp [hd])]
    simp
class Ko where
  n : Env → Prop
  b : Env → Prop
  r : Res → Env → Prop
def Tu (x : Option (Out × Env)) [k : Ko] : Prop :=
  (∃ ρ', (x = some (.next, ρ') ∨ x = some (.cont, ρ')) ∧ k.n ρ') ∨ (∃ ρ', x = some (.brk, ρ') ∧ k.b ρ') ∨ ∃ r ρ', x = some (.ret r, ρ') ∧ k.r r ρ'
theorem Tu.next {ρ : Env} {k : Ko} (h : k.n ρ) : Tu (some (.next, ρ)) (k := k) := .inl ⟨ρ, .inl rfl, h⟩
theorem Tu.cont {ρ : Env} {k : Ko} (h : k.n ρ) : Tu (some (.cont, ρ)) (k := k) := .inl ⟨ρ, .inr rfl, h⟩
theorem Tu.brk {ρ : Env} {k : Ko} (h : k.b ρ) : Tu (some (.brk, ρ)) (k := k) := .inr (.inl ⟨ρ, rfl, h⟩)
theorem Tu.ret {ρ : Env} {r : Res} {k : Ko} (h : k.r r ρ) : Tu (some (.ret r, ρ)) (k := k) := .inr (.inr ⟨r, ρ, rfl, h⟩)
theorem Tu.mono {x : Option (Out × Env)} {k k' : Ko} (h : Tu x (k := k)) (n : ∀ ρ, k.n ρ → k'.n ρ) (b : ∀ ρ, k.b ρ → k'.b ρ) (r : ∀ s ρ, k.r s ρ → k'.r s ρ) : Tu x (k := k') := by
  rcases h with ⟨ρ, e, p⟩ | ⟨ρ, e, p⟩ | ⟨s, ρ, e, p⟩
  · exact .inl ⟨ρ, e, n ρ p⟩
  · exact .inr (.inl ⟨ρ, e, b ρ p⟩)
  · exact .inr (.inr ⟨s, ρ, e, r s ρ p⟩)
theorem forL_any {b : D → Env → Option (Out × Env)} {ds : List D} {ρ : Env} {x : Option (Out × Env)} (hf : forL b ds ρ = x) (P : Nat → Env → Prop) (B : Env → Prop) (R : Res → Env → Prop) (h0 : P 0 ρ)
    (hs : ∀ (i : Nat) (d : D) (ρ : Env), ds[i]? = some d → P i ρ → Tu (b d ρ) (k := ⟨P (i + 1), B, R⟩)) :
    (∃ ρ', x = some (.next, ρ') ∧ (P ds.length ρ' ∨ B ρ')) ∨ ∃ r ρ', x = some (.ret r, ρ') ∧ R r ρ' := by
  induction ds generalizing ρ P with
  | nil => exact .inl ⟨ρ, by rw [← hf]; rfl, .inl h0⟩
  | cons d ds ih =>
    rcases hs 0 d ρ rfl h0 with ⟨ρ1, e1, h1⟩ | ⟨ρ1, e1, h1⟩ | ⟨r, ρ1, e1, h1⟩
    · have hf' : forL b ds ρ1 = x := by
        rw [forL_cons] at hf
        rcases e1 with e1 | e1 <;> rw [e1] at hf <;> exact hf
      exact ih hf' (fun i => P (i + 1)) h1 fun i d ρ hd hp => hs (i + 1) d ρ (by simpa using hd) hp
    · rw [forL_cons, e1] at hf
      exact .inl ⟨ρ1, hf.symm, .inr h1⟩
    · rw [forL_cons, e1] at hf
      exact .inr ⟨r, ρ1, hf.symm, h1⟩
theorem forR_any {b : D → Env → Option (Out × Env)} {m n : Int} {ρ : Env} {x : Option (Out × Env)} (hf : forL b (rngD m n) ρ = x) (P : Nat → Env → Prop) (B : Env → Prop) (R : Res → Env → Prop) (h0 : P 0 ρ)
    (hs : ∀ (i : Nat) (ρ : Env), i < (n - m).toNat → P i ρ → Tu (b (.int (m + i)) ρ) (k := ⟨P (i + 1), B, R⟩)) :
    (∃ ρ', x = some (.next, ρ') ∧ (P (n - m).toNat ρ' ∨ B ρ')) ∨ ∃ r ρ', x = some (.ret r, ρ') ∧ R r ρ' := by
  have := forL_any hf P B R h0 fun i d ρ hd hp => by
    obtain ⟨hi, rfl⟩ := rng_get hd
    exact hs i ρ hi hp
  rwa [rng_len] at this
theorem forM_any {α : Type} {enc : α → D} {xs : List α} {b : D → Env → Option (Out × Env)} {ρ : Env} {x : Option (Out × Env)} (hf : forL b (xs.map enc) ρ = x) (P : Nat → Env → Prop) (B : Env → Prop) (R : Res → Env → Prop) (h0 : P 0 ρ)
    (hs : ∀ (i : Nat) (a : α) (ρ : Env), xs[i]? = some a → P i ρ → Tu (b (enc a) ρ) (k := ⟨P (i + 1), B, R⟩)) :
    (∃ ρ', x = some (.next, ρ') ∧ (P xs.length ρ' ∨ B ρ')) ∨ ∃ r ρ', x = some (.ret r, ρ') ∧ R r ρ' := by
  have := forL_any hf P B R h0 fun i d ρ hd hp => by
    rw [List.getElem?_map] at hd
    cases e : xs[i]? with
    | none => rw [e] at hd; cases hd
    | some a => rw [e] at hd; cases hd; exact hs i a ρ e hp
  rwa [List.length_map] at this
theorem whileT {σ : Type} {c : Env → Option (Res × Env)} {b : Env → Option (Out × Env)} {n : Nat} {x : Option (Out × Env)} (st : σ → Env) (μ : σ → Nat) (I : σ → Prop) (Q : Env → Prop) (R : Res → Env → Prop) {s : σ} (hf : whileL c b n (st s) = x) (hI : I s) (hn : μ s < n)
    (hs : ∀ s, I s → (c (st s) = some (.fr (.bool false), st s) ∧ Q (st s)) ∨ (c (st s) = some (.fr (.bool true), st s) ∧ Tu (b (st s)) (k := ⟨fun ρ' => ∃ s', ρ' = st s' ∧ I s' ∧ μ s' < μ s, Q, R⟩))) :
    (∃ ρ', x = some (.next, ρ') ∧ Q ρ') ∨ ∃ r ρ', x = some (.ret r, ρ') ∧ R r ρ' := by
  subst hf
  induction n generalizing s with
  | zero => omega
  | succ n ih =>
    rw [whileL]
    rcases hs s hI with ⟨e, q⟩ | ⟨e1, ⟨ρ1, e2, s', rfl, i, m⟩ | ⟨ρ1, e2, q⟩ | ⟨r, ρ1, e2, q⟩⟩
    · rw [e]; exact .inl ⟨_, rfl, q⟩
    · rw [e1]
      rcases e2 with e2 | e2
      · simp only [e2]; exact ih i (by omega)
      · simp only [e2]; exact ih i (by omega)
    · rw [e1]; simp only [e2]; exact .inl ⟨_, rfl, q⟩
    · rw [e1]; simp only [e2]; exact .inr ⟨r, _, rfl, q⟩
/-- the parameter's slot holds the list xs -/
def hasL (s : Slot) (xs : List D) : Prop := s = .fz (.list xs) ∨ s = .bor xs
theorem hasL.S {s : Slot} {xs : List D} (h : hasL s xs) : isS s (.list xs) := by
  rcases h with rfl | rfl
  · exact isS_fz _
  · exact isS_bor _
@[simp] theorem atI_succ {α : Type} (xs : List α) (j : Nat) : atI xs ((j : Int) + 1) = xs[j + 1]? := atI_nat xs (j + 1)
/-- an unset slot or one's own list -/
def os : Option (List D) → Slot
  | none => .un
  | some ds => .own ds
@[simp] theorem os_some (d) : os (some d) = .own d := id rfl
@[simp] theorem os_none : os none = .un := id rfl
@[simp] theorem putK_os (o ρ) : putK (os o) ρ = some ρ := by cases o <;> rfl
theorem fm_some {α β : Type} (f : α → β) (l : List α) : l.filterMap (fun x => some (f x)) = l.map f := by induction l <;> simp [*]
def natD (i : Nat) : D := .int (i : Int)
@[simp] theorem natD_eq (i : Nat) : natD i = .int (i : Int) := rfl
theorem natD_map (ns : List Nat) : ns.map natD = (ns.map fun (i : Nat) => (i : Int)).map .int := by simp [natD]
@[simp] theorem allInts_nat (ns : List Nat) : allInts (ns.map natD) = some (ns.map fun (i : Nat) => (i : Int)) := by
  rw [natD_map, allInts_ints]
@[simp] theorem shaped_nats (xs : List Nat) : SeqAt.shaped (.list (xs.map natD)) = true := by rw [natD_map]; exact shaped_ints _
@[simp] theorem shaped_natsT (xs : List Nat) : SeqAt.shaped (.tuple (xs.map natD)) = true := by rw [natD_map]; exact shaped_intsT _
theorem any_nat (xs : List Nat) (i : Nat) : (xs.map natD).any (fun z => PyData.eqv z (.int (i : Int))) = decide (i ∈ xs) := by
  induction xs with
  | nil => simp
  | cons x xs ih =>
    rw [List.map_cons, List.any_cons, ih, natD_eq, eqv_int]
    by_cases h : i = x
    · subst h; simp
    · have : ¬ ((x : Int) = (i : Int)) := by omega
      simp [h, this]
theorem flat_nat (xs : List Nat) : (xs.map natD).all isFlat = true := by
  rw [List.all_eq_true]
  intro x hx
  obtain ⟨i, _, rfl⟩ := List.mem_map.mp hx
  rfl
@[simp] theorem isFlat_int (i) : isFlat (.int i) = true := id rfl
theorem rngD_nat (n : Nat) : rngD 0 (n : Int) = (List.range n).map natD := by
  unfold rngD
  rw [show ((n : Int) - 0).toNat = n by omega]
  apply List.map_congr_left
  intro i _
  rw [Int.zero_add]; rfl
theorem insN_comm (x y : Int) : ∀ l : List Int, insI x (insI y l) = insI y (insI x l)
  | [] => by
    simp only [insI]
    by_cases h : x ≤ y <;> by_cases h2 : y ≤ x
    · have : x = y := by omega
      subst this; rfl
    · simp [h, h2]
    · simp [h, h2]
    · omega
  | z :: l => by
    have ih := insN_comm x y l
    simp only [insI]
    by_cases h1 : x ≤ z <;> by_cases h2 : y ≤ z <;> by_cases h3 : x ≤ y <;> by_cases h4 : y ≤ x <;> simp [insI, h1, h2, h3, h4] <;> first | omega | (have : x = y := by omega) <;> (subst this; rfl) | exact ih | skip
theorem sortN_perm {l m : List Int} (h : l.Perm m) : sortI l = sortI m := by
  induction h with
  | nil => rfl
  | cons x _ ih => simp only [sortI, ih]
  | swap x y l => simp only [sortI]; exact insN_comm _ _ _
  | trans _ _ i j => exact i.trans j
theorem insN_perm (x : Int) : ∀ l : List Int, (insI x l).Perm (x :: l)
  | [] => List.Perm.refl _
  | y :: l => by
    simp only [insI]
    by_cases h : x ≤ y
    · simp [h]
    · simp only [h, if_false]
      exact ((insN_perm x l).cons y).trans (List.Perm.swap x y l)
theorem sortN_self : ∀ l : List Int, (sortI l).Perm l
  | [] => List.Perm.refl _
  | x :: l => (insN_perm x _).trans ((sortN_self l).cons x)
/-- numbers sorted are numbers -/
theorem sortN_nat (ns : List Nat) : ∃ ms : List Nat, sortI (ns.map fun (i : Nat) => (i : Int)) = ms.map (fun (i : Nat) => (i : Int)) ∧ ms.Perm ns := by
  have hp := sortN_self (ns.map fun (i : Nat) => (i : Int))
  have e : ∀ l : List Int, (∀ x ∈ l, 0 ≤ x) → l = (l.map Int.toNat).map fun (i : Nat) => (i : Int) := by
    intro l hl
    rw [List.map_map]
    symm
    conv => rhs; rw [← List.map_id l]
    apply List.map_congr_left
    intro x hx
    have := hl x hx
    simp; omega
  refine ⟨(sortI (ns.map fun (i : Nat) => (i : Int))).map Int.toNat, ?_, ?_⟩
  · apply e
    intro x hx
    have := hp.mem_iff.mp hx
    obtain ⟨i, _, rfl⟩ := List.mem_map.mp this
    omega
  · have := hp.map Int.toNat
    rw [List.map_map] at this
    have e2 : (Int.toNat ∘ fun (i : Nat) => (i : Int)) = id := by funext i; simp
    rw [e2, List.map_id] at this
    exact this
theorem good_nats {j : Nat} {ns : List Nat} (hl : ns.length ≤ 16777216) (h : ∀ i ∈ ns, i < 18446744073709551616) : Good (j + 2) (.list (ns.map natD)) := by
  refine ⟨by simpa using hl, fun d hd => ?_⟩
  obtain ⟨i, hi, rfl⟩ := List.mem_map.mp hd
  have := lgs (h i hi)
  exact this
theorem cutD_hi (xs : List D) (k : Nat) : cutD xs none (some (k : Int)) = xs.take k := by
  unfold cutD
  rw [HT.sIx_nat, HT.sIx_none]
  simp only [List.drop_zero, Nat.sub_zero]
  rw [List.take_eq_take_iff]
  omega
theorem nats_sorted (ns : List Nat) : (sortI (ns.map fun (i : Nat) => (i : Int))).map PyData.int = (((sortI (ns.map fun (i : Nat) => (i : Int))).map Int.toNat).map natD) := by
  obtain ⟨ms, e, p⟩ := sortN_nat ns
  rw [e, List.map_map, List.map_map, List.map_map]
  apply List.map_congr_left
  intro i _
  simp
theorem cutD_lo (xs : List D) (k : Nat) : cutD xs (some (k : Int)) none = xs.drop k := by
  unfold cutD
  rw [HT.sIx_nat, HT.sIx_none]
  by_cases h : k ≤ xs.length
  · rw [Nat.min_eq_left h, List.take_of_length_le]
    rw [List.length_drop]; exact Nat.le_refl _
  · rw [Nat.min_eq_right (by omega), List.drop_eq_nil_of_le (by omega : xs.length ≤ xs.length), List.drop_eq_nil_of_le (by omega)]
    simp
theorem cutD_lo1 (xs : List D) : cutD xs (some 1) none = xs.drop 1 := cutD_lo xs 1
theorem cutD_lo2 (xs : List D) : cutD xs (some 2) none = xs.drop 2 := cutD_lo xs 2
theorem ints_map_inj : ∀ {a b : List Int}, a.map PyData.int = b.map PyData.int → a = b
  | [], [], _ => rfl
  | [], _ :: _, h => by simp at h
  | _ :: _, [], h => by simp at h
  | x :: a, y :: b, h => by
    simp only [List.map_cons, List.cons.injEq, PyData.int.injEq] at h
    rw [h.1, ints_map_inj h.2]
theorem maxI_zero : ∀ (r : List Int) (x : Int), 0 ≤ x → (∀ y ∈ r, 0 ≤ y) → (maxI x r = 0 ↔ x = 0 ∧ ∀ y ∈ r, y = 0)
  | [], x, _, _ => by simp [maxI]
  | y :: r, x, h0, h => by
    have hy := h y (by simp)
    unfold maxI
    by_cases hxy : y > x
    · rw [if_pos hxy, maxI_zero r y hy fun z hz => h z (by simp [hz])]
      constructor
      · rintro ⟨rfl, _⟩; omega
      · rintro ⟨rfl, h'⟩
        have := h' y (by simp)
        omega
    · rw [if_neg hxy, maxI_zero r x h0 fun z hz => h z (by simp [hz])]
      constructor
      · rintro ⟨rfl, h'⟩
        refine ⟨rfl, fun z hz => ?_⟩
        rcases List.mem_cons.mp hz with rfl | hz
        · omega
        · exact h' z hz
      · rintro ⟨rfl, h'⟩
        exact ⟨rfl, fun z hz => h' z (by simp [hz])⟩
end Ev

/-! Gr: lanes, what hangs together, woods: of one's own, no program in sight. -/
namespace Gr
open Classical
abbrev La := Nat × Nat
inductive Con (P : List La) : Nat → Nat → Prop
  | refl (a) : Con P a a
  | lane {a b} : (a, b) ∈ P → Con P a b
  | symm {a b} : Con P a b → Con P b a
  | trans {a b c} : Con P a b → Con P b c → Con P a c
theorem Con.mono {P Q : List La} (h : ∀ l ∈ P, l ∈ Q) {a b} (c : Con P a b) : Con Q a b := by
  induction c with
  | refl => exact .refl _
  | lane m => exact .lane (h _ m)
  | symm _ ih => exact .symm ih
  | trans _ _ i j => exact .trans i j
theorem Con.perm {P Q : List La} (h : P.Perm Q) {a b} : Con P a b ↔ Con Q a b := ⟨.mono fun l m => h.mem_iff.mp m, .mono fun l m => h.mem_iff.mpr m⟩
/-- one lane more -/
theorem Con.add {P : List La} {a b u v : Nat} : Con ((a, b) :: P) u v ↔ Con P u v ∨ (Con P u a ∧ Con P b v) ∨ (Con P u b ∧ Con P a v) := by
  constructor
  · intro c
    induction c with
    | refl => exact .inl (.refl _)
    | lane m =>
      rcases List.mem_cons.mp m with e | m
      · cases e; exact .inr (.inl ⟨.refl _, .refl _⟩)
      · exact .inl (.lane m)
    | symm _ ih =>
      rcases ih with h | ⟨h1, h2⟩ | ⟨h1, h2⟩
      · exact .inl h.symm
      · exact .inr (.inr ⟨h2.symm, h1.symm⟩)
      · exact .inr (.inl ⟨h2.symm, h1.symm⟩)
    | trans _ _ i j =>
      rcases i with h | ⟨h1, h2⟩ | ⟨h1, h2⟩ <;> rcases j with k | ⟨k1, k2⟩ | ⟨k1, k2⟩
      · exact .inl (h.trans k)
      · exact .inr (.inl ⟨h.trans k1, k2⟩)
      · exact .inr (.inr ⟨h.trans k1, k2⟩)
      · exact .inr (.inl ⟨h1, h2.trans k⟩)
      · exact .inr (.inl ⟨h1, k2⟩)
      · exact .inl (h1.trans k2)
      · exact .inr (.inr ⟨h1, h2.trans k⟩)
      · exact .inl (h1.trans k2)
      · exact .inr (.inr ⟨h1, k2⟩)
  · intro c
    have m : ∀ {x y}, Con P x y → Con ((a, b) :: P) x y := fun h => h.mono fun l hl => List.mem_cons_of_mem _ hl
    rcases c with h | ⟨h1, h2⟩ | ⟨h1, h2⟩
    · exact m h
    · exact (m h1).trans ((Con.lane (List.mem_cons_self ..)).trans (m h2))
    · exact (m h1).trans ((Con.lane (List.mem_cons_self ..)).symm.trans (m h2))
/-- u is the least of those it hangs together with -/
def Least (P : List La) (u : Nat) : Prop := ∀ v, v < u → ¬ Con P v u
noncomputable def kk (n : Nat) (P : List La) : Nat := (List.range n).countP fun u => decide (Least P u)
theorem least_ex (P : List La) (u : Nat) : ∃ r, r ≤ u ∧ Con P r u ∧ Least P r := by
  induction u using Nat.strongRecOn with
  | _ u ih =>
    by_cases h : Least P u
    · exact ⟨u, Nat.le_refl _, .refl _, h⟩
    · have : ∃ v, v < u ∧ Con P v u := by
        apply Classical.byContradiction
        intro hn
        exact h fun v hv hc => hn ⟨v, hv, hc⟩
      obtain ⟨v, hv, hc⟩ := this
      obtain ⟨r, h1, h2, h3⟩ := ih v hv
      exact ⟨r, by omega, h2.trans hc, h3⟩
theorem least_uniq {P : List La} {u v : Nat} (h1 : Least P u) (h2 : Least P v) (c : Con P u v) : u = v := by
  rcases Nat.lt_trichotomy u v with h | h | h
  · exact absurd c (h2 u h)
  · exact h
  · exact absurd c.symm (h1 v h)
theorem kk_congr {n : Nat} {P Q : List La} (h : ∀ u v, Con P u v ↔ Con Q u v) : kk n P = kk n Q := by
  unfold kk
  congr 1
  funext u
  congr 1
  unfold Least
  simp only [h]
theorem count_one {n : Nat} {p q : Nat → Bool} {r : Nat} (hr : r < n) (h1 : p r = true) (h2 : q r = false) (h : ∀ u, u ≠ r → p u = q u) : (List.range n).countP p = (List.range n).countP q + 1 := by
  induction n with
  | zero => omega
  | succ n ih =>
    rw [List.range_succ, List.countP_append, List.countP_append, List.countP_singleton, List.countP_singleton]
    by_cases e : r = n
    · subst e
      have : (List.range r).countP p = (List.range r).countP q := by
        apply List.countP_congr
        intro u hu
        rw [List.mem_range] at hu
        rw [h u (by omega)]
      rw [this, h1, h2]
      simp
    · have := ih (by omega)
      rw [this, h n (by omega)]
      omega
theorem kk_same {n : Nat} {P : List La} {a b : Nat} (c : Con P a b) : kk n ((a, b) :: P) = kk n P := by
  apply kk_congr
  intro u v
  rw [Con.add]
  constructor
  · rintro (h | ⟨h1, h2⟩ | ⟨h1, h2⟩)
    · exact h
    · exact h1.trans (c.trans h2)
    · exact h1.trans (c.symm.trans h2)
  · exact .inl
theorem kk_join {n : Nat} {P : List La} {a b : Nat} (ha : a < n) (hb : b < n) (c : ¬ Con P a b) : kk n P = kk n ((a, b) :: P) + 1 := by
  obtain ⟨ra, ha1, ha2, ha3⟩ := least_ex P a
  obtain ⟨rb, hb1, hb2, hb3⟩ := least_ex P b
  -- the greater of the two is the least of its own no more
  have key : ∀ (x y rx ry : Nat), Con P rx x → Con P ry y → Least P rx → Least P ry → rx < ry → ((∀ u v, Con ((a, b) :: P) u v ↔ Con P u v ∨ (Con P u x ∧ Con P y v) ∨ (Con P u y ∧ Con P x v))) → ry < n → kk n P = kk n ((a, b) :: P) + 1 := by
    intro x y rx ry cx cy lx ly hlt hadd hn
    unfold kk
    apply count_one hn
    · exact decide_eq_true ly
    · apply decide_eq_false
      intro hl
      exact hl rx hlt ((hadd rx ry).mpr (.inr (.inl ⟨cx, cy.symm⟩)))
    · intro u hu
      congr 1
      apply propext
      constructor
      · intro hl v hv hc
        rcases (hadd v u).mp hc with h | ⟨h1, h2⟩ | ⟨h1, h2⟩
        · exact hl v hv h
        · exact hu (least_uniq hl ly (h2.symm.trans cy.symm))
        · -- u hangs together with x, so u = rx; v with y, so ry ≤ v
          have e : u = rx := least_uniq hl lx (h2.symm.trans cx.symm)
          subst e
          have : ry ≤ v := by
            apply Classical.byContradiction
            intro hnn
            exact ly v (by omega) (h1.trans cy.symm)
          omega
      · intro hl v hv hc
        exact hl v hv ((hadd v u).mpr (.inl hc))
  rcases Nat.lt_trichotomy ra rb with h | h | h
  · exact key a b ra rb ha2 hb2 ha3 hb3 h (fun u v => Con.add) (by omega)
  · subst h
    exact absurd (ha2.symm.trans hb2) c
  · exact key b a rb ra hb2 ha2 hb3 ha3 h (fun u v => by rw [Con.add]; constructor <;> (rintro (h | h | h); exact .inl h; exact .inr (.inr h); exact .inr (.inl h))) (by omega)
/-! ### woods -/
/-- all houses of P's lanes are below n, no lane is a loop -/
def Ok (n : Nat) (P : List La) : Prop := ∀ l ∈ P, l.1 < n ∧ l.2 < n ∧ l.1 ≠ l.2
def Wood (n : Nat) (P : List La) : Prop := kk n P + P.length = n
theorem kk_nil (n : Nat) : kk n [] = n := by
  unfold kk
  have : ∀ u ∈ List.range n, decide (Least [] u) = true := by
    intro u _
    apply decide_eq_true
    intro v hv c
    have : ∀ {a b}, Con [] a b → a = b := by
      intro a b c
      induction c with
      | refl => rfl
      | lane m => simp at m
      | symm _ ih => exact ih.symm
      | trans _ _ i j => exact i.trans j
    have := this c
    omega
  rw [List.countP_eq_length.mpr this, List.length_range]
theorem kk_ge {n : Nat} : ∀ {P : List La}, Ok n P → n ≤ kk n P + P.length
  | [], _ => by rw [kk_nil]; simp
  | (a, b) :: P, h => by
    have ih := kk_ge (P := P) fun l hl => h l (List.mem_cons_of_mem _ hl)
    have hab := h (a, b) (List.mem_cons_self ..)
    by_cases c : Con P a b
    · rw [kk_same c, List.length_cons]; omega
    · have := kk_join (P := P) (a := a) (b := b) hab.1 hab.2.1 c
      rw [List.length_cons]; omega
theorem kk_perm {n : Nat} {P Q : List La} (h : P.Perm Q) : kk n P = kk n Q := kk_congr fun _ _ => Con.perm h
theorem Wood.perm {n : Nat} {P Q : List La} (h : P.Perm Q) : Wood n P ↔ Wood n Q := by
  unfold Wood; rw [kk_perm h, h.length_eq]
theorem Wood.cons {n : Nat} {P : List La} {a b : Nat} (ok : Ok n ((a, b) :: P)) : Wood n ((a, b) :: P) ↔ Wood n P ∧ ¬ Con P a b := by
  have okP : Ok n P := fun l hl => ok l (List.mem_cons_of_mem _ hl)
  have hab := ok (a, b) (List.mem_cons_self ..)
  have g := kk_ge okP
  unfold Wood
  rw [List.length_cons]
  by_cases c : Con P a b
  · rw [kk_same c]
    constructor
    · intro h; omega
    · intro h; exact absurd c h.2
  · have := kk_join (P := P) (a := a) (b := b) hab.1 hab.2.1 c
    constructor
    · intro h; exact ⟨by omega, c⟩
    · intro h; omega
theorem Wood.nil (n : Nat) : Wood n [] := by unfold Wood; rw [kk_nil]; rfl
theorem Wood.sub {n : Nat} {P Q : List La} (ok : Ok n P) (h : Q.Sublist P) (w : Wood n P) : Wood n Q := by
  induction h with
  | slnil => exact w
  | cons l _ ih =>
    obtain ⟨a, b⟩ := l
    exact ih (fun l hl => ok l (List.mem_cons_of_mem _ hl)) ((Wood.cons ok).mp w).1
  | cons_cons l hs ih =>
    obtain ⟨a, b⟩ := l
    have okP := fun l hl => ok l (List.mem_cons_of_mem _ hl)
    obtain ⟨w1, w2⟩ := (Wood.cons ok).mp w
    refine (Wood.cons fun l hl => ?_).mpr ⟨ih okP w1, fun c => w2 (c.mono fun l hl => hs.subset hl)⟩
    rcases List.mem_cons.mp hl with rfl | hl
    · exact ok _ (List.mem_cons_self ..)
    · exact okP l (hs.subset hl)
/-! ### degrees -/
def deg (P : List La) (v : Nat) : Nat := P.countP fun l => l.1 == v || l.2 == v
theorem deg_cons (l : La) (P : List La) (v : Nat) : deg (l :: P) v = deg P v + if l.1 = v ∨ l.2 = v then 1 else 0 := by
  unfold deg
  rw [List.countP_cons]
  congr 1
  simp
theorem untouched {P : List La} {v : Nat} (h : deg P v = 0) {u : Nat} (c : Con P u v) : u = v := by
  have key : ∀ {a b}, Con P a b → (a = v ↔ b = v) := by
    intro a b c
    induction c with
    | refl => exact Iff.rfl
    | lane m =>
      rename_i a b
      have : ∀ l ∈ P, ¬ (l.1 == v || l.2 == v) = true := List.countP_eq_zero.mp h
      have := this _ m
      simp at this
      constructor
      · intro e; exact absurd e this.1
      · intro e; exact absurd e this.2
    | symm _ ih => exact ih.symm
    | trans _ _ i j => exact i.trans j
  exact (key c).mpr rfl
theorem sum_deg {n : Nat} : ∀ {P : List La}, Ok n P → ((List.range n).map (deg P)).sum = 2 * P.length
  | [], _ => by
    have : ∀ l : List Nat, (l.map (deg [])).sum = 0 := by
      intro l
      induction l with
      | nil => rfl
      | cons x l ih => simp [ih, deg]
    rw [this]; rfl
  | l :: P, ok => by
    have ih := sum_deg (P := P) fun l hl => ok l (List.mem_cons_of_mem _ hl)
    have hl := ok l (List.mem_cons_self ..)
    have key : ∀ (m : Nat) (x y : Nat), x ≠ y → ((List.range m).map fun v => if x = v ∨ y = v then 1 else 0).sum = (if x < m then 1 else 0) + (if y < m then 1 else 0) := by
      intro m x y hxy
      induction m with
      | zero => simp
      | succ m ih =>
        rw [List.range_succ, List.map_append, List.sum_append, ih]
        simp only [List.map_cons, List.map_nil, List.sum_cons, List.sum_nil]
        split <;> split <;> split <;> split <;> split <;> omega
    have split' : ∀ m : List Nat, (m.map (deg (l :: P))).sum = (m.map (deg P)).sum + (m.map fun v => if l.1 = v ∨ l.2 = v then 1 else 0).sum := by
      intro m
      induction m with
      | nil => rfl
      | cons v m ih =>
        rw [List.map_cons, List.map_cons, List.map_cons, List.sum_cons, List.sum_cons, List.sum_cons, ih, deg_cons]
        omega
    rw [split', ih, key n l.1 l.2 hl.2.2, if_pos hl.1, if_pos hl.2.1, List.length_cons]
    omega
/-- each end of a lane has two lanes or more -/
def Closed (P : List La) : Prop := ∀ l ∈ P, 2 ≤ deg P l.1 ∧ 2 ≤ deg P l.2
theorem countP_le {p q : Nat → Bool} (l : List Nat) (h : ∀ u ∈ l, p u = true → q u = true) : l.countP p ≤ l.countP q := List.countP_mono_left h
theorem deg_pos {P : List La} {l : La} (h : l ∈ P) : 0 < deg P l.1 ∧ 0 < deg P l.2 := by
  unfold deg
  exact ⟨List.countP_pos_iff.mpr ⟨l, h, by simp⟩, List.countP_pos_iff.mpr ⟨l, h, by simp⟩⟩
/-- houses with a lane -/
def tch (n : Nat) (P : List La) : Nat := (List.range n).countP fun v => decide (0 < deg P v)
theorem count_split (p : Nat → Bool) (l : List Nat) : l.countP p + l.countP (fun u => !p u) = l.length := by
  induction l with
  | nil => rfl
  | cons a l ih => rw [List.countP_cons, List.countP_cons, List.length_cons]; cases p a <;> simp <;> omega
theorem kk_touch {n : Nat} {P : List La} (ok : Ok n P) (h : P ≠ []) : n + 1 ≤ kk n P + tch n P := by
  obtain ⟨l, hl⟩ := List.exists_mem_of_ne_nil P h
  obtain ⟨r, h1, h2, h3⟩ := least_ex P l.1
  have hl1 := (ok l hl).1
  have hr : 0 < deg P r := by
    apply Classical.byContradiction
    intro hn
    have : deg P r = 0 := by omega
    have e := untouched this h2.symm
    have := (deg_pos hl).1
    rw [e] at this
    omega
  have a1 := count_split (fun v => decide (0 < deg P v)) (List.range n)
  rw [List.length_range] at a1
  -- the untouched ones and r are least
  have a2 : (List.range n).countP (fun u => decide (u = r) || !decide (0 < deg P u)) ≤ kk n P := by
    unfold kk
    apply countP_le
    intro u _ hu
    apply decide_eq_true
    rcases Bool.or_eq_true_iff.mp hu with e | e
    · have := of_decide_eq_true e
      subst this; exact h3
    · have hd : deg P u = 0 := by
        have : decide (0 < deg P u) = false := by simpa using e
        have := of_decide_eq_false this
        omega
      intro v hv c
      have := untouched hd c
      omega
  have a3 := count_one (n := n) (p := fun u => decide (u = r) || !decide (0 < deg P u)) (q := fun u => !decide (0 < deg P u)) (r := r) (by omega) (by simp) (by simp [hr]) (fun u hu => by simp [hu])
  unfold tch
  omega
theorem sum_ge (f : Nat → Nat) (l : List Nat) (h : ∀ v ∈ l, 0 < f v → 2 ≤ f v) : 2 * l.countP (fun v => decide (0 < f v)) ≤ (l.map f).sum := by
  induction l with
  | nil => simp
  | cons a l ih =>
    have := ih fun v hv => h v (List.mem_cons_of_mem _ hv)
    rw [List.countP_cons, List.map_cons, List.sum_cons]
    by_cases hz : 0 < f a
    · have := h a (List.mem_cons_self ..) hz
      simp [hz]; omega
    · simp [hz]; omega
theorem deg_mem {P : List La} {v : Nat} (h : 0 < deg P v) : ∃ l ∈ P, l.1 = v ∨ l.2 = v := by
  unfold deg at h
  obtain ⟨l, hl, e⟩ := List.countP_pos_iff.mp h
  exact ⟨l, hl, by simpa using e⟩
theorem Closed.ge {P : List La} (h : Closed P) {v : Nat} (hv : 0 < deg P v) : 2 ≤ deg P v := by
  obtain ⟨l, hl, e | e⟩ := deg_mem hv
  · rw [← e]; exact (h l hl).1
  · rw [← e]; exact (h l hl).2
/-- a closed set of lanes is as great as its houses -/
theorem Closed.size {n : Nat} {P : List La} (ok : Ok n P) (h : Closed P) : tch n P ≤ P.length := by
  have := sum_ge (deg P) (List.range n) fun v _ hv => h.ge hv
  rw [sum_deg ok] at this
  unfold tch
  omega
/-- no closed set in a wood -/
theorem Wood.no_closed {n : Nat} {P : List La} (ok : Ok n P) (w : Wood n P) (h : Closed P) : P = [] := by
  apply Classical.byContradiction
  intro hn
  have a := kk_touch ok hn
  have b := h.size ok
  unfold Wood at w
  omega
/-- a lane with a free end joins -/
theorem leaf_join {P : List La} {a b : Nat} (hab : a ≠ b) (h : deg P a = 0 ∨ deg P b = 0) : ¬ Con P a b := by
  intro c
  rcases h with h | h
  · exact hab (untouched h c.symm).symm
  · exact hab (untouched h c)
end Gr

/-! Gr2: lanes by their numbers; what is left when free ends go; rings. -/
namespace Gr
open Classical
theorem count_lt {p q : Nat → Bool} {l : List Nat} (h : ∀ u ∈ l, p u = true → q u = true) {v : Nat} (hv : v ∈ l) (h1 : p v = false) (h2 : q v = true) : l.countP p < l.countP q := by
  induction l with
  | nil => simp at hv
  | cons a l ih =>
    have m := countP_le l fun u hu => h u (List.mem_cons_of_mem _ hu)
    rw [List.countP_cons, List.countP_cons]
    rcases List.mem_cons.mp hv with rfl | hv
    · simp [h1, h2]; omega
    · have := ih (fun u hu => h u (List.mem_cons_of_mem _ hu)) hv
      have ha := h a (List.mem_cons_self ..)
      by_cases e : p a = true
      · simp [e, ha e]; omega
      · simp [e]; omega
theorem deg_append (P Q : List La) (v : Nat) : deg (P ++ Q) v = deg P v + deg Q v := by
  unfold deg; rw [List.countP_append]
theorem deg_perm {P Q : List La} (h : P.Perm Q) (v : Nat) : deg P v = deg Q v := h.countP_eq _
theorem deg_sub {P Q : List La} (h : P.Sublist Q) (v : Nat) : deg P v ≤ deg Q v := h.countP_le
theorem Ok.sub {n : Nat} {P Q : List La} (ok : Ok n Q) (h : P.Sublist Q) : Ok n P := fun l hl => ok l (h.subset hl)
theorem Ok.perm {n : Nat} {P Q : List La} (ok : Ok n Q) (h : P.Perm Q) : Ok n P := fun l hl => ok l (h.mem_iff.mp hl)
theorem Closed.perm {P Q : List La} (h : P.Perm Q) (c : Closed Q) : Closed P := fun l hl => by
  rw [deg_perm h, deg_perm h]; exact c l (h.mem_iff.mp hl)
/-! ### by number -/
def ln (L : List La) (i : Nat) : La := L.getD i (0, 0)
def Pn (L : List La) (ns : List Nat) : List La := ns.map (ln L)
theorem Pn_cons (L : List La) (i : Nat) (ns : List Nat) : Pn L (i :: ns) = ln L i :: Pn L ns := rfl
theorem Pn_append (L : List La) (ms ns : List Nat) : Pn L (ms ++ ns) = Pn L ms ++ Pn L ns := by simp [Pn]
theorem Pn_perm (L : List La) {ms ns : List Nat} (h : ms.Perm ns) : (Pn L ms).Perm (Pn L ns) := h.map _
theorem Pn_sub (L : List La) {ms ns : List Nat} (h : ms.Sublist ns) : (Pn L ms).Sublist (Pn L ns) := h.map _
theorem Pn_mem {L : List La} {ns : List Nat} {i : Nat} (h : i ∈ ns) : ln L i ∈ Pn L ns := List.mem_map_of_mem h
/-- those both of whose ends have another of them -/
def keeps (L : List La) (ns : List Nat) (i : Nat) : Bool := decide (1 < deg (Pn L ns) (ln L i).1) && decide (1 < deg (Pn L ns) (ln L i).2)
def rest (L : List La) (ns : List Nat) : List Nat := ns.filter (keeps L ns)
def core (L : List La) : Nat → List Nat → List Nat
  | 0, ns => ns
  | k + 1, ns => core L k (rest L ns)
theorem rest_sub (L : List La) (ns : List Nat) : (rest L ns).Sublist ns := List.filter_sublist
theorem core_sub (L : List La) : ∀ (k : Nat) (ns : List Nat), (core L k ns).Sublist ns
  | 0, ns => List.Sublist.refl _
  | k + 1, ns => (core_sub L k _).trans (rest_sub L ns)
theorem core_stable {L : List La} {ns : List Nat} (h : rest L ns = ns) : ∀ k, core L k ns = ns
  | 0 => rfl
  | k + 1 => by rw [core, h]; exact core_stable h k
theorem rest_closed {L : List La} {ns : List Nat} : rest L ns = ns ↔ Closed (Pn L ns) := by
  unfold rest
  rw [List.filter_eq_self]
  constructor
  · intro h l hl
    obtain ⟨i, hi, rfl⟩ := List.mem_map.mp hl
    have := h i hi
    unfold keeps at this
    simp at this
    omega
  · intro h i hi
    have := h _ (Pn_mem hi)
    unfold keeps
    simp
    omega
theorem tch_rest {n : Nat} {L : List La} {ns : List Nat} (ok : Ok n (Pn L ns)) (h : rest L ns ≠ ns) : tch n (Pn L (rest L ns)) < tch n (Pn L ns) := by
  have : ∃ i ∈ ns, keeps L ns i = false := by
    apply Classical.byContradiction
    intro hn
    apply h
    unfold rest
    rw [List.filter_eq_self]
    intro i hi
    apply Classical.byContradiction
    intro hk
    exact hn ⟨i, hi, by simpa using hk⟩
  obtain ⟨i, hi, hk⟩ := this
  have key : ∃ v, v < n ∧ 0 < deg (Pn L ns) v ∧ deg (Pn L ns) v ≤ 1 := by
    have hp := deg_pos (Pn_mem (L := L) hi)
    have ho := ok _ (Pn_mem (L := L) hi)
    unfold keeps at hk
    by_cases h1 : 1 < deg (Pn L ns) (ln L i).1
    · refine ⟨_, ho.2.1, hp.2, ?_⟩
      simp [h1] at hk; omega
    · exact ⟨_, ho.1, hp.1, by omega⟩
  obtain ⟨v, hv, h0, h1⟩ := key
  unfold tch
  apply count_lt (v := v)
  · intro u _ hu
    have := deg_sub (Pn_sub L (rest_sub L ns)) u
    have h := of_decide_eq_true hu
    exact decide_eq_true (by omega)
  · simpa using hv
  · apply decide_eq_false
    intro hd
    obtain ⟨l, hl, e⟩ := deg_mem hd
    obtain ⟨j, hj, rfl⟩ := List.mem_map.mp hl
    have := (List.mem_filter.mp hj).2
    unfold keeps at this
    simp at this
    rcases e with e | e
    · rw [e] at this; omega
    · rw [e] at this; omega
  · exact decide_eq_true h0
theorem tch_le (n : Nat) (P : List La) : tch n P ≤ n := by
  unfold tch
  have := List.countP_le_length (p := fun v => decide (0 < deg P v)) (l := List.range n)
  simpa using this
theorem core_rest {n : Nat} {L : List La} : ∀ (k : Nat) {ns : List Nat}, Ok n (Pn L ns) → tch n (Pn L ns) ≤ k → rest L (core L k ns) = core L k ns
  | 0, ns, ok, h => by
    by_cases e : rest L ns = ns
    · exact e
    · have := tch_rest ok e; omega
  | k + 1, ns, ok, h => by
    by_cases e : rest L ns = ns
    · rw [core_stable e]; exact e
    · have := tch_rest ok e
      exact core_rest k (ok.sub (Pn_sub L (rest_sub L ns))) (by omega)
theorem core_closed {n : Nat} {L : List La} {ns : List Nat} (ok : Ok n (Pn L ns)) : Closed (Pn L (core L n ns)) :=
  rest_closed.mp (core_rest n ok (tch_le n _))
/-- .. is the greatest such -/
theorem rest_great {L : List La} {ns C : List Nat} (h : C.Sublist ns) (c : Closed (Pn L C)) : C.Sublist (rest L ns) := by
  have : C = C.filter (keeps L ns) := by
    symm
    rw [List.filter_eq_self]
    intro i hi
    have h1 := c _ (Pn_mem hi)
    have h2 := deg_sub (Pn_sub L h) (ln L i).1
    have h3 := deg_sub (Pn_sub L h) (ln L i).2
    unfold keeps
    simp
    omega
  rw [this]
  exact h.filter _
theorem core_great {L : List La} {C : List Nat} (c : Closed (Pn L C)) : ∀ (k : Nat) {ns : List Nat}, C.Sublist ns → C.Sublist (core L k ns)
  | 0, ns, h => h
  | k + 1, ns, h => core_great c k (rest_great h c)
theorem wood_rest {n : Nat} {L : List La} {ns : List Nat} (ok : Ok n (Pn L ns)) (w : Wood n (Pn L (rest L ns))) : Wood n (Pn L ns) := by
  have hp := List.filter_append_perm (keeps L ns) ns
  have key : ∀ R : List Nat, R.Sublist (ns.filter fun i => !keeps L ns i) → Wood n (Pn L (R ++ rest L ns)) := by
    intro R
    induction R with
    | nil => intro _; exact w
    | cons i R ih =>
      intro h
      have w' := ih (List.Sublist.trans (List.sublist_cons_self i R) h)
      have hm : i ∈ ns.filter fun i => !keeps L ns i := h.subset (List.mem_cons_self ..)
      have hsub : ((i :: R) ++ rest L ns).Sublist ((ns.filter fun i => !keeps L ns i) ++ rest L ns) := h.append (List.Sublist.refl _)
      have hpm : ((ns.filter fun i => !keeps L ns i) ++ rest L ns).Perm ns := List.perm_append_comm.trans hp
      have ok1 : Ok n (Pn L ((i :: R) ++ rest L ns)) := (ok.perm (Pn_perm L hpm)).sub (Pn_sub L hsub)
      have hdeg : ∀ v, deg (Pn L ((i :: R) ++ rest L ns)) v ≤ deg (Pn L ns) v := fun v => by
        have := deg_sub (Pn_sub L hsub) v
        rwa [deg_perm (Pn_perm L hpm)] at this
      rw [List.cons_append, Pn_cons] at ok1 hdeg ⊢
      have hk := (List.mem_filter.mp hm).2
      have hne := (ok1 _ (List.mem_cons_self ..)).2.2
      generalize Pn L (R ++ rest L ns) = Q at *
      have d1 := hdeg (ln L i).1
      have d2 := hdeg (ln L i).2
      rw [deg_cons] at d1 d2
      simp at d1 d2
      unfold keeps at hk
      simp at hk
      have : deg Q (ln L i).1 = 0 ∨ deg Q (ln L i).2 = 0 := by omega
      have nc := leaf_join hne this
      have : ln L i = ((ln L i).1, (ln L i).2) := rfl
      rw [this] at ok1 ⊢
      exact (Wood.cons ok1).mpr ⟨w', nc⟩
  have := key _ (List.Sublist.refl _)
  exact (Wood.perm (Pn_perm L (List.perm_append_comm.trans hp))).mp this
theorem core_wood {n : Nat} {L : List La} : ∀ (k : Nat) {ns : List Nat}, Ok n (Pn L ns) → core L k ns = [] → Wood n (Pn L ns)
  | 0, ns, ok, h => by
    have : ns = [] := h
    subst this
    exact Wood.nil n
  | k + 1, ns, ok, h => wood_rest ok (core_wood k (ok.sub (Pn_sub L (rest_sub L ns))) h)
theorem Pn_nil {L : List La} {ns : List Nat} (h : Pn L ns = []) : ns = [] := List.map_eq_nil_iff.mp h
theorem wood_core {n : Nat} {L : List La} {ns : List Nat} (ok : Ok n (Pn L ns)) : Wood n (Pn L ns) ↔ core L n ns = [] := by
  constructor
  · intro w
    have hs := Pn_sub L (core_sub L n ns)
    exact Pn_nil ((w.sub ok hs).no_closed (ok.sub hs) (core_closed ok))
  · exact core_wood n ok
/-! ### a wood and one lane more -/
theorem sum_eq (f : Nat → Nat) (l : List Nat) (h : ∀ v ∈ l, 0 < f v → 2 ≤ f v) (e : (l.map f).sum ≤ 2 * l.countP (fun v => decide (0 < f v))) : ∀ v ∈ l, 0 < f v → f v = 2 := by
  induction l with
  | nil => intro v hv; simp at hv
  | cons a l ih =>
    have g := sum_ge f l fun v hv => h v (List.mem_cons_of_mem _ hv)
    have ha := h a (List.mem_cons_self ..)
    rw [List.countP_cons, List.map_cons, List.sum_cons] at e
    intro v hv h0
    by_cases hz : 0 < f a
    · have := ha hz
      simp [hz] at e
      rcases List.mem_cons.mp hv with rfl | hv
      · omega
      · exact ih (fun v hv => h v (List.mem_cons_of_mem _ hv)) (by omega) v hv h0
    · simp [hz] at e
      rcases List.mem_cons.mp hv with rfl | hv
      · omega
      · exact ih (fun v hv => h v (List.mem_cons_of_mem _ hv)) (by omega) v hv h0
theorem touched_rep {P : List La} {u : Nat} (hu : 0 < deg P u) : ∃ r, r ≤ u ∧ Con P r u ∧ Least P r ∧ 0 < deg P r := by
  obtain ⟨r, h1, h2, h3⟩ := least_ex P u
  refine ⟨r, h1, h2, h3, ?_⟩
  apply Classical.byContradiction
  intro hn
  have : deg P r = 0 := by omega
  have e := untouched this h2.symm
  rw [← e] at hn
  omega
theorem deg_lt {n : Nat} {P : List La} (ok : Ok n P) {u : Nat} (hu : 0 < deg P u) : u < n := by
  obtain ⟨l, hl, e | e⟩ := deg_mem hu
  · rw [← e]; exact (ok l hl).1
  · rw [← e]; exact (ok l hl).2.1
theorem kk_touch2 {n : Nat} {P : List La} (ok : Ok n P) {u w : Nat} (hu : 0 < deg P u) (hw : 0 < deg P w) (hc : ¬ Con P u w) : n + 2 ≤ kk n P + tch n P := by
  obtain ⟨r, r1, r2, r3, r4⟩ := touched_rep hu
  obtain ⟨s, s1, s2, s3, s4⟩ := touched_rep hw
  have hrs : r ≠ s := by
    intro e
    subst e
    exact hc (r2.symm.trans s2)
  have hun := deg_lt ok hu
  have hwn := deg_lt ok hw
  have a1 := count_split (fun v => decide (0 < deg P v)) (List.range n)
  rw [List.length_range] at a1
  have a2 : (List.range n).countP (fun u => decide (u = s) || (decide (u = r) || !decide (0 < deg P u))) ≤ kk n P := by
    unfold kk
    apply countP_le
    intro u _ hu
    apply decide_eq_true
    rcases Bool.or_eq_true_iff.mp hu with e | e
    · have := of_decide_eq_true e
      subst this; exact s3
    rcases Bool.or_eq_true_iff.mp e with e | e
    · have := of_decide_eq_true e
      subst this; exact r3
    · have hd : deg P u = 0 := by
        have : decide (0 < deg P u) = false := by simpa using e
        have := of_decide_eq_false this
        omega
      intro v hv c
      have := untouched hd c
      omega
  have a3 := count_one (n := n) (p := fun u => decide (u = r) || !decide (0 < deg P u)) (q := fun u => !decide (0 < deg P u)) (r := r) (by omega) (by simp) (by simp [r4]) (fun u hu => by simp [hu])
  have a4 := count_one (n := n) (p := fun u => decide (u = s) || (decide (u = r) || !decide (0 < deg P u))) (q := fun u => decide (u = r) || !decide (0 < deg P u)) (r := s) (by omega) (by simp) (by simp [s4]; omega) (fun u hu => by simp [hu])
  unfold tch
  omega
/-- a closed set with just one ring -/
theorem tight {n : Nat} {P : List La} (ok : Ok n P) (c : Closed P) (h : kk n P + P.length = n + 1) : tch n P = P.length ∧ (∀ v, 0 < deg P v → deg P v = 2) ∧ ∀ u w, 0 < deg P u → 0 < deg P w → Con P u w := by
  have hne : P ≠ [] := by
    rintro rfl
    rw [kk_nil] at h
    simp at h
  have a := kk_touch ok hne
  have b := c.size ok
  refine ⟨by omega, ?_, ?_⟩
  · intro v hv
    refine sum_eq (deg P) (List.range n) (fun v _ hv => c.ge hv) ?_ v (by simpa using deg_lt ok hv) hv
    rw [sum_deg ok]
    show 2 * P.length ≤ 2 * tch n P
    omega
  · intro u w hu hw
    apply Classical.byContradiction
    intro hc
    have := kk_touch2 ok hu hw hc
    omega
theorem filter_same {α : Type} {p : α → Bool} {D C : List α} (h : D.Sublist C) (e : C.countP p ≤ D.countP p) {x : α} (hx : x ∈ C) (hp : p x = true) : x ∈ D := by
  have h1 := h.filter p
  rw [List.countP_eq_length_filter, List.countP_eq_length_filter] at e
  have := h1.eq_of_length_le e
  have hx' : x ∈ C.filter p := List.mem_filter.mpr ⟨hx, hp⟩
  rw [← this] at hx'
  exact (List.mem_filter.mp hx').1
/-- a closed set in a ring is the ring -/
theorem ring_same {n : Nat} {D P : List La} (ok : Ok n P) (c : Closed P) (h : kk n P + P.length = n + 1) (hs : D.Sublist P) (cd : Closed D) (hd : D ≠ []) : D = P := by
  obtain ⟨t1, t2, t3⟩ := tight ok c h
  have step : ∀ {u w}, Con P u w → (0 < deg D u ↔ 0 < deg D w) := by
    have lane : ∀ l ∈ P, ∀ v, (l.1 = v ∨ l.2 = v) → 0 < deg D v → l ∈ D := by
      intro l hl v hv h0
      have d1 := cd.ge h0
      have d2 := deg_sub hs v
      have d3 := t2 v (by omega)
      refine filter_same (p := fun l => l.1 == v || l.2 == v) hs ?_ hl (by simpa using hv)
      show deg P v ≤ deg D v
      omega
    intro u w hc
    induction hc with
    | refl => exact Iff.rfl
    | lane m =>
      constructor
      · intro h0
        exact (deg_pos (lane _ m _ (.inl rfl) h0)).2
      · intro h0
        exact (deg_pos (lane _ m _ (.inr rfl) h0)).1
    | symm _ ih => exact ih.symm
    | trans _ _ i j => exact i.trans j
  obtain ⟨l, hl⟩ := List.exists_mem_of_ne_nil D hd
  have hl0 := (deg_pos hl).1
  have hp0 : 0 < deg P l.1 := by have := deg_sub hs l.1; omega
  have all : ∀ v, 0 < deg P v → 0 < deg D v := fun v hv => (step (t3 _ _ hp0 hv)).mp hl0
  have : tch n P ≤ tch n D := by
    unfold tch
    apply countP_le
    intro u _ hu
    exact decide_eq_true (all u (of_decide_eq_true hu))
  have := cd.size (ok.sub hs)
  exact hs.eq_of_length_le (by omega)
theorem sub_same {α : Type} {l A : List α} (hn : l.Nodup) (h : A.Sublist l) : l.filter (fun x => decide (x ∈ A)) = A := by
  induction h with
  | slnil => rfl
  | cons x hs ih =>
    rename_i A l
    have hx : x ∉ l := (List.nodup_cons.mp hn).1
    have : x ∉ A := fun hm => hx (hs.subset hm)
    rw [List.filter_cons_of_neg (by simpa using this)]
    exact ih (List.nodup_cons.mp hn).2
  | cons_cons x hs ih =>
    rename_i A l
    have hx : x ∉ l := (List.nodup_cons.mp hn).1
    rw [List.filter_cons_of_pos (by simp)]
    congr 1
    refine Eq.trans (List.filter_congr ?_) (ih (List.nodup_cons.mp hn).2)
    intro y hy
    have : y ≠ x := fun e => hx (e ▸ hy)
    simp [this]
/-- a wood and one lane more, which make a ring -/
structure Ring (n : Nat) (L : List La) (ns : List Nat) (m : Nat) (A : List Nat) : Prop where
  sub : A.Sublist ns
  core : core L n (ns ++ [m]) = A ++ [m]
  ne : A ≠ []
  cl : Closed (Pn L (A ++ [m]))
  one : ∀ D : List Nat, D.Sublist (ns ++ [m]) → Closed (Pn L D) → D ≠ [] → D = A ++ [m]
theorem sub_snoc {α : Type} {C ns : List α} {m : α} (h : C.Sublist (ns ++ [m])) : C.Sublist ns ∨ ∃ A, A.Sublist ns ∧ C = A ++ [m] := by
  obtain ⟨A, B, rfl, h1, h2⟩ := List.sublist_append_iff.mp h
  cases h2 with
  | cons _ h => cases h; exact .inl (by simpa using h1)
  | cons_cons _ h => cases h; exact .inr ⟨A, h1, rfl⟩
theorem ring_of {n : Nat} {L : List La} {ns : List Nat} {m : Nat} (ok : Ok n (Pn L (ns ++ [m]))) (w : Wood n (Pn L ns)) (nw : ¬ Wood n (Pn L (ns ++ [m]))) : ∃ A, Ring n L ns m A := by
  have okn : Ok n (Pn L ns) := ok.sub (Pn_sub L (List.sublist_append_left _ _))
  have hc : core L n (ns ++ [m]) ≠ [] := fun e => nw ((wood_core ok).mpr e)
  have cl := core_closed ok
  have hs := core_sub L n (ns ++ [m])
  rcases sub_snoc hs with h | ⟨A, hA, e⟩
  · exact absurd (Pn_nil ((w.sub okn (Pn_sub L h)).no_closed (okn.sub (Pn_sub L h)) cl)) hc
  · have wA : Wood n (Pn L A) := w.sub okn (Pn_sub L hA)
    have okC : Ok n (Pn L (A ++ [m])) := ok.sub (Pn_sub L (e ▸ hs))
    rw [e] at cl
    have pm : (Pn L (A ++ [m])).Perm (ln L m :: Pn L A) := by
      rw [Pn_append]
      exact List.perm_append_comm
    have ok1 : Ok n (ln L m :: Pn L A) := okC.perm pm.symm
    have sz : kk n (Pn L (A ++ [m])) + (Pn L (A ++ [m])).length = n + 1 := by
      have con : Con (Pn L A) (ln L m).1 (ln L m).2 := by
        apply Classical.byContradiction
        intro hn
        have w1 : Wood n (ln L m :: Pn L A) := (Wood.cons (a := (ln L m).1) (b := (ln L m).2) ok1).mpr ⟨wA, hn⟩
        have := ((Wood.perm pm).mpr w1).no_closed okC cl
        have := Pn_nil this
        simp at this
      have k1 := kk_same (n := n) con
      have k2 : kk n (Pn L (A ++ [m])) = kk n (Pn L A) := (kk_perm pm).trans k1
      have k3 := pm.length_eq
      rw [k2, k3, List.length_cons]
      have : kk n (Pn L A) + (Pn L A).length = n := wA
      omega
    refine ⟨A, hA, e, ?_, cl, ?_⟩
    · rintro rfl
      have := cl _ (Pn_mem (i := m) (by simp))
      simp [Pn, deg_cons, deg] at this
    · intro D hD cD nD
      have h1 : D.Sublist (A ++ [m]) := e ▸ core_great cD n hD
      have h2 := ring_same okC cl sz (Pn_sub L h1) cD fun h => nD (Pn_nil h)
      apply h1.eq_of_length_le
      have := congrArg List.length h2
      simp [Pn] at this
      simp; omega
/-- which lanes of the wood are in the ring -/
theorem Ring.part {n : Nat} {L : List La} {ns : List Nat} {m : Nat} {A : List Nat} (r : Ring n L ns m A) (ok : Ok n (Pn L (ns ++ [m]))) (hn : ns.Nodup) (hm : m ∉ ns) {p : Nat} (hp : p ∈ ns) : Wood n (Pn L (ns.filter (fun i => i != p) ++ [m])) ↔ p ∈ A := by
  have hpm : p ≠ m := fun e => hm (e ▸ hp)
  have hs : (ns.filter (fun i => i != p) ++ [m]).Sublist (ns ++ [m]) := List.filter_sublist.append (List.Sublist.refl _)
  have ok' := ok.sub (Pn_sub L hs)
  constructor
  · intro w
    apply Classical.byContradiction
    intro hA
    have : (A ++ [m]).Sublist (ns.filter (fun i => i != p) ++ [m]) := by
      refine List.Sublist.append ?_ (List.Sublist.refl _)
      have e : A = A.filter (fun i => i != p) := by
        symm
        rw [List.filter_eq_self]
        intro i hi
        simp
        intro e
        exact hA (e ▸ hi)
      rw [e]
      exact r.sub.filter _
    have := Pn_nil ((w.sub ok' (Pn_sub L this)).no_closed (ok'.sub (Pn_sub L this)) r.cl)
    simp at this
  · intro hA
    apply Classical.byContradiction
    intro nw
    have hc : Gr.core L n (ns.filter (fun i => i != p) ++ [m]) ≠ [] := fun e => nw ((wood_core ok').mpr e)
    have h1 := core_sub L n (ns.filter (fun i => i != p) ++ [m])
    have := r.one _ (h1.trans hs) (core_closed ok') hc
    have hpc : p ∈ Gr.core L n (ns.filter (fun i => i != p) ++ [m]) := by rw [this]; simp [hA]
    have := h1.subset hpc
    simp [hpm] at this
end Gr

/-! Gr3: ways that take each lane once; marks. -/
namespace Gr
open Classical
/-- a way along lanes -/
def Tr (L : List La) : Nat → List Nat → Nat → Prop
  | u, [], v => u = v
  | u, i :: r, v => ((ln L i).1 = u ∧ Tr L (ln L i).2 r v) ∨ ((ln L i).2 = u ∧ Tr L (ln L i).1 r v)
theorem Tr.append {L : List La} : ∀ {r s : List Nat} {u w v : Nat}, Tr L u r w → Tr L w s v → Tr L u (r ++ s) v
  | [], s, u, w, v, h1, h2 => by cases h1; exact h2
  | i :: r, s, u, w, v, h1, h2 => by
    rcases h1 with ⟨e, h⟩ | ⟨e, h⟩
    · exact .inl ⟨e, h.append h2⟩
    · exact .inr ⟨e, h.append h2⟩
theorem Tr.split {L : List La} : ∀ {r s : List Nat} {u v : Nat}, Tr L u (r ++ s) v → ∃ w, Tr L u r w ∧ Tr L w s v
  | [], s, u, v, h => ⟨u, rfl, h⟩
  | i :: r, s, u, v, h => by
    rcases h with ⟨e, h⟩ | ⟨e, h⟩
    · obtain ⟨w, h1, h2⟩ := h.split; exact ⟨w, .inl ⟨e, h1⟩, h2⟩
    · obtain ⟨w, h1, h2⟩ := h.split; exact ⟨w, .inr ⟨e, h1⟩, h2⟩
theorem lane_con {L : List La} {l : List Nat} {i : Nat} (h : i ∈ l) : Con (Pn L l) (ln L i).1 (ln L i).2 := .lane (Pn_mem h)
/-- whoever lies on the way hangs together with its start -/
theorem Tr.con {L : List La} {l : List Nat} : ∀ {r : List Nat} {u v : Nat}, Tr L u r v → (∀ i ∈ r, i ∈ l) → Con (Pn L l) u v ∧ ∀ i ∈ r, Con (Pn L l) u (ln L i).1
  | [], u, v, h, _ => by cases h; exact ⟨.refl _, fun i hi => by simp at hi⟩
  | i :: r, u, v, h, hs => by
    have hi := lane_con (L := L) (hs i (List.mem_cons_self ..))
    have hr : ∀ j ∈ r, j ∈ l := fun j hj => hs j (List.mem_cons_of_mem _ hj)
    rcases h with ⟨e, h⟩ | ⟨e, h⟩
    · obtain ⟨h1, h2⟩ := h.con hr
      rw [e] at hi
      refine ⟨hi.trans h1, fun j hj => ?_⟩
      rcases List.mem_cons.mp hj with rfl | hj
      · rw [e]; exact .refl _
      · exact hi.trans (h2 j hj)
    · obtain ⟨h1, h2⟩ := h.con hr
      rw [e] at hi
      refine ⟨hi.symm.trans h1, fun j hj => ?_⟩
      rcases List.mem_cons.mp hj with rfl | hj
      · exact hi.symm
      · exact hi.symm.trans (h2 j hj)
theorem tr_ex {L : List La} : ∀ {l : List Nat}, l.Nodup → ∀ {u v : Nat}, Con (Pn L l) u v → ∃ r : List Nat, Tr L u r v ∧ r.Nodup ∧ ∀ i ∈ r, i ∈ l
  | [], _, u, v, c => by
    have : ∀ {a b}, Con [] a b → a = b := by
      intro a b c
      induction c with
      | refl => rfl
      | lane m => simp at m
      | symm _ ih => exact ih.symm
      | trans _ _ i j => exact i.trans j
    exact ⟨[], this c, by simp, fun i hi => by simp at hi⟩
  | i :: l, hn, u, v, c => by
    have hn' := (List.nodup_cons.mp hn).2
    have hi := (List.nodup_cons.mp hn).1
    by_cases c0 : Con (Pn L l) u v
    · obtain ⟨r, h1, h2, h3⟩ := tr_ex hn' c0
      exact ⟨r, h1, h2, fun j hj => List.mem_cons_of_mem _ (h3 j hj)⟩
    · have key : ∀ a b, Con (Pn L l) u a → Con (Pn L l) b v → (∀ s, Tr L b s v → Tr L a (i :: s) v) → ∃ r : List Nat, Tr L u r v ∧ r.Nodup ∧ ∀ j ∈ r, j ∈ i :: l := by
        intro a b ca cb st
        obtain ⟨r, h1, h2, h3⟩ := tr_ex hn' ca
        obtain ⟨s, k1, k2, k3⟩ := tr_ex hn' cb
        refine ⟨r ++ i :: s, h1.append (st s k1), ?_, ?_⟩
        · rw [List.nodup_append]
          refine ⟨h2, List.nodup_cons.mpr ⟨fun h => hi (k3 i h), k2⟩, ?_⟩
          intro x hx y hy e
          subst e
          rcases List.mem_cons.mp hy with rfl | hy
          · exact hi (h3 _ hx)
          · have q1 := (h1.con h3).2 x hx
            have q2 := k1.con k3
            exact c0 (q1.trans ((q2.2 x hy).symm.trans q2.1))
        · intro j hj
          rcases List.mem_append.mp hj with h | h
          · exact List.mem_cons_of_mem _ (h3 j h)
          · rcases List.mem_cons.mp h with rfl | h
            · exact List.mem_cons_self ..
            · exact List.mem_cons_of_mem _ (k3 j h)
      rw [Pn_cons] at c
      have e : ln L i = ((ln L i).1, (ln L i).2) := rfl
      rw [e] at c
      rcases Con.add.mp c with h | ⟨h1, h2⟩ | ⟨h1, h2⟩
      · exact absurd h c0
      · exact key _ _ h1 h2 fun s hs => .inl ⟨rfl, hs⟩
      · exact key _ _ h1 h2 fun s hs => .inr ⟨rfl, hs⟩
theorem tr_first {L : List La} {u v i : Nat} {r : List Nat} (h : Tr L u (i :: r) v) : 0 < deg (Pn L (i :: r)) u := by
  rw [Pn_cons, deg_cons]
  rcases h with ⟨e, h⟩ | ⟨e, h⟩
  · simp [e]
  · simp [e]
theorem tr_last {L : List La} : ∀ {r : List Nat} {u v : Nat}, Tr L u r v → r ≠ [] → 0 < deg (Pn L r) v
  | [i], u, v, h, _ => by
    rw [Pn_cons, deg_cons]
    rcases h with ⟨e, h⟩ | ⟨e, h⟩
    · have : (ln L i).2 = v := h
      simp [this]
    · have : (ln L i).1 = v := h
      simp [this]
  | i :: j :: r, u, v, h, _ => by
    rw [Pn_cons, deg_cons]
    rcases h with ⟨e, h⟩ | ⟨e, h⟩
    · have := tr_last h (by simp); omega
    · have := tr_last h (by simp); omega
theorem tr_deg {L : List La} : ∀ {r : List Nat} {u v : Nat}, Tr L u r v → ∀ i ∈ r, ∀ w, ((ln L i).1 = w ∨ (ln L i).2 = w) → 2 ≤ deg (Pn L r) w + (if w = u then 1 else 0) + (if w = v then 1 else 0)
  | [], u, v, _, i, hi, w, _ => by simp at hi
  | j :: r, u, v, h, i, hi, w, hw => by
    have key : ∀ x, Tr L x r v → (((ln L j).1 = u ∧ (ln L j).2 = x) ∨ ((ln L j).2 = u ∧ (ln L j).1 = x)) → 2 ≤ deg (Pn L (j :: r)) w + (if w = u then 1 else 0) + (if w = v then 1 else 0) := by
      intro x hx hj
      rw [Pn_cons, deg_cons]
      rcases List.mem_cons.mp hi with rfl | hi
      · -- the first lane
        rw [if_pos hw]
        by_cases hwu : w = u
        · rw [if_pos hwu]; omega
        · have hwx : w = x := by
            rcases hj with ⟨e1, e2⟩ | ⟨e1, e2⟩ <;> rcases hw with e | e <;> omega
          subst hwx
          cases r with
          | nil =>
            have : w = v := hx
            rw [if_pos this]; omega
          | cons k r =>
            have := tr_first hx
            omega
      · have ih := tr_deg hx i hi w hw
        by_cases hwx : w = x
        · have : (ln L j).1 = w ∨ (ln L j).2 = w := by
            rcases hj with ⟨e1, e2⟩ | ⟨e1, e2⟩
            · exact .inr (by omega)
            · exact .inl (by omega)
          rw [if_pos this]
          rw [if_pos hwx] at ih
          omega
        · rw [if_neg hwx] at ih
          omega
    rcases h with ⟨e, h⟩ | ⟨e, h⟩
    · exact key _ h (.inl ⟨e, rfl⟩)
    · exact key _ h (.inr ⟨e, rfl⟩)
/-- a way and a lane between its ends -/
theorem tr_closed {L : List La} {r : List Nat} {m : Nat} (h : Tr L (ln L m).1 r (ln L m).2) (hne : (ln L m).1 ≠ (ln L m).2) : Closed (Pn L (r ++ [m])) := by
  have hr : r ≠ [] := by
    rintro rfl
    exact hne h
  have dm : ∀ w, deg (Pn L (r ++ [m])) w = deg (Pn L r) w + if (ln L m).1 = w ∨ (ln L m).2 = w then 1 else 0 := fun w => by
    rw [Pn_append, deg_append, Pn_cons, deg_cons]
    simp [Pn, deg]
  have key : ∀ i ∈ r ++ [m], ∀ w, ((ln L i).1 = w ∨ (ln L i).2 = w) → 2 ≤ deg (Pn L (r ++ [m])) w := by
    intro i hi w hw
    rw [dm]
    rcases List.mem_append.mp hi with h1 | h1
    · have := tr_deg h i h1 w hw
      by_cases e1 : (ln L m).1 = w <;> by_cases e2 : (ln L m).2 = w
      · exact absurd (e1.trans e2.symm) hne
      · rw [if_pos (.inl e1)]
        rw [if_pos e1.symm, if_neg (fun e => e2 e.symm)] at this
        omega
      · rw [if_pos (.inr e2)]
        rw [if_neg (fun e => e1 e.symm), if_pos e2.symm] at this
        omega
      · rw [if_neg (fun e => e1 e.symm), if_neg (fun e => e2 e.symm)] at this
        omega
    · simp at h1
      subst h1
      rw [if_pos hw]
      have : 0 < deg (Pn L r) w := by
        rcases hw with e | e
        · subst e
          cases r with
          | nil => exact absurd rfl hr
          | cons k r => exact tr_first h
        · subst e
          exact tr_last h hr
      omega
  intro l hl
  obtain ⟨i, hi, rfl⟩ := List.mem_map.mp hl
  exact ⟨key i hi _ (.inl rfl), key i hi _ (.inr rfl)⟩
theorem Ring.way {n : Nat} {L : List La} {ns : List Nat} {m : Nat} {A : List Nat} (r : Ring n L ns m A) (hn : ns.Nodup) (hne : (ln L m).1 ≠ (ln L m).2) {row : List Nat} (h : Tr L (ln L m).1 row (ln L m).2) (hd : row.Nodup) (hs : ∀ i ∈ row, i ∈ ns) : row.Perm A := by
  have e1 : (ns.filter fun i => decide (i ∈ row)).Perm row := by
    have hnf : (ns.filter fun i => decide (i ∈ row)).Nodup := (List.filter_sublist (l := ns)).nodup hn
    rw [List.perm_ext_iff_of_nodup hnf hd]
    intro a
    simp
    exact hs a
  have hc : Closed (Pn L ((ns.filter fun i => decide (i ∈ row)) ++ [m])) := (tr_closed h hne).perm (Pn_perm L (e1.append (List.Perm.refl _)))
  have := r.one _ (List.filter_sublist.append (List.Sublist.refl _)) hc (by simp)
  have := List.append_cancel_right this
  rw [← this]
  exact e1.symm
/-! ### marks -/
/-- marks agree just where lanes hang together -/
def Mk (n : Nat) (ms : List Nat) (P : List La) : Prop := ms.length = n ∧ ∀ u v, u < n → v < n → (ms.getD u 0 = ms.getD v 0 ↔ Con P u v)
theorem mk_start (n : Nat) : Mk n (List.range n) [] := by
  refine ⟨by simp, fun u v hu hv => ?_⟩
  simp [hu, hv]
  constructor
  · rintro rfl; exact .refl _
  · intro c
    induction c with
    | refl => rfl
    | lane m => simp at m
    | symm _ ih => exact (ih hv hu).symm
    | trans _ _ i j =>
      rename_i c1 c2
      have : ∀ {a b}, Con [] a b → a = b := by
        intro a b c
        induction c with
        | refl => rfl
        | lane m => simp at m
        | symm _ ih => exact ih.symm
        | trans _ _ i j => exact i.trans j
      exact (this c1).trans (this c2)
def remark (old fresh : Nat) (ms : List Nat) : List Nat := ms.map fun k => if k = old then fresh else k
theorem mk_step {n : Nat} {ms : List Nat} {P : List La} (h : Mk n ms P) {a b : Nat} (ha : a < n) (hb : b < n) : Mk n (remark (ms.getD a 0) (ms.getD b 0) ms) ((a, b) :: P) := by
  obtain ⟨hl, h⟩ := h
  refine ⟨by simp [remark, hl], fun u v hu hv => ?_⟩
  rw [Con.add]
  have g : ∀ u, u < n → (remark (ms.getD a 0) (ms.getD b 0) ms).getD u 0 = if ms.getD u 0 = ms.getD a 0 then ms.getD b 0 else ms.getD u 0 := by
    intro u hu
    have hu' : u < ms.length := by omega
    simp [remark, hu']
  rw [g u hu, g v hv]
  have huv := h u v hu hv
  have hua := h u a hu ha
  have hva := h v a hv ha
  have hub := h u b hu hb
  have hvb := h v b hv hb
  by_cases e1 : ms.getD u 0 = ms.getD a 0 <;> by_cases e2 : ms.getD v 0 = ms.getD a 0
  · rw [if_pos e1, if_pos e2]
    constructor
    · intro _
      exact .inl ((hua.mp e1).trans (hva.mp e2).symm)
    · intro _; rfl
  · rw [if_pos e1, if_neg e2]
    have ca := hua.mp e1
    constructor
    · intro e
      exact .inr (.inl ⟨ca, (hvb.mp e.symm).symm⟩)
    · rintro (c | ⟨_, c⟩ | ⟨_, c⟩)
      · exact absurd (hva.mpr (c.symm.trans ca)) e2
      · exact (hvb.mpr c.symm).symm
      · exact absurd (hva.mpr c.symm) e2
  · rw [if_neg e1, if_pos e2]
    have ca := hva.mp e2
    constructor
    · intro e
      exact .inr (.inr ⟨hub.mp e, ca.symm⟩)
    · rintro (c | ⟨c, _⟩ | ⟨c, _⟩)
      · exact absurd (hua.mpr (c.trans ca)) e1
      · exact absurd (hua.mpr c) e1
      · exact hub.mpr c
  · rw [if_neg e1, if_neg e2]
    constructor
    · intro e
      exact .inl (huv.mp e)
    · rintro (c | ⟨c, _⟩ | ⟨_, c⟩)
      · exact huv.mpr c
      · exact absurd (hua.mpr c) e1
      · exact absurd (hva.mpr c.symm) e2
theorem Mk.perm {n : Nat} {ms : List Nat} {P Q : List La} (h : Mk n ms P) (p : P.Perm Q) : Mk n ms Q :=
  ⟨h.1, fun u v hu hv => (h.2 u v hu hv).trans (Con.perm p)⟩
end Gr

/-! Gr4: the search for a way; lists. -/
namespace Gr
open Classical
theorem erase_map {α β : Type} (f : α → β) : ∀ (l : List α) (j : Nat), (l.map f).eraseIdx j = (l.eraseIdx j).map f
  | [], _ => rfl
  | a :: l, 0 => rfl
  | a :: l, j + 1 => by simp [List.eraseIdx_cons_succ, erase_map f l j]
theorem erase_perm {α : Type} : ∀ (l : List α) (j : Nat) (h : j < l.length), (l[j] :: l.eraseIdx j).Perm l
  | [], j, h => by simp at h
  | a :: l, 0, h => by simp
  | a :: l, j + 1, h => by
    simp only [List.getElem_cons_succ, List.eraseIdx_cons_succ]
    exact (List.Perm.swap a _ _).trans ((erase_perm l j (by simpa using h)).cons a)
def touch (L : List La) (i h : Nat) : Bool := (ln L i).1 == h || (ln L i).2 == h
def far (L : List La) (i h : Nat) : Nat := (ln L i).1 + (ln L i).2 - h
abbrev En := Nat × List Nat
/-- goes on along lane i -/
def goes (L : List La) (p : En) (i : Nat) : Bool := touch L i p.1 && !decide (i ∈ p.2)
def kid (L : List La) (p : En) (i : Nat) : En := (far L i p.1, p.2 ++ [i])
def kids (L : List La) (ns : List Nat) (p : En) : List En := (ns.filter (goes L p)).map (kid L p)
def Inv (L : List La) (ns : List Nat) (a b : Nat) (st : List En) : Prop :=
  (∀ p ∈ st, Tr L a p.2 p.1 ∧ p.2.Nodup ∧ ∀ i ∈ p.2, i ∈ ns) ∧ ∃ p ∈ st, ∃ r, Tr L p.1 r b ∧ (p.2 ++ r).Nodup ∧ ∀ i ∈ r, i ∈ ns
def mu (m : Nat) (st : List En) : Nat := (st.map fun p => (m + 1) ^ (m - p.2.length)).sum
theorem inv_start {L : List La} {ns : List Nat} {a b : Nat} (hn : ns.Nodup) (h : Con (Pn L ns) a b) : Inv L ns a b [(a, [])] := by
  obtain ⟨r, h1, h2, h3⟩ := tr_ex hn h
  refine ⟨fun p hp => ?_, (a, []), by simp, r, h1, by simpa using h2, h3⟩
  simp at hp
  subst hp
  exact ⟨rfl, by simp, by simp⟩
theorem tr_step {L : List La} {i h : Nat} (ht : touch L i h = true) : Tr L h [i] (far L i h) := by
  unfold touch at ht
  unfold far
  rcases Bool.or_eq_true_iff.mp ht with e | e
  · have e : (ln L i).1 = h := by simpa using e
    refine .inl ⟨e, ?_⟩
    show (ln L i).2 = _
    omega
  · have e : (ln L i).2 = h := by simpa using e
    refine .inr ⟨e, ?_⟩
    show (ln L i).1 = _
    omega
theorem inv_step {L : List La} {ns : List Nat} {a b : Nat} {st : List En} {p : En} (hI : Inv L ns a b (st ++ [p])) (hb : p.1 ≠ b) : Inv L ns a b (st ++ kids L ns p) := by
  obtain ⟨h1, q, hq, r, r1, r2, r3⟩ := hI
  obtain ⟨p1, p2, p3⟩ := h1 p (by simp)
  constructor
  · intro x hx
    rcases List.mem_append.mp hx with h | h
    · exact h1 x (by simp [h])
    · obtain ⟨i, hi, rfl⟩ := List.mem_map.mp h
      obtain ⟨i1, i2⟩ := List.mem_filter.mp hi
      unfold goes at i2
      simp only [Bool.and_eq_true, Bool.not_eq_true', decide_eq_false_iff_not] at i2
      refine ⟨p1.append (tr_step i2.1), ?_, ?_⟩
      · show (p.2 ++ [i]).Nodup
        rw [List.nodup_append]
        refine ⟨p2, by simp, ?_⟩
        intro x1 hx1 y1 hy1 e
        simp at hy1
        subst hy1; subst e
        exact i2.2 hx1
      · intro j hj
        rcases List.mem_append.mp hj with h | h
        · exact p3 j h
        · simp at h; subst h; exact i1
  · rcases List.mem_append.mp hq with h | h
    · exact ⟨q, by simp [h], r, r1, r2, r3⟩
    · simp at h
      subst h
      cases r with
      | nil => exact absurd r1 hb
      | cons i r =>
        have hi : i ∈ ns := r3 i (by simp)
        have hni : i ∉ q.2 := by
          intro hm
          rw [List.nodup_append] at r2
          exact r2.2.2 i hm i (by simp) rfl
        have ht : touch L i q.1 = true := by
          unfold touch
          rcases r1 with ⟨e, _⟩ | ⟨e, _⟩ <;> simp [e]
        refine ⟨kid L q i, ?_, r, ?_, ?_, fun j hj => r3 j (by simp [hj])⟩
        · apply List.mem_append_right
          exact List.mem_map.mpr ⟨i, List.mem_filter.mpr ⟨hi, by unfold goes; simp [ht, hni]⟩, rfl⟩
        · show Tr L (far L i q.1) r b
          unfold far
          rcases r1 with ⟨e, h⟩ | ⟨e, h⟩
          · rw [show (ln L i).1 + (ln L i).2 - q.1 = (ln L i).2 by omega]; exact h
          · rw [show (ln L i).1 + (ln L i).2 - q.1 = (ln L i).1 by omega]; exact h
        · show ((q.2 ++ [i]) ++ r).Nodup
          rw [List.append_assoc]; exact r2
theorem sum_const (c : Nat) : ∀ l : List En, (∀ p ∈ l, True) → ∀ f : En → Nat, (∀ p ∈ l, f p ≤ c) → (l.map f).sum ≤ l.length * c
  | [], _, f, _ => by simp
  | p :: l, _, f, h => by
    have ih := sum_const c l (fun _ _ => trivial) f fun p hp => h p (List.mem_cons_of_mem _ hp)
    have := h p (List.mem_cons_self ..)
    rw [List.map_cons, List.sum_cons, List.length_cons, Nat.add_mul]
    omega
theorem mu_step {L : List La} {ns : List Nat} {st : List En} {p : En} (h2 : p.2.Nodup) (h3 : ∀ i ∈ p.2, i ∈ ns) : mu ns.length (st ++ kids L ns p) < mu ns.length (st ++ [p]) := by
  unfold mu
  rw [List.map_append, List.map_append, List.sum_append, List.sum_append]
  simp only [List.map_cons, List.map_nil, List.sum_cons, List.sum_nil, Nat.add_zero]
  suffices h : ((kids L ns p).map fun p => (ns.length + 1) ^ (ns.length - p.2.length)).sum < (ns.length + 1) ^ (ns.length - p.2.length) by omega
  have hlen : (kids L ns p).length ≤ ns.length := by
    unfold kids
    rw [List.length_map]
    exact List.length_filter_le _ _
  have key := sum_const ((ns.length + 1) ^ (ns.length - (p.2.length + 1))) (kids L ns p) (fun _ _ => trivial) (fun p => (ns.length + 1) ^ (ns.length - p.2.length)) (by
    intro q hq
    obtain ⟨i, _, rfl⟩ := List.mem_map.mp hq
    show (ns.length + 1) ^ (ns.length - (p.2 ++ [i]).length) ≤ _
    rw [List.length_append]; exact Nat.le_refl _)
  by_cases hk : kids L ns p = []
  · rw [hk]
    exact Nat.pow_pos (by omega)
  · obtain ⟨q, hq⟩ := List.exists_mem_of_ne_nil _ hk
    obtain ⟨i, hi, rfl⟩ := List.mem_map.mp hq
    obtain ⟨i1, i2⟩ := List.mem_filter.mp hi
    unfold goes at i2
    simp only [Bool.and_eq_true, Bool.not_eq_true', decide_eq_false_iff_not] at i2
    have hl : p.2.length + 1 ≤ ns.length := by
      have : (i :: p.2).Nodup := List.nodup_cons.mpr ⟨i2.2, h2⟩
      have := this.length_le_of_subset (l₂ := ns) fun x hx => by
        rcases List.mem_cons.mp hx with rfl | hx
        · exact i1
        · exact h3 x hx
      simpa using this
    have e : ns.length - p.2.length = (ns.length - (p.2.length + 1)) + 1 := by omega
    rw [e, Nat.pow_succ]
    have hpos : 0 < (ns.length + 1) ^ (ns.length - (p.2.length + 1)) := Nat.pow_pos (by omega)
    generalize (ns.length + 1) ^ (ns.length - (p.2.length + 1)) = X at *
    have : (kids L ns p).length * X ≤ ns.length * X := Nat.mul_le_mul_right _ hlen
    rw [Nat.mul_add, Nat.mul_comm X ns.length]
    omega
end Gr

/-! Gr5: trees: as many lanes as houses less one. -/
namespace Gr
open Classical
theorem least_zero (P : List La) : Least P 0 := fun v hv => by omega
/-- all hang together -/
def Whole (n : Nat) (P : List La) : Prop := ∀ u, u < n → Con P 0 u
theorem whole_kk {n : Nat} {P : List La} (h0 : 0 < n) : kk n P = 1 ↔ Whole n P := by
  constructor
  · intro hk u hu
    apply Classical.byContradiction
    intro hc
    obtain ⟨r, r1, r2, r3⟩ := least_ex P u
    have hr : r ≠ 0 := by
      rintro rfl
      exact hc r2
    have a2 : (List.range n).countP (fun u => decide (u = r) || (decide (u = 0) || false)) ≤ kk n P := by
      unfold kk
      apply countP_le
      intro u _ hu
      apply decide_eq_true
      simp at hu
      rcases hu with rfl | rfl
      · exact r3
      · exact least_zero P
    have a3 := count_one (n := n) (p := fun u => decide (u = 0) || false) (q := fun _ => false) (r := 0) h0 (by simp) rfl (fun u hu => by simp [hu])
    have a4 := count_one (n := n) (p := fun u => decide (u = r) || (decide (u = 0) || false)) (q := fun u => decide (u = 0) || false) (r := r) (by omega) (by simp) (by simp [hr]) (fun u hu => by simp [hu])
    omega
  · intro h
    have a3 := count_one (n := n) (p := fun u => decide (u = 0) || false) (q := fun _ => false) (r := 0) h0 (by simp) rfl (fun u hu => by simp [hu])
    have a5 : (List.range n).countP (fun _ => false) = 0 := by simp
    have a1 : kk n P ≤ (List.range n).countP (fun u => decide (u = 0) || false) := by
      unfold kk
      apply countP_le
      intro u hu hl
      have hl := of_decide_eq_true hl
      have hun : u < n := by simpa using hu
      have : u = 0 := by
        apply Classical.byContradiction
        intro hne
        exact hl 0 (by omega) (h u hun)
      simp [this]
    have a2 : (List.range n).countP (fun u => decide (u = 0) || false) ≤ kk n P := by
      unfold kk
      apply countP_le
      intro u _ hu
      apply decide_eq_true
      simp at hu
      subst hu
      exact least_zero P
    omega
/-- as many lanes as houses less one: no ring or all together, it is the same -/
theorem wood_whole {n : Nat} {P : List La} (h0 : 0 < n) (hl : P.length + 1 = n) : Wood n P ↔ Whole n P := by
  rw [← whole_kk h0]
  unfold Wood
  omega
theorem mk_whole {n : Nat} {ms : List Nat} {P : List La} (h0 : 0 < n) (h : Mk n ms P) (hz : ms.getD 0 0 = 0) : (∀ x ∈ ms, x = 0) ↔ Whole n P := by
  constructor
  · intro ha u hu
    refine (h.2 0 u h0 hu).mp ?_
    rw [hz]
    have hul : u < ms.length := by rw [h.1]; exact hu
    have := ha ms[u] (List.getElem_mem hul)
    simp [hul, this]
  · intro hw x hx
    obtain ⟨u, hu, rfl⟩ := List.getElem_of_mem hx
    have := (h.2 0 u h0 (by rw [← h.1]; exact hu)).mpr (hw u (by rw [← h.1]; exact hu))
    rw [hz] at this
    simp [hu] at this
    exact this.symm
/-- the law's relabelling: the greater mark gives way -/
def low (ms : List Nat) (a b : Nat) : List Nat := remark (max (ms.getD a 0) (ms.getD b 0)) (min (ms.getD a 0) (ms.getD b 0)) ms
theorem Con.swap {P : List La} {a b u v : Nat} : Con ((a, b) :: P) u v ↔ Con ((b, a) :: P) u v := by
  rw [Con.add, Con.add]
  constructor <;> (rintro (h | h | h); exact .inl h; exact .inr (.inr h); exact .inr (.inl h))
theorem low_step {n : Nat} {ms : List Nat} {P : List La} (h : Mk n ms P) {a b : Nat} (ha : a < n) (hb : b < n) (hz : ms.getD 0 0 = 0) : Mk n (low ms a b) ((a, b) :: P) ∧ (low ms a b).getD 0 0 = 0 := by
  constructor
  · unfold low
    rcases Nat.le_total (ms.getD a 0) (ms.getD b 0) with hle | hle
    · rw [Nat.max_eq_right hle, Nat.min_eq_left hle]
      have := mk_step h hb ha
      exact ⟨this.1, fun u v hu hv => (this.2 u v hu hv).trans Con.swap⟩
    · rw [Nat.max_eq_left hle, Nat.min_eq_right hle]
      exact mk_step h ha hb
  · unfold low remark
    by_cases h0 : 0 < ms.length
    · have e : ms[0] = 0 := by simpa [h0] using hz
      simp [h0, e]
      intro hm
      omega
    · have : ms = [] := List.eq_nil_of_length_eq_zero (by omega)
      subst this
      rfl
/-- a lane to a house that stands alone keeps a wood -/
theorem wood_leaf {n : Nat} {P : List La} {a b : Nat} (ok : Ok n ((a, b) :: P)) (w : Wood n P) (h : deg P a = 0 ∨ deg P b = 0) : Wood n ((a, b) :: P) :=
  (Wood.cons ok).mpr ⟨w, leaf_join (ok _ (List.mem_cons_self ..)).2.2 h⟩
end Gr

/-! Gr6: walks that take each lane once. -/
namespace Gr
open Classical
def okW (L : List La) : Nat → List Nat → Prop
  | _, [] => True
  | u, i :: r => touch L i u = true ∧ okW L (far L i u) r
def endW (L : List La) : Nat → List Nat → Nat
  | u, [] => u
  | u, i :: r => endW L (far L i u) r
def hsW (L : List La) : Nat → List Nat → List Nat
  | u, [] => [u]
  | u, i :: r => u :: hsW L (far L i u) r
theorem okW_append {L : List La} : ∀ (r s : List Nat) (u : Nat), okW L u (r ++ s) ↔ okW L u r ∧ okW L (endW L u r) s
  | [], s, u => by simp [okW, endW]
  | i :: r, s, u => by
    have := okW_append (L := L) r s (far L i u)
    simp only [List.cons_append, okW, endW, this, and_assoc]
theorem endW_append {L : List La} : ∀ (r s : List Nat) (u : Nat), endW L u (r ++ s) = endW L (endW L u r) s
  | [], s, u => rfl
  | i :: r, s, u => by simp only [List.cons_append, endW]; exact endW_append r s _
theorem hsW_len (L : List La) : ∀ (r : List Nat) (u : Nat), (hsW L u r).length = r.length + 1
  | [], u => rfl
  | i :: r, u => by simp [hsW, hsW_len L r]
theorem hsW_at (L : List La) : ∀ (r : List Nat) (u k : Nat), k ≤ r.length → (hsW L u r)[k]? = some (endW L u (r.take k))
  | [], u, k, h => by
    have : k = 0 := by simpa using h
    subst this; rfl
  | i :: r, u, 0, _ => rfl
  | i :: r, u, k + 1, h => by
    simp only [hsW, List.getElem?_cons_succ, List.take_succ_cons, endW]
    exact hsW_at L r _ k (by simpa using h)
theorem hsW_snoc (L : List La) : ∀ (r : List Nat) (u i : Nat), hsW L u (r ++ [i]) = hsW L u r ++ [far L i (endW L u r)]
  | [], u, i => rfl
  | j :: r, u, i => by simp only [List.cons_append, hsW, endW, hsW_snoc L r]
theorem hsW_last (L : List La) : ∀ (r : List Nat) (u : Nat), (hsW L u r).getLast? = some (endW L u r)
  | [], u => rfl
  | i :: r, u => by
    have := hsW_last L r (far L i u)
    simp only [hsW, endW]
    cases h : hsW L (far L i u) r with
    | nil => have := hsW_len L r (far L i u); rw [h] at this; simp at this
    | cons a l => rw [h] at this; simpa using this
theorem touch_iff {L : List La} {i u : Nat} : touch L i u = true ↔ (ln L i).1 = u ∨ (ln L i).2 = u := by
  unfold touch; simp
theorem far_ne {L : List La} {i u : Nat} (hl : (ln L i).1 ≠ (ln L i).2) (ht : touch L i u = true) : far L i u ≠ u ∧ ∀ w, ((ln L i).1 = w ∨ (ln L i).2 = w) ↔ (w = u ∨ w = far L i u) := by
  rw [touch_iff] at ht
  unfold far
  refine ⟨by omega, fun w => ?_⟩
  omega
/-- how often a walk touches a house, by twos -/
theorem parity {L : List La} : ∀ (r : List Nat) (u w : Nat), (∀ i ∈ r, (ln L i).1 ≠ (ln L i).2) → okW L u r → deg (Pn L r) w % 2 = ((if w = u then 1 else 0) + (if w = endW L u r then 1 else 0)) % 2
  | [], u, w, _, _ => by
    have : deg (Pn L []) w = 0 := rfl
    rw [this]
    show 0 % 2 = ((if w = u then 1 else 0) + (if w = u then 1 else 0)) % 2
    by_cases h : w = u
    · rw [if_pos h]
    · rw [if_neg h]
  | i :: r, u, w, hl, ok => by
    obtain ⟨o1, o2⟩ := ok
    have ih := parity r (far L i u) w (fun j hj => hl j (List.mem_cons_of_mem _ hj)) o2
    obtain ⟨f1, f2⟩ := far_ne (hl i (List.mem_cons_self ..)) o1
    rw [Pn_cons, deg_cons]
    show _ = ((if w = u then 1 else 0) + (if w = endW L (far L i u) r then 1 else 0)) % 2
    generalize (if w = endW L (far L i u) r then 1 else 0) = e at *
    by_cases h1 : w = u
    · have h2 : ¬ w = far L i u := fun e => f1 (e.symm.trans h1)
      rw [if_neg h2] at ih
      rw [if_pos ((f2 w).mpr (.inl h1)), if_pos h1]
      omega
    · by_cases h2 : w = far L i u
      · rw [if_pos h2] at ih
        rw [if_pos ((f2 w).mpr (.inr h2)), if_neg h1]
        omega
      · rw [if_neg h2] at ih
        rw [if_neg (fun h => ((f2 w).mp h).elim h1 h2), if_neg h1]
        omega
/-- the lanes at a house that were not taken -/
def free (L : List La) (used : List Nat) (h : Nat) : List Nat := (List.range L.length).filter fun i => touch L i h && !decide (i ∈ used)
theorem deg_all (L : List La) (w : Nat) : deg L w = ((List.range L.length).filter fun i => touch L i w).length := by
  have e : L = (List.range L.length).map (ln L) := by
    apply List.ext_getElem
    · simp
    · intro i h1 h2
      simp [ln, h1]
  conv => lhs; rw [e]
  unfold deg
  rw [List.countP_map, List.countP_eq_length_filter]
  rfl
theorem Pn_deg' (L : List La) (ns : List Nat) (h : Nat) : deg (Pn L ns) h = (ns.filter fun i => touch L i h).length := by
  unfold deg Pn
  rw [List.countP_map, List.countP_eq_length_filter]
  rfl
/-- taken and free ones together -/
theorem free_deg {L : List La} {used : List Nat} (hn : used.Nodup) (hb : ∀ i ∈ used, i < L.length) (w : Nat) : deg L w = deg (Pn L used) w + (free L used w).length := by
  rw [deg_all, Pn_deg']
  have h1 : ((List.range L.length).filter fun i => touch L i w).Perm ((used.filter fun i => touch L i w) ++ free L used w) := by
    have n1 : ((List.range L.length).filter fun i => touch L i w).Nodup := List.filter_sublist.nodup List.nodup_range
    have n2 : ((used.filter fun i => touch L i w) ++ free L used w).Nodup := by
      rw [List.nodup_append]
      refine ⟨List.filter_sublist.nodup hn, List.filter_sublist.nodup List.nodup_range, ?_⟩
      intro a ha b hb' e
      subst e
      have h1 := (List.mem_filter.mp ha).1
      have h2 := (List.mem_filter.mp hb').2
      simp [h1] at h2
    rw [List.perm_ext_iff_of_nodup n1 n2]
    intro a
    unfold free
    simp only [List.mem_append, List.mem_filter, List.mem_range, Bool.and_eq_true, Bool.not_eq_true', decide_eq_false_iff_not]
    constructor
    · rintro ⟨h1, h2⟩
      by_cases h : a ∈ used
      · exact .inl ⟨h, h2⟩
      · exact .inr ⟨h1, h2, h⟩
    · rintro (⟨h1, h2⟩ | ⟨h1, h2, h3⟩)
      · exact ⟨hb a h1, h2⟩
      · exact ⟨h1, h2⟩
  have := h1.length_eq
  rw [List.length_append] at this
  exact this
/-- all free degrees are even -/
def Even (L : List La) (used : List Nat) : Prop := ∀ w, (free L used w).length % 2 = 0
/-- a greatest walk where all free degrees are even comes back, and they stay even -/
theorem closed_walk {n : Nat} {L : List La} (ok : Ok n L) {used row : List Nat} {h : Nat} (he : Even L used) (hn : (used ++ row).Nodup) (hb : ∀ i ∈ used ++ row, i < L.length) (hw : okW L h row) (hm : free L (used ++ row) (endW L h row) = []) : endW L h row = h ∧ Even L (used ++ row) := by
  have nl : ∀ i ∈ row, (ln L i).1 ≠ (ln L i).2 := fun i hi => (ok _ (by
    have := hb i (List.mem_append_right _ hi)
    simp [ln, this])).2.2
  have n1 : used.Nodup := (List.nodup_append.mp hn).1
  have b1 : ∀ i ∈ used, i < L.length := fun i hi => hb i (List.mem_append_left _ hi)
  have key : ∀ w, (free L used w).length = deg (Pn L row) w + (free L (used ++ row) w).length := fun w => by
    have a := free_deg n1 b1 w
    have b := free_deg hn hb w
    rw [Pn_append, deg_append] at b
    omega
  have he1 : endW L h row = h := by
    apply Classical.byContradiction
    intro hne
    have k := key (endW L h row)
    have p := parity row h (endW L h row) nl hw
    rw [if_neg hne, if_pos rfl] at p
    have e := he (endW L h row)
    rw [hm] at k
    simp at k
    omega
  refine ⟨he1, fun w => ?_⟩
  have k := key w
  have p := parity row h w nl hw
  rw [he1] at p
  have e := he w
  by_cases hwh : w = h
  · rw [if_pos hwh] at p; omega
  · rw [if_neg hwh] at p; omega
def odds (n : Nat) (L : List La) : List Nat := (List.range n).filter fun h => decide (deg L h % 2 = 1)
theorem sum_par (f : Nat → Nat) : ∀ l : List Nat, (l.map f).sum % 2 = (l.filter fun h => decide (f h % 2 = 1)).length % 2
  | [] => rfl
  | a :: l => by
    have ih := sum_par f l
    rw [List.map_cons, List.sum_cons]
    by_cases h : f a % 2 = 1
    · rw [List.filter_cons_of_pos (by simpa using h), List.length_cons]; omega
    · rw [List.filter_cons_of_neg (by simpa using h)]; omega
theorem odds_even {n : Nat} {L : List La} (ok : Ok n L) : (odds n L).length % 2 = 0 := by
  have h1 := sum_deg ok
  have h2 := sum_par (deg L) (List.range n)
  unfold odds
  omega
theorem odd_mem {n : Nat} {L : List La} (ok : Ok n L) {w : Nat} (h : deg L w % 2 = 1) : w ∈ odds n L := by
  unfold odds
  rw [List.mem_filter]
  have := deg_lt ok (u := w) (by omega)
  exact ⟨by simpa using this, by simpa using h⟩
/-- the first walk -/
theorem first_walk {n : Nat} {L : List La} (ok : Ok n L) {row : List Nat} {s : Nat} (h2 : (odds n L).length ≤ 2) (hs : odds n L = [] ∨ s ∈ odds n L) (hn : row.Nodup) (hb : ∀ i ∈ row, i < L.length) (hw : okW L s row) (hm : free L row (endW L s row) = []) : Even L row := by
  have nl : ∀ i ∈ row, (ln L i).1 ≠ (ln L i).2 := fun i hi => (ok _ (by
    have := hb i hi
    simp [ln, this])).2.2
  have key : ∀ w, deg L w = deg (Pn L row) w + (free L row w).length := free_deg hn hb
  have pa := fun w => parity row s w nl hw
  have ev := odds_even ok
  have nd : (odds n L).Nodup := List.filter_sublist.nodup List.nodup_range
  have iff : ∀ w, deg L w % 2 = 1 ↔ w ∈ odds n L := fun w => ⟨odd_mem ok, fun h => by
    have := (List.mem_filter.mp h).2
    simpa using this⟩
  have hv := key (endW L s row)
  rw [hm] at hv
  have pv := pa (endW L s row)
  rw [if_pos rfl] at pv
  intro w
  have kw := key w
  have pw := pa w
  rcases hs with h0 | h0
  · -- all even
    have all : ∀ w, deg L w % 2 = 0 := fun w => by
      have := iff w
      rw [h0] at this
      simp at this
      omega
    have hend : endW L s row = s := by
      apply Classical.byContradiction
      intro hne
      rw [if_neg hne] at pv
      have := all (endW L s row)
      simp at hv
      omega
    rw [hend] at pw
    have := all w
    by_cases hws : w = s
    · rw [if_pos hws] at pw; omega
    · rw [if_neg hws] at pw; omega
  · have hs1 := (iff s).mpr h0
    have hne : endW L s row ≠ s := by
      intro e
      rw [e] at pv hv
      rw [if_pos rfl] at pv
      simp at hv
      omega
    rw [if_neg hne] at pv
    have hv1 : deg L (endW L s row) % 2 = 1 := by simp at hv; omega
    have hvm := (iff _).mp hv1
    -- just these two
    have two : ∀ w, w ∈ odds n L → w = s ∨ w = endW L s row := by
      intro w hwm
      apply Classical.byContradiction
      intro hc
      have : [w, s, endW L s row].Nodup := by
        simp
        refine ⟨⟨fun e => hc (.inl e), fun e => hc (.inr e)⟩, fun e => hne e.symm⟩
      have := this.length_le_of_subset (l₂ := odds n L) (by
        intro x hx
        simp at hx
        rcases hx with rfl | rfl | rfl
        · exact hwm
        · exact h0
        · exact hvm)
      simp at this
      omega
    by_cases hws : w = s
    · subst hws
      rw [if_pos rfl, if_neg (fun e => hne e.symm)] at pw
      omega
    · by_cases hwe : w = endW L s row
      · rw [if_neg hws, if_pos hwe] at pw
        rw [hwe] at kw pw ⊢
        omega
      · rw [if_neg hws, if_neg hwe] at pw
        have : ¬ deg L w % 2 = 1 := fun h => by
          rcases two w ((iff w).mp h) with e | e
          · exact hws e
          · exact hwe e
        omega
/-- nothing free at any house of the walk: it has all lanes -/
theorem all_taken {n : Nat} {L : List La} (ok : Ok n L) (hW : Whole n L) {row : List Nat} {s : Nat} (hs : s < n) (hn : row.Nodup) (hb : ∀ i ∈ row, i < L.length) (hw : okW L s row) (hf : ∀ k, k ≤ row.length → free L row (endW L s (row.take k)) = []) : row.Perm (List.range L.length) := by
  -- the houses of the walk
  have ends : ∀ i ∈ row, ∀ w, ((ln L i).1 = w ∨ (ln L i).2 = w) → ∃ k, k ≤ row.length ∧ endW L s (row.take k) = w := by
    have gen : ∀ (r : List Nat) (u : Nat), (∀ i ∈ r, i < L.length) → okW L u r → ∀ i ∈ r, ∀ w, ((ln L i).1 = w ∨ (ln L i).2 = w) → ∃ k, k ≤ r.length ∧ endW L u (r.take k) = w := by
      intro r
      induction r with
      | nil => intro u _ _ i hi; simp at hi
      | cons j r ih =>
        intro u hb ok' i hi w hiw
        obtain ⟨o1, o2⟩ := ok'
        have nl : (ln L j).1 ≠ (ln L j).2 := (ok _ (by
          have := hb j (List.mem_cons_self ..)
          simp [ln, this])).2.2
        obtain ⟨f1, f2⟩ := far_ne nl o1
        rcases List.mem_cons.mp hi with rfl | hi
        · rcases (f2 w).mp hiw with rfl | rfl
          · exact ⟨0, by simp, rfl⟩
          · exact ⟨1, by simp, rfl⟩
        · obtain ⟨k, hk, e⟩ := ih (far L j u) (fun i hi => hb i (List.mem_cons_of_mem _ hi)) o2 i hi w hiw
          exact ⟨k + 1, by simp; exact hk, by simpa [endW] using e⟩
    exact gen row s hb hw
  let S : Nat → Prop := fun u => ∃ k, k ≤ row.length ∧ endW L s (row.take k) = u
  have at_S : ∀ u, S u → ∀ i, i < L.length → touch L i u = true → i ∈ row := by
    rintro u ⟨k, hk, rfl⟩ i hi ht
    apply Classical.byContradiction
    intro hc
    have : i ∈ free L row (endW L s (row.take k)) := by
      unfold free
      rw [List.mem_filter]
      exact ⟨by simpa using hi, by simp [ht, hc]⟩
    rw [hf k hk] at this
    simp at this
  have prop : ∀ u w, Con L u w → (S u ↔ S w) := by
    intro u w c
    induction c with
    | refl => exact Iff.rfl
    | lane m =>
      rename_i a b
      obtain ⟨i, hi, e⟩ := List.getElem_of_mem m
      have el : ln L i = (a, b) := by simp [ln, hi, e]
      constructor
      · intro h
        have := at_S a h i hi (touch_iff.mpr (by rw [el]; exact .inl rfl))
        exact ends i this b (by rw [el]; exact .inr rfl)
      · intro h
        have := at_S b h i hi (touch_iff.mpr (by rw [el]; exact .inr rfl))
        exact ends i this a (by rw [el]; exact .inl rfl)
    | symm _ ih => exact ih.symm
    | trans _ _ i j => exact i.trans j
  have hS : S s := ⟨0, by simp, rfl⟩
  rw [List.perm_ext_iff_of_nodup hn List.nodup_range]
  intro i
  constructor
  · intro hi; simpa using hb i hi
  · intro hi
    have hi : i < L.length := by simpa using hi
    have hl : (ln L i).1 < n := (ok _ (by simp [ln, hi])).1
    have : S (ln L i).1 := (prop s _ ((hW s hs).symm.trans (hW _ hl))).mp hS
    exact at_S _ this i hi (touch_iff.mpr (.inl rfl))
end Gr

set_option maxRecDepth 100000
/-! Lq: comparing lists of ints. -/
namespace Ev
open PySem L2
theorem beq_dec {α : Type} [BEq α] [LawfulBEq α] [DecidableEq α] (x y : α) : (x == y) = decide (x = y) := by
  by_cases h : x = y <;> simp [h]
@[simp] theorem dCmp_eqInts (xs ys : List Int) : dCmp .eq (.list (xs.map .int)) (.list (ys.map .int)) = some (decide (xs = ys)) := by
  rw [dCmp_eq, gd_pos (by simp), eqv_ints, beq_dec]
@[simp] theorem dCmp_neInts (xs ys : List Int) : dCmp .ne (.list (xs.map .int)) (.list (ys.map .int)) = some (!decide (xs = ys)) := by
  rw [dCmp_ne, gd_pos (by simp), eqv_ints, beq_dec]
@[simp] theorem dCmp_eqIntsT (xs ys : List Int) : dCmp .eq (.tuple (xs.map .int)) (.tuple (ys.map .int)) = some (decide (xs = ys)) := by
  rw [dCmp_eq, gd_pos (by simp), eqv_intsT, beq_dec]
@[simp] theorem dCmp_neIntsT (xs ys : List Int) : dCmp .ne (.tuple (xs.map .int)) (.tuple (ys.map .int)) = some (!decide (xs = ys)) := by
  rw [dCmp_ne, gd_pos (by simp), eqv_intsT, beq_dec]
theorem nats_inj {xs ys : List Nat} : (xs.map fun (i : Nat) => (i : Int)) = (ys.map fun (i : Nat) => (i : Int)) ↔ xs = ys := by
  constructor
  · intro h
    have := congrArg (List.map Int.toNat) h
    simpa [List.map_map, Function.comp_def] using this
  · rintro rfl; rfl
theorem dCmp_eqNats (xs ys : List Nat) : dCmp .eq (.list (xs.map natD)) (.list (ys.map natD)) = some (decide (xs = ys)) := by
  rw [natD_map, natD_map, dCmp_eqInts]
  simp only [nats_inj]
theorem dCmp_neNats (xs ys : List Nat) : dCmp .ne (.list (xs.map natD)) (.list (ys.map natD)) = some (!decide (xs = ys)) := by
  rw [natD_map, natD_map, dCmp_neInts]
  simp only [nats_inj]
@[simp] theorem dCmp_eqIntsNil (xs : List D) : dCmp .eq (.list xs) (.list []) = gd (SeqAt.shaped (.list xs) = true) (some xs.isEmpty) := by
  rw [dCmp_eq, eqv_nilL]
  simp
@[simp] theorem dCmp_neIntsNil (xs : List D) : dCmp .ne (.list xs) (.list []) = gd (SeqAt.shaped (.list xs) = true) (some (!xs.isEmpty)) := by
  rw [dCmp_ne, eqv_nilL]
  simp
@[simp high] theorem min2_nat (a b : Nat) : dBlt .min2 [.int (a : Int), .int (b : Int)] = some (.fr (.int ((min a b : Nat) : Int))) := by
  rw [dBlt_min2]
  congr 3
  by_cases h : (b : Int) < a
  · rw [if_pos h]; omega
  · rw [if_neg h]; omega
@[simp high] theorem max2_nat (a b : Nat) : dBlt .max2 [.int (a : Int), .int (b : Int)] = some (.fr (.int ((max a b : Nat) : Int))) := by
  rw [dBlt_max2]
  congr 3
  by_cases h : (b : Int) > a
  · rw [if_pos h]; omega
  · rw [if_neg h]; omega
end Ev

set_option maxRecDepth 100000
/-! the defs of lendland_k89_whole_colours_of_lanes, printed by pyir.py -/
namespace K89
open Ev
def b_is_lane_colouring : Ev.Ss := (.cons (.ife (.or (.cmp .ne (.len (.var 1)) (.len (.idx (.var 0) (.int 1)))) (.no (.blt .all (.cons (.comp (.cmp2 .le .lt (.int 0) (.var 6) (.var 2)) (.name 6) (.seq (.var 1)) .none [6]) .nil)))) (.cons (.ret (.bl false))
    .nil) .nil)
    (.cons (.forr (.tup (.cons (.name 3) (.cons (.name 4) .nil))) (.enm (.idx (.var 0) (.int 1))) (.cons (.forr (.name 5) (.rng1 (.var 3)) (.cons (.ife (.and (.cmp .eq (.idx (.var 1) (.var 5)) (.idx (.var 1) (.var 3))) (.or (.cmp .inn (.idx (.var 4) (.int 0)) (.idx (.idx (.var 0) (.int 1)) (.var 5))) (.cmp .inn (.idx (.var 4) (.int 1)) (.idx (.idx (.var 0) (.int 1)) (.var 5))))) (.cons (.ret (.bl false))
    .nil) .nil)
    .nil))
    .nil))
    (.cons (.ret (.bl true))
    .nil)))
def d_is_lane_colouring : Ev.Def := ⟨"is_lane_colouring", 1, [.B, .B, .I], ["town", "row", "colours", "number", "lane", "other", "colour"], b_is_lane_colouring⟩
def b_lane_colouring : Ev.Ss := (.cons (.asg (.name 2) (.lst (.cons (.tup .nil) .nil)))
    (.cons (.whl 10715086071862673209484250490600018105614048117055336074437503883703510511249361224931983788156958581275946729175531468251871452856923140435984577574698574803934567774824230985421074605062371141877954182153046474983581941267398767559165543946077062914571196477686542167660429831652624386837205668069376 (.cmp .gt (.len (.var 2)) (.int 0)) (.cons (.asg (.name 3) (.chg .pop 2 .nil))
    (.cons (.ife (.cmp .eq (.len (.var 3)) (.len (.idx (.var 0) (.int 1)))) (.cons (.ret (.var 3))
    .nil) .nil)
    (.cons (.asg (.name 4) (.idx (.idx (.var 0) (.int 1)) (.len (.var 3))))
    (.cons (.asg (.name 5) (.comp (.idx (.var 3) (.var 6)) (.name 6) (.rng1 (.len (.var 3))) (.some (.or (.cmp .inn (.idx (.var 4) (.int 0)) (.idx (.idx (.var 0) (.int 1)) (.var 6))) (.cmp .inn (.idx (.var 4) (.int 1)) (.idx (.idx (.var 0) (.int 1)) (.var 6))))) [6]))
    (.cons (.ex (.chg .extend 2 (.cons (.comp (.bin .add (.var 3) (.tup (.cons (.var 7) .nil))) (.name 7) (.rrng1 (.var 1)) (.some (.cmp .nin (.var 7) (.var 5))) [7]) .nil)))
    .nil))))))
    (.cons (.ret .non)
    .nil)))
def d_lane_colouring : Ev.Def := ⟨"lane_colouring", 2, [.B, .I], ["town", "colours", "waiting", "row", "lane", "near", "other", "colour"], b_lane_colouring⟩
def b_least_lane_colours : Ev.Ss := (.cons (.asg (.name 1) (.int 0))
    (.cons (.whl 10715086071862673209484250490600018105614048117055336074437503883703510511249361224931983788156958581275946729175531468251871452856923140435984577574698574803934567774824230985421074605062371141877954182153046474983581941267398767559165543946077062914571196477686542167660429831652624386837205668069376 (.cmp .is (.call "lane_colouring" (.cons (.var 0) (.cons (.var 1) .nil))) .non) (.cons (.aug .add 1 (.int 1))
    .nil))
    (.cons (.ret (.var 1))
    .nil)))
def d_least_lane_colours : Ev.Def := ⟨"least_lane_colours", 3, [.B], ["town", "many"], b_least_lane_colours⟩
def b_u_law_cell : Ev.Ss := (.cons (.ife (.cmp .lt (.var 1) (.len (.var 0))) (.cons (.ret (.idx (.var 0) (.var 1)))
    .nil) .nil)
    (.cons (.ret (.int 0))
    .nil))
def d_u_law_cell : Ev.Def := ⟨"_law_cell", 5, [.B, .I], ["script", "k"], b_u_law_cell⟩
def b_u_law_digits : Ev.Ss := (.cons (.asg (.name 3) (.lst .nil))
    (.cons (.forr (.name 4) (.rng2 (.var 1) (.var 2)) (.cons (.asg (.name 5) (.call "_law_cell" (.cons (.var 0) (.cons (.var 4) .nil))))
    (.cons (.ife (.cmp .lt (.var 5) (.int 0)) (.cons (.asg (.name 5) (.bin .sub (.int 1) (.bin .mul (.int 2) (.var 5))))
    .nil) .nil)
    (.cons (.ife (.cmp .ge (.var 5) (.bin .pow (.int 10) (.int 18))) (.cons (.forr (.name 6) (.rng1 (.int 60)) (.cons (.ife (.cmp .gt (.var 5) (.int 0)) (.cons (.ex (.chg .append 3 (.cons (.bin .mod (.blt .int (.cons (.var 5) .nil)) (.int 1000)) .nil)))
    (.cons (.asg (.name 5) (.bin .fdiv (.var 5) (.int 1000)))
    .nil)) .nil)
    .nil))
    .nil) (.cons (.asg (.name 7) (.bin .mod (.blt .int (.cons (.bin .add (.bin .add (.bin .mul (.var 5) (.int 48271)) (.bin .mul (.var 4) (.int 69621))) (.int 11)) .nil)) (.int 2147483647)))
    (.cons (.forr (.name 6) (.rng1 (.int 12)) (.cons (.asg (.name 7) (.bin .mod (.blt .int (.cons (.bin .add (.bin .add (.bin .mul (.var 7) (.int 16807)) (.bin .mul (.int 7) (.var 6))) (.int 1)) .nil)) (.int 2147483647)))
    (.cons (.ex (.chg .append 3 (.cons (.bin .mod (.blt .int (.cons (.bin .fdiv (.var 7) (.int 997)) .nil)) (.int 1000)) .nil)))
    .nil)))
    .nil)))
    .nil))))
    (.cons (.ret (.var 3))
    .nil)))
def d_u_law_digits : Ev.Def := ⟨"_law_digits", 6, [.B, .I, .I], ["script", "first", "last", "digits", "k", "cell", "turn", "seed"], b_u_law_digits⟩
def b_u_law_draw : Ev.Ss := (.cons (.setIx 0 (.int 1) (.bin .add (.idx (.var 0) (.int 1)) (.int 1)))
    (.cons (.ife (.cmp .gt (.idx (.var 0) (.int 1)) (.len (.idx (.var 0) (.int 0)))) (.cons (.ret (.bin .mod (.blt .int (.cons (.bin .add (.bin .mul (.idx (.var 0) (.int 1)) (.int 7)) (.int 3)) .nil)) (.var 1)))
    .nil) .nil)
    (.cons (.ret (.bin .mod (.blt .int (.cons (.idx (.idx (.var 0) (.int 0)) (.bin .sub (.idx (.var 0) (.int 1)) (.int 1))) .nil)) (.var 1)))
    .nil)))
def d_u_law_draw : Ev.Def := ⟨"_law_draw", 7, [.M, .B], ["box", "many"], b_u_law_draw⟩
def b_u_law_pick : Ev.Ss := (.cons (.ret (.idx (.var 1) (.bin .mod (.blt .int (.cons (.call "_law_draw" (.cons (.var 0) (.cons (.int 1000) .nil))) .nil)) (.len (.var 1)))))
    .nil)
def d_u_law_pick : Ev.Def := ⟨"_law_pick", 8, [.M, .B], ["box", "row"], b_u_law_pick⟩
def b_u_law_mixed : Ev.Ss := (.cons (.asg (.name 2) (.blt .list (.cons (.var 1) .nil)))
    (.cons (.asg (.name 3) (.lst .nil))
    (.cons (.forr (.name 4) (.rng1 (.len (.var 1))) (.cons (.ex (.chg .append 3 (.cons (.chg .popAt 2 (.cons (.bin .mod (.blt .int (.cons (.call "_law_draw" (.cons (.var 0) (.cons (.int 1000) .nil))) .nil)) (.len (.var 2))) .nil)) .nil)))
    .nil))
    (.cons (.ret (.var 3))
    .nil))))
def d_u_law_mixed : Ev.Def := ⟨"_law_mixed", 9, [.M, .B], ["box", "row", "left", "found", "k"], b_u_law_mixed⟩
def b_u_law_town : Ev.Ss := (.cons (.asg (.name 3) (.call "_law_mixed" (.cons (.var 0) (.cons (.rngs false (.rng1 (.var 1))) .nil))))
    (.cons (.asg (.name 4) (.lst .nil))
    (.cons (.forr (.name 5) (.rng2 (.int 1) (.var 1)) (.cons (.asg (.name 6) (.call "_law_draw" (.cons (.var 0) (.cons (.var 5) .nil))))
    (.cons (.ex (.chg .append 4 (.cons (.tup (.cons (.blt .min2 (.cons (.idx (.var 3) (.var 5)) (.cons (.idx (.var 3) (.var 6)) .nil))) (.cons (.blt .max2 (.cons (.idx (.var 3) (.var 5)) (.cons (.idx (.var 3) (.var 6)) .nil))) .nil))) .nil)))
    .nil)))
    (.cons (.ife (.cmp .gt (.var 1) (.int 1)) (.cons (.forr (.name 7) (.rng1 (.call "_law_draw" (.cons (.var 0) (.cons (.bin .add (.var 2) (.int 1)) .nil)))) (.cons (.asg (.name 8) (.call "_law_draw" (.cons (.var 0) (.cons (.var 1) .nil))))
    (.cons (.asg (.name 6) (.bin .mod (.blt .int (.cons (.bin .add (.bin .add (.var 8) (.int 1)) (.call "_law_draw" (.cons (.var 0) (.cons (.bin .sub (.var 1) (.int 1)) .nil)))) .nil)) (.var 1)))
    (.cons (.ex (.chg .append 4 (.cons (.tup (.cons (.blt .min2 (.cons (.var 8) (.cons (.var 6) .nil))) (.cons (.blt .max2 (.cons (.var 8) (.cons (.var 6) .nil))) .nil))) .nil)))
    .nil))))
    .nil) .nil)
    (.cons (.ret (.tup (.cons (.var 1) (.cons (.blt .tuple (.cons (.call "_law_mixed" (.cons (.var 0) (.cons (.var 4) .nil))) .nil)) .nil))))
    .nil)))))
def d_u_law_town : Ev.Def := ⟨"_law_town", 10, [.M, .I, .B], ["box", "many", "extra", "names", "lanes", "house", "other", "turn", "one"], b_u_law_town⟩
def b_u_law_same : Ev.Ss := (.cons (.ife (.cmp .is (.var 1) .non) (.cons (.ret (.cmp .is (.var 0) .non))
    .nil) .nil)
    (.cons (.ife (.cmp .is (.var 1) (.bl true)) (.cons (.ret (.cmp .is (.var 0) (.bl true)))
    .nil) .nil)
    (.cons (.ife (.cmp .is (.var 1) (.bl false)) (.cons (.ret (.cmp .is (.var 0) (.bl false)))
    .nil) .nil)
    (.cons (.ife (.isi (.var 1) .str) (.cons (.ret (.and (.isi (.var 0) .str) (.cmp .eq (.blt .repr (.cons (.var 0) .nil)) (.blt .repr (.cons (.var 1) .nil)))))
    .nil) .nil)
    (.cons (.ife (.isi (.var 1) .int) (.cons (.ret (.and (.isi (.var 0) .int) (.and (.no (.isi (.var 0) .bool)) (.cmp .eq (.blt .repr (.cons (.var 0) .nil)) (.blt .repr (.cons (.var 1) .nil))))))
    .nil) .nil)
    (.cons (.ife (.or (.and (.isi (.var 1) .tuple) (.no (.isi (.var 0) .tuple))) (.and (.isi (.var 1) .list) (.no (.isi (.var 0) .list)))) (.cons (.ret (.bl false))
    .nil) .nil)
    (.cons (.ife (.cmp .ne (.len (.var 0)) (.len (.var 1))) (.cons (.ret (.bl false))
    .nil) .nil)
    (.cons (.forr (.name 2) (.rng1 (.len (.var 1))) (.cons (.ife (.no (.call "_law_same" (.cons (.idx (.var 0) (.var 2)) (.cons (.idx (.var 1) (.var 2)) .nil)))) (.cons (.ret (.bl false))
    .nil) .nil)
    .nil))
    (.cons (.ret (.bl true))
    .nil)))))))))
def d_u_law_same : Ev.Def := ⟨"_law_same", 11, [.B, .B], ["told", "due", "k"], b_u_law_same⟩
def b_u_law_lanes : Ev.Ss := (.cons (.asg (.name 2) (.int 0))
    (.cons (.forr (.name 3) (.seq (.idx (.var 0) (.int 1))) (.cons (.ife (.cmp .inn (.var 1) (.var 3)) (.cons (.asg (.name 2) (.bin .add (.var 2) (.int 1)))
    .nil) .nil)
    .nil))
    (.cons (.ret (.var 2))
    .nil)))
def d_u_law_lanes : Ev.Def := ⟨"_law_lanes", 12, [.B, .B], ["town", "house", "many", "lane"], b_u_law_lanes⟩
def b_u_law_twos : Ev.Ss := (.cons (.asg (.name 1) (.lst (.cons (.int 1) .nil)))
    (.cons (.forr (.name 2) (.rng1 (.var 0)) (.cons (.ex (.chg .append 1 (.cons (.bin .mul (.idx (.var 1) (.neg (.int 1))) (.int 2)) .nil)))
    .nil))
    (.cons (.ret (.var 1))
    .nil)))
def d_u_law_twos : Ev.Def := ⟨"_law_twos", 13, [.I], ["many", "found", "house"], b_u_law_twos⟩
def b_u_law_matches : Ev.Ss := (.cons (.asg (.name 1) (.lst (.cons (.tup .nil) .nil)))
    (.cons (.forr (.name 2) (.rng1 (.len (.idx (.var 0) (.int 1)))) (.cons (.asg (.tup (.cons (.name 5) (.cons (.name 6) .nil))) (.idx (.idx (.var 0) (.int 1)) (.var 2)))
    (.cons (.asg (.name 3) (.lst .nil))
    (.cons (.forr (.name 4) (.seq (.var 1)) (.cons (.ife (.cmp .eq (.comp (.var 7) (.name 7) (.seq (.var 4)) (.some (.or (.cmp .inn (.var 5) (.idx (.idx (.var 0) (.int 1)) (.var 7))) (.cmp .inn (.var 6) (.idx (.idx (.var 0) (.int 1)) (.var 7))))) [7]) (.lst .nil)) (.cons (.ex (.chg .append 3 (.cons (.bin .add (.var 4) (.tup (.cons (.var 2) .nil))) .nil)))
    .nil) .nil)
    .nil))
    (.cons (.asg (.name 1) (.bin .add (.var 1) (.var 3)))
    .nil)))))
    (.cons (.ret (.var 1))
    .nil)))
def d_u_law_matches : Ev.Def := ⟨"_law_matches", 14, [.B], ["town", "rows", "number", "more", "row", "one", "other", "k"], b_u_law_matches⟩
def b_u_law_small : Ev.Ss := (.cons (.asg (.name 1) (.call "_law_pick" (.cons (.var 0) (.cons (.lst (.cons (.int 4) (.cons (.int 3) (.cons (.int 2) (.cons (.int 5) (.cons (.int 4) (.cons (.int 1) (.cons (.int 3) .nil)))))))) .nil))))
    (.cons (.ife (.cmp .eq (.var 1) (.int 2)) (.cons (.ret (.tup (.cons (.int 2) (.cons (.blt .tuple (.cons (.comp (.tup (.cons (.int 0) (.cons (.int 1) .nil))) (.name 2) (.rng1 (.bin .add (.int 1) (.call "_law_draw" (.cons (.var 0) (.cons (.int 6) .nil))))) .none [2]) .nil)) .nil))))
    .nil) .nil)
    (.cons (.ret (.call "_law_town" (.cons (.var 0) (.cons (.var 1) (.cons (.blt .min2 (.cons (.int 3) (.cons (.bin .sub (.int 7) (.var 1)) .nil))) .nil)))))
    .nil)))
def d_u_law_small : Ev.Def := ⟨"_law_small", 15, [.M], ["box", "many", "lane"], b_u_law_small⟩
def b_u_law_great : Ev.Ss := (.cons (.asg (.name 1) (.call "_law_mixed" (.cons (.var 0) (.cons (.rngs false (.rng1 (.int 6))) .nil))))
    (.cons (.asg (.name 2) (.bin .add (.comp (.tup (.cons (.var 7) (.cons (.bin .add (.var 7) (.int 1)) .nil))) (.name 7) (.rng1 (.int 5)) .none [7]) (.lst (.cons (.tup (.cons (.int 0) (.cons (.int 5) .nil))) .nil))))
    (.cons (.forr (.name 3) (.rng1 (.bin .add (.int 1) (.call "_law_draw" (.cons (.var 0) (.cons (.int 3) .nil))))) (.cons (.asg (.name 5) (.bin .mul (.int 2) (.call "_law_draw" (.cons (.var 0) (.cons (.int 3) .nil)))))
    (.cons (.asg (.name 6) (.bin .add (.int 1) (.bin .mul (.int 2) (.call "_law_draw" (.cons (.var 0) (.cons (.int 3) .nil))))))
    (.cons (.ife (.and (.cmp .lt (.pcall "_law_lanes" (.cons (.tup (.cons (.int 6) (.cons (.var 2) .nil))) (.cons (.var 5) .nil))) (.int 4)) (.cmp .lt (.pcall "_law_lanes" (.cons (.tup (.cons (.int 6) (.cons (.var 2) .nil))) (.cons (.var 6) .nil))) (.int 4))) (.cons (.ex (.chg .append 2 (.cons (.tup (.cons (.var 5) (.cons (.var 6) .nil))) .nil)))
    .nil) .nil)
    .nil))))
    (.cons (.asg (.name 4) (.comp (.tup (.cons (.blt .min2 (.cons (.idx (.var 1) (.var 5)) (.cons (.idx (.var 1) (.var 6)) .nil))) (.cons (.blt .max2 (.cons (.idx (.var 1) (.var 5)) (.cons (.idx (.var 1) (.var 6)) .nil))) .nil))) (.tup (.cons (.name 5) (.cons (.name 6) .nil))) (.seq (.var 2)) .none [5, 6]))
    (.cons (.ret (.tup (.cons (.int 6) (.cons (.blt .tuple (.cons (.call "_law_mixed" (.cons (.var 0) (.cons (.var 4) .nil))) .nil)) .nil))))
    .nil)))))
def d_u_law_great : Ev.Def := ⟨"_law_great", 16, [.M], ["box", "names", "lanes", "turn", "ends", "one", "other", "house"], b_u_law_great⟩
def b_u_law_meet : Ev.Ss := (.cons (.ret (.or (.cmp .inn (.idx (.idx (.idx (.var 0) (.int 1)) (.var 1)) (.int 0)) (.idx (.idx (.var 0) (.int 1)) (.var 2))) (.cmp .inn (.idx (.idx (.idx (.var 0) (.int 1)) (.var 1)) (.int 1)) (.idx (.idx (.var 0) (.int 1)) (.var 2)))))
    .nil)
def d_u_law_meet : Ev.Def := ⟨"_law_meet", 17, [.B, .I, .I], ["town", "one", "other"], b_u_law_meet⟩
def b_u_law_proper : Ev.Ss := (.cons (.ife (.cmp .ne (.len (.var 1)) (.len (.idx (.var 0) (.int 1)))) (.cons (.ret (.bl false))
    .nil) .nil)
    (.cons (.forr (.name 3) (.rng1 (.len (.var 1))) (.cons (.ife (.no (.cmp2 .le .lt (.int 0) (.idx (.var 1) (.var 3)) (.var 2))) (.cons (.ret (.bl false))
    .nil) .nil)
    (.cons (.forr (.name 4) (.rng1 (.var 3)) (.cons (.ife (.and (.cmp .eq (.idx (.var 1) (.var 3)) (.idx (.var 1) (.var 4))) (.call "_law_meet" (.cons (.var 0) (.cons (.var 3) (.cons (.var 4) .nil))))) (.cons (.ret (.bl false))
    .nil) .nil)
    .nil))
    .nil)))
    (.cons (.ret (.bl true))
    .nil)))
def d_u_law_proper : Ev.Def := ⟨"_law_proper", 18, [.B, .B, .I], ["town", "row", "colours", "one", "other"], b_u_law_proper⟩
def b_u_law_least : Ev.Ss := (.cons (.asg (.name 1) (.len (.idx (.var 0) (.int 1))))
    (.cons (.asg (.name 2) (.call "_law_twos" (.cons (.var 1) .nil)))
    (.cons (.asg (.name 3) (.comp (.blt .sum (.cons (.comp (.idx (.var 2) (.var 10)) (.name 10) (.seq (.var 9)) .none [10]) .nil)) (.name 9) (.seq (.call "_law_matches" (.cons (.var 0) .nil))) (.some (.cmp .ne (.var 9) (.tup .nil))) [9]))
    (.cons (.asg (.name 4) (.lst (.cons (.int 0) .nil)))
    (.cons (.forr (.name 5) (.rng2 (.int 1) (.idx (.var 2) (.var 1))) (.cons (.asg (.name 6) (.idx (.comp (.var 10) (.name 10) (.rng1 (.var 1)) (.some (.cmp .eq (.bin .mod (.blt .int (.cons (.bin .fdiv (.var 5) (.idx (.var 2) (.var 10))) .nil)) (.int 2)) (.int 1))) [10]) (.int 0)))
    (.cons (.asg (.name 7) (.var 1))
    (.cons (.forr (.name 8) (.seq (.var 3)) (.cons (.ife (.and (.cmp .eq (.bin .mod (.blt .int (.cons (.bin .fdiv (.var 8) (.idx (.var 2) (.var 6))) .nil)) (.int 2)) (.int 1)) (.call "_law_within" (.cons (.var 8) (.cons (.var 5) (.cons (.var 2) .nil))))) (.cons (.asg (.name 7) (.blt .min2 (.cons (.var 7) (.cons (.bin .add (.int 1) (.idx (.var 4) (.bin .sub (.var 5) (.var 8)))) .nil))))
    .nil) .nil)
    .nil))
    (.cons (.ex (.chg .append 4 (.cons (.var 7) .nil)))
    .nil)))))
    (.cons (.ret (.idx (.var 4) (.neg (.int 1))))
    .nil))))))
def d_u_law_least : Ev.Def := ⟨"_law_least", 19, [.B], ["town", "lanes", "twos", "codes", "best", "code", "first", "least", "part", "row", "number"], b_u_law_least⟩
def b_u_law_within : Ev.Ss := (.cons (.forr (.name 3) (.rng1 (.len (.var 2))) (.cons (.ife (.cmp .gt (.bin .mod (.blt .int (.cons (.bin .fdiv (.var 0) (.idx (.var 2) (.var 3))) .nil)) (.int 2)) (.bin .mod (.blt .int (.cons (.bin .fdiv (.var 1) (.idx (.var 2) (.var 3))) .nil)) (.int 2))) (.cons (.ret (.bl false))
    .nil) .nil)
    .nil))
    (.cons (.ret (.bl true))
    .nil))
def d_u_law_within : Ev.Def := ⟨"_law_within", 20, [.B, .B, .B], ["part", "code", "twos", "k"], b_u_law_within⟩
def b_u_law_first : Ev.Ss := (.cons (.asg (.name 2) (.lst .nil))
    (.cons (.asg (.name 3) (.int 0))
    (.cons (.forr (.name 4) (.rng1 (.int 9000)) (.cons (.ife (.cmp .eq (.len (.var 2)) (.len (.idx (.var 0) (.int 1)))) (.cons (.ret (.blt .tuple (.cons (.var 2) .nil)))
    .nil) .nil)
    (.cons (.asg (.name 5) (.comp (.var 6) (.name 6) (.rng2 (.var 3) (.var 1)) (.some (.call "_law_free" (.cons (.var 0) (.cons (.var 2) (.cons (.var 6) .nil))))) [6]))
    (.cons (.ife (.cmp .ne (.var 5) (.lst .nil)) (.cons (.ex (.chg .append 2 (.cons (.idx (.var 5) (.int 0)) .nil)))
    (.cons (.asg (.name 3) (.int 0))
    .nil)) (.cons (.ife (.cmp .eq (.var 2) (.lst .nil)) (.cons (.ret .non)
    .nil) (.cons (.asg (.name 3) (.bin .add (.chg .pop 2 .nil) (.int 1)))
    .nil))
    .nil))
    .nil))))
    (.cons (.ret .non)
    .nil))))
def d_u_law_first : Ev.Def := ⟨"_law_first", 21, [.B, .I], ["town", "colours", "row", "least", "turn", "fit", "colour"], b_u_law_first⟩
def b_u_law_free : Ev.Ss := (.cons (.ret (.cmp .eq (.comp (.var 3) (.name 3) (.rng1 (.len (.var 1))) (.some (.and (.cmp .eq (.idx (.var 1) (.var 3)) (.var 2)) (.call "_law_meet" (.cons (.var 0) (.cons (.var 3) (.cons (.len (.var 1)) .nil)))))) [3]) (.lst .nil)))
    .nil)
def d_u_law_free : Ev.Def := ⟨"_law_free", 22, [.B, .B, .B], ["town", "row", "colour", "k"], b_u_law_free⟩
def b_u_law_bent : Ev.Ss := (.cons (.asg (.name 4) (.blt .list (.cons (.var 1) .nil)))
    (.cons (.asg (.name 5) (.call "_law_draw" (.cons (.var 0) (.cons (.bin .add (.len (.var 1)) (.int 1)) .nil))))
    (.cons (.ife (.and (.cmp .eq (.var 3) (.int 1)) (.cmp .lt (.var 5) (.len (.var 1)))) (.cons (.setIx 4 (.var 5) (.call "_law_draw" (.cons (.var 0) (.cons (.var 2) .nil))))
    .nil) (.cons (.ife (.and (.cmp .eq (.var 3) (.int 2)) (.cmp .lt (.var 5) (.len (.var 1)))) (.cons (.setIx 4 (.var 5) (.call "_law_pick" (.cons (.var 0) (.cons (.lst (.cons (.var 2) (.cons (.neg (.int 1)) (.cons (.bin .add (.var 2) (.int 3)) .nil)))) .nil))))
    .nil) (.cons (.ife (.cmp .eq (.var 3) (.int 3)) (.cons (.ex (.chg .insert 4 (.cons (.var 5) (.cons (.call "_law_draw" (.cons (.var 0) (.cons (.bin .add (.var 2) (.int 1)) .nil))) .nil))))
    .nil) (.cons (.ife (.and (.cmp .eq (.var 3) (.int 4)) (.cmp .lt (.var 5) (.len (.var 1)))) (.cons (.ex (.chg .popAt 4 (.cons (.var 5) .nil)))
    .nil) (.cons (.ife (.and (.cmp .eq (.var 3) (.int 5)) (.cmp .lt (.var 5) (.len (.var 1)))) (.cons (.setIx 4 (.var 5) (.idx (.var 4) (.bin .sub (.var 5) (.int 1))))
    .nil) (.cons (.ife (.cmp .eq (.var 3) (.int 6)) (.cons (.asg (.name 4) (.comp (.bin .sub (.bin .add (.bin .add (.var 6) (.int 1)) (.var 5)) (.ite (.cmp .ge (.bin .add (.bin .add (.var 6) (.int 1)) (.var 5)) (.var 2)) (.var 2) (.int 0))) (.name 6) (.seq (.var 4)) .none [6]))
    .nil) .nil)
    .nil))
    .nil))
    .nil))
    .nil))
    .nil))
    (.cons (.ret (.blt .tuple (.cons (.var 4) .nil)))
    .nil))))
def d_u_law_bent : Ev.Def := ⟨"_law_bent", 23, [.M, .B, .I, .B], ["box", "row", "colours", "which", "found", "at", "colour"], b_u_law_bent⟩
def b_u_law_judged : Ev.Ss := (.cons (.forr (.name 4) (.rng1 (.int 7)) (.cons (.asg (.name 5) (.call "_law_bent" (.cons (.var 0) (.cons (.var 2) (.cons (.var 3) (.cons (.var 4) .nil))))))
    (.cons (.forr (.name 6) (.seq (.lst (.cons (.var 3) (.cons (.bin .add (.var 3) (.int 1)) (.cons (.blt .max2 (.cons (.bin .sub (.var 3) (.int 1)) (.cons (.int 0) .nil))) .nil))))) (.cons (.ife (.no (.call "_law_same" (.cons (.call "is_lane_colouring" (.cons (.var 1) (.cons (.var 5) (.cons (.var 6) .nil)))) (.cons (.call "_law_proper" (.cons (.var 1) (.cons (.var 5) (.cons (.var 6) .nil)))) .nil)))) (.cons (.ret (.bl false))
    .nil) .nil)
    .nil))
    .nil)))
    (.cons (.ret (.bl true))
    .nil))
def d_u_law_judged : Ev.Def := ⟨"_law_judged", 24, [.M, .B, .B, .I], ["box", "town", "row", "colours", "which", "bent", "many"], b_u_law_judged⟩
def b_u_law_large : Ev.Ss := (.cons (.asg (.name 2) (.blt .max (.cons (.comp (.call "_law_lanes" (.cons (.var 1) (.cons (.var 4) .nil))) (.name 4) (.rng1 (.idx (.var 1) (.int 0))) .none [4]) .nil)))
    (.cons (.asg (.name 3) (.call "lane_colouring" (.cons (.var 1) (.cons (.var 2) .nil))))
    (.cons (.ife (.no (.isi (.var 3) .tuple)) (.cons (.ret (.bl false))
    .nil) .nil)
    (.cons (.ife (.cmp .ne (.comp (.var 5) (.name 5) (.seq (.var 3)) (.some (.or (.isi (.var 5) .bool) (.no (.isi (.var 5) .int)))) [5]) (.lst .nil)) (.cons (.ret (.bl false))
    .nil) .nil)
    (.cons (.ife (.or (.no (.call "_law_proper" (.cons (.var 1) (.cons (.var 3) (.cons (.var 2) .nil))))) (.no (.call "_law_judged" (.cons (.var 0) (.cons (.var 1) (.cons (.blt .tuple (.cons (.blt .list (.cons (.var 3) .nil)) .nil)) (.cons (.var 2) .nil))))))) (.cons (.ret (.bl false))
    .nil) .nil)
    (.cons (.ret (.call "_law_same" (.cons (.call "least_lane_colours" (.cons (.var 1) .nil)) (.cons (.var 2) .nil))))
    .nil))))))
def d_u_law_large : Ev.Def := ⟨"_law_large", 25, [.M, .B], ["box", "town", "most", "told", "house", "colour"], b_u_law_large⟩
def b_law : Ev.Ss := (.cons (.asg (.name 1) (.lst (.cons (.call "_law_digits" (.cons (.var 0) (.cons (.int 0) (.cons (.int 16) .nil)))) (.cons (.int 0) .nil))))
    (.cons (.ife (.cmp .eq (.call "_law_draw" (.cons (.var 1) (.cons (.int 12) .nil))) (.int 0)) (.cons (.ret (.call "_law_large" (.cons (.var 1) (.cons (.call "_law_great" (.cons (.var 1) .nil)) .nil))))
    .nil) .nil)
    (.cons (.asg (.name 2) (.call "_law_small" (.cons (.var 1) .nil)))
    (.cons (.asg (.name 3) (.int 0))
    (.cons (.ife (.cmp .ne (.idx (.var 2) (.int 1)) (.tup .nil)) (.cons (.asg (.name 3) (.call "_law_least" (.cons (.var 2) .nil)))
    .nil) .nil)
    (.cons (.ife (.no (.call "_law_same" (.cons (.call "least_lane_colours" (.cons (.var 2) .nil)) (.cons (.var 3) .nil)))) (.cons (.ret (.bl false))
    .nil) .nil)
    (.cons (.asg (.name 4) (.call "_law_first" (.cons (.var 2) (.cons (.var 3) .nil))))
    (.cons (.ife (.or (.no (.call "_law_judged" (.cons (.var 1) (.cons (.var 2) (.cons (.var 4) (.cons (.var 3) .nil)))))) (.no (.call "_law_same" (.cons (.call "lane_colouring" (.cons (.var 2) (.cons (.var 3) .nil))) (.cons (.var 4) .nil))))) (.cons (.ret (.bl false))
    .nil) .nil)
    (.cons (.ife (.and (.cmp .gt (.var 3) (.int 0)) (.no (.call "_law_same" (.cons (.call "lane_colouring" (.cons (.var 2) (.cons (.bin .sub (.var 3) (.int 1)) .nil))) (.cons .non .nil))))) (.cons (.ret (.bl false))
    .nil) .nil)
    (.cons (.asg (.name 5) (.call "_law_first" (.cons (.var 2) (.cons (.bin .add (.var 3) (.int 1)) .nil))))
    (.cons (.ret (.and (.call "_law_same" (.cons (.call "lane_colouring" (.cons (.var 2) (.cons (.bin .add (.var 3) (.int 1)) .nil))) (.cons (.var 5) .nil))) (.call "_law_judged" (.cons (.var 1) (.cons (.var 2) (.cons (.var 5) (.cons (.bin .add (.var 3) (.int 1)) .nil)))))))
    .nil)))))))))))
def d_law : Ev.Def := ⟨"law", 26, [.B], ["script", "box", "town", "least", "row", "further"], b_law⟩
def T : Ev.Tab := [d_is_lane_colouring, d_lane_colouring, d_least_lane_colours, d_u_law_cell, d_u_law_digits, d_u_law_draw, d_u_law_pick, d_u_law_mixed, d_u_law_town, d_u_law_same, d_u_law_lanes, d_u_law_twos, d_u_law_matches, d_u_law_small, d_u_law_great, d_u_law_meet, d_u_law_proper, d_u_law_least, d_u_law_within, d_u_law_first, d_u_law_free, d_u_law_bent, d_u_law_judged, d_u_law_large, d_law]
theorem find_is_lane_colouring : Ev.find T "is_lane_colouring" = some d_is_lane_colouring := rfl
theorem find_lane_colouring : Ev.find T "lane_colouring" = some d_lane_colouring := rfl
theorem find_least_lane_colours : Ev.find T "least_lane_colours" = some d_least_lane_colours := rfl
theorem find_u_law_cell : Ev.find T "_law_cell" = some d_u_law_cell := rfl
theorem find_u_law_digits : Ev.find T "_law_digits" = some d_u_law_digits := rfl
theorem find_u_law_draw : Ev.find T "_law_draw" = some d_u_law_draw := rfl
theorem find_u_law_pick : Ev.find T "_law_pick" = some d_u_law_pick := rfl
theorem find_u_law_mixed : Ev.find T "_law_mixed" = some d_u_law_mixed := rfl
theorem find_u_law_town : Ev.find T "_law_town" = some d_u_law_town := rfl
theorem find_u_law_same : Ev.find T "_law_same" = some d_u_law_same := rfl
theorem find_u_law_lanes : Ev.find T "_law_lanes" = some d_u_law_lanes := rfl
theorem find_u_law_twos : Ev.find T "_law_twos" = some d_u_law_twos := rfl
theorem find_u_law_matches : Ev.find T "_law_matches" = some d_u_law_matches := rfl
theorem find_u_law_small : Ev.find T "_law_small" = some d_u_law_small := rfl
theorem find_u_law_great : Ev.find T "_law_great" = some d_u_law_great := rfl
theorem find_u_law_meet : Ev.find T "_law_meet" = some d_u_law_meet := rfl
theorem find_u_law_proper : Ev.find T "_law_proper" = some d_u_law_proper := rfl
theorem find_u_law_least : Ev.find T "_law_least" = some d_u_law_least := rfl
theorem find_u_law_within : Ev.find T "_law_within" = some d_u_law_within := rfl
theorem find_u_law_first : Ev.find T "_law_first" = some d_u_law_first := rfl
theorem find_u_law_free : Ev.find T "_law_free" = some d_u_law_free := rfl
theorem find_u_law_bent : Ev.find T "_law_bent" = some d_u_law_bent := rfl
theorem find_u_law_judged : Ev.find T "_law_judged" = some d_u_law_judged := rfl
theorem find_u_law_large : Ev.find T "_law_large" = some d_u_law_large := rfl
theorem find_law : Ev.find T "law" = some d_law := rfl
theorem call_is_lane_colouring (k : Nat) : callF T (k + 1) "is_lane_colouring" = some (d_is_lane_colouring.ks, runD (callF T k) d_is_lane_colouring) := rfl
theorem call_lane_colouring (k : Nat) : callF T (k + 1) "lane_colouring" = some (d_lane_colouring.ks, runD (callF T k) d_lane_colouring) := rfl
theorem call_least_lane_colours (k : Nat) : callF T (k + 1) "least_lane_colours" = some (d_least_lane_colours.ks, runD (callF T k) d_least_lane_colours) := rfl
theorem call_u_law_cell (k : Nat) : callF T (k + 1) "_law_cell" = some (d_u_law_cell.ks, runD (callF T k) d_u_law_cell) := rfl
theorem call_u_law_digits (k : Nat) : callF T (k + 1) "_law_digits" = some (d_u_law_digits.ks, runD (callF T k) d_u_law_digits) := rfl
theorem call_u_law_draw (k : Nat) : callF T (k + 1) "_law_draw" = some (d_u_law_draw.ks, runD (callF T k) d_u_law_draw) := rfl
theorem call_u_law_pick (k : Nat) : callF T (k + 1) "_law_pick" = some (d_u_law_pick.ks, runD (callF T k) d_u_law_pick) := rfl
theorem call_u_law_mixed (k : Nat) : callF T (k + 1) "_law_mixed" = some (d_u_law_mixed.ks, runD (callF T k) d_u_law_mixed) := rfl
theorem call_u_law_town (k : Nat) : callF T (k + 1) "_law_town" = some (d_u_law_town.ks, runD (callF T k) d_u_law_town) := rfl
theorem call_u_law_same (k : Nat) : callF T (k + 1) "_law_same" = some (d_u_law_same.ks, runD (callF T k) d_u_law_same) := rfl
theorem call_u_law_lanes (k : Nat) : callF T (k + 1) "_law_lanes" = some (d_u_law_lanes.ks, runD (callF T k) d_u_law_lanes) := rfl
theorem call_u_law_twos (k : Nat) : callF T (k + 1) "_law_twos" = some (d_u_law_twos.ks, runD (callF T k) d_u_law_twos) := rfl
theorem call_u_law_matches (k : Nat) : callF T (k + 1) "_law_matches" = some (d_u_law_matches.ks, runD (callF T k) d_u_law_matches) := rfl
theorem call_u_law_small (k : Nat) : callF T (k + 1) "_law_small" = some (d_u_law_small.ks, runD (callF T k) d_u_law_small) := rfl
theorem call_u_law_great (k : Nat) : callF T (k + 1) "_law_great" = some (d_u_law_great.ks, runD (callF T k) d_u_law_great) := rfl
theorem call_u_law_meet (k : Nat) : callF T (k + 1) "_law_meet" = some (d_u_law_meet.ks, runD (callF T k) d_u_law_meet) := rfl
theorem call_u_law_proper (k : Nat) : callF T (k + 1) "_law_proper" = some (d_u_law_proper.ks, runD (callF T k) d_u_law_proper) := rfl
theorem call_u_law_least (k : Nat) : callF T (k + 1) "_law_least" = some (d_u_law_least.ks, runD (callF T k) d_u_law_least) := rfl
theorem call_u_law_within (k : Nat) : callF T (k + 1) "_law_within" = some (d_u_law_within.ks, runD (callF T k) d_u_law_within) := rfl
theorem call_u_law_first (k : Nat) : callF T (k + 1) "_law_first" = some (d_u_law_first.ks, runD (callF T k) d_u_law_first) := rfl
theorem call_u_law_free (k : Nat) : callF T (k + 1) "_law_free" = some (d_u_law_free.ks, runD (callF T k) d_u_law_free) := rfl
theorem call_u_law_bent (k : Nat) : callF T (k + 1) "_law_bent" = some (d_u_law_bent.ks, runD (callF T k) d_u_law_bent) := rfl
theorem call_u_law_judged (k : Nat) : callF T (k + 1) "_law_judged" = some (d_u_law_judged.ks, runD (callF T k) d_u_law_judged) := rfl
theorem call_u_law_large (k : Nat) : callF T (k + 1) "_law_large" = some (d_u_law_large.ks, runD (callF T k) d_u_law_large) := rfl
theorem call_law (k : Nat) : callF T (k + 1) "law" = some (d_law.ks, runD (callF T k) d_law) := rfl
end K89

set_option maxRecDepth 100000
namespace K89
open Ev PySem L2
/-! ### the shared helpers -/
theorem r_cell {F : FT} (ns : List Int) (k : Nat) : runD F d_u_law_cell [.ro (ns.map .int), .fz (.int k)] = some (.fr (.int (ns.getD k 0)), []) := by
  simp only [runD_eq]
  simp [d_u_law_cell, b_u_law_cell]
  by_cases h : k < ns.length
  · simp [h]
  · simp [h]
theorem r_draw {F : FT} (ds : List Int) (c m : Nat) (hm : 0 < m) : ∃ r : Nat, r < m ∧ runD F d_u_law_draw [.mu [.list (ds.map .int), .int c], .fz (.int m)] = some (.fr (.int r), [[.list (ds.map .int), .int (c + 1 : Nat)]]) := by
  simp only [runD_eq]
  simp [d_u_law_draw, b_u_law_draw]
  by_cases h : ds.length < c + 1
  · obtain ⟨r, hr, e⟩ := fmod_lt (((c : Int) + 1) * 7 + 3) hm
    refine ⟨r, hr, ?_⟩
    have : ((ds.length : Int) < (c : Int) + 1) := by omega
    have hm' : ¬ m = 0 := by omega
    simp [this, mulOk, L2.CMul, hm', e]
  · have h' : ¬ ((ds.length : Int) < (c : Int) + 1) := by omega
    have hc : c < ds.length := by omega
    obtain ⟨r, hr, e⟩ := fmod_lt (ds[c]) hm
    refine ⟨r, hr, ?_⟩
    have hm' : ¬ m = 0 := by omega
    simp [h', hc, hm', e]
theorem d_u_law_same_ks : d_u_law_same.ks = [.B, .B] := rfl
theorem same_true (k : Nat) : ∀ (j : Nat) (x : D) (s1 s2 : Slot), Good j x → isS s1 x → isS s2 x → runD (callF T (k + j)) d_u_law_same [s1, s2] = some (.fr (.bool true), [])
  | 0, x, s1, s2, g, h1, h2 => g.elim
  | j + 1, x, s1, s2, g, h1, h2 => by
    rw [← Nat.add_assoc]
    simp only [runD_eq]
    cases x with
    | none =>
      rcases h1 with rfl | ⟨ds, e, rfl⟩ <;> rcases h2 with rfl | ⟨es, e', rfl⟩ <;> first | (cases e; done) | (cases e'; done) | skip
      simp [d_u_law_same, b_u_law_same]
    | bool b =>
      rcases h1 with rfl | ⟨ds, e, rfl⟩ <;> rcases h2 with rfl | ⟨es, e', rfl⟩ <;> first | (cases e; done) | (cases e'; done) | skip
      cases b <;> simp [d_u_law_same, b_u_law_same]
    | int i =>
      rcases h1 with rfl | ⟨ds, e, rfl⟩ <;> rcases h2 with rfl | ⟨es, e', rfl⟩ <;> first | (cases e; done) | (cases e'; done) | skip
      have g' : i.natAbs.log2 < 1920 := g
      simp [d_u_law_same, b_u_law_same, g', dCmp_eq, shaped_str]
    | list ds =>
      obtain ⟨gl, g⟩ := g
      have hl : ds.length ≤ 16777216 := gl
      have hb : ((ds.length : Nat) : Int) ≤ 16777216 := by omega
      have hb2 : (-4611686018427387904 : Int) ≤ ds.length := by omega
      have key : ∀ s3 s4 : Slot, (s3 = .fz (.list ds) ∨ s3 = .bor ds) → (s4 = .fz (.list ds) ∨ s4 = .bor ds) → gd (kindsB d_u_law_same.ks [s3, s4] = true) (finD d_u_law_same.ks (exs (callF T (k + j + 1)) d_u_law_same.body ([s3, s4] ++ List.replicate (d_u_law_same.N.length - [s3, s4].length) .un))) = some (.fr (.bool true), []) := by
        intro s3 s4 e3 e4
        rcases e3 with rfl | rfl <;> rcases e4 with rfl | rfl
        all_goals
          simp [d_u_law_same, b_u_law_same, dCmp_eq, hb, hb2]
          generalize hf : forL _ _ _ = x
          obtain ⟨ρ', rfl, o, rfl⟩ := forR_use hf (fun _ ρ => ∃ o, ρ = [_, _, qs o]) ⟨none, rfl⟩ (by
            rintro i ρ hi ⟨o, rfl⟩
            have hi' : i < ds.length := by omega
            have ih := same_true k j (ds[i]) (.fz ds[i]) (.fz ds[i]) (g _ (List.getElem_mem hi')) (isS_fz _) (isS_fz _)
            simp [fstep, call_u_law_same, d_u_law_same_ks, hi', ih]
            exact St.next ⟨some (.int i), rfl⟩)
          simp
      refine key s1 s2 ?_ ?_
      · rcases h1 with h | ⟨es, e, h⟩
        · exact .inl h
        · cases e; exact .inr h
      · rcases h2 with h | ⟨es, e, h⟩
        · exact .inl h
        · cases e; exact .inr h
    | tuple ds =>
      obtain ⟨gl, g⟩ := g
      have hl : ds.length ≤ 16777216 := gl
      have hb : ((ds.length : Nat) : Int) ≤ 16777216 := by omega
      have hb2 : (-4611686018427387904 : Int) ≤ ds.length := by omega
      rcases h1 with rfl | ⟨es, e, rfl⟩ <;> rcases h2 with rfl | ⟨es, e', rfl⟩ <;> first | (cases e; done) | (cases e'; done) | skip
      all_goals
        simp [d_u_law_same, b_u_law_same, dCmp_eq, hb, hb2]
        generalize hf : forL _ _ _ = x
        obtain ⟨ρ', rfl, o, rfl⟩ := forR_use hf (fun _ ρ => ∃ o, ρ = [_, _, qs o]) ⟨none, rfl⟩ (by
          rintro i ρ hi ⟨o, rfl⟩
          have hi' : i < ds.length := by omega
          have ih := same_true k j (ds[i]) (.fz ds[i]) (.fz ds[i]) (g _ (List.getElem_mem hi')) (isS_fz _) (isS_fz _)
          simp [fstep, call_u_law_same, d_u_law_same_ks, hi', ih]
          exact St.next ⟨some (.int i), rfl⟩)
        simp
    | str x => exact g.elim
    | dict x => exact g.elim
end K89

set_option maxRecDepth 100000
namespace K89
open Ev PySem L2
theorem CPow_18 : CPow 10 18 := ⟨by omega, by omega, by decide⟩
theorem r_digits (k : Nat) (ns : List Int) (last : Nat) (hlast : last ≤ 100) : ∃ ds : List Int, runD (callF T (k + 1)) d_u_law_digits [.ro (ns.map .int), .fz (.int 0), .fz (.int last)] = some (.nw (ds.map .int), []) := by
  have h1 : (last : Int) ≤ 16777216 := by omega
  have h2 : (-4611686018427387904 : Int) ≤ last := by omega
  have h3 : (last : Int) < 4611686018427387904 := by omega
  simp only [runD_eq]
  simp [d_u_law_digits, b_u_law_digits, h1, h2, h3]
  generalize hf : forL _ _ _ = x
  obtain ⟨ρ', rfl, ds, o3, o4, o5, o6, hl, rfl⟩ := forR_use hf (fun i ρ => ∃ (ds : List Int) (o3 o4 o5 o6 : Option D), ds.length ≤ 60 * i ∧ ρ = [_, _, _, .own (ds.map .int), qs o3, qs o4, qs o5, qs o6]) ⟨[], none, none, none, none, by simp, rfl⟩ (by
    rintro i ρ hi ⟨ds, o3, o4, o5, o6, hl, rfl⟩
    have hi' : i < last := by omega
    simp [fstep, call_u_law_cell, show d_u_law_cell.ks = [.B, .I] from rfl]
    have rc := r_cell (F := callF T k) ns i
    simp [rc]
    generalize (ns[i]?.getD 0) = c
    have key : ∀ c : Int, St (sq (some (Out.next, [Slot.ro (ns.map .int), .fz (.int 0), .fz (.int last), .own (ds.map .int), .fz (.int i), .fz (.int c), qs o5, qs o6])) (k := ⟨exs (callF T (k + 1)) (match b_u_law_digits with | .cons _ (.cons (.forr _ _ (.cons _ (.cons _ r))) _) => r | _ => .nil)⟩)) (k := ⟨fun ρ' => ∃ (ds : List Int) (o3 o4 o5 o6 : Option D), ds.length ≤ 60 * (i + 1) ∧ ρ' = [Slot.ro (ns.map .int), .fz (.int 0), .fz (.int last), .own (ds.map .int), qs o3, qs o4, qs o5, qs o6]⟩) := by
      intro c
      simp [b_u_law_digits, CPow_18]
      by_cases hc : 1000000000000000000 ≤ c
      · simp [hc]
        generalize hf : forL _ _ _ = x
        obtain ⟨ρ', rfl, ds', c', o5, hl', rfl⟩ := forR_use hf (fun j ρ => ∃ (ds' : List Int) (c' : Int) (o5 : Option D), ds'.length ≤ 60 * i + j ∧ ρ = [_, _, _, .own (ds'.map .int), _, .fz (.int c'), qs o5, _]) ⟨ds, c, o5, by omega, rfl⟩ (by
          rintro j ρ hj ⟨ds', c', o5, hl', rfl⟩
          have hj' : j < 60 := by omega
          simp [fstep]
          by_cases h0 : 0 < c'
          · have hlen : ds'.length < 16777216 := by omega
            simp [h0, hlen, lg]
            exact St.next ⟨ds' ++ [c'.fmod 1000], c'.fdiv 1000, some (.int j), by simp; omega, by simp⟩
          · simp [h0]
            exact St.next ⟨ds', c', some (.int j), by omega, by simp⟩)
        simp
        exact St.next ⟨ds', some (.int i), some (.int c'), o5, o6, by omega, by simp⟩
      · simp [hc, mulOk_r]
        generalize hs : Int.fmod _ 2147483647 = sd
        generalize hf : forL _ _ _ = x
        obtain ⟨ρ', rfl, ds', c', o5, hl', rfl⟩ := forR_use hf (fun j ρ => ∃ (ds' : List Int) (c' : Int) (o5 : Option D), ds'.length ≤ 60 * i + j ∧ ρ = [_, _, _, .own (ds'.map .int), _, _, qs o5, .fz (.int c')]) ⟨ds, sd, o5, by omega, rfl⟩ (by
          rintro j ρ hj ⟨ds', c', o5, hl', rfl⟩
          have hj' : j < 12 := by omega
          have hlen : ds'.length < 16777216 := by omega
          simp [fstep, mulOk_r, mulOk_l, hlen, lg]
          generalize Int.fmod _ 2147483647 = sd
          refine St.next ⟨ds' ++ [(sd.fdiv 997).fmod 1000], sd, some (.int j), by simp; omega, by simp⟩)
        simp
        exact St.next ⟨ds', some (.int i), some (.int c), o5, some (.int c'), by simp at hl'; omega, by simp⟩
    by_cases hn : c < 0
    · have := key (1 - 2 * c)
      simp [b_u_law_digits] at this
      simp [hn, mulOk_l]
      exact this
    · have := key c
      simp [b_u_law_digits] at this
      simp [hn]
      exact this)
  simp
  exact ⟨ds, rfl⟩
end K89

set_option maxRecDepth 100000
namespace K89
open Ev PySem L2
theorem ks_draw : d_u_law_draw.ks = [.M, .B] := rfl
theorem ks_mixed : d_u_law_mixed.ks = [.M, .B] := rfl
theorem ks_pick : d_u_law_pick.ks = [.M, .B] := rfl
theorem ks_same : d_u_law_same.ks = [.B, .B] := rfl
theorem ks_digits : d_u_law_digits.ks = [.B, .I, .I] := rfl
/-- the box: digits and a count -/
abbrev bx (ds : List Int) (c : Nat) : List D := [.list (ds.map .int), .int (c : Int)]
theorem r_drawI {F : FT} (ds : List Int) (c : Nat) (m : Int) (hm : 0 < m) : ∃ r c' : Nat, (r : Int) < m ∧ runD F d_u_law_draw [.mu [.list (ds.map .int), .int c], .fz (.int m)] = some (.fr (.int r), [[.list (ds.map .int), .int (c' : Nat)]]) := by
  obtain ⟨r, h1, h2⟩ := r_draw (F := F) ds c m.toNat (by omega)
  have e : ((m.toNat : Nat) : Int) = m := by omega
  rw [e] at h2
  exact ⟨r, c + 1, by omega, h2⟩
/-- a list taken apart at random and put together again -/
theorem r_mixed {α : Type} {enc : α → D} (k : Nat) (ds : List Int) (c : Nat) (xs : List α) (s : Slot) (hs : hasL s (xs.map enc)) (hl : xs.length ≤ 16777216) :
    ∃ (ys : List α) (c' : Nat), ys.Perm xs ∧ runD (callF T (k + 1)) d_u_law_mixed [.mu (bx ds c), s] = some (.nw (ys.map enc), [bx ds c']) := by
  suffices h : Rt (runD (callF T (k + 1)) d_u_law_mixed [.mu (bx ds c), s]) (k := ⟨fun r o => ∃ (ys : List α) (c' : Nat), ys.Perm xs ∧ r = .nw (ys.map enc) ∧ o = [bx ds c']⟩) by
    obtain ⟨r, o, e, ys, c', h, rfl, rfl⟩ := h
    exact ⟨ys, c', h, e⟩
  have y1 : (-4611686018427387904 : Int) ≤ xs.length := by omega
  have y2 : (xs.length : Int) ≤ 16777216 := by omega
  simp only [runD_eq]
  have key : ∀ s', (s' = .fz (.list (xs.map enc)) ∨ s' = .bor (xs.map enc)) → Rt (gd (kindsB d_u_law_mixed.ks [.mu (bx ds c), s'] = true) (finD d_u_law_mixed.ks (exs (callF T (k + 1)) d_u_law_mixed.body ([.mu (bx ds c), s'] ++ List.replicate (d_u_law_mixed.N.length - [Slot.mu (bx ds c), s'].length) .un)))) (k := ⟨fun r o => ∃ (ys : List α) (c' : Nat), ys.Perm xs ∧ r = .nw (ys.map enc) ∧ o = [bx ds c']⟩) := by
    intro s' hs'
    rcases hs' with rfl | rfl
    all_goals
      simp [d_u_law_mixed, b_u_law_mixed, y1, y2]
      generalize hf : forL _ _ _ = x
      obtain ⟨ρ', rfl, left, found, c', o, hp, hlen, rfl⟩ := forR_use hf (fun i ρ => ∃ (left found : List α) (c' : Nat) (o : Option D), (left ++ found).Perm xs ∧ left.length + i = xs.length ∧ ρ = [.mu (bx ds c'), _, .own (left.map enc), .own (found.map enc), qs o]) ⟨xs, [], c, none, by simp, by omega, rfl⟩ (by
        rintro i ρ hi ⟨left, found, c', o, hp, hlen, rfl⟩
        have hi' : i < xs.length := by omega
        obtain ⟨r0, c2, h1, h2⟩ := r_drawI (F := callF T k) ds c' 1000 (by omega)
        have hl0 : ¬ left = [] := by intro e; subst e; simp at hlen; omega
        have hln : ¬ left.length = 0 := by omega
        have hm : (r0 : Int).fmod (left.length : Int) = ((r0 % left.length : Nat) : Int) := fmod_nat r0 left.length
        have h1' : r0 % left.length < left.length := Nat.mod_lt _ (by omega)
        generalize r0 % left.length = r at *
        have hfl : found.length < 16777216 := by
          have := hp.length_eq
          rw [List.length_append] at this
          omega
        simp [fstep, call_u_law_draw, ks_draw, h2, h1', hfl, hm, hl0, hln, bx, Gr.erase_map]
        refine St.next ⟨left.eraseIdx r, found ++ [left[r]], c2, some (.int i), ?_, ?_, by simp⟩
        · have e := Gr.erase_perm left r h1'
          refine List.Perm.trans ?_ hp
          rw [← List.append_assoc]
          refine List.Perm.trans List.perm_append_comm ?_
          show (left[r] :: (left.eraseIdx r ++ found)).Perm _
          rw [← List.cons_append]
          exact e.append (List.Perm.refl _)
        · rw [List.length_eraseIdx_of_lt h1']; omega)
      simp
      refine Rt.ok ⟨found, c', ?_, rfl, rfl⟩
      have : left = [] := List.eq_nil_of_length_eq_zero (by omega)
      subst this
      simpa using hp
  exact key s hs
def laneD (l : Gr.La) : D := .tuple [.int (l.1 : Int), .int (l.2 : Int)]
theorem laneD_eq (l : Gr.La) : laneD l = .tuple [.int (l.1 : Int), .int (l.2 : Int)] := rfl
/-- a town as data -/
def enc (n : Nat) (L : List Gr.La) : D := .tuple [.int (n : Int), .tuple (L.map laneD)]
theorem enc_0 (n : Nat) (L : List Gr.La) : dIdx (enc n L) (.int 0) = some (.int (n : Int)) := by simp [enc]
theorem enc_1 (n : Nat) (L : List Gr.La) : dIdx (enc n L) (.int 1) = some (.tuple (L.map laneD)) := by simp [enc]
theorem lane_0 (l : Gr.La) : dIdx (laneD l) (.int 0) = some (.int (l.1 : Int)) := by simp [laneD]
theorem lane_1 (l : Gr.La) : dIdx (laneD l) (.int 1) = some (.int (l.2 : Int)) := by simp [laneD]
theorem r_pick (k : Nat) (ds : List Int) (c : Nat) (xs : List D) (h0 : xs ≠ []) : ∃ (z : D) (c' : Nat), z ∈ xs ∧ runD (callF T (k + 1)) d_u_law_pick [.mu (bx ds c), .fz (.list xs)] = some (.fr z, [bx ds c']) := by
  have hl : 0 < xs.length := List.length_pos_iff.mpr h0
  obtain ⟨r0, c2, h1, h2⟩ := r_drawI (F := callF T k) ds c 1000 (by omega)
  have hm : (r0 : Int).fmod (xs.length : Int) = ((r0 % xs.length : Nat) : Int) := fmod_nat r0 xs.length
  have h1' : r0 % xs.length < xs.length := Nat.mod_lt _ hl
  have hln : ¬ xs.length = 0 := by omega
  generalize r0 % xs.length = r at *
  refine ⟨xs[r], c2, List.getElem_mem _, ?_⟩
  simp only [runD_eq]
  simp [d_u_law_pick, b_u_law_pick, call_u_law_draw, ks_draw, h2, h1', hm, h0, hln, bx]
theorem ln_at {L : List Gr.La} {i : Nat} (h : i < L.length) : L[i]? = some (Gr.ln L i) := by simp [Gr.ln, h]
theorem fm_filter {α β : Type} (p : α → Bool) (f : α → β) (l : List α) : l.filterMap (fun x => if p x = true then some (f x) else none) = (l.filter p).map f := by
  induction l with
  | nil => rfl
  | cons a l ih => by_cases h : p a = true <;> simp [h, ih]
theorem touchI (L : List Gr.La) (i h : Nat) : ((((Gr.ln L i).1 : Int) == (h : Int)) || (((Gr.ln L i).2 : Int) == (h : Int))) = Gr.touch L i h := by
  unfold Gr.touch
  rw [Bool.eq_iff_iff]
  simp
  omega
theorem touch_far {L : List Gr.La} {i h : Nat} (ht : Gr.touch L i h = true) : (((Gr.ln L i).1 : Int) + ((Gr.ln L i).2 : Int) - (h : Int)) = ((Gr.far L i h : Nat) : Int) := by
  unfold Gr.touch at ht
  unfold Gr.far
  simp at ht
  omega
end K89

set_option maxRecDepth 100000
namespace K89
open Ev PySem L2
theorem ks_town : d_u_law_town.ks = [.M, .I, .B] := rfl
theorem whole_perm {n : Nat} {P Q : List Gr.La} (h : P.Perm Q) (w : Gr.Whole n P) : Gr.Whole n Q := fun u hu => (Gr.Con.perm h).mp (w u hu)
theorem whole_of {n : Nat} {P : List Gr.La} {nm : List Nat} {v : Nat} (pn : nm.Perm (List.range n)) (h : ∀ u ∈ nm, Gr.Con P v u) : Gr.Whole n P := fun u hu => by
  have h0 : 0 ∈ nm := pn.mem_iff.mpr (by simp; omega)
  have h1 : u ∈ nm := pn.mem_iff.mpr (by simpa using hu)
  exact (h 0 h0).symm.trans (h u h1)
/-- a lane more -/
abbrev mm (a b : Nat) : Gr.La := (min a b, max a b)
theorem con_mm {P : List Gr.La} {a b : Nat} (h : mm a b ∈ P) : Gr.Con P a b := by
  rcases Nat.le_total a b with hh | hh
  · have : mm a b = (a, b) := by unfold mm; rw [Nat.min_eq_left hh, Nat.max_eq_right hh]
    rw [this] at h
    exact .lane h
  · have : mm a b = (b, a) := by unfold mm; rw [Nat.min_eq_right hh, Nat.max_eq_left hh]
    rw [this] at h
    exact (Gr.Con.lane h).symm
theorem r_town (k : Nat) (ds : List Int) (c n e : Nat) (h0 : 0 < n) (hn : n ≤ 100) (he : e ≤ 100) :
    ∃ (L : List Gr.La) (c' : Nat), Gr.Ok n L ∧ Gr.Whole n L ∧ L.length ≤ n - 1 + e ∧ runD (callF T (k + 2)) d_u_law_town [.mu (bx ds c), .fz (.int (n : Int)), .fz (.int (e : Int))] = some (.fr (enc n L), [bx ds c']) := by
  suffices h : Rt (runD (callF T (k + 2)) d_u_law_town [.mu (bx ds c), .fz (.int (n : Int)), .fz (.int (e : Int))]) (k := ⟨fun r o => ∃ (L : List Gr.La) (c' : Nat), Gr.Ok n L ∧ Gr.Whole n L ∧ L.length ≤ n - 1 + e ∧ r = .fr (enc n L) ∧ o = [bx ds c']⟩) by
    obtain ⟨r, o, e, L, c', h1, h2, h3, rfl, rfl⟩ := h
    exact ⟨L, c', h1, h2, h3, e⟩
  have y1 : (-4611686018427387904 : Int) ≤ n := by omega
  have y2 : (n : Int) ≤ 16777216 := by omega
  have y3 : (n : Int) < 4611686018427387904 := by omega
  have y4 : (n : Int) - 1 ≤ 16777216 := by omega
  obtain ⟨nm, c1, pn, e1⟩ := r_mixed (enc := natD) k ds c (List.range n) (.fz (.list ((List.range n).map natD))) (.inl rfl) (by simp; omega)
  have nl : nm.length = n := by have := pn.length_eq; simpa using this
  have nd : nm.Nodup := pn.nodup_iff.mpr List.nodup_range
  have ga : ∀ i, i < n → nm[i]? = some (nm.getD i 0) := fun i hi => by
    have : i < nm.length := by omega
    simp [this]
  have glt : ∀ i, i < n → nm.getD i 0 < n := fun i hi => by
    have := pn.mem_iff.mp (List.mem_of_getElem? (ga i hi))
    simpa using this
  have gne : ∀ i j, i < n → j < n → i ≠ j → nm.getD i 0 ≠ nm.getD j 0 := fun i j hi hj hij e => by
    have h1 := ga i hi
    have h2 := ga j hj
    rw [e, ← h2] at h1
    exact hij ((List.getElem?_inj (by omega) nd).mp h1)
  simp only [runD_eq]
  simp [d_u_law_town, b_u_law_town, call_u_law_mixed, ks_mixed, rngD_nat, y1, y2, y3, y4, e1]
  generalize hf : forL _ _ _ = x
  obtain ⟨ρ', rfl, L, c2, o5, o6, okL, hL, hW, rfl⟩ := forR_use hf (fun i ρ => ∃ (L : List Gr.La) (c' : Nat) (o5 o6 : Option D), Gr.Ok n L ∧ L.length = i ∧ (∀ j, j ≤ i → j < n → Gr.Con L (nm.getD 0 0) (nm.getD j 0)) ∧ ρ = [.mu (bx ds c'), .fz (.int (n : Int)), .fz (.int (e : Int)), .own (nm.map natD), .own (L.map laneD), qs o5, qs o6, .un, .un])
    ⟨[], c1, none, none, fun l hl => by simp at hl, rfl, fun j hj _ => by rw [Nat.le_zero.mp hj]; exact .refl _, rfl⟩ (by
    rintro i ρ hi ⟨L, c', o5, o6, okL, hL, hW, rfl⟩
    obtain ⟨r, c3, h1, h2⟩ := r_drawI (F := callF T (k + 1)) ds c' (1 + (i : Int)) (by omega)
    have hr : r < 1 + i := by omega
    have g1 := ga (1 + i) (by omega)
    have g2 := ga r (by omega)
    have ci : (1 : Int) + (i : Int) = ((1 + i : Nat) : Int) := by omega
    have z : L.length < 16777216 := by omega
    have hne := gne (1 + i) r (by omega) (by omega) (by omega)
    have hlt1 := glt (1 + i) (by omega)
    have hlt2 := glt r (by omega)
    rw [ci] at h2
    have okl : Gr.Ok n (L ++ [mm (nm.getD (1 + i) 0) (nm.getD r 0)]) := fun l hl => by
      rcases List.mem_append.mp hl with h | h
      · exact okL l h
      · simp only [List.mem_singleton] at h
        subst h
        refine ⟨?_, ?_, ?_⟩ <;> simp only <;> omega
    have hc : ∀ j, j ≤ i + 1 → j < n → Gr.Con (L ++ [mm (nm.getD (1 + i) 0) (nm.getD r 0)]) (nm.getD 0 0) (nm.getD j 0) := fun j hj hjn => by
      have hm : ∀ l ∈ L, l ∈ L ++ [mm (nm.getD (1 + i) 0) (nm.getD r 0)] := fun l h => by simp [h]
      by_cases hji : j ≤ i
      · exact (hW j hji hjn).mono hm
      · have : j = 1 + i := by omega
        subst this
        exact ((hW r (by omega) (by omega)).mono hm).trans (con_mm (by simp)).symm
    generalize nm.getD (1 + i) 0 = p at *
    generalize nm.getD r 0 = q at *
    simp [fstep, ci, call_u_law_draw, ks_draw, h2, bx, g1, g2, z, -Int.natCast_add]
    exact St.next ⟨L ++ [mm p q], c3, some (.int ((1 + i : Nat) : Int)), some (.int (r : Int)), okl, by simp [hL], hc, by simp [laneD]⟩)
  have hW1 : Gr.Whole n L := whole_of (v := nm.getD 0 0) pn fun u hu => by
    obtain ⟨j, hj⟩ := List.mem_iff_getElem?.mp hu
    obtain ⟨hj', _⟩ := List.getElem?_eq_some_iff.mp hj
    have : nm.getD j 0 = u := by simp [hj]
    rw [← this]
    exact hW j (by omega) (by omega)
  have hL1 : L.length = n - 1 := by omega
  by_cases h1 : n = 1
  · subst h1
    obtain ⟨L3, c3, p3, e3⟩ := r_mixed (enc := laneD) k ds c2 L (.bor (L.map laneD)) (.inr rfl) (by omega)
    have l3 := p3.length_eq
    simp [call_u_law_mixed, ks_mixed, e3]
    exact Rt.ok ⟨L3, c3, okL.perm p3, whole_perm p3.symm hW1, by omega, rfl, rfl⟩
  · have h1' : (1 : Int) < n := by omega
    obtain ⟨r, c4, q1, q2⟩ := r_drawI (F := callF T (k + 1)) ds c2 ((e : Int) + 1) (by omega)
    have x1 : (-4611686018427387904 : Int) ≤ r := by omega
    have x2 : (r : Int) ≤ 16777216 := by omega
    simp [h1', call_u_law_draw, ks_draw, q2, bx, x1, x2]
    generalize hf : forL _ _ _ = x
    obtain ⟨ρ', rfl, L2, c5, o6, o7, o8, okL2, hL2, hW2, rfl⟩ := forR_use hf (fun i ρ => ∃ (L2 : List Gr.La) (c' : Nat) (o6 o7 o8 : Option D), Gr.Ok n L2 ∧ L2.length = L.length + i ∧ (∀ l ∈ L, l ∈ L2) ∧ ρ = [.mu (bx ds c'), .fz (.int (n : Int)), .fz (.int (e : Int)), .own (nm.map natD), .own (L2.map laneD), qs o5, qs o6, qs o7, qs o8])
      ⟨L, c4, o6, none, none, okL, by omega, fun l h => h, rfl⟩ (by
      rintro i ρ hi ⟨L2, c', o6, o7, o8, okL2, hL2, hW2, rfl⟩
      obtain ⟨a, c3, u1, u2⟩ := r_drawI (F := callF T (k + 1)) ds c' (n : Int) (by omega)
      obtain ⟨d, c4, v1, v2⟩ := r_drawI (F := callF T (k + 1)) ds c3 ((n : Int) - 1) (by omega)
      have hm : ((a : Int) + 1 + (d : Int)).fmod (n : Int) = (((a + 1 + d) % n : Nat) : Int) := by
        have := fmod_nat (a + 1 + d) n
        rw [← this]; congr 1
      have n0 : ¬ n = 0 := by omega
      have z : L2.length < 16777216 := by omega
      have a1 : a < n := by omega
      have d1 : d < n - 1 := by omega
      have hne : a ≠ (a + 1 + d) % n := by
        by_cases hh : a + 1 + d < n
        · rw [Nat.mod_eq_of_lt hh]; omega
        · rw [Nat.mod_eq_sub_mod (by omega), Nat.mod_eq_of_lt (by omega)]; omega
      have hlt : (a + 1 + d) % n < n := Nat.mod_lt _ (by omega)
      generalize (a + 1 + d) % n = b at *
      have okl : Gr.Ok n (L2 ++ [mm a b]) := fun l hl => by
        rcases List.mem_append.mp hl with h | h
        · exact okL2 l h
        · simp only [List.mem_singleton] at h
          subst h
          refine ⟨?_, ?_, ?_⟩ <;> simp only <;> omega
      simp [fstep, call_u_law_draw, ks_draw, u2, v2, bx, n0, hm, z]
      exact St.next ⟨L2 ++ [mm a b], c4, some (.int (b : Int)), some (.int i), some (.int (a : Int)), okl, by simp [hL2]; omega, fun l h => by simp [hW2 l h], by simp [laneD]⟩)
    have hW3 : Gr.Whole n L2 := fun u hu => (hW1 u hu).mono hW2
    obtain ⟨L3, c3, p3, e3⟩ := r_mixed (enc := laneD) k ds c5 L2 (.bor (L2.map laneD)) (.inr rfl) (by omega)
    have l3 := p3.length_eq
    simp [call_u_law_mixed, ks_mixed, e3]
    exact Rt.ok ⟨L3, c3, okL2.perm p3, whole_perm p3.symm hW3, by omega, rfl, rfl⟩
end K89

set_option maxRecDepth 100000
namespace K89
open Ev PySem L2
theorem ks_is : d_is_lane_colouring.ks = [.B, .B, .I] := rfl
theorem ks_lc : d_lane_colouring.ks = [.B, .I] := rfl
theorem ks_llc : d_least_lane_colours.ks = [.B] := rfl
theorem ks_lanes : d_u_law_lanes.ks = [.B, .B] := rfl
theorem ks_twos : d_u_law_twos.ks = [.I] := rfl
theorem ks_matches : d_u_law_matches.ks = [.B] := rfl
theorem ks_small : d_u_law_small.ks = [.M] := rfl
theorem ks_great : d_u_law_great.ks = [.M] := rfl
theorem ks_meet : d_u_law_meet.ks = [.B, .I, .I] := rfl
theorem ks_proper : d_u_law_proper.ks = [.B, .B, .I] := rfl
theorem ks_least : d_u_law_least.ks = [.B] := rfl
theorem ks_within : d_u_law_within.ks = [.B, .B, .B] := rfl
theorem ks_first : d_u_law_first.ks = [.B, .I] := rfl
theorem ks_free : d_u_law_free.ks = [.B, .B, .B] := rfl
theorem ks_bent : d_u_law_bent.ks = [.M, .B, .I, .B] := rfl
theorem ks_judged : d_u_law_judged.ks = [.M, .B, .B, .I] := rfl
theorem ks_large : d_u_law_large.ks = [.M, .B] := rfl
theorem enumD_lanes (L : List Gr.La) : enumD (L.map laneD) = (List.range L.length).map fun i => PyData.tuple [natD i, laneD (Gr.ln L i)] := by
  unfold enumD
  apply List.ext_getElem
  · simp
  · intro i h1 h2
    have : i < L.length := by simpa using h2
    simp [Gr.ln, this]
/-- two lanes share a house -/
def meetB (L : List Gr.La) (i j : Nat) : Bool := Gr.touch L j (Gr.ln L i).1 || Gr.touch L j (Gr.ln L i).2
def clash (L : List Gr.La) (row : List Int) (i j : Nat) : Bool := decide (row.getD j 0 = row.getD i 0) && meetB L i j
def OkR (L : List Gr.La) (row : List Int) (c : Int) : Prop := row.length = L.length ∧ (∀ x ∈ row, 0 ≤ x ∧ x < c) ∧ ∀ i, i < L.length → ∀ j, j < i → clash L row i j = false
theorem getI {row : List Int} {i : Nat} (h : i < row.length) : ∃ x, row[i]? = some x ∧ row.getD i 0 = x := ⟨row[i], by simp [h], by simp [h]⟩
theorem all_rng (row : List Int) (c : Int) : ((row.map fun x => (decide (0 ≤ x) && decide (x < c))).all id) = decide (∀ x ∈ row, 0 ≤ x ∧ x < c) := by
  rw [Bool.eq_iff_iff]
  simp [List.all_eq_true]
theorem r_is {F : FT} (n : Nat) (L : List Gr.La) (row : List Int) (c : Int) (hL : L.length ≤ 1000) (hr : row.length ≤ 1000) :
    ∃ b : Bool, runD F d_is_lane_colouring [.fz (enc n L), .fz (.tuple (row.map .int)), .fz (.int c)] = some (.fr (.bool b), []) ∧ (b = true ↔ OkR L row c) := by
  suffices h : Rt (runD F d_is_lane_colouring [.fz (enc n L), .fz (.tuple (row.map .int)), .fz (.int c)]) (k := ⟨fun r o => o = [] ∧ ∃ b : Bool, r = .fr (.bool b) ∧ (b = true ↔ OkR L row c)⟩) by
    obtain ⟨r, o, e, rfl, b, rfl, h⟩ := h
    exact ⟨b, e, h⟩
  simp only [runD_eq]
  simp [d_is_lane_colouring, b_is_lane_colouring, enc_1]
  by_cases hl : (row.length : Int) = L.length
  · have hl' : row.length = L.length := by omega
    simp [hl, -List.map_map]
    generalize hf : compL _ _ _ = x
    have e1 := compM_use hf (fun x => some (.bool (decide (0 ≤ x) && decide (x < c)))) fun x hx => by
      simp [cstep]
    subst e1
    rw [fm_some]
    have e2 : (row.map fun x => PyData.bool (decide (0 ≤ x) && decide (x < c))) = (row.map fun x => (decide (0 ≤ x) && decide (x < c))).map .bool := by rw [List.map_map]; rfl
    rw [e2]
    simp [-List.map_map, -List.all_map, all_rng]
    by_cases ha : ∀ x ∈ row, 0 ≤ x ∧ x < c
    · rw [decide_eq_true ha]
      simp [enc_1]
      rw [enumD_lanes]
      generalize hf : forL _ _ _ = x
      rcases forM_any hf (fun i ρ => ∃ (o3 o4 o5 : Option D), (∀ i', i' < i → ∀ j, j < i' → clash L row i' j = false) ∧ ρ = [_, _, _, qs o3, qs o4, qs o5, .un]) (fun _ => False)
        (fun r ρ => r = .fr (.bool false) ∧ ¬ OkR L row c ∧ ∃ a b c t, ρ = a :: b :: c :: t) ⟨none, none, none, fun _ h => by omega, rfl⟩ (by
          rintro i i2 ρ hi ⟨o3, o4, o5, hw, rfl⟩
          obtain ⟨hi', e⟩ := List.getElem?_eq_some_iff.mp hi
          rw [List.getElem_range] at e
          subst e
          have hi' : i < L.length := by simpa using hi'
          have y1 : (-4611686018427387904 : Int) ≤ i := by omega
          have y2 : (i : Int) ≤ 16777216 := by omega
          obtain ⟨ri, gi, gi'⟩ := getI (row := row) (i := i) (by omega)
          simp [fstep, y1, y2, rngD_nat]
          generalize hf : forL _ _ _ = x
          rcases forM_any hf (fun j ρ => ∃ (o5 : Option D), (∀ j', j' < j → clash L row i j' = false) ∧ ρ = [_, _, _, _, _, qs o5, .un]) (fun _ => False)
            (fun r ρ => r = .fr (.bool false) ∧ ¬ OkR L row c ∧ ∃ a b c t, ρ = a :: b :: c :: t) ⟨o5, fun _ h => by omega, rfl⟩ (by
              rintro j j2 ρ hj ⟨o5, hw2, rfl⟩
              obtain ⟨hj', e⟩ := List.getElem?_eq_some_iff.mp hj
              rw [List.getElem_range] at e
              subst e
              have hj' : j < i := by simpa using hj'
              obtain ⟨rj, gj, gj'⟩ := getI (row := row) (i := j) (by omega)
              have lj := ln_at (L := L) (i := j) (by omega)
              simp [fstep, gi, gj, enc_1, lj, laneD, touchI, isFlat]
              by_cases hc : clash L row i j = true
              · have hc' := hc
                unfold clash meetB at hc
                rw [gi', gj'] at hc
                simp only [Bool.and_eq_true, decide_eq_true_eq] at hc
                simp [hc.1]
                have bad : ¬ OkR L row c := fun h => by rw [h.2.2 i hi' j hj'] at hc'; cases hc'
                cases h1 : Gr.touch L j (Gr.ln L i).1
                · have h2 := hc.2
                  rw [h1] at h2
                  simp at h2
                  simp [h2]
                  exact Tu.ret ⟨rfl, bad, _, _, _, _, rfl⟩
                · simp
                  exact Tu.ret ⟨rfl, bad, _, _, _, _, rfl⟩
              · have hc' : clash L row i j = false := by simpa using hc
                have nx : ∀ j', j' < j + 1 → clash L row i j' = false := fun j' h => by
                  by_cases e : j' = j
                  · subst e; exact hc'
                  · exact hw2 j' (by omega)
                unfold clash meetB at hc'
                rw [gi', gj'] at hc'
                by_cases he : rj = ri
                · simp only [he, decide_true, Bool.true_and, Bool.or_eq_false_iff] at hc'
                  simp [he, hc'.1, hc'.2]
                  exact Tu.next ⟨some (.int j), nx, rfl⟩
                · simp [he]
                  exact Tu.next ⟨some (.int j), nx, rfl⟩) with ⟨ρ', rfl, h | h⟩ | ⟨r, ρ', rfl, h⟩
          · obtain ⟨o5, hw2, rfl⟩ := h
            rw [List.length_range] at hw2
            simp
            refine Tu.next ⟨some (.int i), some (laneD (Gr.ln L i)), o5, fun i' h => ?_, rfl⟩
            by_cases e : i' = i
            · subst e; exact hw2
            · exact hw i' (by omega)
          · exact h.elim
          · simp
            exact Tu.ret h) with ⟨ρ', rfl, h | h⟩ | ⟨r, ρ', rfl, h⟩
      · obtain ⟨o3, o4, o5, hw, rfl⟩ := h
        rw [List.length_range] at hw
        simp
        exact Rt.ok ⟨rfl, true, rfl, by simp; exact ⟨hl', ha, hw⟩⟩
      · exact h.elim
      · obtain ⟨rfl, hb, a, b, c, t, rfl⟩ := h
        simp
        exact Rt.ok ⟨rfl, false, rfl, by simp; exact hb⟩
    · rw [decide_eq_false ha]
      simp
      exact Rt.ok ⟨rfl, false, rfl, by simp; exact fun h => ha h.2.1⟩
  · simp [hl]
    exact Rt.ok ⟨rfl, false, rfl, by simp; exact fun h => hl (by rw [h.1])⟩
end K89

set_option maxRecDepth 100000
namespace K89
open Ev PySem L2
theorem r_meet {F : FT} (n : Nat) (L : List Gr.La) (i j : Nat) (hi : i < L.length) (hj : j < L.length) : runD F d_u_law_meet [.fz (enc n L), .fz (.int (i : Int)), .fz (.int (j : Int))] = some (.fr (.bool (meetB L i j)), []) := by
  have li := ln_at hi
  have lj := ln_at hj
  simp only [runD_eq]
  simp [d_u_law_meet, b_u_law_meet, enc_1, li, lj, laneD, touchI, isFlat]
  unfold meetB
  cases Gr.touch L j (Gr.ln L i).1 <;> simp
theorem r_proper (k : Nat) (n : Nat) (L : List Gr.La) (row : List Int) (c : Int) (hL : L.length ≤ 1000) (hr : row.length ≤ 1000) :
    ∃ b : Bool, runD (callF T (k + 1)) d_u_law_proper [.fz (enc n L), .fz (.tuple (row.map .int)), .fz (.int c)] = some (.fr (.bool b), []) ∧ (b = true ↔ OkR L row c) := by
  suffices h : Rt (runD (callF T (k + 1)) d_u_law_proper [.fz (enc n L), .fz (.tuple (row.map .int)), .fz (.int c)]) (k := ⟨fun r o => o = [] ∧ ∃ b : Bool, r = .fr (.bool b) ∧ (b = true ↔ OkR L row c)⟩) by
    obtain ⟨r, o, e, rfl, b, rfl, h⟩ := h
    exact ⟨b, e, h⟩
  simp only [runD_eq]
  simp [d_u_law_proper, b_u_law_proper, enc_1]
  by_cases hl : (row.length : Int) = L.length
  · have hl' : row.length = L.length := by omega
    have y1 : (-4611686018427387904 : Int) ≤ L.length := by omega
    have y2 : (L.length : Int) ≤ 16777216 := by omega
    simp [hl, y1, y2, rngD_nat]
    generalize hf : forL _ _ _ = x
    rcases forM_any hf (fun i ρ => ∃ (o3 o4 : Option D), (∀ i', i' < i → 0 ≤ row.getD i' 0 ∧ row.getD i' 0 < c ∧ ∀ j, j < i' → clash L row i' j = false) ∧ ρ = [_, _, _, qs o3, qs o4]) (fun _ => False)
      (fun r ρ => r = .fr (.bool false) ∧ ¬ OkR L row c ∧ ∃ a b c t, ρ = a :: b :: c :: t) ⟨none, none, fun _ h => by omega, rfl⟩ (by
        rintro i i2 ρ hi ⟨o3, o4, hw, rfl⟩
        obtain ⟨hi', e⟩ := List.getElem?_eq_some_iff.mp hi
        rw [List.getElem_range] at e
        subst e
        have hi' : i < L.length := by simpa using hi'
        have y1 : (-4611686018427387904 : Int) ≤ i := by omega
        have y2 : (i : Int) ≤ 16777216 := by omega
        obtain ⟨ri, gi, gi'⟩ := getI (row := row) (i := i) (by omega)
        have him : ri ∈ row := List.mem_of_getElem? gi
        simp [fstep, gi]
        by_cases hb : 0 ≤ ri ∧ ri < c
        · simp [hb.1, hb.2, y1, y2, rngD_nat]
          generalize hf : forL _ _ _ = x
          rcases forM_any hf (fun j ρ => ∃ (o4 : Option D), (∀ j', j' < j → clash L row i j' = false) ∧ ρ = [_, _, _, _, qs o4]) (fun _ => False)
            (fun r ρ => r = .fr (.bool false) ∧ ¬ OkR L row c ∧ ∃ a b c t, ρ = a :: b :: c :: t) ⟨o4, fun _ h => by omega, rfl⟩ (by
              rintro j j2 ρ hj ⟨o4, hw2, rfl⟩
              obtain ⟨hj', e⟩ := List.getElem?_eq_some_iff.mp hj
              rw [List.getElem_range] at e
              subst e
              have hj' : j < i := by simpa using hj'
              obtain ⟨rj, gj, gj'⟩ := getI (row := row) (i := j) (by omega)
              have em := r_meet (F := callF T k) n L i j hi' (by omega)
              simp [fstep, gi, gj]
              have ec : clash L row i j = (decide (rj = ri) && meetB L i j) := by unfold clash; rw [gi', gj']
              by_cases he : rj = ri
              · have he' : ri = rj := he.symm
                simp [he, call_u_law_meet, ks_meet, em]
                cases hm : meetB L i j
                · simp
                  refine Tu.next ⟨some (.int j), fun j' h => ?_, rfl⟩
                  by_cases e : j' = j
                  · subst e; rw [ec, hm]; simp
                  · exact hw2 j' (by omega)
                · simp
                  refine Tu.ret ⟨rfl, fun h => ?_, _, _, _, _, rfl⟩
                  have := h.2.2 i hi' j hj'
                  rw [ec, hm, decide_eq_true he] at this
                  cases this
              · have he' : ¬ ri = rj := fun e => he e.symm
                simp [he']
                refine Tu.next ⟨some (.int j), fun j' h => ?_, rfl⟩
                by_cases e : j' = j
                · subst e; rw [ec, decide_eq_false he]; rfl
                · exact hw2 j' (by omega)) with ⟨ρ', rfl, h | h⟩ | ⟨r, ρ', rfl, h⟩
          · obtain ⟨o4, hw2, rfl⟩ := h
            rw [List.length_range] at hw2
            simp
            refine Tu.next ⟨some (.int i), o4, fun i' h => ?_, rfl⟩
            by_cases e : i' = i
            · subst e; rw [gi']; exact ⟨hb.1, hb.2, hw2⟩
            · exact hw i' (by omega)
          · exact h.elim
          · simp
            exact Tu.ret h
        · have : ¬ OkR L row c := fun h => hb (h.2.1 ri him)
          by_cases h0 : 0 ≤ ri
          · have h1 : ¬ ri < c := fun z => hb ⟨h0, z⟩
            have h1' : c ≤ ri := by omega
            simp [h0, h1, h1']
            exact Tu.ret ⟨rfl, this, _, _, _, _, rfl⟩
          · have h1 : ri < 0 := by omega
            simp [h0, h1]
            exact Tu.ret ⟨rfl, this, _, _, _, _, rfl⟩) with ⟨ρ', rfl, h | h⟩ | ⟨r, ρ', rfl, h⟩
    · obtain ⟨o3, o4, hw, rfl⟩ := h
      rw [List.length_range] at hw
      simp
      refine Rt.ok ⟨rfl, true, rfl, ?_⟩
      simp
      refine ⟨hl', fun x hx => ?_, fun i hi j hj => (hw i hi).2.2 j hj⟩
      obtain ⟨i, hi, rfl⟩ := List.mem_iff_getElem.mp hx
      have := hw i (by omega)
      have e : row.getD i 0 = row[i] := by simp [hi]
      rw [e] at this
      exact ⟨this.1, this.2.1⟩
    · exact h.elim
    · obtain ⟨rfl, hb, a, b, c, t, rfl⟩ := h
      simp
      exact Rt.ok ⟨rfl, false, rfl, by simp; exact hb⟩
  · simp [hl]
    exact Rt.ok ⟨rfl, false, rfl, by simp; exact fun h => hl (by rw [h.1])⟩
/-- may the next lane have colour x? -/
def fr (L : List Gr.La) (r : List Nat) (x : Nat) : Bool := (List.range r.length).all fun k => !(decide (r.getD k 0 = x) && meetB L k r.length)
theorem filter_nil {α : Type} (p : α → Bool) (l : List α) : (l.filter p).isEmpty = l.all fun x => !p x := by
  induction l with
  | nil => rfl
  | cons a l ih => cases h : p a <;> simp [h, ih]
theorem getN {row : List Nat} {i : Nat} (h : i < row.length) : row[i]? = some (row.getD i 0) := by simp [h]
theorem r_free (k : Nat) (n : Nat) (L : List Gr.La) (r : List Nat) (x : Nat) (hr : r.length < L.length) (hL : L.length ≤ 1000) (s : Slot) (hs : s = .bor (r.map natD)) :
    runD (callF T (k + 1)) d_u_law_free [.fz (enc n L), s, .fz (.int (x : Int))] = some (.fr (.bool (fr L r x)), []) := by
  subst hs
  have y1 : (-4611686018427387904 : Int) ≤ r.length := by omega
  have y2 : (r.length : Int) ≤ 16777216 := by omega
  simp only [runD_eq]
  simp [d_u_law_free, b_u_law_free, y1, y2, rngD_nat]
  generalize hf : compL _ _ _ = w
  have e1 := compM_use hf (fun i => if (decide (r.getD i 0 = x) && meetB L i r.length) = true then some (natD i) else none) fun i hi => by
    have hi' : i < r.length := by simpa using hi
    have em := r_meet (F := callF T k) n L i r.length (by omega) hr
    have g := getN hi'
    generalize hv : r.getD i 0 = v at *
    have vx : ((v : Int) = x) ↔ v = x := by omega
    simp [cstep, g, vx]
    by_cases he : v = x
    · simp [he, call_u_law_meet, ks_meet, em]
      cases meetB L i r.length <;> simp
    · simp [he]
  subst e1
  rw [fm_filter]
  generalize hg : (List.range r.length).filter (fun i => decide (r.getD i 0 = x) && meetB L i r.length) = g
  have : fr L r x = g.isEmpty := by rw [← hg, filter_nil]; rfl
  rw [this]
  rcases g with _ | ⟨a, g⟩
  · simp
  · have hs := shaped_nats (a :: g)
    simp only [List.map_cons, natD_eq] at hs
    simp [hs]
end K89

set_option maxRecDepth 100000
/-! the search for the first row of colours -/
namespace K89
def fits (L : List Gr.La) (c : Nat) (r : List Nat) (a : Nat) : List Nat := (List.range' a (c - a)).filter (fr L r)
def dfs (L : List Gr.La) (c : Nat) : Nat → List Nat → Option (List Nat)
  | 0, r => some r
  | k + 1, r => (fits L c r 0).findSome? fun x => dfs L c k (r ++ [x])
/-- a row of colours for the first lanes -/
def Pr (L : List Gr.La) (c : Nat) (r : List Nat) : Prop := (∀ x ∈ r, x < c) ∧ ∀ i, i < r.length → ∀ j, j < i → r.getD j 0 = r.getD i 0 → meetB L i j = false
theorem meet_comm (L : List Gr.La) (i j : Nat) : meetB L i j = meetB L j i := by
  unfold meetB Gr.touch
  rw [Bool.eq_iff_iff]
  simp only [Bool.or_eq_true, beq_iff_eq]
  omega
theorem fr_iff {L : List Gr.La} {r : List Nat} {x : Nat} : fr L r x = true ↔ ∀ k, k < r.length → r.getD k 0 = x → meetB L k r.length = false := by
  unfold fr
  rw [List.all_eq_true]
  constructor
  · intro h k hk e
    have := h k (by simpa using hk)
    rw [decide_eq_true e] at this
    simpa using this
  · intro h k hk
    have hk : k < r.length := by simpa using hk
    by_cases e : r.getD k 0 = x
    · rw [h k hk e]; simp
    · rw [decide_eq_false e]; rfl
theorem getD_snoc_lt {r : List Nat} {x k : Nat} (h : k < r.length) : (r ++ [x]).getD k 0 = r.getD k 0 := by
  simp [List.getElem?_append_left h]
theorem getD_snoc_eq {r : List Nat} {x : Nat} : (r ++ [x]).getD r.length 0 = x := by simp
theorem Pr.snoc {L : List Gr.La} {c : Nat} {r : List Nat} {x : Nat} : Pr L c (r ++ [x]) ↔ Pr L c r ∧ x < c ∧ fr L r x = true := by
  rw [fr_iff]
  constructor
  · rintro ⟨h1, h2⟩
    refine ⟨⟨fun y hy => h1 y (by simp [hy]), fun i hi j hj e => ?_⟩, h1 x (by simp), fun k hk e => ?_⟩
    · exact h2 i (by simp; omega) j hj (by rw [getD_snoc_lt hi, getD_snoc_lt (by omega)]; exact e)
    · rw [meet_comm]
      exact h2 r.length (by simp) k hk (by rw [getD_snoc_lt hk, getD_snoc_eq]; exact e)
  · rintro ⟨⟨h1, h2⟩, h3, h4⟩
    refine ⟨fun y hy => ?_, fun i hi j hj e => ?_⟩
    · rcases List.mem_append.mp hy with hy | hy
      · exact h1 y hy
      · simp at hy; subst hy; exact h3
    · simp at hi
      by_cases hir : i < r.length
      · rw [getD_snoc_lt hir, getD_snoc_lt (by omega)] at e
        exact h2 i hir j hj e
      · have : i = r.length := by omega
        subst this
        rw [getD_snoc_eq, getD_snoc_lt hj] at e
        rw [meet_comm]
        exact h4 j hj e
theorem Pr.nil (L : List Gr.La) (c : Nat) : Pr L c [] := ⟨fun _ h => by simp at h, fun i h => by simp at h⟩
theorem mem_fits {L : List Gr.La} {c : Nat} {r : List Nat} {a x : Nat} : x ∈ fits L c r a ↔ a ≤ x ∧ x < c ∧ fr L r x = true := by
  unfold fits
  rw [List.mem_filter, List.mem_range'_1]
  constructor
  · rintro ⟨h, f⟩; exact ⟨h.1, by omega, f⟩
  · rintro ⟨h1, h2, f⟩; exact ⟨⟨h1, by omega⟩, f⟩
theorem dfs_sound {L : List Gr.La} {c : Nat} : ∀ {k : Nat} {r w : List Nat}, Pr L c r → dfs L c k r = some w → Pr L c w ∧ w.length = r.length + k ∧ r <+: w
  | 0, r, w, p, h => by cases h; exact ⟨p, rfl, List.prefix_refl _⟩
  | k + 1, r, w, p, h => by
    unfold dfs at h
    obtain ⟨l1, x, l2, e, h1, h2⟩ := List.findSome?_eq_some_iff.mp h
    have hx : x ∈ fits L c r 0 := by rw [e]; simp
    obtain ⟨_, hx1, hx2⟩ := mem_fits.mp hx
    obtain ⟨a1, a2, a3⟩ := dfs_sound (Pr.snoc.mpr ⟨p, hx1, hx2⟩) h1
    exact ⟨a1, by rw [a2]; simp; omega, (List.prefix_append r [x]).trans a3⟩
theorem dfs_complete {L : List Gr.La} {c : Nat} : ∀ {k : Nat} {r s : List Nat}, s.length = k → Pr L c (r ++ s) → dfs L c k r ≠ none
  | 0, r, s, _, _ => by simp [dfs]
  | k + 1, r, [], h, _ => by simp at h
  | k + 1, r, x :: s, h, p => by
    have p1 : Pr L c (r ++ [x]) := ⟨fun y hy => p.1 y (by simp at hy ⊢; rcases hy with hy | hy; exact .inl hy; exact .inr (.inl hy)), fun i hi j hj e => by
      have ea : ∀ q, q < (r ++ [x]).length → (r ++ [x]).getD q 0 = (r ++ x :: s).getD q 0 := fun q hq => by
        have : r ++ x :: s = (r ++ [x]) ++ s := by simp
        rw [this]
        simp only [List.getD_eq_getElem?_getD]
        rw [List.getElem?_append_left hq]
      refine p.2 i ?_ j hj ?_
      · simp at hi ⊢; omega
      · rw [← ea i hi, ← ea j (by omega)]; exact e⟩
    obtain ⟨_, hx1, hx2⟩ := Pr.snoc.mp p1
    intro hn
    unfold dfs at hn
    rw [List.findSome?_eq_none_iff] at hn
    have := hn x (mem_fits.mpr ⟨Nat.zero_le _, hx1, hx2⟩)
    exact dfs_complete (k := k) (r := r ++ [x]) (s := s) (by simpa using h) (by simpa using p) this
/-! ### trying from the last lane on -/
def lf (L : List Gr.La) (c : Nat) : Nat → List Nat → Nat → Option (Option (List Nat))
  | 0, _, _ => none
  | n + 1, r, a => if r.length = L.length then some (some r) else match fits L c r a with
    | x :: _ => lf L c n (r ++ [x]) 0
    | [] => match r.getLast? with
      | none => some none
      | some y => lf L c n r.dropLast (y + 1)
theorem range_split (p : Nat → Bool) : ∀ (n a : Nat) {x : Nat} {t : List Nat}, (List.range' a n).filter p = x :: t → a ≤ x ∧ x < a + n ∧ p x = true ∧ t = (List.range' (x + 1) (a + n - (x + 1))).filter p
  | 0, a, x, t, h => by simp at h
  | n + 1, a, x, t, h => by
    rw [List.range'_succ] at h
    by_cases hp : p a = true
    · rw [List.filter_cons_of_pos hp] at h
      have h1 := (List.cons.inj h).1
      have h2 := (List.cons.inj h).2
      subst h1
      refine ⟨Nat.le_refl _, by omega, hp, ?_⟩
      rw [← h2, show a + (n + 1) - (a + 1) = n by omega]
    · rw [List.filter_cons_of_neg hp] at h
      obtain ⟨a1, a2, a3, a4⟩ := range_split p n (a + 1) h
      exact ⟨by omega, by omega, a3, by rw [a4, show a + 1 + n - (x + 1) = a + (n + 1) - (x + 1) by omega]⟩
theorem fits_tail {L : List Gr.La} {c : Nat} {r : List Nat} {a x : Nat} {t : List Nat} (h : fits L c r a = x :: t) : x < c ∧ fr L r x = true ∧ t = fits L c r (x + 1) := by
  unfold fits at h
  obtain ⟨h1, h2, h3, h4⟩ := range_split _ _ _ h
  refine ⟨by omega, h3, ?_⟩
  unfold fits
  rw [h4, show a + (c - a) - (x + 1) = c - (x + 1) by omega]
def nf (c : Nat) : Nat → Nat
  | 0 => 0
  | 1 => 1
  | k + 2 => 1 + c * (1 + nf c (k + 1))
def ns (c : Nat) : Nat → Nat
  | 0 => 1
  | 1 => 2
  | k + 2 => c * (1 + nf c (k + 1)) + 1 + ns c (k + 1)
theorem fits_len {L : List Gr.La} {c : Nat} {r : List Nat} {a : Nat} : (fits L c r a).length ≤ c := by
  unfold fits
  have := List.length_filter_le (fr L r) (List.range' a (c - a))
  rw [List.length_range'] at this
  omega
/-- how the search goes on from (r, a) -/
def Goes (L : List Gr.La) (c k : Nat) (r : List Nat) (a : Nat) (N S : Nat) : Prop := match (fits L c r a).findSome? (fun x => dfs L c k (r ++ [x])) with
  | some w => ∃ j, j ≤ S ∧ ∀ n, lf L c (j + n) r a = some (some w)
  | none => ∃ j, j ≤ N ∧ ∀ y, r.getLast? = some y → ∀ n, lf L c (j + n) r a = lf L c n r.dropLast (y + 1)
theorem goes1 {L : List Gr.La} {c : Nat} (r : List Nat) (a : Nat) (hr : r.length + 1 = L.length) : Goes L c 0 r a 1 2 := by
  have hne : ¬ r.length = L.length := by omega
  unfold Goes
  cases h : fits L c r a with
  | nil =>
    simp only [List.findSome?_nil]
    refine ⟨1, Nat.le_refl _, fun y hy n => ?_⟩
    rw [Nat.add_comm, lf, if_neg hne, h]
    simp only [hy]
  | cons x t =>
    simp only [List.findSome?_cons, dfs]
    refine ⟨2, Nat.le_refl _, fun n => ?_⟩
    rw [show 2 + n = (n + 1) + 1 by omega, lf, if_neg hne, h]
    simp only
    rw [lf, if_pos (by simpa using hr)]
theorem goes {L : List Gr.La} {c : Nat} : ∀ (k : Nat) (r : List Nat), r.length + (k + 1) = L.length → ∀ (t : Nat) (a : Nat), (fits L c r a).length ≤ t → Goes L c k r a (if k = 0 then 1 else 1 + t * (1 + nf c k)) (if k = 0 then 2 else t * (1 + nf c k) + 1 + ns c k)
  | 0, r, hr, t, a, _ => goes1 r a hr
  | k + 1, r, hr, t, a, ht => by
    have hne : ¬ r.length = L.length := by omega
    simp only [Nat.add_one_ne_zero, if_false]
    induction t generalizing a with
    | zero =>
      have h : fits L c r a = [] := List.eq_nil_of_length_eq_zero (by omega)
      unfold Goes
      rw [h]
      simp only [List.findSome?_nil]
      refine ⟨1, by omega, fun y hy n => ?_⟩
      rw [Nat.add_comm, lf, if_neg hne, h]
      simp only [hy]
    | succ t ih =>
      cases h : fits L c r a with
      | nil =>
        unfold Goes
        rw [h]
        simp only [List.findSome?_nil]
        refine ⟨1, by omega, fun y hy n => ?_⟩
        rw [Nat.add_comm, lf, if_neg hne, h]
        simp only [hy]
      | cons x tl =>
        obtain ⟨hx1, hx2, htl⟩ := fits_tail h
        have g := goes (L := L) (c := c) k (r ++ [x]) (by rw [List.length_append, List.length_singleton]; omega) c 0 fits_len
        have hlt : (fits L c r (x + 1)).length ≤ t := by rw [← htl]; rw [h] at ht; simp at ht; exact ht
        have g2 := ih (x + 1) hlt
        unfold Goes
        rw [h, List.findSome?_cons]
        have ed : dfs L c (k + 1) (r ++ [x]) = (fits L c (r ++ [x]) 0).findSome? fun y => dfs L c k (r ++ [x] ++ [y]) := rfl
        unfold Goes at g
        rw [ed]
        have e1 : 1 + (if k = 0 then 1 else 1 + c * (1 + nf c k)) = 1 + nf c (k + 1) := by
          cases k with
          | zero => rfl
          | succ k => simp [nf]
        have e2 : (if k = 0 then 2 else c * (1 + nf c k) + 1 + ns c k) = ns c (k + 1) := by
          cases k with
          | zero => rfl
          | succ k => simp [ns]
        cases hf : (fits L c (r ++ [x]) 0).findSome? (fun y => dfs L c k (r ++ [x] ++ [y])) with
        | some w =>
          rw [hf] at g
          simp only at g ⊢
          obtain ⟨j, hj, hg⟩ := g
          refine ⟨1 + j, by rw [e2] at hj; omega, fun n => ?_⟩
          rw [show 1 + j + n = (j + n) + 1 by omega, lf, if_neg hne, h]
          exact hg n
        | none =>
          rw [hf] at g
          simp only at g ⊢
          obtain ⟨j, hj, hg⟩ := g
          have stepj : ∀ n, lf L c (1 + j + n) r a = lf L c n r (x + 1) := fun n => by
            rw [show 1 + j + n = (j + n) + 1 by omega, lf, if_neg hne, h]
            simp only
            rw [hg x (by simp) n]
            simp
          have hj' : 1 + j ≤ 1 + nf c (k + 1) := by omega
          have hm : (t + 1) * (1 + nf c (k + 1)) = t * (1 + nf c (k + 1)) + (1 + nf c (k + 1)) := Nat.succ_mul _ _
          rw [htl]
          unfold Goes at g2
          cases hf2 : (fits L c r (x + 1)).findSome? (fun x => dfs L c (k + 1) (r ++ [x])) with
          | some w =>
            rw [hf2] at g2
            simp only at g2 ⊢
            obtain ⟨j2, hj2, hg2⟩ := g2
            refine ⟨1 + j + j2, by omega, fun n => ?_⟩
            rw [show 1 + j + j2 + n = 1 + j + (j2 + n) by omega, stepj]
            exact hg2 n
          | none =>
            rw [hf2] at g2
            simp only at g2 ⊢
            obtain ⟨j2, hj2, hg2⟩ := g2
            refine ⟨1 + j + j2, by omega, fun y hy n => ?_⟩
            rw [show 1 + j + j2 + n = 1 + j + (j2 + n) by omega, stepj]
            exact hg2 y hy n
/-! ### other names for colours -/
def swap0 (a x : Nat) : Nat := if x = a then 0 else if x = 0 then a else x
theorem swap0_inj {a x y : Nat} (h : swap0 a x = swap0 a y) : x = y := by
  unfold swap0 at h
  split at h <;> split at h <;> (try split at h) <;> (try split at h) <;> omega
theorem Pr.map {L : List Gr.La} {c c' : Nat} {r : List Nat} (f : Nat → Nat) (h : Pr L c r) (hf : ∀ x y, f x = f y → x = y) (hb : ∀ x ∈ r, f x < c') : Pr L c' (r.map f) := by
  refine ⟨fun x hx => ?_, fun i hi j hj e => ?_⟩
  · obtain ⟨y, hy, rfl⟩ := List.mem_map.mp hx
    exact hb y hy
  · have hi : i < r.length := by simpa using hi
    have e1 : ∀ q, q < r.length → (r.map f).getD q 0 = f (r.getD q 0) := fun q hq => by simp [hq]
    rw [e1 i hi, e1 j (by omega)] at e
    exact h.2 i hi j hj (hf _ _ e)
/-- there is one that begins with colour 0 -/
theorem Pr.zero {L : List Gr.La} {c : Nat} {x : Nat} {s : List Nat} (h : Pr L c (x :: s)) : ∃ s', s'.length = s.length ∧ Pr L c (0 :: s') := by
  have hx : x < c := h.1 x (by simp)
  refine ⟨s.map (swap0 x), by simp, ?_⟩
  have := h.map (c' := c) (swap0 x) (fun _ _ e => swap0_inj e) (fun y hy => by
    have := h.1 y hy
    unfold swap0
    split
    · omega
    · split <;> omega)
  simpa [swap0] using this
/-- the search has its row in time -/
theorem lf_all {L : List Gr.La} {c : Nat} {w : List Nat} (hw : Pr L c w) (hl : w.length = L.length) (hm : L.length ≤ 6) (hc : c ≤ 7) : ∃ w', dfs L c L.length [] = some w' ∧ lf L c 9000 [] 0 = some (some w') := by
  cases w with
  | nil =>
    have : L.length = 0 := by simpa using hl.symm
    refine ⟨[], by rw [this]; rfl, ?_⟩
    rw [lf, if_pos (by simpa using this.symm)]
  | cons x s =>
    obtain ⟨s', h1, h2⟩ := hw.zero
    have hk : L.length = s.length + 1 := by simpa using hl.symm
    have c0 : 0 < c := by have := h2.1 0 (by simp); omega
    have p0 : Pr L c [0] := (Pr.snoc (r := []) (x := 0)).mpr ⟨Pr.nil L c, c0, fr_iff.mpr fun k hk => by simp at hk⟩
    have f0 : fits L c [] 0 = 0 :: fits L c [] 1 := by
      cases h : fits L c [] 0 with
      | nil =>
        have : 0 ∈ fits L c [] 0 := mem_fits.mpr ⟨Nat.le_refl _, c0, fr_iff.mpr fun k hk => by simp at hk⟩
        rw [h] at this; simp at this
      | cons y t =>
        obtain ⟨_, _, e⟩ := fits_tail h
        have : y = 0 := by
          unfold fits at h
          obtain ⟨c', rfl⟩ : ∃ c', c = c' + 1 := ⟨c - 1, by omega⟩
          rw [Nat.sub_zero, List.range'_succ, List.filter_cons_of_pos (fr_iff.mpr fun k hk => by simp at hk)] at h
          exact (List.cons.inj h).1.symm
        subst this
        rw [e]
    have hd : dfs L c s.length [0] ≠ none := dfs_complete (s := s') (by omega) h2
    cases hw' : dfs L c s.length [0] with
    | none => exact absurd hw' hd
    | some w' =>
      have e1 : dfs L c L.length [] = some w' := by
        rw [hk]; unfold dfs
        rw [f0, List.findSome?_cons]
        simp only [List.nil_append, hw']
      refine ⟨w', e1, ?_⟩
      have hne : ¬ ([] : List Nat).length = L.length := by simp; omega
      have st : ∀ n, lf L c (n + 1) [] 0 = lf L c n [0] 0 := fun n => by
        rw [lf, if_neg hne, f0]; rfl
      have key : ∃ j, j ≤ 8000 ∧ ∀ n, lf L c (j + n) [0] 0 = some (some w') := by
        cases hs : s.length with
        | zero =>
          rw [hs] at hw'
          cases hw'
          refine ⟨1, by omega, fun n => ?_⟩
          rw [Nat.add_comm, lf, if_pos (by simp; omega)]
        | succ k =>
          have g := goes (L := L) (c := c) k [0] (by simp; omega) c 0 fits_len
          unfold Goes at g
          rw [hs] at hw'
          unfold dfs at hw'
          rw [hw'] at g
          simp only at g
          obtain ⟨j, hj, hg⟩ := g
          refine ⟨j, Nat.le_trans hj ?_, hg⟩
          have hk5 : k < 5 := by omega
          have hc8 : c < 8 := by omega
          have : ∀ k, k < 5 → ∀ c, c < 8 → (if k = 0 then 2 else c * (1 + nf c k) + 1 + ns c k) ≤ 8000 := by decide +kernel
          exact this k hk5 c hc8
      obtain ⟨j, hj, hg⟩ := key
      rw [show 9000 = (j + (8999 - j)) + 1 by omega, st]
      exact hg _
end K89

set_option maxRecDepth 100000
namespace K89
open Ev PySem L2
def rowD (r : List Nat) : D := .tuple (r.map natD)
theorem rowD_eq (r) : rowD r = .tuple (r.map natD) := rfl
def resD : Option (List Nat) → D
  | none => .none
  | some r => rowD r
def Val (L : List Gr.La) (c : Nat) (st : List (List Nat)) : Option (List Nat) := st.reverse.findSome? fun r => dfs L c (L.length - r.length) r
def Bd (L : List Gr.La) (c : Nat) (st : List (List Nat)) : Prop := ∀ i r, st[i]? = some r → r.length ≤ L.length ∧ i + (L.length - r.length) * c ≤ L.length * c
def mu (L : List Gr.La) (c : Nat) (st : List (List Nat)) : Nat := (st.map fun r => (c + 1) ^ (L.length - r.length)).sum
def grow (L : List Gr.La) (c : Nat) (r : List Nat) : List (List Nat) := (fits L c r 0).reverse.map fun x => r ++ [x]
theorem val_step {L : List Gr.La} {c : Nat} {st : List (List Nat)} {r : List Nat} (h : r.length < L.length) : Val L c (st ++ grow L c r) = Val L c (st ++ [r]) := by
  unfold Val grow
  rw [List.reverse_append, List.reverse_append, List.findSome?_append, List.findSome?_append]
  congr 1
  rw [List.map_reverse, List.reverse_reverse, List.reverse_singleton, List.findSome?_cons]
  obtain ⟨k, hk⟩ : ∃ k, L.length - r.length = k + 1 := ⟨L.length - r.length - 1, by omega⟩
  rw [hk, dfs]
  rw [List.findSome?_map]
  have : ((fun r => dfs L c (L.length - r.length) r) ∘ fun x => r ++ [x]) = fun x => dfs L c k (r ++ [x]) := by
    funext x
    show dfs L c (L.length - (r ++ [x]).length) _ = _
    rw [List.length_append, List.length_singleton, show L.length - (r.length + 1) = k by omega]
  rw [this]
  cases (fits L c r 0).findSome? (fun x => dfs L c k (r ++ [x])) <;> rfl
theorem bd_step {L : List Gr.La} {c : Nat} {st : List (List Nat)} {r : List Nat} (h : r.length < L.length) (b : Bd L c (st ++ [r])) : Bd L c (st ++ grow L c r) := by
  intro i s hs
  by_cases hi : i < st.length
  · rw [List.getElem?_append_left hi] at hs
    exact b i s (by rw [List.getElem?_append_left hi]; exact hs)
  · rw [List.getElem?_append_right (by omega)] at hs
    have hr := (b st.length r (by simp)).2
    have hlt := (List.getElem?_eq_some_iff.mp hs).1
    have hm := List.mem_of_getElem? hs
    unfold grow at hlt hm
    rw [List.length_map, List.length_reverse] at hlt
    obtain ⟨x, _, rfl⟩ := List.mem_map.mp hm
    have := fits_len (L := L) (c := c) (r := r) (a := 0)
    have e : L.length - r.length = (L.length - (r.length + 1)) + 1 := by omega
    rw [e, Nat.succ_mul] at hr
    rw [List.length_append, List.length_singleton]
    exact ⟨by omega, by omega⟩
theorem sum_le' {α : Type} (f : α → Nat) (b : Nat) : ∀ l : List α, (∀ x ∈ l, f x ≤ b) → (l.map f).sum ≤ l.length * b
  | [], _ => by simp
  | x :: l, h => by
    have := sum_le' f b l fun y hy => h y (by simp [hy])
    have h1 := h x (by simp)
    rw [List.map_cons, List.sum_cons, List.length_cons, Nat.succ_mul]
    omega
theorem mu_step {L : List Gr.La} {c : Nat} {st : List (List Nat)} {r : List Nat} (h : r.length < L.length) : mu L c (st ++ grow L c r) < mu L c (st ++ [r]) := by
  unfold mu
  rw [List.map_append, List.map_append, List.sum_append, List.sum_append]
  have h1 : ((grow L c r).map fun r => (c + 1) ^ (L.length - r.length)).sum ≤ (grow L c r).length * (c + 1) ^ (L.length - (r.length + 1)) := sum_le' _ _ _ fun s hs => by
    unfold grow at hs
    obtain ⟨x, _, rfl⟩ := List.mem_map.mp hs
    rw [List.length_append, List.length_singleton]
    exact Nat.le_refl _
  have h2 : (grow L c r).length ≤ c := by unfold grow; rw [List.length_map, List.length_reverse]; exact fits_len
  obtain ⟨k, hk⟩ : ∃ k, L.length - r.length = k + 1 := ⟨L.length - r.length - 1, by omega⟩
  have h3 : L.length - (r.length + 1) = k := by omega
  rw [h3] at h1
  simp only [List.map_cons, List.map_nil, List.sum_cons, List.sum_nil, hk, Nat.pow_succ, Nat.add_zero]
  have h4 : 0 < (c + 1) ^ k := Nat.pow_pos (by omega)
  have h5 := Nat.mul_le_mul_right ((c + 1) ^ k) h2
  have h6 : (c + 1) ^ k * (c + 1) = c * (c + 1) ^ k + (c + 1) ^ k := by rw [Nat.mul_succ, Nat.mul_comm]
  omega
/-- what the search shows next -/
def nears (L : List Gr.La) (r : List Nat) : List Nat := ((List.range r.length).filter fun k => meetB L r.length k).map fun k => r.getD k 0
theorem nears_fr (L : List Gr.La) (r : List Nat) (x : Nat) : fr L r x = !decide (x ∈ nears L r) := by
  rw [Bool.eq_iff_iff, fr_iff, Bool.not_eq_true', decide_eq_false_iff_not]
  unfold nears
  simp only [List.mem_map, List.mem_filter, List.mem_range]
  constructor
  · rintro h ⟨k, ⟨hk, hm⟩, e⟩
    have := h k hk e
    rw [meet_comm, hm] at this
    cases this
  · intro h k hk e
    cases hm : meetB L k r.length with
    | false => rfl
    | true => exact absurd ⟨k, ⟨hk, by rw [meet_comm]; exact hm⟩, e⟩ h
theorem fits_zero (L : List Gr.La) (c : Nat) (r : List Nat) : (fits L c r 0).reverse = ((List.range c).reverse).filter fun x => !decide (x ∈ nears L r) := by
  unfold fits
  rw [Nat.sub_zero, ← List.range_eq_range', List.filter_reverse]
  congr 1
  apply List.filter_congr
  intro x _
  exact nears_fr L r x
theorem shaped_natsI (a : Nat) (g : List Nat) : SeqAt.shaped (.list (.int (a : Int) :: g.map natD)) = true := shaped_nats (a :: g)
theorem fuelG : (21 : Nat) ^ 20 < 10715086071862673209484250490600018105614048117055336074437503883703510511249361224931983788156958581275946729175531468251871452856923140435984577574698574803934567774824230985421074605062371141877954182153046474983581941267398767559165543946077062914571196477686542167660429831652624386837205668069376 := by decide +kernel
theorem r_lc {F : FT} (n : Nat) (L : List Gr.La) (c : Nat) (hL : L.length ≤ 20) (hc : c ≤ 20) :
    runD F d_lane_colouring [.fz (enc n L), .fz (.int (c : Int))] = some (.fr (resD (dfs L c L.length [])), []) := by
  suffices h : Rt (runD F d_lane_colouring [.fz (enc n L), .fz (.int (c : Int))]) (k := ⟨fun r o => o = [] ∧ r = .fr (resD (dfs L c L.length []))⟩) by
    obtain ⟨r, o, e, rfl, rfl⟩ := h
    exact e
  have fuel := fuelG
  simp only [runD_eq]
  simp [d_lane_colouring, b_lane_colouring]
  generalize (10715086071862673209484250490600018105614048117055336074437503883703510511249361224931983788156958581275946729175531468251871452856923140435984577574698574803934567774824230985421074605062371141877954182153046474983581941267398767559165543946077062914571196477686542167660429831652624386837205668069376 : Nat) = fl at *
  generalize hf : whileL _ _ _ _ = x
  have v0 : Val L c [[]] = dfs L c L.length [] := by
    unfold Val
    simp only [List.reverse_singleton, List.findSome?_cons, List.length_nil, Nat.sub_zero, List.findSome?_nil]
    cases dfs L c L.length [] <;> rfl
  have hx := whileT (σ := List (List Nat) × Option D × Option D × Option (List D)) (fun s => [.fz (enc n L), .fz (.int (c : Int)), .own (s.1.map rowD), qs s.2.1, qs s.2.2.1, os s.2.2.2, .un, .un]) (fun s => mu L c s.1)
    (fun s => Bd L c s.1 ∧ Val L c s.1 = dfs L c L.length []) (fun ρ => dfs L c L.length [] = none ∧ ∃ a b t, ρ = a :: b :: t)
    (fun r ρ => r = .fr (resD (dfs L c L.length [])) ∧ ∃ a b t, ρ = a :: b :: t)
    (s := ([[]], none, none, none)) (by simpa [rowD] using hf) ⟨fun i r h => by
      rcases i with _ | i
      · simp at h; subst h; simp
      · simp at h, v0⟩ (by
      refine Nat.lt_of_le_of_lt ?_ fuel
      unfold mu
      simp
      exact Nat.le_trans (Nat.pow_le_pow_left (show c + 1 ≤ 21 by omega) L.length) (Nat.pow_le_pow_right (show 21 > 0 by omega) hL)) (by
      rintro ⟨st, o3, o4, o5⟩ ⟨hb, hv⟩
      simp only at hb hv
      rcases List.eq_nil_or_concat st with rfl | ⟨st', r, rfl⟩
      · left
        refine ⟨by simp, ?_, _, _, _, rfl⟩
        rw [← hv]; rfl
      · right
        rw [List.concat_eq_append] at hb hv ⊢
        have hbl := hb st'.length r (by simp)
        have hb2 : st'.length ≤ 400 := by
          have := hbl.2
          have := Nat.mul_le_mul hL hc
          omega
        refine ⟨by simp, ?_⟩
        simp
        by_cases hrl : r.length = L.length
        · have hri : (r.length : Int) = L.length := by omega
          simp [rowD, enc_1, hri]
          refine Tu.ret ⟨?_, _, _, _, rfl⟩
          rw [← hv]
          unfold Val
          rw [List.reverse_append, List.reverse_singleton, List.singleton_append, List.findSome?_cons, hrl, Nat.sub_self]
          rfl
        · have hri : ¬ (r.length : Int) = L.length := by omega
          have hlt : r.length < L.length := by omega
          have ll := ln_at hlt
          have y1 : (-4611686018427387904 : Int) ≤ r.length := by omega
          have y2 : (r.length : Int) ≤ 16777216 := by omega
          have y3 : (-4611686018427387904 : Int) ≤ c := by omega
          have y4 : (c : Int) ≤ 16777216 := by omega
          simp [rowD, enc_1, hri, ll, y1, y2, y3, y4, rngD_nat]
          generalize hf : compL _ _ _ = x
          have e1 := compM_use hf (fun k => if (meetB L r.length k) = true then some (natD (r.getD k 0)) else none) fun k hk => by
            have hk' : k < r.length := by simpa using hk
            have lk := ln_at (L := L) (i := k) (by omega)
            have g := getN hk'
            generalize hv : r.getD k 0 = v at *
            simp [cstep, laneD, enc_1, lk, touchI, isFlat, g, meetB]
            cases Gr.touch L k (Gr.ln L r.length).1
            · cases Gr.touch L k (Gr.ln L r.length).2 <;> simp [g]
            · simp [g]
          subst e1
          rw [fm_filter]
          have e2 : (((List.range r.length).filter fun k => meetB L r.length k).map fun k => natD (r.getD k 0)) = (nears L r).map natD := by unfold nears; rw [List.map_map]; rfl
          rw [e2]
          simp [y3, y4, rngD_nat, -List.map_reverse]
          rw [← List.map_reverse]
          generalize hf : compL _ _ _ = x
          have e3 := compM_use hf (fun z => if (!decide (z ∈ nears L r)) = true then some (rowD (r ++ [z])) else none) fun z hz => by
            have zl : r.length ≤ 16777215 := by omega
            simp [cstep, any_nat, rowD, -List.any_map]
            by_cases hm : z ∈ nears L r <;> simp [hm, zl]
          subst e3
          rw [fm_filter, ← fits_zero]
          have e4 : (fits L c r 0).reverse.map (fun z => rowD (r ++ [z])) = (grow L c r).map rowD := by unfold grow; rw [List.map_map]; rfl
          rw [e4]
          have gl : (grow L c r).length ≤ c := by unfold grow; rw [List.length_map, List.length_reverse]; exact fits_len
          have zl : st'.length + (grow L c r).length ≤ 16777216 := by omega
          simp [zl]
          exact Tu.next ⟨(st' ++ grow L c r, some (rowD r), some (laneD (Gr.ln L r.length)), some ((nears L r).map natD)), by simp [rowD, laneD], ⟨bd_step hlt hb, by rw [val_step hlt]; exact hv⟩, mu_step hlt⟩)
  rcases hx with ⟨ρ', rfl, h, a, b, t, rfl⟩ | ⟨r, ρ', rfl, rfl, a, b, t, rfl⟩
  · simp
    refine Rt.ok ⟨rfl, ?_⟩
    rw [h]; rfl
  · simp
    exact Rt.ok ⟨rfl, rfl⟩
/-- the least number of colours -/
def Can (L : List Gr.La) (c : Nat) : Prop := ∃ w : List Nat, Pr L c w ∧ w.length = L.length
theorem can_iff {L : List Gr.La} {c : Nat} : Can L c ↔ dfs L c L.length [] ≠ none := by
  constructor
  · rintro ⟨w, h1, h2⟩
    exact dfs_complete (s := w) h2 (by simpa using h1)
  · intro h
    cases e : dfs L c L.length [] with
    | none => exact absurd e h
    | some w =>
      obtain ⟨a1, a2, _⟩ := dfs_sound (Pr.nil L c) e
      exact ⟨w, a1, by simpa using a2⟩
theorem can_all (L : List Gr.La) : Can L L.length := by
  refine ⟨List.range L.length, ⟨fun x hx => by simpa using hx, fun i hi j hj e => ?_⟩, by simp⟩
  have hi : i < L.length := by simpa using hi
  have hj2 : j < L.length := by omega
  simp [hi, hj2] at e
  omega
theorem can_mono {L : List Gr.La} {c c' : Nat} (h : c ≤ c') (k : Can L c) : Can L c' := by
  obtain ⟨w, ⟨h1, h2⟩, h3⟩ := k
  exact ⟨w, ⟨fun x hx => Nat.lt_of_lt_of_le (h1 x hx) h, h2⟩, h3⟩
def Least (L : List Gr.La) (c : Nat) : Prop := Can L c ∧ ∀ c', c' < c → ¬ Can L c'
theorem Least.uniq {L : List Gr.La} {c c' : Nat} (h : Least L c) (h' : Least L c') : c = c' := by
  rcases Nat.lt_trichotomy c c' with z | z | z
  · exact absurd h.1 (h'.2 c z)
  · exact z
  · exact absurd h'.1 (h.2 c' z)
theorem resD_none (o : Option (List Nat)) : (match resD o with | .none => true | _ => false) = o.isNone := by cases o <;> rfl
theorem r_llc (k : Nat) (n : Nat) (L : List Gr.La) (hL : L.length ≤ 20) : ∃ c : Nat, Least L c ∧ c ≤ L.length ∧ runD (callF T (k + 1)) d_least_lane_colours [.fz (enc n L)] = some (.fr (.int (c : Int)), []) := by
  suffices h : Rt (runD (callF T (k + 1)) d_least_lane_colours [.fz (enc n L)]) (k := ⟨fun r o => o = [] ∧ ∃ c : Nat, Least L c ∧ c ≤ L.length ∧ r = .fr (.int (c : Int))⟩) by
    obtain ⟨r, o, e, rfl, c, h1, h2, rfl⟩ := h
    exact ⟨c, h1, h2, e⟩
  have fuel := fuelG
  simp only [runD_eq]
  simp [d_least_lane_colours, b_least_lane_colours]
  generalize (10715086071862673209484250490600018105614048117055336074437503883703510511249361224931983788156958581275946729175531468251871452856923140435984577574698574803934567774824230985421074605062371141877954182153046474983581941267398767559165543946077062914571196477686542167660429831652624386837205668069376 : Nat) = fl at *
  generalize hf : whileL _ _ _ _ = x
  obtain ⟨c, rfl, h⟩ := whileL_use (σ := Nat) (fun c => [.fz (enc n L), .fz (.int (c : Int))]) (fun c => L.length - c)
    (fun c => c ≤ L.length ∧ ∀ c', c' < c → ¬ Can L c') (fun c => Least L c ∧ c ≤ L.length) (s := 0) hf ⟨by omega, fun _ h => by omega⟩ (Nat.lt_trans (show L.length - 0 < 21 ^ 20 from Nat.lt_of_le_of_lt (show L.length - 0 ≤ 20 by omega) (by decide)) fuel) (by
      rintro c ⟨hc, hn⟩
      have e := r_lc (F := callF T k) n L c hL (by omega)
      by_cases hcan : Can L c
      · left
        have hd := can_iff.mp hcan
        refine ⟨?_, ⟨hcan, hn⟩, hc⟩
        simp [call_lane_colouring, ks_lc, e]
        cases h : dfs L c L.length [] with
        | none => exact absurd h hd
        | some w => rfl
      · right
        have hd : dfs L c L.length [] = none := by
          by_cases h : dfs L c L.length [] = none
          · exact h
          · exact absurd (can_iff.mpr h) hcan
        have hlt : c < L.length := by
          rcases Nat.lt_or_ge c L.length with z | z
          · exact z
          · exact absurd (can_mono z (can_all L)) hcan
        refine ⟨c + 1, ?_, ?_, ⟨hlt, fun c' h => ?_⟩, by omega⟩
        · simp [call_lane_colouring, ks_lc, e, hd, resD]
        · simp
        · by_cases z : c' = c
          · subst z; exact hcan
          · exact hn c' (by omega))
  simp
  exact Rt.ok ⟨rfl, c, h.1, h.2, rfl⟩
end K89

set_option maxRecDepth 100000
namespace K89
open Ev PySem L2
theorem fits_eq (L : List Gr.La) (c : Nat) (r : List Nat) (a : Nat) : (rngD (a : Int) (c : Int)) = (List.range' a (c - a)).map natD := by
  unfold rngD
  rw [show ((c : Int) - (a : Int)).toNat = c - a by omega, List.range'_eq_map_range, List.map_map]
  apply List.map_congr_left
  intro i _
  simp [natD]
theorem r_first (k : Nat) (n : Nat) (L : List Gr.La) (c : Nat) (hL : L.length ≤ 6) (hc : c ≤ 7) (hcan : Can L c) :
    ∃ w : List Nat, Pr L c w ∧ w.length = L.length ∧ dfs L c L.length [] = some w ∧ runD (callF T (k + 2)) d_u_law_first [.fz (enc n L), .fz (.int (c : Int))] = some (.fr (rowD w), []) := by
  obtain ⟨w0, p1, p2⟩ := hcan
  obtain ⟨w, d1, d2⟩ := lf_all p1 p2 hL hc
  obtain ⟨q1, q2, _⟩ := dfs_sound (Pr.nil L c) d1
  refine ⟨w, q1, by simpa using q2, d1, ?_⟩
  suffices h : Rt (runD (callF T (k + 2)) d_u_law_first [.fz (enc n L), .fz (.int (c : Int))]) (k := ⟨fun r o => o = [] ∧ r = .fr (rowD w)⟩) by
    obtain ⟨r, o, e, rfl, rfl⟩ := h
    exact e
  have y3 : (c : Int) < 4611686018427387904 := by omega
  have y4 : (-4611686018427387904 : Int) ≤ c := by omega
  simp only [runD_eq]
  simp [d_u_law_first, b_u_law_first]
  generalize hf : forL _ _ _ = x
  rcases forR_any hf (fun i ρ => ∃ (r : List Nat) (a : Nat) (o4 : Option D) (o5 : Option (List D)), r.length ≤ L.length ∧ a ≤ 1000 + i ∧ (∀ x ∈ r, x < 100) ∧ lf L c (9000 - i) r a = some (some w) ∧ ρ = [_, _, .own (r.map natD), .fz (.int (a : Int)), qs o4, os o5, .un]) (fun _ => False)
    (fun r ρ => r = .fr (rowD w) ∧ ∃ a b t, ρ = a :: b :: t) ⟨[], 0, none, none, by simp, by omega, fun _ h => by simp at h, d2, rfl⟩ (by
      rintro i ρ hi ⟨r, a, o4, o5, hr, ha, hx, hl, rfl⟩
      have hi' : i < 9000 := by simpa using hi
      rw [show 9000 - i = (9000 - (i + 1)) + 1 by omega, lf] at hl
      simp [fstep, enc_1]
      by_cases he : r.length = L.length
      · rw [if_pos he] at hl
        have hei : (r.length : Int) = L.length := by omega
        have hrw : r = w := by simpa using hl
        simp [hei]
        rw [hrw]
        exact Tu.ret ⟨rfl, _, _, _, rfl⟩
      · rw [if_neg he] at hl
        have hei : ¬ (r.length : Int) = L.length := by omega
        have z1 : (a : Int) < 4611686018427387904 := by omega
        have z2 : (-4611686018427387904 : Int) ≤ a := by omega
        have z3 : (c : Int) - a ≤ 16777216 := by omega
        simp [hei, y3, y4, z1, z2, z3, fits_eq L c r a]
        generalize hf : compL _ _ _ = x
        have e1 := compM_use hf (fun z => if fr L r z = true then some (natD z) else none) fun z hz => by
          have em := r_free k n L r z (by omega) (by omega) _ rfl
          simp [cstep, call_u_law_free, ks_free, em]
          cases fr L r z <;> simp
        subst e1
        rw [fm_filter]
        have e2 : (List.range' a (c - a)).filter (fr L r) = fits L c r a := rfl
        have e2' : (List.range' a (c - a)).filter (fun x => fr L r x) = fits L c r a := rfl
        rw [e2']
        cases hft : fits L c r a with
        | cons x t =>
          rw [hft] at hl
          simp only at hl
          have hxc := (mem_fits (L := L) (c := c) (r := r) (a := a) (x := x)).mp (by rw [hft]; simp)
          have hs := shaped_natsI x t
          have zl : r.length < 16777216 := by omega
          simp [hs, zl]
          refine Tu.next ⟨r ++ [x], 0, some (.int i), some ((x :: t).map natD), by rw [List.length_append, List.length_singleton]; omega, by omega, fun y hy => ?_, hl, by simp⟩
          rcases List.mem_append.mp hy with hy | hy
          · exact hx y hy
          · simp at hy; omega
        | nil =>
          rw [hft] at hl
          simp only at hl
          rcases List.eq_nil_or_concat r with rfl | ⟨r', y, rfl⟩
          · simp at hl
          · rw [List.concat_eq_append] at hl hr hx ⊢
            simp at hl
            have hy := hx y (by simp)
            have hs := shaped_nats (r' ++ [y])
            rw [List.map_append] at hs
            simp only [List.map_cons, List.map_nil, natD_eq] at hs
            have he2 : (List.map natD r' ++ [PyData.int (y : Int)]).isEmpty = false := by cases r' <;> rfl
            simp [hs, he2]
            refine Tu.next ⟨r', y + 1, some (.int i), some [], (by simp at hr; omega), by omega, fun z hz => hx z (by simp [hz]), (by rw [show 9000 - (i + 1) = 8999 - i by omega]; exact hl), by simp⟩) with ⟨ρ', rfl, h | h⟩ | ⟨r, ρ', rfl, h⟩
  · obtain ⟨r, a, o4, o5, _, _, _, hl, rfl⟩ := h
    simp [lf] at hl
  · exact h.elim
  · obtain ⟨rfl, a, b, t, rfl⟩ := h
    simp
    exact Rt.ok ⟨rfl, rfl⟩
end K89

set_option maxRecDepth 100000
/-! sets of lanes by their codes; matches -/
namespace K89
def bit (c i : Nat) : Nat := c / 2 ^ i % 2
theorem bit_zero (i : Nat) : bit 0 i = 0 := by simp [bit]
theorem bit_lt {c i : Nat} (h : c < 2 ^ i) : bit c i = 0 := by unfold bit; rw [Nat.div_eq_of_lt h]
theorem bit_le (c i : Nat) : bit c i ≤ 1 := by unfold bit; omega
theorem bit_add {a i j : Nat} (h : a < 2 ^ i) : bit (a + 2 ^ i) j = if j = i then 1 else bit a j := by
  unfold bit
  rcases Nat.lt_trichotomy j i with z | z | z
  · rw [if_neg (by omega)]
    obtain ⟨d, rfl⟩ : ∃ d, i = j + (d + 1) := ⟨i - j - 1, by omega⟩
    rw [Nat.pow_add, Nat.pow_succ, ← Nat.mul_assoc, Nat.mul_comm (2 ^ j * 2 ^ d) 2, ← Nat.mul_assoc, Nat.mul_comm 2 (2 ^ j), Nat.mul_assoc, Nat.add_mul_div_left _ _ (Nat.pow_pos (by omega))]
    omega
  · subst z
    rw [if_pos rfl, Nat.add_div_right _ (Nat.pow_pos (by omega)), Nat.div_eq_of_lt h]
  · rw [if_neg (by omega)]
    have h1 : 2 ^ i * 2 ≤ 2 ^ j := by rw [← Nat.pow_succ]; exact Nat.pow_le_pow_right (by omega) (by omega)
    rw [Nat.div_eq_of_lt (by omega), Nat.div_eq_of_lt (by omega)]
def codeOf (r : List Nat) : Nat := (r.map fun k => 2 ^ k).sum
theorem codeOf_snoc (r : List Nat) (i : Nat) : codeOf (r ++ [i]) = codeOf r + 2 ^ i := by simp [codeOf]
/-- the lanes of a set -/
def setL (m : Nat) (p : Nat → Bool) : List Nat := (List.range m).filter p
theorem setL_succ (m : Nat) (p : Nat → Bool) : setL (m + 1) p = if p m = true then setL m p ++ [m] else setL m p := by
  unfold setL
  rw [List.range_succ, List.filter_append]
  by_cases h : p m = true
  · rw [if_pos h]; simp [h]
  · rw [if_neg h]; simp [h]
def codeP (m : Nat) (p : Nat → Bool) : Nat := codeOf (setL m p)
theorem codeP_succ (m : Nat) (p : Nat → Bool) : codeP (m + 1) p = codeP m p + if p m = true then 2 ^ m else 0 := by
  unfold codeP
  rw [setL_succ]
  split
  · rw [codeOf_snoc]
  · simp
theorem codeP_lt (p : Nat → Bool) : ∀ m, codeP m p < 2 ^ m
  | 0 => by simp [codeP, setL, codeOf]
  | m + 1 => by
    have := codeP_lt p m
    rw [codeP_succ, Nat.pow_succ]
    split <;> omega
theorem codeP_bit (p : Nat → Bool) : ∀ (m i : Nat), bit (codeP m p) i = if i < m ∧ p i = true then 1 else 0
  | 0, i => by simp [codeP, setL, codeOf, bit]
  | m + 1, i => by
    have ih := codeP_bit p m i
    have hl := codeP_lt p m
    rw [codeP_succ]
    by_cases hp : p m = true
    · rw [if_pos hp, bit_add hl, ih]
      by_cases e : i = m
      · subst e; rw [if_pos rfl, if_pos ⟨by omega, hp⟩]
      · rw [if_neg e]
        by_cases z : i < m ∧ p i = true
        · rw [if_pos z, if_pos ⟨by omega, z.2⟩]
        · rw [if_neg z, if_neg (fun q => z ⟨by omega, q.2⟩)]
    · rw [if_neg hp, Nat.add_zero, ih]
      by_cases z : i < m ∧ p i = true
      · rw [if_pos z, if_pos ⟨by omega, z.2⟩]
      · rw [if_neg z, if_neg (fun q => z ⟨by
          rcases Nat.lt_or_ge i m with y | y
          · exact y
          · have : i = m := by omega
            subst this; exact absurd q.2 hp, q.2⟩)]
def bitp (c i : Nat) : Bool := decide (bit c i = 1)
theorem codeP_self : ∀ (m c : Nat), c < 2 ^ m → codeP m (bitp c) = c
  | 0, c, h => by
    have : c = 0 := by simpa using h
    subst this; rfl
  | m + 1, c, h => by
    rw [codeP_succ]
    have hm : c % 2 ^ m < 2 ^ m := Nat.mod_lt _ (Nat.pow_pos (by omega))
    have e : codeP m (bitp c) = codeP m (bitp (c % 2 ^ m)) := by
      unfold codeP setL
      congr 1
      apply List.filter_congr
      intro i hi
      have hi : i < m := by simpa using hi
      unfold bitp bit
      congr 2
      obtain ⟨d, rfl⟩ : ∃ d, m = i + (d + 1) := ⟨m - i - 1, by omega⟩
      rw [Nat.pow_add, Nat.mod_mul_right_div_self, Nat.pow_succ, Nat.mul_comm (2 ^ d) 2, Nat.mod_mul_right_mod]
    rw [e, codeP_self m _ hm]
    have h2 : c / 2 ^ m < 2 := by
      rw [Nat.div_lt_iff_lt_mul (Nat.pow_pos (by omega))]
      rw [Nat.pow_succ] at h; omega
    have h3 := Nat.mod_add_div c (2 ^ m)
    unfold bitp bit
    have h4 : c / 2 ^ m % 2 = c / 2 ^ m := Nat.mod_eq_of_lt h2
    rw [h4]
    by_cases z : c / 2 ^ m = 1
    · rw [z] at h3
      simp only [z, decide_true, if_true]
      omega
    · have z0 : c / 2 ^ m = 0 := by omega
      rw [z0] at h3
      simp [z0]
      omega
theorem codeP_congr {m : Nat} {p q : Nat → Bool} (h : ∀ i, i < m → p i = q i) : codeP m p = codeP m q := by
  unfold codeP setL
  congr 1
  apply List.filter_congr
  intro i hi
  exact h i (by simpa using hi)
theorem codeP_split (p q : Nat → Bool) : ∀ m, codeP m p = codeP m (fun i => p i && q i) + codeP m (fun i => p i && !q i)
  | 0 => rfl
  | m + 1 => by
    rw [codeP_succ, codeP_succ, codeP_succ, codeP_split p q m]
    cases p m <;> cases q m <;> simp <;> omega
theorem codeP_pos {m : Nat} {p : Nat → Bool} {i : Nat} (hi : i < m) (hp : p i = true) : 0 < codeP m p := by
  have := codeP_bit p m i
  rw [if_pos ⟨hi, hp⟩] at this
  rcases Nat.eq_zero_or_pos (codeP m p) with z | z
  · rw [z, bit_zero] at this; cases this
  · exact z
/-! ### matches -/
def okm (L : List Gr.La) (i : Nat) (r : List Nat) : Bool := r.all fun k => !meetB L i k
def mt (L : List Gr.La) : Nat → List (List Nat)
  | 0 => [[]]
  | i + 1 => mt L i ++ ((mt L i).filter (okm L i)).map fun r => r ++ [i]
def Match (L : List Gr.La) (p : Nat → Bool) : Prop := ∀ i j, j < i → i < L.length → p i = true → p j = true → meetB L i j = false
theorem mt_iff {L : List Gr.La} : ∀ {i : Nat} {r : List Nat}, r ∈ mt L i ↔ ∃ p : Nat → Bool, r = setL i p ∧ ∀ a b, b < a → a < i → p a = true → p b = true → meetB L a b = false
  | 0, r => by
    simp only [mt, List.mem_singleton]
    constructor
    · rintro rfl; exact ⟨fun _ => false, rfl, fun _ _ _ h => by omega⟩
    · rintro ⟨p, rfl, _⟩; rfl
  | i + 1, r => by
    simp only [mt, List.mem_append, List.mem_map, List.mem_filter, mt_iff (i := i)]
    constructor
    · rintro (⟨p, rfl, hp⟩ | ⟨r', ⟨⟨p, rfl, hp⟩, ho⟩, rfl⟩)
      · refine ⟨fun a => p a && decide (a < i), ?_, fun a b h1 h2 h3 h4 => ?_⟩
        · rw [setL_succ, if_neg (by simp)]
          unfold setL
          apply List.filter_congr
          intro a ha
          simp at ha
          simp [ha]
        · simp at h3 h4
          exact hp a b h1 h3.2 h3.1 h4.1
      · refine ⟨fun a => (p a && decide (a < i)) || decide (a = i), ?_, fun a b h1 h2 h3 h4 => ?_⟩
        · rw [setL_succ, if_pos (by simp)]
          congr 1
          unfold setL
          apply List.filter_congr
          intro a ha
          simp at ha
          have : ¬ a = i := by omega
          simp [ha, this]
        · simp at h3 h4
          have hb : b < i := by omega
          have pb : p b = true := by
            rcases h4 with h4 | h4
            · exact h4.1
            · omega
          rcases h3 with h3 | h3
          · exact hp a b h1 h3.2 h3.1 pb
          · subst h3
            have := List.all_eq_true.mp ho b (by unfold setL; simp [hb, pb])
            simpa using this
    · rintro ⟨p, rfl, hp⟩
      rw [setL_succ]
      by_cases h : p i = true
      · right
        rw [if_pos h]
        refine ⟨_, ⟨⟨p, rfl, fun a b h1 h2 => hp a b h1 (by omega)⟩, ?_⟩, rfl⟩
        unfold okm
        rw [List.all_eq_true]
        intro b hb
        unfold setL at hb
        rw [List.mem_filter] at hb
        have hb1 : b < i := by simpa using hb.1
        simp [hp i b hb1 (by omega) h hb.2]
      · left
        rw [if_neg h]
        exact ⟨p, rfl, fun a b h1 h2 => hp a b h1 (by omega)⟩
theorem mt_len {L : List Gr.La} : ∀ i, (mt L i).length ≤ 2 ^ i
  | 0 => by simp [mt]
  | i + 1 => by
    have := mt_len (L := L) i
    have h2 := List.length_filter_le (okm L i) (mt L i)
    simp only [mt, List.length_append, List.length_map, Nat.pow_succ]
    omega
theorem mt_mem_len {L : List Gr.La} {i : Nat} {r : List Nat} (h : r ∈ mt L i) : r.length ≤ i ∧ ∀ k ∈ r, k < i := by
  obtain ⟨p, rfl, _⟩ := mt_iff.mp h
  constructor
  · unfold setL
    have := List.length_filter_le p (List.range i)
    simpa using this
  · intro k hk
    unfold setL at hk
    rw [List.mem_filter] at hk
    simpa using hk.1
/-! ### colours of a set of lanes -/
def Col (L : List Gr.La) (p : Nat → Bool) (c : Nat) : Prop := ∃ f : Nat → Nat, (∀ i, i < L.length → p i = true → f i < c) ∧ ∀ i j, j < i → i < L.length → p i = true → p j = true → f j = f i → meetB L i j = false
def LeastC (L : List Gr.La) (p : Nat → Bool) (c : Nat) : Prop := Col L p c ∧ ∀ c', c' < c → ¬ Col L p c'
theorem col_all (L : List Gr.La) (p : Nat → Bool) : Col L p L.length := ⟨id, fun i h _ => h, fun i j h _ _ _ e => by simp at e; omega⟩
theorem col_zero {L : List Gr.La} : LeastC L (bitp 0) 0 := ⟨⟨id, fun i _ h => by simp [bitp, bit_zero] at h, fun i j _ _ h => by simp [bitp, bit_zero] at h⟩, fun c h => by omega⟩
theorem Col.congr {L : List Gr.La} {p q : Nat → Bool} {c : Nat} (h : ∀ i, i < L.length → p i = q i) (k : Col L p c) : Col L q c := by
  obtain ⟨f, h1, h2⟩ := k
  exact ⟨f, fun i hi hq => h1 i hi (by rw [h i hi]; exact hq), fun i j hj hi hq hq2 e => h2 i j hj hi (by rw [h i hi]; exact hq) (by rw [h j (by omega)]; exact hq2) e⟩
theorem col_can {L : List Gr.La} {p : Nat → Bool} {c : Nat} (h : ∀ i, i < L.length → p i = true) : Col L p c ↔ Can L c := by
  constructor
  · rintro ⟨f, h1, h2⟩
    refine ⟨(List.range L.length).map f, ⟨fun x hx => ?_, fun i hi j hj e => ?_⟩, by simp⟩
    · obtain ⟨i, hi, rfl⟩ := List.mem_map.mp hx
      have hi : i < L.length := by simpa using hi
      exact h1 i hi (h i hi)
    · have hi : i < L.length := by simpa using hi
      have hj2 : j < L.length := by omega
      simp [hi, hj2] at e
      exact h2 i j hj hi (h i hi) (h j hj2) e
  · rintro ⟨w, ⟨h1, h2⟩, h3⟩
    refine ⟨fun i => w.getD i 0, fun i hi _ => ?_, fun i j hj hi _ _ e => h2 i (by omega) j hj e⟩
    have : i < w.length := by omega
    exact h1 _ (by simp [this])
/-- a match more -/
theorem Col.more {L : List Gr.La} {p q : Nat → Bool} {c : Nat} (hq : Match L q) (k : Col L (fun i => p i && !q i) c) : Col L p (1 + c) := by
  obtain ⟨f, h1, h2⟩ := k
  refine ⟨fun i => if q i = true then c else f i, fun i hi hp => ?_, fun i j hj hi hp hp2 e => ?_⟩
  · by_cases z : q i = true
    · simp only [z, if_true]; omega
    · have := h1 i hi (by simp [hp, z])
      simp only [z]
      simp; omega
  · have hj2 : j < L.length := by omega
    by_cases z : q i = true <;> by_cases y : q j = true
    · exact hq i j hj hi z y
    · have := h1 j hj2 (by simp [hp2, y])
      simp [z, y] at e; omega
    · have := h1 i hi (by simp [hp, z])
      simp [z, y] at e; omega
    · simp [z, y] at e
      exact h2 i j hj hi (by simp [hp, z]) (by simp [hp2, y]) e
/-- a match less -/
theorem Col.less {L : List Gr.La} {p : Nat → Bool} {c a : Nat} (ha : a < L.length) (hp : p a = true) (k : Col L p c) : ∃ q : Nat → Bool, Match L q ∧ q a = true ∧ (∀ i, q i = true → p i = true ∧ i < L.length) ∧ 0 < c ∧ Col L (fun i => p i && !q i) (c - 1) := by
  obtain ⟨f, h1, h2⟩ := k
  have c0 := h1 a ha hp
  refine ⟨fun i => p i && decide (f i = f a) && decide (i < L.length), fun i j hj hi hq1 hq2 => ?_, by simp [hp, ha], fun i h => by simp at h; exact ⟨h.1.1, h.2⟩, by omega, ?_⟩
  · simp at hq1 hq2
    exact h2 i j hj hi hq1.1.1 hq2.1.1 (by rw [hq1.1.2, hq2.1.2])
  · have nq : ∀ i, i < L.length → (p i && !(p i && decide (f i = f a) && decide (i < L.length))) = true → p i = true ∧ f i ≠ f a := by
      intro i hi h
      simp [hi] at h
      refine ⟨h.1, fun e => ?_⟩
      rcases h.2 with z | z
      · rw [h.1] at z; cases z
      · exact z e
    refine ⟨fun i => if f i = c - 1 then f a else f i, fun i hi h => ?_, fun i j hj hi h h' e => ?_⟩
    · obtain ⟨h3, h4⟩ := nq i hi h
      have := h1 i hi h3
      simp only
      split <;> omega
    · obtain ⟨h3, h4⟩ := nq i hi h
      obtain ⟨h5, h6⟩ := nq j (by omega) h'
      have b1 := h1 i hi h3
      have b2 := h1 j (by omega) h5
      refine h2 i j hj hi h3 h5 ?_
      simp only at e
      split at e <;> split at e <;> omega
end K89

set_option maxRecDepth 100000
namespace K89
open Ev PySem L2
def twos (m : Nat) : List Nat := (List.range (m + 1)).map fun i => 2 ^ i
theorem twos_at {m i : Nat} (h : i ≤ m) : (twos m)[i]? = some (2 ^ i) := by
  unfold twos
  simp [show i < m + 1 by omega]
theorem twos_last (m : Nat) : ((twos m).map natD).getLast? = some (natD (2 ^ m)) := by
  unfold twos
  rw [List.range_succ]
  simp
theorem twos_succ (m : Nat) : twos (m + 1) = twos m ++ [2 ^ (m + 1)] := by
  unfold twos
  rw [List.range_succ]
  simp
theorem r_twos {F : FT} (m : Nat) (hm : m ≤ 20) : runD F d_u_law_twos [.fz (.int (m : Int))] = some (.nw ((twos m).map natD), []) := by
  suffices h : Rt (runD F d_u_law_twos [.fz (.int (m : Int))]) (k := ⟨fun r o => o = [] ∧ r = .nw ((twos m).map natD)⟩) by
    obtain ⟨r, o, e, rfl, rfl⟩ := h
    exact e
  have y1 : (-4611686018427387904 : Int) ≤ m := by omega
  have y2 : (m : Int) ≤ 16777216 := by omega
  simp only [runD_eq]
  simp [d_u_law_twos, b_u_law_twos, y1, y2]
  generalize hf : forL _ _ _ = x
  obtain ⟨ρ', rfl, o, rfl⟩ := forR_use hf (fun i ρ => ∃ (o : Option D), ρ = [_, .own ((twos i).map natD), qs o]) ⟨none, rfl⟩ (by
    rintro i ρ hi ⟨o, rfl⟩
    have hi' : i < m := by omega
    have hl := twos_last i
    have hlen : ((twos i).map natD).length < 16777216 := by simp [twos]; omega
    have hp : 2 ^ i ≤ 2 ^ 20 := Nat.pow_le_pow_right (by omega) (by omega)
    rw [twos_succ]
    generalize twos i = t at *
    simp [fstep, atI_m1, -List.getLast?_map, hl, mulOk_r]
    have hlen' : t.length < 16777216 := by simpa using hlen
    simp [hlen']
    refine St.next ⟨some (.int i), ?_⟩
    simp [Int.natCast_pow, Int.pow_succ, Nat.pow_succ])
  simp
  refine Rt.ok ⟨rfl, ?_⟩
  simp
theorem r_matches {F : FT} (n : Nat) (L : List Gr.La) (hL : L.length ≤ 6) : runD F d_u_law_matches [.fz (enc n L)] = some (.nw ((mt L L.length).map rowD), []) := by
  suffices h : Rt (runD F d_u_law_matches [.fz (enc n L)]) (k := ⟨fun r o => o = [] ∧ r = .nw ((mt L L.length).map rowD)⟩) by
    obtain ⟨r, o, e, rfl, rfl⟩ := h
    exact e
  have y1 : (-4611686018427387904 : Int) ≤ L.length := by omega
  have y2 : (L.length : Int) ≤ 16777216 := by omega
  simp only [runD_eq]
  simp [d_u_law_matches, b_u_law_matches, enc_1, y1, y2]
  generalize hf : forL _ _ _ = x
  obtain ⟨ρ', rfl, o2, o3, o4, o5, o6, rfl⟩ := forR_use hf (fun i ρ => ∃ (o2 : Option D) (o3 : Option (List D)) (o4 o5 o6 : Option D), ρ = [_, .own ((mt L i).map rowD), qs o2, os o3, qs o4, qs o5, qs o6, .un]) ⟨none, none, none, none, none, rfl⟩ (by
    rintro i ρ hi ⟨o2, o3, o4, o5, o6, rfl⟩
    have hi' : i < L.length := by omega
    have li := ln_at hi'
    have hml := mt_len (L := L) i
    have hp : 2 ^ i ≤ 2 ^ 6 := Nat.pow_le_pow_right (by omega) (by omega)
    have hmm : ∀ r ∈ mt L i, r.length ≤ i ∧ ∀ k ∈ r, k < i := fun r hr => mt_mem_len hr
    have em : mt L (i + 1) = mt L i ++ ((mt L i).filter (okm L i)).map fun r => r ++ [i] := rfl
    rw [em]
    generalize mt L i = rows at *
    simp [fstep, enc_1, li, laneD]
    generalize hf : forL _ _ _ = x
    obtain ⟨ρ', rfl, o4, rfl⟩ := forM_use hf (fun j ρ => ∃ (o4 : Option D), ρ = [_, _, _, .own ((((rows.take j).filter (okm L i)).map fun r => r ++ [i]).map rowD), qs o4, _, _, .un]) ⟨o4, rfl⟩ (by
      rintro j r ρ hj ⟨o4, rfl⟩
      obtain ⟨hj', e⟩ := List.getElem?_eq_some_iff.mp hj
      have hr := hmm r (List.mem_of_getElem? hj)
      have et : rows.take (j + 1) = rows.take j ++ [r] := by rw [List.take_succ_eq_append_getElem hj', e]
      rw [et]
      have hlen : ((rows.take j).filter (okm L i)).length < 16777216 := by
        have h1 := List.length_filter_le (okm L i) (rows.take j)
        rw [List.length_take] at h1
        omega
      rw [List.filter_append]
      generalize (rows.take j).filter (okm L i) = acc at *
      simp [fstep, rowD, -List.map_map]
      generalize hf : compL _ _ _ = x
      have e1 := compM_use hf (fun k => if meetB L i k = true then some (natD k) else none) fun k hk => by
        have lk := ln_at (L := L) (i := k) (by have := hr.2 k hk; omega)
        simp [cstep, enc_1, lk, laneD, isFlat, touchI, meetB]
        cases Gr.touch L k (Gr.ln L i).1
        · cases Gr.touch L k (Gr.ln L i).2 <;> simp
        · simp
      subst e1
      rw [fm_filter]
      have eo : okm L i r = (r.filter fun k => meetB L i k).isEmpty := by rw [filter_nil]; rfl
      have zl : r.length ≤ 16777215 := by omega
      rcases hg : r.filter (fun k => meetB L i k) with _ | ⟨a, g⟩
      · rw [hg] at eo
        have eo : okm L i r = true := eo
        simp [hlen, zl, eo]
        exact St.next ⟨some (rowD r), by simp [rowD, List.filter_cons, eo]⟩
      · rw [hg] at eo
        have eo : okm L i r = false := eo
        have hs := shaped_natsI a g
        simp [hs, eo]
        exact St.next ⟨some (rowD r), by simp [rowD, List.filter_cons, eo]⟩)
    rw [List.take_length]
    have zl : rows.length + (rows.filter (okm L i)).length ≤ 16777216 := by
      have h1 := List.length_filter_le (okm L i) rows
      omega
    simp [zl]
    exact St.next ⟨some (.int i), some ((((rows.filter (okm L i)).map fun r => r ++ [i]).map rowD)), o4, some (.int ((Gr.ln L i).1 : Int)), some (.int ((Gr.ln L i).2 : Int)), by simp⟩)
  simp
  refine Rt.ok ⟨rfl, ?_⟩
  simp
theorem bitI (c t : Nat) : (((c : Int).fdiv (t : Int)).fmod 2) = ((c / t % 2 : Nat) : Int) := by
  rw [Int.fdiv_eq_ediv_of_nonneg _ (by omega), Int.fmod_eq_emod_of_nonneg _ (by omega)]
  omega
theorem fdivN (c t : Nat) : ((c : Int).fdiv (t : Int)) = ((c / t : Nat) : Int) := by
  rw [Int.fdiv_eq_ediv_of_nonneg _ (by omega)]
  omega
theorem two_lg {k : Nat} (h : k ≤ 20) : 0 < 2 ^ k ∧ 2 ^ k < 18446744073709551616 := by
  have : 2 ^ k ≤ 2 ^ 20 := Nat.pow_le_pow_right (by omega) h
  exact ⟨Nat.pow_pos (by omega), by omega⟩
def within (m p c : Nat) : Prop := ∀ k, k < m + 1 → bit p k ≤ bit c k
theorem r_within {F : FT} (m p c : Nat) (hm : m ≤ 20) : ∃ b : Bool, (b = true ↔ within m p c) ∧ runD F d_u_law_within [.fz (.int (p : Int)), .fz (.int (c : Int)), .bor ((twos m).map natD)] = some (.fr (.bool b), []) := by
  suffices h : Rt (runD F d_u_law_within [.fz (.int (p : Int)), .fz (.int (c : Int)), .bor ((twos m).map natD)]) (k := ⟨fun r o => o = [] ∧ ∃ b : Bool, (b = true ↔ within m p c) ∧ r = .fr (.bool b)⟩) by
    obtain ⟨r, o, e, rfl, b, h, rfl⟩ := h
    exact ⟨b, h, e⟩
  have el : (twos m).length = m + 1 := by simp [twos]
  have y1 : (-4611686018427387904 : Int) ≤ (m : Int) + 1 := by omega
  have y2 : (m : Int) + 1 ≤ 16777216 := by omega
  simp only [runD_eq]
  simp [d_u_law_within, b_u_law_within, el, y1, y2]
  generalize hf : forL _ _ _ = x
  rcases forR_any hf (fun i ρ => ∃ (o : Option D), (∀ k, k < i → bit p k ≤ bit c k) ∧ ρ = [_, _, _, qs o]) (fun _ => False) (fun r ρ => r = .fr (.bool false) ∧ ¬ within m p c ∧ ∃ a b d t, ρ = a :: b :: d :: t) ⟨none, fun _ h => by omega, rfl⟩ (by
    rintro i ρ hi ⟨o, hw, rfl⟩
    have hi' : i < m + 1 := by omega
    have ht := twos_at (m := m) (i := i) (by omega)
    obtain ⟨t1, t2⟩ := two_lg (k := i) (by omega)
    have hb : ∀ q : Nat, bit q i = q / 2 ^ i % 2 := fun q => rfl
    generalize 2 ^ i = t at *
    have t0 : ¬ t = 0 := by omega
    simp [fstep, ht, t0, lg t2, bitI]
    by_cases hq : c / t % 2 < p / t % 2
    · have : (c : Int) / t % 2 < (p : Int) / t % 2 := by omega
      simp [this]
      refine Tu.ret ⟨rfl, fun h => ?_, _, _, _, _, rfl⟩
      have := h i hi'
      rw [hb, hb] at this
      omega
    · have : ¬ (c : Int) / t % 2 < (p : Int) / t % 2 := by omega
      simp [this]
      refine Tu.next ⟨some (.int i), fun k hk => ?_, by simp⟩
      by_cases e : k = i
      · subst e; rw [hb, hb]; omega
      · exact hw k (by omega)) with ⟨ρ', rfl, h | h⟩ | ⟨r, ρ', rfl, h⟩
  · obtain ⟨o, hw, rfl⟩ := h
    simp
    refine Rt.ok ⟨rfl, true, ?_, rfl⟩
    simp
    intro k hk
    exact hw k (by omega)
  · exact h.elim
  · obtain ⟨rfl, hb, a, b, d, t, rfl⟩ := h
    simp
    exact Rt.ok ⟨rfl, false, by simp; exact hb, rfl⟩
end K89

set_option maxRecDepth 100000
namespace K89
open Ev PySem L2
theorem bitp_codeP {m : Nat} {p : Nat → Bool} {i : Nat} (hi : i < m) : bitp (codeP m p) i = p i := by
  unfold bitp
  rw [codeP_bit]
  cases h : p i <;> simp [hi]
theorem sub_code {m code : Nat} {q : Nat → Bool} (hc : code < 2 ^ m) (hw : within m (codeP m q) code) : codeP m q ≤ code ∧ ∀ i, i < m → bitp (code - codeP m q) i = (bitp code i && !q i) := by
  have h1 := codeP_split (bitp code) q m
  rw [codeP_self m code hc] at h1
  have h2 : codeP m (fun i => bitp code i && q i) = codeP m q := codeP_congr fun i hi => by
    cases hq : q i
    · simp
    · have := hw i (by omega)
      rw [codeP_bit, if_pos ⟨hi, hq⟩] at this
      have := bit_le code i
      have e : bitp code i = true := by unfold bitp; simp; omega
      rw [e]; rfl
  rw [h2] at h1
  refine ⟨by omega, fun i hi => ?_⟩
  have e : code - codeP m q = codeP m (fun i => bitp code i && !q i) := by omega
  rw [e, bitp_codeP hi]
def codes (L : List Gr.La) : List Nat := ((mt L L.length).filter fun r => !r.isEmpty).map codeOf
/-- the part has the lane a and lies within the code -/
def valid (m a code part : Nat) : Prop := bit part a = 1 ∧ within m part code
def Best (L : List Gr.La) (bs : List Nat) : Prop := (∀ j, j < bs.length → LeastC L (bitp j) (bs.getD j 0)) ∧ ∀ x ∈ bs, x ≤ L.length
theorem match_of {L : List Gr.La} {part : Nat} (h : part ∈ codes L) : ∃ q : Nat → Bool, part = codeP L.length q ∧ Match L q ∧ 0 < part := by
  unfold codes at h
  obtain ⟨r, hr, rfl⟩ := List.mem_map.mp h
  rw [List.mem_filter] at hr
  obtain ⟨p, rfl, hp⟩ := mt_iff.mp hr.1
  refine ⟨p, rfl, fun i j h1 h2 => hp i j h1 h2, ?_⟩
  have : setL L.length p ≠ [] := by
    intro e; rw [e] at hr; simp at hr
  obtain ⟨a, ha⟩ := List.exists_mem_of_ne_nil _ this
  unfold setL at ha
  rw [List.mem_filter] at ha
  exact codeP_pos (by simpa using ha.1) ha.2
theorem least_step {L : List Gr.La} {bs : List Nat} {code a v part : Nat} (hb : Best L bs) (hbl : bs.length = code) (hc : code < 2 ^ L.length) (hm : part ∈ codes L) (hv : valid L.length a code part) (h1 : Col L (bitp code) v) :
    part ≤ code ∧ code - part < code ∧ Col L (bitp code) (min v (1 + bs.getD (code - part) 0)) := by
  obtain ⟨q, rfl, hq, h0⟩ := match_of hm
  obtain ⟨s1, s2⟩ := sub_code hc hv.2
  have hlt : code - codeP L.length q < code := by omega
  refine ⟨s1, hlt, ?_⟩
  rcases Nat.le_total v (1 + bs.getD (code - codeP L.length q) 0) with z | z
  · rw [Nat.min_eq_left z]; exact h1
  · rw [Nat.min_eq_right z]
    exact Col.more hq ((hb.1 _ (by omega)).1.congr s2)
theorem least_end {L : List Gr.La} {bs : List Nat} {code a v : Nat} (hb : Best L bs) (hbl : bs.length = code) (hc : code < 2 ^ L.length) (ha : a < L.length) (hpa : bitp code a = true) (h1 : Col L (bitp code) v)
    (h2 : ∀ part ∈ codes L, valid L.length a code part → v ≤ 1 + bs.getD (code - part) 0) : LeastC L (bitp code) v := by
  refine ⟨h1, fun c' hc' k => ?_⟩
  obtain ⟨q, q1, q2, q3, q4, q5⟩ := k.less ha hpa
  have hm : codeP L.length q ∈ codes L := by
    unfold codes
    refine List.mem_map.mpr ⟨setL L.length q, List.mem_filter.mpr ⟨mt_iff.mpr ⟨q, rfl, fun i j h1 h2 => q1 i j h1 h2⟩, ?_⟩, rfl⟩
    have : a ∈ setL L.length q := by unfold setL; simp [ha, q2]
    cases h : setL L.length q with
    | nil => rw [h] at this; simp at this
    | cons _ _ => rfl
  have hw : within L.length (codeP L.length q) code := fun k hk => by
    rw [codeP_bit]
    split
    · rename_i z
      have := (q3 k z.2).1
      unfold bitp at this
      simp at this
      omega
    · omega
  have hv : valid L.length a code (codeP L.length q) := ⟨by rw [codeP_bit, if_pos ⟨ha, q2⟩], hw⟩
  obtain ⟨s1, s2⟩ := sub_code hc hw
  have h0 := codeP_pos ha q2
  have hbest := hb.1 (code - codeP L.length q) (by omega)
  have hcol : Col L (bitp (code - codeP L.length q)) (c' - 1) := q5.congr fun i hi => (s2 i hi).symm
  have := h2 _ hm hv
  rcases Nat.lt_or_ge (c' - 1) (bs.getD (code - codeP L.length q) 0) with z | z
  · exact hbest.2 _ z hcol
  · omega
theorem first_ex {m code : Nat} (h0 : 0 < code) (hc : code < 2 ^ m) : ∃ a t, setL m (bitp code) = a :: t ∧ a < m ∧ bitp code a = true := by
  cases h : setL m (bitp code) with
  | nil =>
    have := codeP_self m code hc
    unfold codeP at this
    rw [h] at this
    simp [codeOf] at this
    omega
  | cons a t =>
    have : a ∈ setL m (bitp code) := by rw [h]; simp
    unfold setL at this
    rw [List.mem_filter] at this
    exact ⟨a, t, rfl, by simpa using this.1, this.2⟩
theorem full_bits {m i : Nat} (h : i < m) : bitp (2 ^ m - 1) i = true := by
  have e : 2 ^ m - 1 = codeP m fun _ => true := by
    clear h
    induction m with
    | zero => rfl
    | succ m ih =>
      rw [codeP_succ, ← ih, if_pos rfl, Nat.pow_succ]
      have : 0 < 2 ^ m := Nat.pow_pos (by omega)
      omega
  rw [e, bitp_codeP h]
theorem col_mono_le {L : List Gr.La} {p : Nat → Bool} {c : Nat} (h : LeastC L p c) : c ≤ L.length := by
  rcases Nat.lt_or_ge L.length c with z | z
  · exact absurd (col_all L p) (h.2 _ z)
  · exact z
theorem r_least (k : Nat) (n : Nat) (L : List Gr.La) (hL : L.length ≤ 6) (h0 : 0 < L.length) : ∃ c : Nat, Least L c ∧ c ≤ L.length ∧ runD (callF T (k + 1)) d_u_law_least [.fz (enc n L)] = some (.fr (.int (c : Int)), []) := by
  suffices h : Rt (runD (callF T (k + 1)) d_u_law_least [.fz (enc n L)]) (k := ⟨fun r o => o = [] ∧ ∃ c : Nat, Least L c ∧ c ≤ L.length ∧ r = .fr (.int (c : Int))⟩) by
    obtain ⟨r, o, e, rfl, c, h1, h2, rfl⟩ := h
    exact ⟨c, h1, h2, e⟩
  have e1 := r_twos (F := callF T k) L.length (by omega)
  have e2 := r_matches (F := callF T k) n L hL
  have hmm : ∀ r ∈ mt L L.length, r.length ≤ L.length ∧ ∀ k ∈ r, k < L.length := fun r hr => mt_mem_len hr
  have hp6 : 2 ^ L.length ≤ 2 ^ 6 := Nat.pow_le_pow_right (by omega) hL
  have hp0 : 0 < 2 ^ L.length := Nat.pow_pos (by omega)
  have hta : ∀ i, i ≤ L.length → (twos L.length)[i]? = some (2 ^ i) := fun i hi => twos_at hi
  simp only [runD_eq]
  simp [d_u_law_least, b_u_law_least, enc_1, call_u_law_twos, ks_twos, e1, call_u_law_matches, ks_matches, e2]
  generalize hf : compL _ _ _ = x
  have e3 := compM_use hf (fun r => if (!r.isEmpty) = true then some (natD (codeOf r)) else none) fun r hr => by
    obtain ⟨g1, g2⟩ := hmm r hr
    rcases r with _ | ⟨a, r⟩
    · have hs2 : SeqAt.shaped (.tuple []) = true := shaped_natsT []
      have he : PyData.eqv (.tuple []) (.tuple []) = true := by simp [PyData.eqv, PyData.eqvAll]
      simp [cstep, rowD, dCmp_ne, hs2, he]
    · have hs : SeqAt.shaped (.tuple (.int (a : Int) :: r.map natD)) = true := shaped_natsT (a :: r)
      have hs2 : SeqAt.shaped (.tuple []) = true := shaped_natsT []
      have he : PyData.eqv (.tuple (.int (a : Int) :: r.map natD)) (.tuple []) = false := by simp [PyData.eqv, PyData.eqvAll]
      simp [cstep, rowD, dCmp_ne, hs, hs2, he]
      generalize hf : compL _ _ _ = x
      have e4 := compM_use (enc := natD) (xs := a :: r) hf (fun k => some (natD (2 ^ k))) fun k hk => by
        have := g2 k hk
        simp [cstep, hta k (by omega)]
      subst e4
      rw [fm_some]
      have e5 : ((a :: r).map fun k => natD (2 ^ k)) = ((a :: r).map fun k => 2 ^ k).map natD := by rw [List.map_map]; rfl
      rw [e5]
      have e6 : ((((a :: r).map fun k => 2 ^ k).map fun (i : Nat) => (i : Int))).sum = ((codeOf (a :: r) : Nat) : Int) := by
        unfold codeOf
        generalize (a :: r).map (fun k => 2 ^ k) = l
        induction l with
        | nil => rfl
        | cons x l ih => rw [List.map_cons, List.sum_cons, List.sum_cons, ih]; omega
      simp [-List.map_cons, -List.map_map, e6]
  subst e3
  rw [fm_filter]
  have e7 : ((mt L L.length).filter fun r => !r.isEmpty).map (fun r => natD (codeOf r)) = (codes L).map natD := by unfold codes; rw [List.map_map]; rfl
  rw [e7]
  have hta' := hta L.length (Nat.le_refl _)
  generalize hP : 2 ^ L.length = P at *
  have y1 : (P : Int) < 4611686018427387904 := by omega
  have y2 : (-4611686018427387904 : Int) ≤ P := by omega
  have y3 : (P : Int) - 1 ≤ 16777216 := by omega
  have y4 : (-4611686018427387904 : Int) ≤ L.length := by omega
  have y5 : (L.length : Int) ≤ 16777216 := by omega
  simp [hta', y1, y2, y3]
  generalize hf : forL _ _ _ = x
  obtain ⟨ρ', rfl, bs, o5, o6, o7, o8, hbl, hbest, rfl⟩ := forR_use hf (fun i ρ => ∃ (bs : List Nat) (o5 o6 o7 o8 : Option D), bs.length = i + 1 ∧ Best L bs ∧ ρ = [_, _, _, _, .own (bs.map natD), qs o5, qs o6, qs o7, qs o8, .un, .un]) ⟨[0], none, none, none, none, rfl, ⟨fun j hj => by
      have : j = 0 := by simpa using hj
      subst this; exact col_zero, fun x hx => by simp at hx; omega⟩, rfl⟩ (by
    rintro i ρ hi ⟨bs, o5, o6, o7, o8, hbl, hbest, rfl⟩
    have hi' : i + 1 < P := by omega
    have ei : (1 : Int) + i = ((i + 1 : Nat) : Int) := by omega
    rw [ei]
    have hcode : i + 1 < 2 ^ L.length := by omega
    obtain ⟨a, t, f1, f2, f3⟩ := first_ex (code := i + 1) (by omega) hcode
    generalize i + 1 = code at *
    simp [fstep, y4, y5, rngD_nat]
    generalize hf : compL _ _ _ = x
    have e4 := compM_use hf (fun b => if bitp code b = true then some (natD b) else none) fun b hb => by
      have hb' : b < L.length := by simpa using hb
      have ht := hta b (by omega)
      obtain ⟨t1, t2⟩ := two_lg (k := b) (by omega)
      have hbb : bitp code b = decide (code / 2 ^ b % 2 = 1) := rfl
      rw [hbb]
      generalize 2 ^ b = tt at *
      have t0 : ¬ tt = 0 := by omega
      simp [cstep, ht, t0, lg t2, bitI]
      by_cases hq : code / tt % 2 = 1
      · have : (code : Int) / tt % 2 = 1 := by omega
        simp [hq, this]
      · have : ¬ (code : Int) / tt % 2 = 1 := by omega
        simp [hq, this]
    subst e4
    rw [fm_filter]
    have e5 : (List.range L.length).filter (fun b => bitp code b) = a :: t := f1
    rw [e5]
    simp
    generalize hf : forL _ _ _ = x
    obtain ⟨ρ', rfl, v, o8', v1, v2, v3, rfl⟩ := forM_use hf (fun s ρ => ∃ (v : Nat) (o8 : Option D), Col L (bitp code) v ∧ v ≤ L.length ∧ (∀ s' part, s' < s → (codes L)[s']? = some part → valid L.length a code part → v ≤ 1 + bs.getD (code - part) 0) ∧ ρ = [_, _, _, _, .own (bs.map natD), .fz (.int (code : Int)), .fz (.int (a : Int)), .fz (.int (v : Int)), qs o8, .un, .un])
      ⟨L.length, o8, col_all L _, Nat.le_refl _, fun _ _ h => by omega, rfl⟩ (by
      rintro s part ρ hs ⟨v, o8, v1, v2, v3, rfl⟩
      have hpm := List.mem_of_getElem? hs
      have ht := hta a (by omega)
      obtain ⟨t1, t2⟩ := two_lg (k := a) (by omega)
      obtain ⟨b, hb1, hb2⟩ := r_within (F := callF T k) L.length part code (by omega)
      have hbit : bit part a = part / 2 ^ a % 2 := rfl
      have nx : ∀ w : Nat, (w = v ∨ w ≤ v) → (valid L.length a code part → w ≤ 1 + bs.getD (code - part) 0) → ∀ s' part', s' < s + 1 → (codes L)[s']? = some part' → valid L.length a code part' → w ≤ 1 + bs.getD (code - part') 0 := by
        intro w hw hv s' part' h1 h2 h3
        by_cases e : s' = s
        · subst e
          rw [hs] at h2; cases h2
          exact hv h3
        · have := v3 s' part' (by omega) h2 h3
          omega
      generalize 2 ^ a = tt at *
      have t0 : ¬ tt = 0 := by omega
      simp [fstep, ht, t0, lg t2, bitI]
      by_cases hq : part / tt % 2 = 1
      · have hq' : (part : Int) / tt % 2 = 1 := by omega
        simp [hq', call_u_law_within, ks_within, hb2]
        cases b with
        | false =>
          have nv : ¬ valid L.length a code part := fun h => by have := hb1.mpr h.2; cases this
          simp
          exact St.next ⟨v, some (.int (part : Int)), v1, v2, nx v (.inl rfl) (fun h => absurd h nv), by simp⟩
        | true =>
          have hv : valid L.length a code part := ⟨by rw [hbit]; exact hq, hb1.mp rfl⟩
          obtain ⟨s1, s2, s3⟩ := least_step hbest hbl hcode hpm hv v1
          have es : (code : Int) - part = ((code - part : Nat) : Int) := by omega
          have gb := getN (row := bs) (i := code - part) (by omega)
          have nx' := nx (min v (1 + bs.getD (code - part) 0)) (.inr (Nat.min_le_left _ _)) (fun _ => Nat.min_le_right _ _)
          have hbx := hbest.2 (bs.getD (code - part) 0) (List.mem_of_getElem? gb)
          generalize bs.getD (code - part) 0 = b0 at *
          have em : (if (1 : Int) + b0 < v then (1 : Int) + b0 else v) = ((min v (1 + b0) : Nat) : Int) := by split <;> omega
          simp [es, gb, em]
          refine St.next ⟨min v (1 + b0), some (.int (part : Int)), s3, by omega, nx', by simp⟩
      · have hq' : ¬ (part : Int) / tt % 2 = 1 := by omega
        simp [hq']
        exact St.next ⟨v, some (.int (part : Int)), v1, v2, nx v (.inl rfl) (fun h => absurd h.1 (by rw [hbit]; exact hq)), by simp⟩)
    have hlv := least_end hbest hbl hcode f2 f3 v1 (fun part hp hv => by
      obtain ⟨s', hs', e⟩ := List.mem_iff_getElem.mp hp
      exact v3 s' part hs' (by rw [← e]; simp [hs']) hv)
    have zl : bs.length < 16777216 := by omega
    simp [zl]
    refine St.next ⟨bs ++ [v], some (.int (code : Int)), some (.int (a : Int)), some (.int (v : Int)), o8', by simp [hbl], ⟨fun j hj => ?_, fun x hx => ?_⟩, by simp⟩
    · simp at hj
      by_cases e : j < bs.length
      · have : (bs ++ [v]).getD j 0 = bs.getD j 0 := getD_snoc_lt e
        rw [this]; exact hbest.1 j e
      · have e' : j = bs.length := by omega
        subst e'
        rw [getD_snoc_eq, hbl]
        exact hlv
    · rcases List.mem_append.mp hx with hx | hx
      · exact hbest.2 x hx
      · simp at hx; omega)
  have hpl : bs.length = P := by omega
  have hlast := hbest.1 (P - 1) (by omega)
  have hg : (bs.map natD).getLast? = some (natD (bs.getD (P - 1) 0)) := by
    rw [List.getLast?_map, List.getLast?_eq_getElem?, hpl, getN (by omega)]
    rfl
  simp [atI_m1, -List.getLast?_map, hg]
  have hb : ∀ i, i < L.length → bitp (P - 1) i = true := fun i h => by rw [← hP]; exact full_bits h
  refine Rt.ok ⟨rfl, bs.getD (P - 1) 0, ⟨(col_can fun i hi => hb i hi).mp hlast.1, fun c' h k => hlast.2 c' h ((col_can fun i hi => hb i hi).mpr k)⟩, col_mono_le hlast, by simp⟩
end K89

set_option maxRecDepth 100000
namespace K89
open Ev PySem L2
@[simp] theorem ixN_succ (n a : Nat) : ixN n ((a : Int) + 1) = if a + 1 < n then some (a + 1) else none := ixN_nat n (a + 1)
theorem setm (row : List Int) (i : Nat) (x : Int) : (row.map PyData.int).set i (.int x) = (row.set i x).map .int := by rw [List.map_set]
theorem r_bent (k : Nat) (ds : List Int) (c : Nat) (row : List Int) (cl w : Nat) (hr : row.length ≤ 100) (hc : row ≠ [] → 0 < cl) (hcl : cl ≤ 100) (hw : w < 7) :
    ∃ (row' : List Int) (c' : Nat), row'.length ≤ row.length + 1 ∧ runD (callF T (k + 2)) d_u_law_bent [.mu (bx ds c), .fz (.tuple (row.map .int)), .fz (.int (cl : Int)), .fz (.int (w : Int))] = some (.fr (.tuple (row'.map .int)), [bx ds c']) := by
  suffices h : Rt (runD (callF T (k + 2)) d_u_law_bent [.mu (bx ds c), .fz (.tuple (row.map .int)), .fz (.int (cl : Int)), .fz (.int (w : Int))]) (k := ⟨fun r o => ∃ (row' : List Int) (c' : Nat), row'.length ≤ row.length + 1 ∧ r = .fr (.tuple (row'.map .int)) ∧ o = [bx ds c']⟩) by
    obtain ⟨r, o, e, row', c', h, rfl, rfl⟩ := h
    exact ⟨row', c', h, e⟩
  obtain ⟨at_, c1, h1, e1⟩ := r_drawI (F := callF T (k + 1)) ds c ((row.length : Int) + 1) (by omega)
  have ha : at_ ≤ row.length := by omega
  rw [show ([PyData.list (ds.map .int), PyData.int (c : Int)] : List D) = bx ds c from rfl] at e1
  rw [show ([PyData.list (ds.map .int), PyData.int ((c1 : Nat) : Int)] : List D) = bx ds c1 from rfl] at e1
  simp only [runD_eq]
  simp [d_u_law_bent, b_u_law_bent, call_u_law_draw, ks_draw, e1]
  by_cases hlt : at_ < row.length
  · have hne : row ≠ [] := by intro e; rw [e] at hlt; simp at hlt
    have c0 := hc hne
    have hlt' : (at_ : Int) < row.length := by omega
    obtain ⟨d1, c2, h2, e2⟩ := r_drawI (F := callF T (k + 1)) ds c1 (cl : Int) (by omega)
    obtain ⟨d2, c3, h3, e3⟩ := r_drawI (F := callF T (k + 1)) ds c1 ((cl : Int) + 1) (by omega)
    obtain ⟨z, c4, hz, e4⟩ := r_pick k ds c1 [.int (cl : Int), .int (-1), .int ((cl : Int) + 3)] (by simp)
    rw [show ([PyData.list (ds.map .int), PyData.int (c1 : Int)] : List D) = bx ds c1 from rfl] at e2 e3
    rw [show ([PyData.list (ds.map .int), PyData.int ((c2 : Nat) : Int)] : List D) = bx ds c2 from rfl] at e2
    rw [show ([PyData.list (ds.map .int), PyData.int ((c3 : Nat) : Int)] : List D) = bx ds c3 from rfl] at e3
    obtain ⟨zi, rfl⟩ : ∃ i : Int, z = .int i := by
      simp at hz; rcases hz with rfl | rfl | rfl <;> exact ⟨_, rfl⟩
    have hw7 : w = 0 ∨ w = 1 ∨ w = 2 ∨ w = 3 ∨ w = 4 ∨ w = 5 ∨ w = 6 := by omega
    rcases hw7 with rfl | rfl | rfl | rfl | rfl | rfl | rfl
    · simp
      exact Rt.ok ⟨row, c1, by omega, rfl, rfl⟩
    · simp [hlt', hlt, call_u_law_draw, ks_draw, e2]
      exact Rt.ok ⟨row.set at_ d1, c2, by simp, by simp, rfl⟩
    · simp [hlt', hlt, call_u_law_pick, ks_pick, e4]
      exact Rt.ok ⟨row.set at_ zi, c4, by simp, by simp, rfl⟩
    · have z1 : (at_ : Int) < 9223372036854775808 := by omega
      have z2 : row.length < 16777216 := by omega
      simp [hlt', hlt, call_u_law_draw, ks_draw, e3, z1, z2]
      exact Rt.ok ⟨row.take at_ ++ [(d2 : Int)] ++ row.drop at_, c3, by simp; omega, by simp, rfl⟩
    · simp [hlt', hlt, Gr.erase_map]
      exact Rt.ok ⟨row.eraseIdx at_, c1, by rw [List.length_eraseIdx_of_lt hlt]; omega, by simp, rfl⟩
    · simp [hlt', hlt]
      cases at_ with
      | zero =>
        obtain ⟨y, hy⟩ : ∃ y, row.getLast? = some y := by
          cases h : row.getLast? with
          | none => exact absurd (List.getLast?_eq_none_iff.mp h) hne
          | some y => exact ⟨y, rfl⟩
        simp [atI_m1, hy, hne]
        have : 0 < row.length := List.length_pos_iff.mpr hne
        simp [this]
        exact Rt.ok ⟨row.set 0 y, c1, by simp, by simp, rfl⟩
      | succ a =>
        have hg : a < row.length := by omega
        simp [hg, hlt]
        exact Rt.ok ⟨row.set (a + 1) row[a], c1, by simp, by simp, rfl⟩
    · simp [hlt']
      generalize hf : compL _ _ _ = x
      have e5 := compM_use hf (fun x => some (.int (x + 1 + at_ - (if (cl : Int) ≤ x + 1 + at_ then (cl : Int) else 0)))) fun x hx => by
        by_cases hq : (cl : Int) ≤ x + 1 + at_ <;> simp [cstep, hq]
      subst e5
      rw [fm_some]
      simp
      exact Rt.ok ⟨row.map fun x => x + 1 + at_ - (if (cl : Int) ≤ x + 1 + at_ then (cl : Int) else 0), c1, by simp, by simp, rfl⟩
  · have hlt' : ¬ (at_ : Int) < row.length := by omega
    have ea : at_ = row.length := by omega
    obtain ⟨d2, c3, h3, e3⟩ := r_drawI (F := callF T (k + 1)) ds c1 ((cl : Int) + 1) (by omega)
    rw [show ([PyData.list (ds.map .int), PyData.int (c1 : Int)] : List D) = bx ds c1 from rfl] at e3
    rw [show ([PyData.list (ds.map .int), PyData.int ((c3 : Nat) : Int)] : List D) = bx ds c3 from rfl] at e3
    have hw7 : w = 3 ∨ w = 6 ∨ (w = 0 ∨ w = 1 ∨ w = 2 ∨ w = 4 ∨ w = 5) := by omega
    rcases hw7 with rfl | rfl | hw7
    · have z1 : (at_ : Int) < 9223372036854775808 := by omega
      have z2 : row.length < 16777216 := by omega
      simp [hlt', call_u_law_draw, ks_draw, e3, z1, z2]
      exact Rt.ok ⟨row.take at_ ++ [(d2 : Int)] ++ row.drop at_, c3, by simp; omega, by simp, rfl⟩
    · simp [hlt']
      generalize hf : compL _ _ _ = x
      have e5 := compM_use hf (fun x => some (.int (x + 1 + at_ - (if (cl : Int) ≤ x + 1 + at_ then (cl : Int) else 0)))) fun x hx => by
        by_cases hq : (cl : Int) ≤ x + 1 + at_ <;> simp [cstep, hq]
      subst e5
      rw [fm_some]
      simp
      exact Rt.ok ⟨row.map fun x => x + 1 + at_ - (if (cl : Int) ≤ x + 1 + at_ then (cl : Int) else 0), c1, by simp, by simp, rfl⟩
    · rcases hw7 with rfl | rfl | rfl | rfl | rfl <;> simp [hlt', hlt] <;> exact Rt.ok ⟨row, c1, by omega, rfl, rfl⟩
theorem same_bool (k : Nat) (b : Bool) : runD (callF T (k + 1)) d_u_law_same [.fz (.bool b), .fz (.bool b)] = some (.fr (.bool true), []) :=
  same_true k 1 (.bool b) _ _ trivial (isS_fz _) (isS_fz _)
theorem r_judged (k : Nat) (ds : List Int) (c n : Nat) (L : List Gr.La) (row : List Int) (cl : Nat) (hL : L.length ≤ 100) (hr : row.length ≤ 100) (hc : row ≠ [] → 0 < cl) (hcl : cl ≤ 100) :
    ∃ c' : Nat, runD (callF T (k + 3)) d_u_law_judged [.mu (bx ds c), .fz (enc n L), .fz (.tuple (row.map .int)), .fz (.int (cl : Int))] = some (.fr (.bool true), [bx ds c']) := by
  suffices h : Rt (runD (callF T (k + 3)) d_u_law_judged [.mu (bx ds c), .fz (enc n L), .fz (.tuple (row.map .int)), .fz (.int (cl : Int))]) (k := ⟨fun r o => ∃ (c' : Nat), r = .fr (.bool true) ∧ o = [bx ds c']⟩) by
    obtain ⟨r, o, e, c', rfl, rfl⟩ := h
    exact ⟨c', e⟩
  have sb := same_bool (k + 1)
  simp only [runD_eq]
  simp [d_u_law_judged, b_u_law_judged]
  generalize hf : forL _ _ _ = x
  obtain ⟨ρ', rfl, c2, o4, o5, o6, rfl⟩ := forR_use hf (fun i ρ => ∃ (c2 : Nat) (o4 o5 o6 : Option D), ρ = [.mu (bx ds c2), .fz (enc n L), .fz (.tuple (row.map .int)), .fz (.int (cl : Int)), qs o4, qs o5, qs o6]) ⟨c, none, none, none, rfl⟩ (by
    rintro i ρ hi ⟨c2, o4, o5, o6, rfl⟩
    obtain ⟨row', c3, hr', e1⟩ := r_bent k ds c2 row cl i hr hc hcl (by omega)
    simp [fstep, call_u_law_bent, ks_bent, e1]
    have key : ∀ q : Int, ∃ b, runD (callF T (k + 2)) d_is_lane_colouring [.fz (enc n L), .fz (.tuple (row'.map .int)), .fz (.int q)] = some (.fr (.bool b), []) ∧ runD (callF T (k + 2)) d_u_law_proper [.fz (enc n L), .fz (.tuple (row'.map .int)), .fz (.int q)] = some (.fr (.bool b), []) := by
      intro q
      obtain ⟨b1, f1, f2⟩ := r_is (F := callF T (k + 2)) n L row' q (by omega) (by omega)
      obtain ⟨b2, f3, f4⟩ := r_proper (k + 1) n L row' q (by omega) (by omega)
      have : b2 = b1 := by rw [Bool.eq_iff_iff, f2, f4]
      subst this
      exact ⟨b2, f1, f3⟩
    obtain ⟨b1, g1, g2⟩ := key (cl : Int)
    obtain ⟨b2, g3, g4⟩ := key ((cl : Int) + 1)
    obtain ⟨b3, g5, g6⟩ := key (if (cl : Int) - 1 < 0 then 0 else (cl : Int) - 1)
    simp [fstep, call_is_lane_colouring, ks_is, g1, g2, g3, g4, g5, g6, call_u_law_proper, ks_proper, call_u_law_same, ks_same, sb]
    exact St.next ⟨c3, some (.int i), some (.tuple (row'.map .int)), some (.int (if (cl : Int) - 1 < 0 then 0 else (cl : Int) - 1)), by simp⟩)
  simp
  exact Rt.ok ⟨c2, rfl, rfl⟩
end K89

set_option maxRecDepth 100000
/-! two sides: as many colours as the most lanes of a house -/
namespace K89
open Gr
def share (l m : La) : Bool := (m.1 == l.1 || m.2 == l.1) || (m.1 == l.2 || m.2 == l.2)
theorem share_meet (L : List La) (i j : Nat) : meetB L i j = share (ln L i) (ln L j) := rfl
theorem share_comm (l m : La) : share l m = share m l := by
  unfold share
  rw [Bool.eq_iff_iff]
  simp only [Bool.or_eq_true, beq_iff_eq]
  omega
def PC (Z : List (La × Nat)) : Prop := Z.Pairwise fun a b => share a.1 b.1 = true → a.2 ≠ b.2
theorem perm_lift {α β : Type} (f : α → β) {l m : List β} (h : l.Perm m) : ∀ Z : List α, Z.map f = m → ∃ Z' : List α, Z'.Perm Z ∧ Z'.map f = l := by
  induction h with
  | nil => intro Z h; exact ⟨Z, .refl _, h⟩
  | @cons x l m _ ih =>
    intro Z hz
    cases Z with
    | nil => simp at hz
    | cons z Z =>
      simp only [List.map_cons, List.cons.injEq] at hz
      obtain ⟨Z', p, e⟩ := ih Z hz.2
      exact ⟨z :: Z', p.cons z, by rw [List.map_cons, e, hz.1]⟩
  | swap x y l =>
    intro Z hz
    match Z, hz with
    | [], hz => simp at hz
    | [_], hz => simp at hz
    | a :: b :: Z, hz =>
      simp only [List.map_cons, List.cons.injEq] at hz
      exact ⟨b :: a :: Z, .swap _ _ _, by simp [hz]⟩
  | trans _ _ ih1 ih2 =>
    intro Z hz
    obtain ⟨Z1, p1, e1⟩ := ih2 Z hz
    obtain ⟨Z2, p2, e2⟩ := ih1 Z1 e1
    exact ⟨Z2, p2.trans p1, e2⟩
theorem PC.perm {Z Z' : List (La × Nat)} (p : Z'.Perm Z) (h : PC Z) : PC Z' := by
  unfold PC at *
  exact (List.Perm.pairwise_iff (fun {a b} h hs e => h (by rw [share_comm]; exact hs) e.symm) p).mpr h
theorem PC.can {L : List La} {Z : List (La × Nat)} {c : Nat} (h : PC Z) (e : Z.map Prod.fst = L) (hc : ∀ z ∈ Z, z.2 < c) : Can L c := by
  subst e
  refine ⟨Z.map Prod.snd, ⟨fun x hx => ?_, fun i hi j hj e => ?_⟩, by simp⟩
  · obtain ⟨z, hz, rfl⟩ := List.mem_map.mp hx
    exact hc z hz
  · have hi : i < Z.length := by simpa using hi
    have hj2 : j < Z.length := by omega
    have := List.pairwise_iff_getElem.mp h j i hj2 hi hj
    simp [hi, hj2] at e
    rw [share_meet, share_comm]
    have e1 : ln (Z.map Prod.fst) i = (Z[i]).1 := by simp [ln, hi]
    have e2 : ln (Z.map Prod.fst) j = (Z[j]).1 := by simp [ln, hj2]
    rw [e1, e2]
    cases hs : share Z[j].1 Z[i].1 with
    | false => rfl
    | true => exact absurd e (this hs)
/-- fewer colours than the lanes of a house are not enough -/
theorem can_deg {L : List La} {c : Nat} (h : Can L c) (v : Nat) : deg L v ≤ c := by
  obtain ⟨w, ⟨h1, h2⟩, h3⟩ := h
  have e : deg L v = ((List.range L.length).filter fun i => touch L i v).length := by
    unfold deg
    rw [List.countP_eq_length_filter]
    have : L.filter (fun l => l.1 == v || l.2 == v) = ((List.range L.length).filter fun i => touch L i v).map (ln L) := by
      have hL : L = (List.range L.length).map (ln L) := by
        apply List.ext_getElem
        · simp
        · intro i a b; simp [ln, a]
      conv => lhs; rw [hL]
      rw [List.filter_map]
      rfl
    rw [this, List.length_map]
  rw [e]
  have nd : (((List.range L.length).filter fun i => touch L i v).map fun i => w.getD i 0).Nodup := by
    unfold List.Nodup
    rw [List.pairwise_map]
    have hp : ((List.range L.length).filter fun i => touch L i v).Pairwise (· < ·) := (List.pairwise_lt_range (n := L.length)).sublist List.filter_sublist
    refine List.Pairwise.imp_of_mem (fun {a b} ha hb hab he => ?_) hp
    rw [List.mem_filter] at ha hb
    have hb1 : b < L.length := by simpa using hb.1
    have := h2 b (by omega) a hab he
    rw [share_meet] at this
    have ta := ha.2
    have tb := hb.2
    unfold touch at ta tb
    unfold share at this
    simp only [Bool.or_eq_true, beq_iff_eq] at ta tb
    simp only [Bool.or_eq_false_iff, beq_eq_false_iff_ne] at this
    omega
  have := nd.length_le_of_subset (l₂ := List.range c) fun x hx => by
    obtain ⟨i, hi, rfl⟩ := List.mem_map.mp hx
    rw [List.mem_filter] at hi
    have hi1 : i < w.length := by rw [h3]; simpa using hi.1
    have : w.getD i 0 = w[i] := by simp [hi1]
    rw [this]
    simpa using h1 _ (List.getElem_mem hi1)
  simpa using this
/-! ### the ring of six and lanes more -/
def ring6 : List La := [(0, 1), (1, 2), (2, 3), (3, 4), (4, 5), (0, 5)]
def kinds9 : List La := [(0, 1), (0, 3), (0, 5), (2, 1), (2, 3), (2, 5), (4, 1), (4, 3), (4, 5)]
def pcB (Z : List (La × Nat)) : Bool := match Z with
  | [] => true
  | a :: r => (r.all fun b => !share a.1 b.1 || decide (a.2 ≠ b.2)) && pcB r
theorem pcB_pc : ∀ {Z : List (La × Nat)}, pcB Z = true → PC Z
  | [], _ => .nil
  | a :: r, h => by
    simp only [pcB, Bool.and_eq_true, List.all_eq_true] at h
    refine List.pairwise_cons.mpr ⟨fun b hb hs => ?_, pcB_pc h.2⟩
    have := h.1 b hb
    rw [hs] at this
    simpa using this
def tries : Nat → List (List Nat)
  | 0 => [[]]
  | k + 1 => (tries k).map (2 :: ·) ++ (tries k).map (3 :: ·)
def good6 (X : List La) : Bool := (List.range 6).any fun h => (tries X.length).any fun xs => pcB ((ring6 ++ X).zip ([0, 1, 0, 1, 0, 1] ++ xs)) && ([0, 1, 0, 1, 0, 1] ++ xs).all (fun c => decide (c < deg (ring6 ++ X) h)) && decide (xs.length = X.length)
def four (X : List La) : Bool := (List.range 6).all fun h => decide (deg (ring6 ++ X) h ≤ 4)
theorem all_good : (kinds9.all fun a => good6 [a]) = true ∧ (kinds9.all fun a => kinds9.all fun b => !four [a, b] || good6 [a, b]) = true ∧ (kinds9.all fun a => kinds9.all fun b => kinds9.all fun c => !four [a, b, c] || good6 [a, b, c]) = true := by decide +kernel
theorem good_of {X : List La} (hX : ∀ x ∈ X, x ∈ kinds9) (h4 : four X = true) (h1 : 1 ≤ X.length) (h3 : X.length ≤ 3) : good6 X = true := by
  obtain ⟨g1, g2, g3⟩ := all_good
  match X, hX, h4, h1, h3 with
  | [a], hX, _, _, _ => exact List.all_eq_true.mp g1 a (hX a (by simp))
  | [a, b], hX, h4, _, _ =>
    have := List.all_eq_true.mp (List.all_eq_true.mp g2 a (hX a (by simp))) b (hX b (by simp))
    rw [h4] at this; simpa using this
  | [a, b, c], hX, h4, _, _ =>
    have := List.all_eq_true.mp (List.all_eq_true.mp (List.all_eq_true.mp g3 a (hX a (by simp))) b (hX b (by simp))) c (hX c (by simp))
    rw [h4] at this; simpa using this
  | _ :: _ :: _ :: _ :: _, _, _, _, h3 => simp at h3
abbrev nmL (nm : List Nat) (l : La) : La := mm (nm.getD l.1 0) (nm.getD l.2 0)
theorem mem6 {l : La} {X : List La} (hX : ∀ x ∈ X, x ∈ kinds9) (h : l ∈ ring6 ++ X) : l.1 < 6 ∧ l.2 < 6 := by
  have h1 : ∀ l ∈ ring6, l.1 < 6 ∧ l.2 < 6 := by decide
  have h2 : ∀ l ∈ kinds9, l.1 < 6 ∧ l.2 < 6 := by decide
  rcases List.mem_append.mp h with h | h
  · exact h1 l h
  · exact h2 l (hX l h)
theorem nd_inj {nm : List Nat} (nd : nm.Nodup) {a b : Nat} (ha : a < nm.length) (hb : b < nm.length) : (nm.getD a 0 = nm.getD b 0 ↔ a = b) := by
  simp only [List.getD_eq_getElem?_getD, ha, hb, List.getElem?_eq_getElem, Option.getD_some]
  constructor
  · intro e
    rcases Nat.lt_trichotomy a b with z | z | z
    · exact absurd e (List.pairwise_iff_getElem.mp nd a b ha hb z)
    · exact z
    · exact absurd e.symm (List.pairwise_iff_getElem.mp nd b a hb ha z)
  · rintro rfl; rfl
theorem share_nm {nm : List Nat} (nd : nm.Nodup) (nl : nm.length = 6) {l m : La} (hl : l.1 < 6 ∧ l.2 < 6) (hm : m.1 < 6 ∧ m.2 < 6) : share (nmL nm l) (nmL nm m) = share l m := by
  have inj : ∀ a b, a < 6 → b < 6 → (nm.getD a 0 = nm.getD b 0 ↔ a = b) := fun a b ha hb => nd_inj nd (by omega) (by omega)
  have e1 := inj m.1 l.1 hm.1 hl.1
  have e2 := inj m.2 l.1 hm.2 hl.1
  have e3 := inj m.1 l.2 hm.1 hl.2
  have e4 := inj m.2 l.2 hm.2 hl.2
  unfold share nmL mm
  generalize nm.getD l.1 0 = a at *
  generalize nm.getD l.2 0 = b at *
  generalize nm.getD m.1 0 = c at *
  generalize nm.getD m.2 0 = d at *
  rw [Bool.eq_iff_iff]
  simp only [Bool.or_eq_true, beq_iff_eq]
  rw [← e1, ← e2, ← e3, ← e4]
  omega
theorem deg_nm {nm : List Nat} (nd : nm.Nodup) (nl : nm.length = 6) {h : Nat} (hh : h < 6) : ∀ {P : List La}, (∀ l ∈ P, l.1 < 6 ∧ l.2 < 6) → deg (P.map (nmL nm)) (nm.getD h 0) = deg P h
  | [], _ => rfl
  | l :: P, hp => by
    have inj : ∀ a b, a < 6 → b < 6 → (nm.getD a 0 = nm.getD b 0 ↔ a = b) := fun a b ha hb => nd_inj nd (by omega) (by omega)
    obtain ⟨l1, l2⟩ := hp l (by simp)
    rw [List.map_cons, deg_cons, deg_cons, deg_nm nd nl hh fun m hm => hp m (by simp [hm])]
    congr 1
    have e1 := inj l.1 h l1 hh
    have e2 := inj l.2 h l2 hh
    unfold nmL mm
    generalize nm.getD l.1 0 = a at *
    generalize nm.getD l.2 0 = b at *
    generalize nm.getD h 0 = c at *
    by_cases z : l.1 = h ∨ l.2 = h
    · rw [if_pos z, if_pos (by omega)]
    · rw [if_neg z, if_neg (by omega)]
/-- such a town has a colouring with as many colours as a house has lanes -/
theorem great_can {X L : List La} {nm : List Nat} (hX : ∀ x ∈ X, x ∈ kinds9) (h4 : four X = true) (h1 : 1 ≤ X.length) (h3 : X.length ≤ 3) (pn : nm.Perm (List.range 6)) (pl : L.Perm ((ring6 ++ X).map (nmL nm))) :
    ∃ v, v < 6 ∧ Can L (deg L v) := by
  have nd : nm.Nodup := pn.nodup_iff.mpr List.nodup_range
  have nl : nm.length = 6 := by have := pn.length_eq; simpa using this
  have g := good_of hX h4 h1 h3
  unfold good6 at g
  rw [List.any_eq_true] at g
  obtain ⟨h, hh, g⟩ := g
  have hh : h < 6 := by simpa using hh
  rw [List.any_eq_true] at g
  obtain ⟨xs, _, g⟩ := g
  simp only [Bool.and_eq_true, decide_eq_true_eq] at g
  obtain ⟨⟨g1, g2⟩, g3⟩ := g
  have hm := fun l (hl : l ∈ ring6 ++ X) => mem6 hX hl
  have hlen : (ring6 ++ X).length = ([0, 1, 0, 1, 0, 1] ++ xs).length := by simp [ring6, g3]
  generalize hG : ring6 ++ X = G at *
  generalize ([0, 1, 0, 1, 0, 1] ++ xs) = cs at *
  have hz : (G.zip cs).map Prod.fst = G := by rw [List.map_fst_zip (by omega)]
  have pc := pcB_pc g1
  have pc2 : PC ((G.zip cs).map fun z => (nmL nm z.1, z.2)) := by
    unfold PC at *
    rw [List.pairwise_map]
    refine List.Pairwise.imp_of_mem (fun {a b} ha hb hab hs => ?_) pc
    have ma : a.1 ∈ G := by rw [← hz]; exact List.mem_map_of_mem ha
    have mb : b.1 ∈ G := by rw [← hz]; exact List.mem_map_of_mem hb
    exact hab (by rw [← share_nm nd nl (hm _ ma) (hm _ mb)]; exact hs)
  have e2 : ((G.zip cs).map fun z => (nmL nm z.1, z.2)).map Prod.fst = G.map (nmL nm) := by
    conv => rhs; rw [← hz]
    rw [List.map_map, List.map_map]; rfl
  obtain ⟨Z', p, e⟩ := perm_lift Prod.fst pl _ e2
  have hd : deg L (nm.getD h 0) = deg G h := by rw [deg_perm pl, deg_nm nd nl hh hm]
  refine ⟨nm.getD h 0, ?_, ?_⟩
  · have : nm.getD h 0 ∈ nm := by
      have : h < nm.length := by omega
      simp [this]
    have := pn.mem_iff.mp this
    simpa using this
  · rw [hd]
    refine (pc2.perm p).can e fun z hz' => ?_
    have hz2 := p.mem_iff.mp hz'
    obtain ⟨y, hy, rfl⟩ := List.mem_map.mp hz2
    have : y.2 ∈ cs := (List.of_mem_zip hy).2
    have := List.all_eq_true.mp g2 _ this
    simpa using this
end K89

set_option maxRecDepth 100000
namespace K89
open Ev PySem L2
def hit (h : Nat) (l : Gr.La) : Bool := l.1 == h || l.2 == h
theorem hitI (l : Gr.La) (h : Nat) : (((l.1 : Int) == (h : Int)) || ((l.2 : Int) == (h : Int))) = hit h l := by
  unfold hit
  rw [Bool.eq_iff_iff]
  simp
  omega
theorem r_lanesG {F : FT} (n : Int) (L : List Gr.La) (z : D) (hz : z = .tuple (L.map laneD) ∨ z = .list (L.map laneD)) (h : Nat) : runD F d_u_law_lanes [.fz (.tuple [.int n, z]), .fz (.int (h : Int))] = some (.fr (.int (Gr.deg L h : Nat)), []) := by
  rcases hz with rfl | rfl
  all_goals
    simp only [runD_eq]
    simp [d_u_law_lanes, b_u_law_lanes]
    generalize hf : forL _ _ _ = x
    obtain ⟨ρ', rfl, o, rfl⟩ := forM_use hf (fun i ρ => ∃ (o : Option D), ρ = [_, _, .fz (.int (Gr.deg (L.take i) h : Nat)), qs o]) ⟨none, rfl⟩ (by
      rintro i l ρ hi ⟨o, rfl⟩
      obtain ⟨hi', e⟩ := List.getElem?_eq_some_iff.mp hi
      have e1 : Gr.deg (L.take (i + 1)) h = Gr.deg (L.take i) h + if hit h l = true then 1 else 0 := by
        rw [List.take_succ_eq_append_getElem hi', e, Gr.deg_append]
        congr 1
        unfold Gr.deg hit
        simp [List.countP_cons]
      rw [e1]
      generalize Gr.deg (L.take i) h = d at *
      simp [fstep, laneD, hitI, isFlat]
      cases hh : hit h l
      · simp
        exact St.next ⟨some (laneD l), by simp [laneD]⟩
      · simp
        exact St.next ⟨some (laneD l), by simp [laneD]⟩)
    rw [List.take_length]
    simp
theorem r_lanes {F : FT} (n : Nat) (L : List Gr.La) (h : Nat) : runD F d_u_law_lanes [.fz (enc n L), .fz (.int (h : Int))] = some (.fr (.int (Gr.deg L h : Nat)), []) := r_lanesG n L _ (.inl rfl) h
theorem r_small (k : Nat) (ds : List Int) (c : Nat) : ∃ (n : Nat) (L : List Gr.La) (c' : Nat), L.length ≤ 6 ∧ runD (callF T (k + 3)) d_u_law_small [.mu (bx ds c)] = some (.fr (enc n L), [bx ds c']) := by
  suffices h : Rt (runD (callF T (k + 3)) d_u_law_small [.mu (bx ds c)]) (k := ⟨fun r o => ∃ (n : Nat) (L : List Gr.La) (c' : Nat), L.length ≤ 6 ∧ r = .fr (enc n L) ∧ o = [bx ds c']⟩) by
    obtain ⟨r, o, e, n, L, c', h, rfl, rfl⟩ := h
    exact ⟨n, L, c', h, e⟩
  obtain ⟨z, c1, hz, e1⟩ := r_pick (k + 1) ds c [.int 4, .int 3, .int 2, .int 5, .int 4, .int 1, .int 3] (by simp)
  have hn : ∃ n : Nat, z = .int (n : Int) ∧ (n = 1 ∨ n = 2 ∨ n = 3 ∨ n = 4 ∨ n = 5) := by
    simp at hz
    rcases hz with rfl | rfl | rfl | rfl | rfl | rfl | rfl
    · exact ⟨4, rfl, by omega⟩
    · exact ⟨3, rfl, by omega⟩
    · exact ⟨2, rfl, by omega⟩
    · exact ⟨5, rfl, by omega⟩
    · exact ⟨4, rfl, by omega⟩
    · exact ⟨1, rfl, by omega⟩
    · exact ⟨3, rfl, by omega⟩
  obtain ⟨n, rfl, hn⟩ := hn
  simp only [runD_eq]
  simp [d_u_law_small, b_u_law_small, call_u_law_pick, ks_pick, e1]
  by_cases h2 : n = 2
  · subst h2
    obtain ⟨d, c2, h3, e2⟩ := r_drawI (F := callF T (k + 2)) ds c1 6 (by omega)
    rw [show ([PyData.list (ds.map .int), PyData.int (c1 : Int)] : List D) = bx ds c1 from rfl, show ([PyData.list (ds.map .int), PyData.int ((c2 : Nat) : Int)] : List D) = bx ds c2 from rfl] at e2
    have y1 : (-4611686018427387904 : Int) ≤ 1 + (d : Int) := by omega
    have y2 : (1 : Int) + d ≤ 16777216 := by omega
    simp [call_u_law_draw, ks_draw, e2, y1, y2]
    generalize hf : compL _ _ _ = x
    have e5 := compR_use hf (fun _ => some (laneD (0, 1))) fun i hi => by simp [cstep, laneD]
    subst e5
    rw [fm_some]
    simp
    refine Rt.ok ⟨2, (List.range ((1 : Int) + d).toNat).map fun _ => (0, 1), c2, by simp; omega, ?_, rfl⟩
    simp [enc]
  · have h2' : ¬ (n : Int) = 2 := by omega
    obtain ⟨L, c2, _, _, hl, e3⟩ := r_town k ds c1 n (min 3 (7 - n)) (by omega) (by omega) (by omega)
    have em : ((min 3 (7 - n) : Nat) : Int) = if (7 : Int) - n < 3 then (7 : Int) - n else 3 := by split <;> omega
    rw [em] at e3
    simp [h2', call_u_law_town, ks_town, e3]
    exact Rt.ok ⟨n, L, c2, by omega, rfl, rfl⟩
theorem four_step {X : List Gr.La} {a b : Nat} (h : four X = true) (ha : Gr.deg (ring6 ++ X) a < 4) (hb : Gr.deg (ring6 ++ X) b < 4) : four (X ++ [(a, b)]) = true := by
  unfold four at *
  rw [List.all_eq_true] at *
  intro v hv
  have := h v hv
  simp only [decide_eq_true_eq] at this ⊢
  rw [← List.append_assoc, Gr.deg_append]
  have e : Gr.deg [(a, b)] v = if a = v ∨ b = v then 1 else 0 := by rw [Gr.deg_cons]; simp [Gr.deg]
  rw [e]
  by_cases z : a = v ∨ b = v
  · rw [if_pos z]
    rcases z with rfl | rfl <;> omega
  · rw [if_neg z]; omega
theorem kinds_of : ∀ a, a < 3 → ∀ b, b < 3 → (2 * a, 1 + 2 * b) ∈ kinds9 := by decide
theorem ring_deg : ∀ a, a < 3 → Gr.deg (ring6 ++ []) (2 * a) < 4 ∧ Gr.deg (ring6 ++ []) (1 + 2 * a) < 4 := by decide
theorem ringD : ring6.map laneD = [.tuple [.int 0, .int 1], .tuple [.int 1, .int 2], .tuple [.int 2, .int 3], .tuple [.int 3, .int 4], .tuple [.int 4, .int 5], .tuple [.int 0, .int 5]] := rfl
theorem r_great (k : Nat) (ds : List Int) (c : Nat) : ∃ (L : List Gr.La) (v c' : Nat), v < 6 ∧ Can L (Gr.deg L v) ∧ L.length ≤ 9 ∧ runD (callF T (k + 2)) d_u_law_great [.mu (bx ds c)] = some (.fr (enc 6 L), [bx ds c']) := by
  suffices h : Rt (runD (callF T (k + 2)) d_u_law_great [.mu (bx ds c)]) (k := ⟨fun r o => ∃ (L : List Gr.La) (v c' : Nat), v < 6 ∧ Can L (Gr.deg L v) ∧ L.length ≤ 9 ∧ r = .fr (enc 6 L) ∧ o = [bx ds c']⟩) by
    obtain ⟨r, o, e, L, v, c', h1, h2, h3, rfl, rfl⟩ := h
    exact ⟨L, v, c', h1, h2, h3, e⟩
  obtain ⟨nm, c1, pn, e1⟩ := r_mixed (enc := natD) k ds c (List.range 6) (.fz (.list ((List.range 6).map natD))) (.inl rfl) (by simp)
  have nl : nm.length = 6 := by have := pn.length_eq; simpa using this
  obtain ⟨d, c2, h3, e2⟩ := r_drawI (F := callF T (k + 1)) ds c1 3 (by omega)
  rw [show ([PyData.list (ds.map .int), PyData.int (c1 : Int)] : List D) = bx ds c1 from rfl, show ([PyData.list (ds.map .int), PyData.int ((c2 : Nat) : Int)] : List D) = bx ds c2 from rfl] at e2
  have y1 : (-4611686018427387904 : Int) ≤ 1 + (d : Int) := by omega
  have y2 : (1 : Int) + d ≤ 16777216 := by omega
  have er : rngD 0 6 = (List.range 6).map natD := rngD_nat 6
  simp only [runD_eq]
  simp [d_u_law_great, b_u_law_great, call_u_law_mixed, ks_mixed, er, e1]
  generalize hf : compL _ _ _ = x
  have e5 := compR_use hf (fun i => some (laneD (i, i + 1))) fun i hi => by simp [cstep, laneD]
  subst e5
  rw [fm_some]
  have e6 : (List.range ((5 : Int) - 0).toNat).map (fun i => laneD (i, i + 1)) ++ [PyData.tuple [.int 0, .int 5]] = ring6.map laneD := rfl
  simp [call_u_law_draw, ks_draw, e2, y1, y2]
  have e6' : ((List.range 5).map fun i => laneD (i, i + 1)) ++ [PyData.tuple [.int 0, .int 5]] = (ring6 ++ []).map laneD := rfl
  rw [e6']
  generalize hf : forL _ _ _ = x
  obtain ⟨ρ', rfl, X, c3, o3, o5, o6, hXl, hX1, hXk, hX4, rfl⟩ := forR_use hf (fun i ρ => ∃ (X : List Gr.La) (c3 : Nat) (o3 o5 o6 : Option D), X.length ≤ i ∧ (0 < i → 1 ≤ X.length) ∧ (∀ x ∈ X, x ∈ kinds9) ∧ four X = true ∧ ρ = [.mu (bx ds c3), .own (nm.map natD), .own ((ring6 ++ X).map laneD), qs o3, .un, qs o5, qs o6, .un])
    ⟨[], c2, none, none, none, by simp, fun h => by omega, by simp, by decide, rfl⟩ (by
      rintro i ρ hi ⟨X, c3, o3, o5, o6, hXl, hX1, hXk, hX4, rfl⟩
      have hi' : i < 3 := by omega
      obtain ⟨a, c4, h4, e7⟩ := r_drawI (F := callF T (k + 1)) ds c3 3 (by omega)
      obtain ⟨b, c5, h5, e8⟩ := r_drawI (F := callF T (k + 1)) ds c4 3 (by omega)
      rw [show ([PyData.list (ds.map .int), PyData.int (c3 : Int)] : List D) = bx ds c3 from rfl, show ([PyData.list (ds.map .int), PyData.int ((c4 : Nat) : Int)] : List D) = bx ds c4 from rfl] at e7
      rw [show ([PyData.list (ds.map .int), PyData.int (c4 : Int)] : List D) = bx ds c4 from rfl, show ([PyData.list (ds.map .int), PyData.int ((c5 : Nat) : Int)] : List D) = bx ds c5 from rfl] at e8
      have ea : (2 : Int) * a = ((2 * a : Nat) : Int) := by omega
      have eb : (1 : Int) + 2 * b = ((1 + 2 * b : Nat) : Int) := by omega
      have l1 := r_lanesG (F := callF T (k + 1)) 6 (ring6 ++ X) _ (.inr rfl) (2 * a)
      have l2 := r_lanesG (F := callF T (k + 1)) 6 (ring6 ++ X) _ (.inr rfl) (1 + 2 * b)
      have hk := kinds_of a (by omega) b (by omega)
      have hd1 := ring_deg a (by omega)
      have hd2 := ring_deg b (by omega)
      have h40 := four_step (X := X) (a := 2 * a) (b := 1 + 2 * b) hX4
      have hlen : (ring6 ++ X).length < 16777216 := by simp [ring6]; omega
      have hXe : X = [] → Gr.deg (ring6 ++ X) (2 * a) < 4 ∧ Gr.deg (ring6 ++ X) (1 + 2 * b) < 4 := fun e => by subst e; exact ⟨hd1.1, hd2.2⟩
      have hap : (ring6 ++ X).map laneD ++ [laneD (2 * a, 1 + 2 * b)] = (ring6 ++ (X ++ [(2 * a, 1 + 2 * b)])).map laneD := by simp
      generalize hGG : (ring6 ++ X) = G at *
      simp [fstep, call_u_law_draw, ks_draw, e7, e8, mulOk_l]
      rw [ea, eb]
      generalize hA : 2 * a = A at *
      generalize hB : 1 + 2 * b = B at *
      rw [show ((2 : Int) * a) = ((A : Nat) : Int) by omega] at *
      simp [call_u_law_lanes, ks_lanes, l1, l2]
      by_cases q1 : Gr.deg G A < 4
      · by_cases q2 : Gr.deg G B < 4
        · have q1i : ((Gr.deg G A : Nat) : Int) < 4 := by omega
          have q2i : ((Gr.deg G B : Nat) : Int) < 4 := by omega
          simp [q1i, q2i, hlen]
          rw [show PyData.tuple [.int (A : Int), .int (B : Int)] = laneD (A, B) from rfl, hap]
          refine St.next ⟨X ++ [(A, B)], c5, some (.int i), some (.int (A : Int)), some (.int (B : Int)), by simp; omega, fun _ => by simp, fun x hx => ?_, h40 q1 q2, by simp⟩
          rcases List.mem_append.mp hx with hx | hx
          · exact hXk x hx
          · simp at hx; subst hx; exact hk
        · have q1i : ((Gr.deg G A : Nat) : Int) < 4 := by omega
          have q2i : ¬ ((Gr.deg G B : Nat) : Int) < 4 := by omega
          simp [q1i, q2i]
          refine St.next ⟨X, c5, some (.int i), some (.int (A : Int)), some (.int (B : Int)), by omega, fun _ => ?_, hXk, hX4, by simp [hGG]⟩
          rcases Nat.eq_zero_or_pos X.length with z | z
          · exact absurd (hXe (List.eq_nil_of_length_eq_zero z)).2 q2
          · exact z
      · have q1i : ¬ ((Gr.deg G A : Nat) : Int) < 4 := by omega
        simp [q1i]
        refine St.next ⟨X, c5, some (.int i), some (.int (A : Int)), some (.int (B : Int)), by omega, fun _ => ?_, hXk, hX4, by simp [hGG]⟩
        rcases Nat.eq_zero_or_pos X.length with z | z
        · exact absurd (hXe (List.eq_nil_of_length_eq_zero z)).1 q1
        · exact z)
  have hX1' := hX1 (by omega)
  have hX3 : X.length ≤ 3 := by omega
  have hm6 := fun l (hl : l ∈ ring6 ++ X) => mem6 hXk hl
  have hGl : (ring6 ++ X).length ≤ 9 := by simp [ring6]; omega
  have gc := fun (L : List Gr.La) pl => great_can (L := L) hXk hX4 hX1' hX3 pn pl
  generalize hGG : (ring6 ++ X) = G at *
  simp
  generalize hf : compL _ _ _ = x
  have e9 := compM_use hf (fun l => some (laneD (nmL nm l))) fun l hl => by
    obtain ⟨q1, q2⟩ := hm6 l hl
    have g1 : nm[l.1]? = some (nm.getD l.1 0) := getN (by omega)
    have g2 : nm[l.2]? = some (nm.getD l.2 0) := getN (by omega)
    generalize hu : nm.getD l.1 0 = u at *
    generalize hv : nm.getD l.2 0 = v at *
    have en : nmL nm l = (min u v, max u v) := by unfold nmL mm; rw [hu, hv]
    rw [en]
    simp [cstep, laneD, g1, g2]
  subst e9
  rw [fm_some]
  have e10 : G.map (fun l => laneD (nmL nm l)) = (G.map (nmL nm)).map laneD := by rw [List.map_map]; rfl
  rw [e10]
  obtain ⟨L, c6, pl, e11⟩ := r_mixed (enc := laneD) k ds c3 (G.map (nmL nm)) (.bor ((G.map (nmL nm)).map laneD)) (.inr rfl) (by simp; omega)
  obtain ⟨v, v1, v2⟩ := gc L pl
  have hLl : L.length ≤ 9 := by have := pl.length_eq; rw [List.length_map] at this; omega
  simp [-List.map_map, call_u_law_mixed, ks_mixed, e11]
  exact Rt.ok ⟨L, v, c6, v1, v2, hLl, rfl, rfl⟩
end K89

set_option maxRecDepth 100000
namespace K89
open Ev PySem L2
theorem same_nat (k : Nat) (i : Nat) (h : i < 18446744073709551616) : runD (callF T (k + 1)) d_u_law_same [.fz (.int (i : Int)), .fz (.int (i : Int))] = some (.fr (.bool true), []) :=
  same_true k 1 (.int (i : Int)) _ _ (lgs h) (isS_fz _) (isS_fz _)
theorem same_row (k : Nat) (w : List Nat) (hl : w.length ≤ 100) (hb : ∀ x ∈ w, x < 100) : runD (callF T (k + 2)) d_u_law_same [.fz (rowD w), .fz (rowD w)] = some (.fr (.bool true), []) :=
  same_true k 2 (rowD w) _ _ ⟨by simp; omega, fun d hd => by
    obtain ⟨i, hi, rfl⟩ := List.mem_map.mp hd
    exact lgs (n := i) (by have := hb i hi; omega)⟩ (isS_fz _) (isS_fz _)
theorem same_none (k : Nat) : runD (callF T (k + 1)) d_u_law_same [.fz .none, .fz .none] = some (.fr (.bool true), []) :=
  same_true k 1 .none _ _ trivial (isS_fz _) (isS_fz _)
theorem maxI_nat : ∀ (l : List Nat) (x : Nat), ∃ m : Nat, maxI (x : Int) (l.map fun (i : Nat) => (i : Int)) = (m : Int) ∧ m ∈ x :: l ∧ ∀ y ∈ x :: l, y ≤ m
  | [], x => ⟨x, rfl, by simp, by simp⟩
  | y :: l, x => by
    rw [List.map_cons, maxI]
    by_cases h : (y : Int) > x
    · rw [if_pos h]
      obtain ⟨m, h1, h2, h3⟩ := maxI_nat l y
      refine ⟨m, h1, by rcases List.mem_cons.mp h2 with z | z <;> simp [z], fun z hz => ?_⟩
      rcases List.mem_cons.mp hz with rfl | hz
      · have := h3 y (by simp); omega
      · exact h3 z hz
    · rw [if_neg h]
      obtain ⟨m, h1, h2, h3⟩ := maxI_nat l x
      refine ⟨m, h1, by rcases List.mem_cons.mp h2 with z | z <;> simp [z], fun z hz => ?_⟩
      rcases List.mem_cons.mp hz with rfl | hz
      · exact h3 z (by simp)
      · rcases List.mem_cons.mp hz with rfl | hz
        · have := h3 x (by simp); omega
        · exact h3 z (by simp [hz])
theorem ok_of {L : List Gr.La} {c : Nat} {w : List Nat} (h : Pr L c w) (hl : w.length = L.length) : OkR L (w.map fun (i : Nat) => (i : Int)) (c : Int) := by
  refine ⟨by simpa using hl, fun x hx => ?_, fun i hi j hj => ?_⟩
  · obtain ⟨y, hy, rfl⟩ := List.mem_map.mp hx
    have := h.1 y hy
    omega
  · unfold clash
    have hi' : i < w.length := by omega
    have hj' : j < w.length := by omega
    by_cases e : w.getD j 0 = w.getD i 0
    · rw [h.2 i hi' j hj e]; simp
    · simp [hi', hj'] at e
      have e' : ¬ ((w[j] : Nat) : Int) = ((w[i] : Nat) : Int) := by omega
      simp [hi', hj', e']
theorem rowD_ints (w : List Nat) : rowD w = .tuple ((w.map fun (i : Nat) => (i : Int)).map .int) := by rw [rowD_eq, natD_map]
theorem r_large (k : Nat) (ds : List Int) (c : Nat) (L : List Gr.La) (v : Nat) (hv : v < 6) (hcan : Can L (Gr.deg L v)) (hL : L.length ≤ 9) :
    ∃ c' : Nat, runD (callF T (k + 4)) d_u_law_large [.mu (bx ds c), .fz (enc 6 L)] = some (.fr (.bool true), [bx ds c']) := by
  suffices h : Rt (runD (callF T (k + 4)) d_u_law_large [.mu (bx ds c), .fz (enc 6 L)]) (k := ⟨fun r o => ∃ c' : Nat, r = .fr (.bool true) ∧ o = [bx ds c']⟩) by
    obtain ⟨r, o, e, c', rfl, rfl⟩ := h
    exact ⟨c', e⟩
  obtain ⟨M, m1, m2, m3⟩ := maxI_nat ((List.range 5).map fun i => Gr.deg L (i + 1)) (Gr.deg L 0)
  have hdv : Gr.deg L v ≤ M := m3 _ (by
    rcases v with _ | v
    · simp
    · exact List.mem_cons_of_mem _ (List.mem_map.mpr ⟨v, by simp; omega, rfl⟩))
  have hM : ∃ u, M = Gr.deg L u := by
    rcases List.mem_cons.mp m2 with z | z
    · exact ⟨0, z⟩
    · obtain ⟨i, _, e⟩ := List.mem_map.mp z
      exact ⟨i + 1, e.symm⟩
  obtain ⟨u, hu⟩ := hM
  have canM := can_mono hdv hcan
  have leastM : Least L M := ⟨canM, fun c' hc' k => by have := can_deg k u; omega⟩
  have hM9 : M ≤ 9 := by
    have h1 := leastM.2 L.length
    rcases Nat.lt_or_ge L.length M with z | z
    · exact absurd (can_all L) (h1 z)
    · omega
  have hM0 : L ≠ [] → 0 < M := fun hne => by
    rcases Nat.eq_zero_or_pos M with z | z
    · exfalso
      obtain ⟨w, ⟨h1, _⟩, h3⟩ := canM
      rw [z] at h1
      cases w with
      | nil => exact hne (List.eq_nil_of_length_eq_zero (by simpa using h3.symm))
      | cons x _ => have := h1 x (by simp); omega
    · exact z
  have e1 := r_lc (F := callF T (k + 3)) 6 L M (by omega) (by omega)
  cases hd : dfs L M L.length [] with
  | none => exact absurd hd (can_iff.mp canM)
  | some w =>
    obtain ⟨w1, w2, _⟩ := dfs_sound (Pr.nil L M) hd
    have w2 : w.length = L.length := by simpa using w2
    rw [hd] at e1
    obtain ⟨b, f1, f2⟩ := r_proper (k + 2) 6 L (w.map fun (i : Nat) => (i : Int)) (M : Int) (by omega) (by simp; omega)
    have : b = true := f2.mpr (ok_of w1 w2)
    subst this
    obtain ⟨c1, f3⟩ := r_judged k ds c 6 L (w.map fun (i : Nat) => (i : Int)) M (by omega) (by simp; omega) (fun hne => hM0 (fun e => by subst e; apply hne; have : w = [] := List.eq_nil_of_length_eq_zero (by simpa using w2); subst this; rfl)) (by omega)
    rw [← rowD_ints] at f1 f3
    obtain ⟨cc, g1, _, g3⟩ := r_llc (k + 2) 6 L (by omega)
    have hcc := g1.uniq leastM
    subst hcc
    have sn := same_nat (k + 2) cc (by omega)
    simp only [runD_eq]
    simp [d_u_law_large, b_u_law_large, enc_0]
    generalize hf : compL _ _ _ = x
    have e5 := compR_use hf (fun i => some (natD (Gr.deg L i))) fun i hi => by
      have := r_lanes (F := callF T (k + 3)) 6 L i
      simp [cstep, call_u_law_lanes, ks_lanes, this]
    subst e5
    rw [fm_some]
    have e6 : (List.range ((6 : Int) - 0).toNat).map (fun i => natD (Gr.deg L i)) = (((Gr.deg L 0 : Nat) : Int) :: (((List.range 5).map fun i => Gr.deg L (i + 1)).map fun (i : Nat) => (i : Int))).map .int := rfl
    rw [e6]
    generalize hll : (((Gr.deg L 0 : Nat) : Int) :: (((List.range 5).map fun i => Gr.deg L (i + 1)).map fun (i : Nat) => (i : Int))) = ll
    have hmx : mxR (some ll) (ll.map .int) = some (.fr (.int ((cc : Nat) : Int))) := by rw [← hll, mxR_some, m1]
    simp [-List.map_map, hmx, call_lane_colouring, ks_lc, e1, resD]
    simp [rowD, -List.map_map]
    generalize hf : compL _ _ _ = x
    have e7 := compM_use hf (fun _ => none) fun i hi => by simp [cstep]
    subst e7
    have e8 : w.filterMap (fun _ => (none : Option D)) = [] := by induction w <;> simp
    rw [e8]
    have er : (PyData.tuple (List.map natD w)) = rowD w := rfl
    simp [er, call_u_law_proper, ks_proper, f1, call_u_law_judged, ks_judged]
    simp [rowD]
    rw [er]
    simp [f3, call_least_lane_colours, ks_llc, g3, call_u_law_same, ks_same, sn]
    exact Rt.ok ⟨c1, rfl, rfl⟩
theorem r_law (k : Nat) (ns : List Int) : runD (callF T (k + 5)) d_law [.ro (ns.map .int)] = some (.fr (.bool true), []) := by
  suffices h : Rt (runD (callF T (k + 5)) d_law [.ro (ns.map .int)]) (k := ⟨fun r o => r = .fr (.bool true) ∧ o = []⟩) by
    obtain ⟨r, o, e, rfl, rfl⟩ := h
    exact e
  obtain ⟨ds, e0⟩ := r_digits (k + 3) ns 16 (by omega)
  rw [show ((16 : Nat) : Int) = 16 from rfl] at e0
  obtain ⟨d, c1, h1, e1⟩ := r_drawI (F := callF T (k + 4)) ds 0 12 (by omega)
  rw [show ([PyData.list (ds.map .int), PyData.int ((c1 : Nat) : Int)] : List D) = bx ds c1 from rfl] at e1
  simp only [runD_eq]
  simp [d_law, b_law, call_u_law_digits, ks_digits, e0]
  rw [show ((0 : Nat) : Int) = 0 from rfl] at e1
  rw [call_u_law_draw (k + 4)]
  simp [ks_draw, e1]
  by_cases hd0 : d = 0
  · obtain ⟨L, v, c2, v1, v2, v3, e2⟩ := r_great (k + 2) ds c1
    obtain ⟨c3, e3⟩ := r_large k ds c2 L v v1 v2 v3
    simp [hd0, call_u_law_large, ks_large, call_u_law_great, ks_great, e2, e3]
    exact Rt.ok ⟨rfl, rfl⟩
  · obtain ⟨n, L, c2, hL, e2⟩ := r_small (k + 1) ds c1
    have hmain : ∃ least : Nat, Least L least ∧ least ≤ L.length := by
      obtain ⟨cc, g1, g2, _⟩ := r_llc k n L (by omega)
      exact ⟨cc, g1, g2⟩
    obtain ⟨least, l1, l2⟩ := hmain
    obtain ⟨cc, g1, _, g3⟩ := r_llc (k + 3) n L (by omega)
    have := g1.uniq l1
    subst this
    have sn := same_nat (k + 3) cc (by omega)
    obtain ⟨w, w1, w2, w3, f1⟩ := r_first (k + 2) n L cc hL (by omega) l1.1
    obtain ⟨w', w1', w2', w3', f1'⟩ := r_first (k + 2) n L (cc + 1) hL (by omega) (can_mono (Nat.le_succ _) l1.1)
    have a1 := r_lc (F := callF T (k + 4)) n L cc (by omega) (by omega)
    have a2 := r_lc (F := callF T (k + 4)) n L (cc + 1) (by omega) (by omega)
    rw [w3] at a1
    rw [w3'] at a2
    have hpos : w ≠ [] → 0 < cc := fun hne => by
      cases w with
      | nil => exact absurd rfl hne
      | cons x _ => have := w1.1 x (by simp); omega
    obtain ⟨c3, j1⟩ := r_judged (k + 1) ds c2 n L (w.map fun (i : Nat) => (i : Int)) cc (by omega) (by simp; omega) (fun h => hpos (fun e => h (by rw [e]; rfl))) (by omega)
    obtain ⟨c4, j2⟩ := r_judged (k + 1) ds c3 n L (w'.map fun (i : Nat) => (i : Int)) (cc + 1) (by omega) (by simp; omega) (fun _ => by omega) (by omega)
    rw [← rowD_ints] at j1 j2
    have s1 := same_row (k + 2) w (by omega) (fun x hx => by have := w1.1 x hx; omega)
    have s2 := same_row (k + 2) w' (by omega) (fun x hx => by have := w1'.1 x hx; omega)
    have ec : ((cc : Int) + 1) = ((cc + 1 : Nat) : Int) := by omega
    have hnil : PyData.eqv (.tuple (L.map laneD)) (.tuple []) = L.isEmpty := by cases L <;> simp [PyData.eqv, PyData.eqvAll]
    have sh1 : SeqAt.shaped (.tuple (L.map laneD)) = true := shaped_of (n := 2) (shp_tuple fun x hx => by
      obtain ⟨l, _, rfl⟩ := List.mem_map.mp hx
      exact shp_tuple fun y hy => by
        simp at hy
        rcases hy with rfl | rfl <;> exact shp_int _) (by omega)
    have sh2 : SeqAt.shaped (.tuple []) = true := shaped_natsT []
    simp [hd0, call_u_law_small, ks_small, e2, enc_1, dCmp_ne, sh1, sh2, hnil]
    have e0' : (((cc : Nat) : Int) = 0) ↔ cc = 0 := by omega
    rcases L with _ | ⟨l0, L'⟩
    · have c0 : cc = 0 := by simpa using l2
      subst c0
      simp only [Int.natCast_zero] at g3 sn a1 j1 f1
      simp only [Int.natCast_add, Int.natCast_zero, Int.natCast_one, Int.zero_add] at a2 j2 f1'
      simp [call_least_lane_colours, ks_llc, g3, call_u_law_same, ks_same, sn, call_u_law_first, ks_first, f1, call_u_law_judged, ks_judged, j1, call_lane_colouring, ks_lc, a1, resD, s1]
      simp [call_u_law_same, ks_same, call_u_law_first, ks_first, call_u_law_judged, ks_judged, call_lane_colouring, ks_lc, f1', a2, j2, s2, resD]
      exact Rt.ok ⟨rfl, rfl⟩
    · obtain ⟨cm, q1, _, q3⟩ := r_least (k + 3) n (l0 :: L') hL (by simp)
      have := q1.uniq l1
      subst this
      have hc0 : 0 < cm := by
        rcases Nat.eq_zero_or_pos cm with z | z
        · exfalso
          subst z
          obtain ⟨w, ⟨h1, _⟩, h3⟩ := l1.1
          cases w with
          | nil => simp at h3
          | cons x _ => have := h1 x (by simp); omega
        · exact z
      have hci : (0 : Int) < cm := by omega
      have a3 := r_lc (F := callF T (k + 4)) n (l0 :: L') (cm - 1) (by omega) (by omega)
      have hno : dfs (l0 :: L') (cm - 1) (l0 :: L').length [] = none := by
        cases h : dfs (l0 :: L') (cm - 1) (l0 :: L').length [] with
        | none => rfl
        | some _ => exact absurd (can_iff.mpr (by rw [h]; simp)) (l1.2 (cm - 1) (by omega))
      rw [hno, show ((cm - 1 : Nat) : Int) = (cm : Int) - 1 by omega] at a3
      rw [← ec] at f1' a2 j2
      have sn0 := same_none (k + 3)
      simp [call_u_law_least, ks_least, q3, call_least_lane_colours, ks_llc, g3, call_u_law_same, ks_same, sn, call_u_law_first, ks_first, f1, call_u_law_judged, ks_judged, j1, call_lane_colouring, ks_lc, a1, resD, s1, hci, a3, sn0, f1', a2, j2, s2]
      exact Rt.ok ⟨rfl, rfl⟩
end K89

set_option maxRecDepth 100000
set_option maxHeartbeats 0
/-! the head of lendland_k89_whole_colours_of_lanes, printed by pyir.py -/
namespace K89
open PySem PySem.Spec PyProof.Rows L2 Ev
def top (i : Nat) : Stmt := PySem.Challenge.pw_lendland_k89_whole_colours_of_lanes.main.body.getD i (.Pass ⟨0, 0, 0, 0⟩)
theorem chk_is_lane_colouring [TheK] : chkSs (namesOf d_is_lane_colouring.N) ⟨defScope (top 1), fun _ => true, false⟩ d_is_lane_colouring.body (defBody (top 1)) = true := by decide +kernel
theorem sc_is_lane_colouring : FnScope (namesOf d_is_lane_colouring.N) (namesOf ["town", "row", "colours"]) (defScope (top 1)) := ⟨rfl, rfl, rfl, by decide +kernel, rfl, by decide +kernel, by decide +kernel⟩
theorem chk_lane_colouring [TheK] : chkSs (namesOf d_lane_colouring.N) ⟨defScope (top 2), fun _ => true, false⟩ d_lane_colouring.body (defBody (top 2)) = true := by decide +kernel
theorem sc_lane_colouring : FnScope (namesOf d_lane_colouring.N) (namesOf ["town", "colours"]) (defScope (top 2)) := ⟨rfl, rfl, rfl, by decide +kernel, rfl, by decide +kernel, by decide +kernel⟩
theorem chk_least_lane_colours [TheK] : chkSs (namesOf d_least_lane_colours.N) ⟨defScope (top 3), fun _ => true, false⟩ d_least_lane_colours.body (defBody (top 3)) = true := by decide +kernel
theorem sc_least_lane_colours : FnScope (namesOf d_least_lane_colours.N) (namesOf ["town"]) (defScope (top 3)) := ⟨rfl, rfl, rfl, by decide +kernel, rfl, by decide +kernel, by decide +kernel⟩
theorem chk_u_law_cell [TheK] : chkSs (namesOf d_u_law_cell.N) ⟨defScope (top 5), fun _ => true, false⟩ d_u_law_cell.body (defBody (top 5)) = true := by decide +kernel
theorem sc_u_law_cell : FnScope (namesOf d_u_law_cell.N) (namesOf ["script", "k"]) (defScope (top 5)) := ⟨rfl, rfl, rfl, by decide +kernel, rfl, by decide +kernel, by decide +kernel⟩
theorem chk_u_law_digits [TheK] : chkSs (namesOf d_u_law_digits.N) ⟨defScope (top 6), fun _ => true, false⟩ d_u_law_digits.body (defBody (top 6)) = true := by decide +kernel
theorem sc_u_law_digits : FnScope (namesOf d_u_law_digits.N) (namesOf ["script", "first", "last"]) (defScope (top 6)) := ⟨rfl, rfl, rfl, by decide +kernel, rfl, by decide +kernel, by decide +kernel⟩
theorem chk_u_law_draw [TheK] : chkSs (namesOf d_u_law_draw.N) ⟨defScope (top 7), fun _ => true, false⟩ d_u_law_draw.body (defBody (top 7)) = true := by decide +kernel
theorem sc_u_law_draw : FnScope (namesOf d_u_law_draw.N) (namesOf ["box", "many"]) (defScope (top 7)) := ⟨rfl, rfl, rfl, by decide +kernel, rfl, by decide +kernel, by decide +kernel⟩
theorem chk_u_law_pick [TheK] : chkSs (namesOf d_u_law_pick.N) ⟨defScope (top 8), fun _ => true, false⟩ d_u_law_pick.body (defBody (top 8)) = true := by decide +kernel
theorem sc_u_law_pick : FnScope (namesOf d_u_law_pick.N) (namesOf ["box", "row"]) (defScope (top 8)) := ⟨rfl, rfl, rfl, by decide +kernel, rfl, by decide +kernel, by decide +kernel⟩
theorem chk_u_law_mixed [TheK] : chkSs (namesOf d_u_law_mixed.N) ⟨defScope (top 9), fun _ => true, false⟩ d_u_law_mixed.body (defBody (top 9)) = true := by decide +kernel
theorem sc_u_law_mixed : FnScope (namesOf d_u_law_mixed.N) (namesOf ["box", "row"]) (defScope (top 9)) := ⟨rfl, rfl, rfl, by decide +kernel, rfl, by decide +kernel, by decide +kernel⟩
theorem chk_u_law_town [TheK] : chkSs (namesOf d_u_law_town.N) ⟨defScope (top 10), fun _ => true, false⟩ d_u_law_town.body (defBody (top 10)) = true := by decide +kernel
theorem sc_u_law_town : FnScope (namesOf d_u_law_town.N) (namesOf ["box", "many", "extra"]) (defScope (top 10)) := ⟨rfl, rfl, rfl, by decide +kernel, rfl, by decide +kernel, by decide +kernel⟩
theorem chk_u_law_same [TheK] : chkSs (namesOf d_u_law_same.N) ⟨defScope (top 11), fun _ => true, false⟩ d_u_law_same.body (defBody (top 11)) = true := by decide +kernel
theorem sc_u_law_same : FnScope (namesOf d_u_law_same.N) (namesOf ["told", "due"]) (defScope (top 11)) := ⟨rfl, rfl, rfl, by decide +kernel, rfl, by decide +kernel, by decide +kernel⟩
theorem chk_u_law_lanes [TheK] : chkSs (namesOf d_u_law_lanes.N) ⟨defScope (top 12), fun _ => true, false⟩ d_u_law_lanes.body (defBody (top 12)) = true := by decide +kernel
theorem sc_u_law_lanes : FnScope (namesOf d_u_law_lanes.N) (namesOf ["town", "house"]) (defScope (top 12)) := ⟨rfl, rfl, rfl, by decide +kernel, rfl, by decide +kernel, by decide +kernel⟩
theorem chk_u_law_twos [TheK] : chkSs (namesOf d_u_law_twos.N) ⟨defScope (top 13), fun _ => true, false⟩ d_u_law_twos.body (defBody (top 13)) = true := by decide +kernel
theorem sc_u_law_twos : FnScope (namesOf d_u_law_twos.N) (namesOf ["many"]) (defScope (top 13)) := ⟨rfl, rfl, rfl, by decide +kernel, rfl, by decide +kernel, by decide +kernel⟩
theorem chk_u_law_matches [TheK] : chkSs (namesOf d_u_law_matches.N) ⟨defScope (top 14), fun _ => true, false⟩ d_u_law_matches.body (defBody (top 14)) = true := by decide +kernel
theorem sc_u_law_matches : FnScope (namesOf d_u_law_matches.N) (namesOf ["town"]) (defScope (top 14)) := ⟨rfl, rfl, rfl, by decide +kernel, rfl, by decide +kernel, by decide +kernel⟩
theorem chk_u_law_small [TheK] : chkSs (namesOf d_u_law_small.N) ⟨defScope (top 15), fun _ => true, false⟩ d_u_law_small.body (defBody (top 15)) = true := by decide +kernel
theorem sc_u_law_small : FnScope (namesOf d_u_law_small.N) (namesOf ["box"]) (defScope (top 15)) := ⟨rfl, rfl, rfl, by decide +kernel, rfl, by decide +kernel, by decide +kernel⟩
theorem chk_u_law_great [TheK] : chkSs (namesOf d_u_law_great.N) ⟨defScope (top 16), fun _ => true, false⟩ d_u_law_great.body (defBody (top 16)) = true := by decide +kernel
theorem sc_u_law_great : FnScope (namesOf d_u_law_great.N) (namesOf ["box"]) (defScope (top 16)) := ⟨rfl, rfl, rfl, by decide +kernel, rfl, by decide +kernel, by decide +kernel⟩
theorem chk_u_law_meet [TheK] : chkSs (namesOf d_u_law_meet.N) ⟨defScope (top 17), fun _ => true, false⟩ d_u_law_meet.body (defBody (top 17)) = true := by decide +kernel
theorem sc_u_law_meet : FnScope (namesOf d_u_law_meet.N) (namesOf ["town", "one", "other"]) (defScope (top 17)) := ⟨rfl, rfl, rfl, by decide +kernel, rfl, by decide +kernel, by decide +kernel⟩
theorem chk_u_law_proper [TheK] : chkSs (namesOf d_u_law_proper.N) ⟨defScope (top 18), fun _ => true, false⟩ d_u_law_proper.body (defBody (top 18)) = true := by decide +kernel
theorem sc_u_law_proper : FnScope (namesOf d_u_law_proper.N) (namesOf ["town", "row", "colours"]) (defScope (top 18)) := ⟨rfl, rfl, rfl, by decide +kernel, rfl, by decide +kernel, by decide +kernel⟩
theorem chk_u_law_least [TheK] : chkSs (namesOf d_u_law_least.N) ⟨defScope (top 19), fun _ => true, false⟩ d_u_law_least.body (defBody (top 19)) = true := by decide +kernel
theorem sc_u_law_least : FnScope (namesOf d_u_law_least.N) (namesOf ["town"]) (defScope (top 19)) := ⟨rfl, rfl, rfl, by decide +kernel, rfl, by decide +kernel, by decide +kernel⟩
theorem chk_u_law_within [TheK] : chkSs (namesOf d_u_law_within.N) ⟨defScope (top 20), fun _ => true, false⟩ d_u_law_within.body (defBody (top 20)) = true := by decide +kernel
theorem sc_u_law_within : FnScope (namesOf d_u_law_within.N) (namesOf ["part", "code", "twos"]) (defScope (top 20)) := ⟨rfl, rfl, rfl, by decide +kernel, rfl, by decide +kernel, by decide +kernel⟩
theorem chk_u_law_first [TheK] : chkSs (namesOf d_u_law_first.N) ⟨defScope (top 21), fun _ => true, false⟩ d_u_law_first.body (defBody (top 21)) = true := by decide +kernel
theorem sc_u_law_first : FnScope (namesOf d_u_law_first.N) (namesOf ["town", "colours"]) (defScope (top 21)) := ⟨rfl, rfl, rfl, by decide +kernel, rfl, by decide +kernel, by decide +kernel⟩
theorem chk_u_law_free [TheK] : chkSs (namesOf d_u_law_free.N) ⟨defScope (top 22), fun _ => true, false⟩ d_u_law_free.body (defBody (top 22)) = true := by decide +kernel
theorem sc_u_law_free : FnScope (namesOf d_u_law_free.N) (namesOf ["town", "row", "colour"]) (defScope (top 22)) := ⟨rfl, rfl, rfl, by decide +kernel, rfl, by decide +kernel, by decide +kernel⟩
theorem chk_u_law_bent [TheK] : chkSs (namesOf d_u_law_bent.N) ⟨defScope (top 23), fun _ => true, false⟩ d_u_law_bent.body (defBody (top 23)) = true := by decide +kernel
theorem sc_u_law_bent : FnScope (namesOf d_u_law_bent.N) (namesOf ["box", "row", "colours", "which"]) (defScope (top 23)) := ⟨rfl, rfl, rfl, by decide +kernel, rfl, by decide +kernel, by decide +kernel⟩
theorem chk_u_law_judged [TheK] : chkSs (namesOf d_u_law_judged.N) ⟨defScope (top 24), fun _ => true, false⟩ d_u_law_judged.body (defBody (top 24)) = true := by decide +kernel
theorem sc_u_law_judged : FnScope (namesOf d_u_law_judged.N) (namesOf ["box", "town", "row", "colours"]) (defScope (top 24)) := ⟨rfl, rfl, rfl, by decide +kernel, rfl, by decide +kernel, by decide +kernel⟩
theorem chk_u_law_large [TheK] : chkSs (namesOf d_u_law_large.N) ⟨defScope (top 25), fun _ => true, false⟩ d_u_law_large.body (defBody (top 25)) = true := by decide +kernel
theorem sc_u_law_large : FnScope (namesOf d_u_law_large.N) (namesOf ["box", "town"]) (defScope (top 25)) := ⟨rfl, rfl, rfl, by decide +kernel, rfl, by decide +kernel, by decide +kernel⟩
theorem chk_law [TheK] : chkSs (namesOf d_law.N) ⟨defScope (top 26), fun _ => true, false⟩ d_law.body (defBody (top 26)) = true := by decide +kernel
theorem sc_law : FnScope (namesOf d_law.N) (namesOf ["script"]) (defScope (top 26)) := ⟨rfl, rfl, rfl, by decide +kernel, rfl, by decide +kernel, by decide +kernel⟩
def x_is_lane_colouring : He.DefD := ⟨(Str.ofString "is_lane_colouring", none), Str.ofString "is_lane_colouring", Str.ofString "is_lane_colouring", defArgs (top 1), defBody (top 1), defScope (top 1), [], []⟩
def x_lane_colouring : He.DefD := ⟨(Str.ofString "lane_colouring", none), Str.ofString "lane_colouring", Str.ofString "lane_colouring", defArgs (top 2), defBody (top 2), defScope (top 2), [], []⟩
def x_least_lane_colours : He.DefD := ⟨(Str.ofString "least_lane_colours", none), Str.ofString "least_lane_colours", Str.ofString "least_lane_colours", defArgs (top 3), defBody (top 3), defScope (top 3), [], []⟩
def x_u_law_cell : He.DefD := ⟨(Str.ofString "_law_cell", none), Str.ofString "_law_cell", Str.ofString "_law_cell", defArgs (top 5), defBody (top 5), defScope (top 5), [], []⟩
def x_u_law_digits : He.DefD := ⟨(Str.ofString "_law_digits", none), Str.ofString "_law_digits", Str.ofString "_law_digits", defArgs (top 6), defBody (top 6), defScope (top 6), [], []⟩
def x_u_law_draw : He.DefD := ⟨(Str.ofString "_law_draw", none), Str.ofString "_law_draw", Str.ofString "_law_draw", defArgs (top 7), defBody (top 7), defScope (top 7), [], []⟩
def x_u_law_pick : He.DefD := ⟨(Str.ofString "_law_pick", none), Str.ofString "_law_pick", Str.ofString "_law_pick", defArgs (top 8), defBody (top 8), defScope (top 8), [], []⟩
def x_u_law_mixed : He.DefD := ⟨(Str.ofString "_law_mixed", none), Str.ofString "_law_mixed", Str.ofString "_law_mixed", defArgs (top 9), defBody (top 9), defScope (top 9), [], []⟩
def x_u_law_town : He.DefD := ⟨(Str.ofString "_law_town", none), Str.ofString "_law_town", Str.ofString "_law_town", defArgs (top 10), defBody (top 10), defScope (top 10), [], []⟩
def x_u_law_same : He.DefD := ⟨(Str.ofString "_law_same", none), Str.ofString "_law_same", Str.ofString "_law_same", defArgs (top 11), defBody (top 11), defScope (top 11), [], []⟩
def x_u_law_lanes : He.DefD := ⟨(Str.ofString "_law_lanes", none), Str.ofString "_law_lanes", Str.ofString "_law_lanes", defArgs (top 12), defBody (top 12), defScope (top 12), [], []⟩
def x_u_law_twos : He.DefD := ⟨(Str.ofString "_law_twos", none), Str.ofString "_law_twos", Str.ofString "_law_twos", defArgs (top 13), defBody (top 13), defScope (top 13), [], []⟩
def x_u_law_matches : He.DefD := ⟨(Str.ofString "_law_matches", none), Str.ofString "_law_matches", Str.ofString "_law_matches", defArgs (top 14), defBody (top 14), defScope (top 14), [], []⟩
def x_u_law_small : He.DefD := ⟨(Str.ofString "_law_small", none), Str.ofString "_law_small", Str.ofString "_law_small", defArgs (top 15), defBody (top 15), defScope (top 15), [], []⟩
def x_u_law_great : He.DefD := ⟨(Str.ofString "_law_great", none), Str.ofString "_law_great", Str.ofString "_law_great", defArgs (top 16), defBody (top 16), defScope (top 16), [], []⟩
def x_u_law_meet : He.DefD := ⟨(Str.ofString "_law_meet", none), Str.ofString "_law_meet", Str.ofString "_law_meet", defArgs (top 17), defBody (top 17), defScope (top 17), [], []⟩
def x_u_law_proper : He.DefD := ⟨(Str.ofString "_law_proper", none), Str.ofString "_law_proper", Str.ofString "_law_proper", defArgs (top 18), defBody (top 18), defScope (top 18), [], []⟩
def x_u_law_least : He.DefD := ⟨(Str.ofString "_law_least", none), Str.ofString "_law_least", Str.ofString "_law_least", defArgs (top 19), defBody (top 19), defScope (top 19), [], []⟩
def x_u_law_within : He.DefD := ⟨(Str.ofString "_law_within", none), Str.ofString "_law_within", Str.ofString "_law_within", defArgs (top 20), defBody (top 20), defScope (top 20), [], []⟩
def x_u_law_first : He.DefD := ⟨(Str.ofString "_law_first", none), Str.ofString "_law_first", Str.ofString "_law_first", defArgs (top 21), defBody (top 21), defScope (top 21), [], []⟩
def x_u_law_free : He.DefD := ⟨(Str.ofString "_law_free", none), Str.ofString "_law_free", Str.ofString "_law_free", defArgs (top 22), defBody (top 22), defScope (top 22), [], []⟩
def x_u_law_bent : He.DefD := ⟨(Str.ofString "_law_bent", none), Str.ofString "_law_bent", Str.ofString "_law_bent", defArgs (top 23), defBody (top 23), defScope (top 23), [], []⟩
def x_u_law_judged : He.DefD := ⟨(Str.ofString "_law_judged", none), Str.ofString "_law_judged", Str.ofString "_law_judged", defArgs (top 24), defBody (top 24), defScope (top 24), [], []⟩
def x_u_law_large : He.DefD := ⟨(Str.ofString "_law_large", none), Str.ofString "_law_large", Str.ofString "_law_large", defArgs (top 25), defBody (top 25), defScope (top 25), [], []⟩
def x_law : He.DefD := ⟨(Str.ofString "law", none), Str.ofString "law", Str.ofString "law", defArgs (top 26), defBody (top 26), defScope (top 26), [], []⟩
def fn : List He.DefD := [x_is_lane_colouring, x_lane_colouring, x_least_lane_colours, x_u_law_cell, x_u_law_digits, x_u_law_draw, x_u_law_pick, x_u_law_mixed, x_u_law_town, x_u_law_same, x_u_law_lanes, x_u_law_twos, x_u_law_matches, x_u_law_small, x_u_law_great, x_u_law_meet, x_u_law_proper, x_u_law_least, x_u_law_within, x_u_law_first, x_u_law_free, x_u_law_bent, x_u_law_judged, x_u_law_large, x_law]
def fa : List He.Fa := (T.map fun d => He.Fa.glo (Str.ofString d.name)) ++ bltNames.map fun x => He.Fa.free (Str.ofString x)
abbrev R : PySem.W.OpenRow := PySem.W.OpenLaw.row PySem.Challenge.rw_lendland_k89_whole_colours_of_lanes
abbrev V0 : Program := PySem.W.view R.prog [26]
def loose : List Str := [Str.ofString "__name__", Str.ofString "is_lane_colouring", Str.ofString "lane_colouring", Str.ofString "least_lane_colours", Str.ofString "_law_cell", Str.ofString "_law_digits", Str.ofString "_law_draw", Str.ofString "_law_pick", Str.ofString "_law_mixed", Str.ofString "_law_town", Str.ofString "_law_same", Str.ofString "_law_lanes", Str.ofString "_law_twos", Str.ofString "_law_matches", Str.ofString "_law_small", Str.ofString "_law_great", Str.ofString "_law_meet", Str.ofString "_law_proper", Str.ofString "_law_least", Str.ofString "_law_within", Str.ofString "_law_first", Str.ofString "_law_free", Str.ofString "_law_bent", Str.ofString "_law_judged", Str.ofString "_law_large"]
abbrev hk : PySem.W.Hook := Ev.hookG 4 fa fn false
def ob (s : PySem.W.SharedT) : hk.α := Ev.obsGG 4 fa fn false (HandSHeadRun.getT s)
theorem ob_eq (s : PySem.W.SharedT) : ob s = hk.obs s.abs := Ev.obsGG_eq (HandSHeadRun.getT_eq s)
theorem run (w : World) : HandSHeadRun.RunEq R V0 hk ob 2000 loose w := by
  intro os
  kernel_rfl
section
variable {K : PySem.W.Frag} {h : Heap} {mg : Str → Option Value} [TheK]
theorem gl (X : K.In h) (G : h.Ns mainGlobals mg) (c : Ev.SaysG fa fn false K) (i : Nat) (d : Def) (e : T[i]? = some d) : mg (Str.ofString d.name) = some (.ref (He.ga K (Str.ofString d.name))) :=
  He.glo_ok X G (c.1.fact i (f := .glo (Str.ofString d.name)) (by unfold fa; rw [List.getElem?_append_left (by rw [List.length_map]; exact (List.getElem?_eq_some_iff.mp e).1), List.getElem?_map, e]; rfl))
theorem ok_is_lane_colouring (X : K.In h) (G : h.Ns mainGlobals mg) (c : Ev.SaysG fa fn false K) : ∃ fd, (∀ (s : Shared) (us : List Value), us.length = 3 → BindsTo s fd ⟨us, []⟩ ((namesOf ["town", "row", "colours"]).zip us)) ∧ DefOk K mg false d_is_lane_colouring (top 1) (namesOf ["town", "row", "colours"]) (He.ga K (Str.ofString "is_lane_colouring")) fd := by
  obtain ⟨fd, F⟩ := c.1.def_ 0 (d := x_is_lane_colouring) rfl
  have b := F.bindsN (ps := namesOf ["town", "row", "colours"]) fun _ _ _ _ _ _ us hl => match us, hl with | [_, _, _], _ => rfl
  have b2 := F.bindsA (ps := namesOf ["town", "row", "colours"]) fun _ _ _ _ _ _ us hl => match us, hl with | [_, _, _], _ => rfl
  exact ⟨fd, fun s us hl => b2 s us hl, gl X G c 0 _ rfl, F, b, sc_is_lane_colouring, rfl, by decide, chk_is_lane_colouring⟩
theorem ok_lane_colouring (X : K.In h) (G : h.Ns mainGlobals mg) (c : Ev.SaysG fa fn false K) : ∃ fd, (∀ (s : Shared) (us : List Value), us.length = 2 → BindsTo s fd ⟨us, []⟩ ((namesOf ["town", "colours"]).zip us)) ∧ DefOk K mg false d_lane_colouring (top 2) (namesOf ["town", "colours"]) (He.ga K (Str.ofString "lane_colouring")) fd := by
  obtain ⟨fd, F⟩ := c.1.def_ 1 (d := x_lane_colouring) rfl
  have b := F.bindsN (ps := namesOf ["town", "colours"]) fun _ _ _ _ _ _ us hl => match us, hl with | [_, _], _ => rfl
  have b2 := F.bindsA (ps := namesOf ["town", "colours"]) fun _ _ _ _ _ _ us hl => match us, hl with | [_, _], _ => rfl
  exact ⟨fd, fun s us hl => b2 s us hl, gl X G c 1 _ rfl, F, b, sc_lane_colouring, rfl, by decide, chk_lane_colouring⟩
theorem ok_least_lane_colours (X : K.In h) (G : h.Ns mainGlobals mg) (c : Ev.SaysG fa fn false K) : ∃ fd, (∀ (s : Shared) (us : List Value), us.length = 1 → BindsTo s fd ⟨us, []⟩ ((namesOf ["town"]).zip us)) ∧ DefOk K mg false d_least_lane_colours (top 3) (namesOf ["town"]) (He.ga K (Str.ofString "least_lane_colours")) fd := by
  obtain ⟨fd, F⟩ := c.1.def_ 2 (d := x_least_lane_colours) rfl
  have b := F.bindsN (ps := namesOf ["town"]) fun _ _ _ _ _ _ us hl => match us, hl with | [_], _ => rfl
  have b2 := F.bindsA (ps := namesOf ["town"]) fun _ _ _ _ _ _ us hl => match us, hl with | [_], _ => rfl
  exact ⟨fd, fun s us hl => b2 s us hl, gl X G c 2 _ rfl, F, b, sc_least_lane_colours, rfl, by decide, chk_least_lane_colours⟩
theorem ok_u_law_cell (X : K.In h) (G : h.Ns mainGlobals mg) (c : Ev.SaysG fa fn false K) : ∃ fd, (∀ (s : Shared) (us : List Value), us.length = 2 → BindsTo s fd ⟨us, []⟩ ((namesOf ["script", "k"]).zip us)) ∧ DefOk K mg false d_u_law_cell (top 5) (namesOf ["script", "k"]) (He.ga K (Str.ofString "_law_cell")) fd := by
  obtain ⟨fd, F⟩ := c.1.def_ 3 (d := x_u_law_cell) rfl
  have b := F.bindsN (ps := namesOf ["script", "k"]) fun _ _ _ _ _ _ us hl => match us, hl with | [_, _], _ => rfl
  have b2 := F.bindsA (ps := namesOf ["script", "k"]) fun _ _ _ _ _ _ us hl => match us, hl with | [_, _], _ => rfl
  exact ⟨fd, fun s us hl => b2 s us hl, gl X G c 3 _ rfl, F, b, sc_u_law_cell, rfl, by decide, chk_u_law_cell⟩
theorem ok_u_law_digits (X : K.In h) (G : h.Ns mainGlobals mg) (c : Ev.SaysG fa fn false K) : ∃ fd, (∀ (s : Shared) (us : List Value), us.length = 3 → BindsTo s fd ⟨us, []⟩ ((namesOf ["script", "first", "last"]).zip us)) ∧ DefOk K mg false d_u_law_digits (top 6) (namesOf ["script", "first", "last"]) (He.ga K (Str.ofString "_law_digits")) fd := by
  obtain ⟨fd, F⟩ := c.1.def_ 4 (d := x_u_law_digits) rfl
  have b := F.bindsN (ps := namesOf ["script", "first", "last"]) fun _ _ _ _ _ _ us hl => match us, hl with | [_, _, _], _ => rfl
  have b2 := F.bindsA (ps := namesOf ["script", "first", "last"]) fun _ _ _ _ _ _ us hl => match us, hl with | [_, _, _], _ => rfl
  exact ⟨fd, fun s us hl => b2 s us hl, gl X G c 4 _ rfl, F, b, sc_u_law_digits, rfl, by decide, chk_u_law_digits⟩
theorem ok_u_law_draw (X : K.In h) (G : h.Ns mainGlobals mg) (c : Ev.SaysG fa fn false K) : ∃ fd, (∀ (s : Shared) (us : List Value), us.length = 2 → BindsTo s fd ⟨us, []⟩ ((namesOf ["box", "many"]).zip us)) ∧ DefOk K mg false d_u_law_draw (top 7) (namesOf ["box", "many"]) (He.ga K (Str.ofString "_law_draw")) fd := by
  obtain ⟨fd, F⟩ := c.1.def_ 5 (d := x_u_law_draw) rfl
  have b := F.bindsN (ps := namesOf ["box", "many"]) fun _ _ _ _ _ _ us hl => match us, hl with | [_, _], _ => rfl
  have b2 := F.bindsA (ps := namesOf ["box", "many"]) fun _ _ _ _ _ _ us hl => match us, hl with | [_, _], _ => rfl
  exact ⟨fd, fun s us hl => b2 s us hl, gl X G c 5 _ rfl, F, b, sc_u_law_draw, rfl, by decide, chk_u_law_draw⟩
theorem ok_u_law_pick (X : K.In h) (G : h.Ns mainGlobals mg) (c : Ev.SaysG fa fn false K) : ∃ fd, (∀ (s : Shared) (us : List Value), us.length = 2 → BindsTo s fd ⟨us, []⟩ ((namesOf ["box", "row"]).zip us)) ∧ DefOk K mg false d_u_law_pick (top 8) (namesOf ["box", "row"]) (He.ga K (Str.ofString "_law_pick")) fd := by
  obtain ⟨fd, F⟩ := c.1.def_ 6 (d := x_u_law_pick) rfl
  have b := F.bindsN (ps := namesOf ["box", "row"]) fun _ _ _ _ _ _ us hl => match us, hl with | [_, _], _ => rfl
  have b2 := F.bindsA (ps := namesOf ["box", "row"]) fun _ _ _ _ _ _ us hl => match us, hl with | [_, _], _ => rfl
  exact ⟨fd, fun s us hl => b2 s us hl, gl X G c 6 _ rfl, F, b, sc_u_law_pick, rfl, by decide, chk_u_law_pick⟩
theorem ok_u_law_mixed (X : K.In h) (G : h.Ns mainGlobals mg) (c : Ev.SaysG fa fn false K) : ∃ fd, (∀ (s : Shared) (us : List Value), us.length = 2 → BindsTo s fd ⟨us, []⟩ ((namesOf ["box", "row"]).zip us)) ∧ DefOk K mg false d_u_law_mixed (top 9) (namesOf ["box", "row"]) (He.ga K (Str.ofString "_law_mixed")) fd := by
  obtain ⟨fd, F⟩ := c.1.def_ 7 (d := x_u_law_mixed) rfl
  have b := F.bindsN (ps := namesOf ["box", "row"]) fun _ _ _ _ _ _ us hl => match us, hl with | [_, _], _ => rfl
  have b2 := F.bindsA (ps := namesOf ["box", "row"]) fun _ _ _ _ _ _ us hl => match us, hl with | [_, _], _ => rfl
  exact ⟨fd, fun s us hl => b2 s us hl, gl X G c 7 _ rfl, F, b, sc_u_law_mixed, rfl, by decide, chk_u_law_mixed⟩
theorem ok_u_law_town (X : K.In h) (G : h.Ns mainGlobals mg) (c : Ev.SaysG fa fn false K) : ∃ fd, (∀ (s : Shared) (us : List Value), us.length = 3 → BindsTo s fd ⟨us, []⟩ ((namesOf ["box", "many", "extra"]).zip us)) ∧ DefOk K mg false d_u_law_town (top 10) (namesOf ["box", "many", "extra"]) (He.ga K (Str.ofString "_law_town")) fd := by
  obtain ⟨fd, F⟩ := c.1.def_ 8 (d := x_u_law_town) rfl
  have b := F.bindsN (ps := namesOf ["box", "many", "extra"]) fun _ _ _ _ _ _ us hl => match us, hl with | [_, _, _], _ => rfl
  have b2 := F.bindsA (ps := namesOf ["box", "many", "extra"]) fun _ _ _ _ _ _ us hl => match us, hl with | [_, _, _], _ => rfl
  exact ⟨fd, fun s us hl => b2 s us hl, gl X G c 8 _ rfl, F, b, sc_u_law_town, rfl, by decide, chk_u_law_town⟩
theorem ok_u_law_same (X : K.In h) (G : h.Ns mainGlobals mg) (c : Ev.SaysG fa fn false K) : ∃ fd, (∀ (s : Shared) (us : List Value), us.length = 2 → BindsTo s fd ⟨us, []⟩ ((namesOf ["told", "due"]).zip us)) ∧ DefOk K mg false d_u_law_same (top 11) (namesOf ["told", "due"]) (He.ga K (Str.ofString "_law_same")) fd := by
  obtain ⟨fd, F⟩ := c.1.def_ 9 (d := x_u_law_same) rfl
  have b := F.bindsN (ps := namesOf ["told", "due"]) fun _ _ _ _ _ _ us hl => match us, hl with | [_, _], _ => rfl
  have b2 := F.bindsA (ps := namesOf ["told", "due"]) fun _ _ _ _ _ _ us hl => match us, hl with | [_, _], _ => rfl
  exact ⟨fd, fun s us hl => b2 s us hl, gl X G c 9 _ rfl, F, b, sc_u_law_same, rfl, by decide, chk_u_law_same⟩
theorem ok_u_law_lanes (X : K.In h) (G : h.Ns mainGlobals mg) (c : Ev.SaysG fa fn false K) : ∃ fd, (∀ (s : Shared) (us : List Value), us.length = 2 → BindsTo s fd ⟨us, []⟩ ((namesOf ["town", "house"]).zip us)) ∧ DefOk K mg false d_u_law_lanes (top 12) (namesOf ["town", "house"]) (He.ga K (Str.ofString "_law_lanes")) fd := by
  obtain ⟨fd, F⟩ := c.1.def_ 10 (d := x_u_law_lanes) rfl
  have b := F.bindsN (ps := namesOf ["town", "house"]) fun _ _ _ _ _ _ us hl => match us, hl with | [_, _], _ => rfl
  have b2 := F.bindsA (ps := namesOf ["town", "house"]) fun _ _ _ _ _ _ us hl => match us, hl with | [_, _], _ => rfl
  exact ⟨fd, fun s us hl => b2 s us hl, gl X G c 10 _ rfl, F, b, sc_u_law_lanes, rfl, by decide, chk_u_law_lanes⟩
theorem ok_u_law_twos (X : K.In h) (G : h.Ns mainGlobals mg) (c : Ev.SaysG fa fn false K) : ∃ fd, (∀ (s : Shared) (us : List Value), us.length = 1 → BindsTo s fd ⟨us, []⟩ ((namesOf ["many"]).zip us)) ∧ DefOk K mg false d_u_law_twos (top 13) (namesOf ["many"]) (He.ga K (Str.ofString "_law_twos")) fd := by
  obtain ⟨fd, F⟩ := c.1.def_ 11 (d := x_u_law_twos) rfl
  have b := F.bindsN (ps := namesOf ["many"]) fun _ _ _ _ _ _ us hl => match us, hl with | [_], _ => rfl
  have b2 := F.bindsA (ps := namesOf ["many"]) fun _ _ _ _ _ _ us hl => match us, hl with | [_], _ => rfl
  exact ⟨fd, fun s us hl => b2 s us hl, gl X G c 11 _ rfl, F, b, sc_u_law_twos, rfl, by decide, chk_u_law_twos⟩
theorem ok_u_law_matches (X : K.In h) (G : h.Ns mainGlobals mg) (c : Ev.SaysG fa fn false K) : ∃ fd, (∀ (s : Shared) (us : List Value), us.length = 1 → BindsTo s fd ⟨us, []⟩ ((namesOf ["town"]).zip us)) ∧ DefOk K mg false d_u_law_matches (top 14) (namesOf ["town"]) (He.ga K (Str.ofString "_law_matches")) fd := by
  obtain ⟨fd, F⟩ := c.1.def_ 12 (d := x_u_law_matches) rfl
  have b := F.bindsN (ps := namesOf ["town"]) fun _ _ _ _ _ _ us hl => match us, hl with | [_], _ => rfl
  have b2 := F.bindsA (ps := namesOf ["town"]) fun _ _ _ _ _ _ us hl => match us, hl with | [_], _ => rfl
  exact ⟨fd, fun s us hl => b2 s us hl, gl X G c 12 _ rfl, F, b, sc_u_law_matches, rfl, by decide, chk_u_law_matches⟩
theorem ok_u_law_small (X : K.In h) (G : h.Ns mainGlobals mg) (c : Ev.SaysG fa fn false K) : ∃ fd, (∀ (s : Shared) (us : List Value), us.length = 1 → BindsTo s fd ⟨us, []⟩ ((namesOf ["box"]).zip us)) ∧ DefOk K mg false d_u_law_small (top 15) (namesOf ["box"]) (He.ga K (Str.ofString "_law_small")) fd := by
  obtain ⟨fd, F⟩ := c.1.def_ 13 (d := x_u_law_small) rfl
  have b := F.bindsN (ps := namesOf ["box"]) fun _ _ _ _ _ _ us hl => match us, hl with | [_], _ => rfl
  have b2 := F.bindsA (ps := namesOf ["box"]) fun _ _ _ _ _ _ us hl => match us, hl with | [_], _ => rfl
  exact ⟨fd, fun s us hl => b2 s us hl, gl X G c 13 _ rfl, F, b, sc_u_law_small, rfl, by decide, chk_u_law_small⟩
theorem ok_u_law_great (X : K.In h) (G : h.Ns mainGlobals mg) (c : Ev.SaysG fa fn false K) : ∃ fd, (∀ (s : Shared) (us : List Value), us.length = 1 → BindsTo s fd ⟨us, []⟩ ((namesOf ["box"]).zip us)) ∧ DefOk K mg false d_u_law_great (top 16) (namesOf ["box"]) (He.ga K (Str.ofString "_law_great")) fd := by
  obtain ⟨fd, F⟩ := c.1.def_ 14 (d := x_u_law_great) rfl
  have b := F.bindsN (ps := namesOf ["box"]) fun _ _ _ _ _ _ us hl => match us, hl with | [_], _ => rfl
  have b2 := F.bindsA (ps := namesOf ["box"]) fun _ _ _ _ _ _ us hl => match us, hl with | [_], _ => rfl
  exact ⟨fd, fun s us hl => b2 s us hl, gl X G c 14 _ rfl, F, b, sc_u_law_great, rfl, by decide, chk_u_law_great⟩
theorem ok_u_law_meet (X : K.In h) (G : h.Ns mainGlobals mg) (c : Ev.SaysG fa fn false K) : ∃ fd, (∀ (s : Shared) (us : List Value), us.length = 3 → BindsTo s fd ⟨us, []⟩ ((namesOf ["town", "one", "other"]).zip us)) ∧ DefOk K mg false d_u_law_meet (top 17) (namesOf ["town", "one", "other"]) (He.ga K (Str.ofString "_law_meet")) fd := by
  obtain ⟨fd, F⟩ := c.1.def_ 15 (d := x_u_law_meet) rfl
  have b := F.bindsN (ps := namesOf ["town", "one", "other"]) fun _ _ _ _ _ _ us hl => match us, hl with | [_, _, _], _ => rfl
  have b2 := F.bindsA (ps := namesOf ["town", "one", "other"]) fun _ _ _ _ _ _ us hl => match us, hl with | [_, _, _], _ => rfl
  exact ⟨fd, fun s us hl => b2 s us hl, gl X G c 15 _ rfl, F, b, sc_u_law_meet, rfl, by decide, chk_u_law_meet⟩
theorem ok_u_law_proper (X : K.In h) (G : h.Ns mainGlobals mg) (c : Ev.SaysG fa fn false K) : ∃ fd, (∀ (s : Shared) (us : List Value), us.length = 3 → BindsTo s fd ⟨us, []⟩ ((namesOf ["town", "row", "colours"]).zip us)) ∧ DefOk K mg false d_u_law_proper (top 18) (namesOf ["town", "row", "colours"]) (He.ga K (Str.ofString "_law_proper")) fd := by
  obtain ⟨fd, F⟩ := c.1.def_ 16 (d := x_u_law_proper) rfl
  have b := F.bindsN (ps := namesOf ["town", "row", "colours"]) fun _ _ _ _ _ _ us hl => match us, hl with | [_, _, _], _ => rfl
  have b2 := F.bindsA (ps := namesOf ["town", "row", "colours"]) fun _ _ _ _ _ _ us hl => match us, hl with | [_, _, _], _ => rfl
  exact ⟨fd, fun s us hl => b2 s us hl, gl X G c 16 _ rfl, F, b, sc_u_law_proper, rfl, by decide, chk_u_law_proper⟩
theorem ok_u_law_least (X : K.In h) (G : h.Ns mainGlobals mg) (c : Ev.SaysG fa fn false K) : ∃ fd, (∀ (s : Shared) (us : List Value), us.length = 1 → BindsTo s fd ⟨us, []⟩ ((namesOf ["town"]).zip us)) ∧ DefOk K mg false d_u_law_least (top 19) (namesOf ["town"]) (He.ga K (Str.ofString "_law_least")) fd := by
  obtain ⟨fd, F⟩ := c.1.def_ 17 (d := x_u_law_least) rfl
  have b := F.bindsN (ps := namesOf ["town"]) fun _ _ _ _ _ _ us hl => match us, hl with | [_], _ => rfl
  have b2 := F.bindsA (ps := namesOf ["town"]) fun _ _ _ _ _ _ us hl => match us, hl with | [_], _ => rfl
  exact ⟨fd, fun s us hl => b2 s us hl, gl X G c 17 _ rfl, F, b, sc_u_law_least, rfl, by decide, chk_u_law_least⟩
theorem ok_u_law_within (X : K.In h) (G : h.Ns mainGlobals mg) (c : Ev.SaysG fa fn false K) : ∃ fd, (∀ (s : Shared) (us : List Value), us.length = 3 → BindsTo s fd ⟨us, []⟩ ((namesOf ["part", "code", "twos"]).zip us)) ∧ DefOk K mg false d_u_law_within (top 20) (namesOf ["part", "code", "twos"]) (He.ga K (Str.ofString "_law_within")) fd := by
  obtain ⟨fd, F⟩ := c.1.def_ 18 (d := x_u_law_within) rfl
  have b := F.bindsN (ps := namesOf ["part", "code", "twos"]) fun _ _ _ _ _ _ us hl => match us, hl with | [_, _, _], _ => rfl
  have b2 := F.bindsA (ps := namesOf ["part", "code", "twos"]) fun _ _ _ _ _ _ us hl => match us, hl with | [_, _, _], _ => rfl
  exact ⟨fd, fun s us hl => b2 s us hl, gl X G c 18 _ rfl, F, b, sc_u_law_within, rfl, by decide, chk_u_law_within⟩
theorem ok_u_law_first (X : K.In h) (G : h.Ns mainGlobals mg) (c : Ev.SaysG fa fn false K) : ∃ fd, (∀ (s : Shared) (us : List Value), us.length = 2 → BindsTo s fd ⟨us, []⟩ ((namesOf ["town", "colours"]).zip us)) ∧ DefOk K mg false d_u_law_first (top 21) (namesOf ["town", "colours"]) (He.ga K (Str.ofString "_law_first")) fd := by
  obtain ⟨fd, F⟩ := c.1.def_ 19 (d := x_u_law_first) rfl
  have b := F.bindsN (ps := namesOf ["town", "colours"]) fun _ _ _ _ _ _ us hl => match us, hl with | [_, _], _ => rfl
  have b2 := F.bindsA (ps := namesOf ["town", "colours"]) fun _ _ _ _ _ _ us hl => match us, hl with | [_, _], _ => rfl
  exact ⟨fd, fun s us hl => b2 s us hl, gl X G c 19 _ rfl, F, b, sc_u_law_first, rfl, by decide, chk_u_law_first⟩
theorem ok_u_law_free (X : K.In h) (G : h.Ns mainGlobals mg) (c : Ev.SaysG fa fn false K) : ∃ fd, (∀ (s : Shared) (us : List Value), us.length = 3 → BindsTo s fd ⟨us, []⟩ ((namesOf ["town", "row", "colour"]).zip us)) ∧ DefOk K mg false d_u_law_free (top 22) (namesOf ["town", "row", "colour"]) (He.ga K (Str.ofString "_law_free")) fd := by
  obtain ⟨fd, F⟩ := c.1.def_ 20 (d := x_u_law_free) rfl
  have b := F.bindsN (ps := namesOf ["town", "row", "colour"]) fun _ _ _ _ _ _ us hl => match us, hl with | [_, _, _], _ => rfl
  have b2 := F.bindsA (ps := namesOf ["town", "row", "colour"]) fun _ _ _ _ _ _ us hl => match us, hl with | [_, _, _], _ => rfl
  exact ⟨fd, fun s us hl => b2 s us hl, gl X G c 20 _ rfl, F, b, sc_u_law_free, rfl, by decide, chk_u_law_free⟩
theorem ok_u_law_bent (X : K.In h) (G : h.Ns mainGlobals mg) (c : Ev.SaysG fa fn false K) : ∃ fd, (∀ (s : Shared) (us : List Value), us.length = 4 → BindsTo s fd ⟨us, []⟩ ((namesOf ["box", "row", "colours", "which"]).zip us)) ∧ DefOk K mg false d_u_law_bent (top 23) (namesOf ["box", "row", "colours", "which"]) (He.ga K (Str.ofString "_law_bent")) fd := by
  obtain ⟨fd, F⟩ := c.1.def_ 21 (d := x_u_law_bent) rfl
  have b := F.bindsN (ps := namesOf ["box", "row", "colours", "which"]) fun _ _ _ _ _ _ us hl => match us, hl with | [_, _, _, _], _ => rfl
  have b2 := F.bindsA (ps := namesOf ["box", "row", "colours", "which"]) fun _ _ _ _ _ _ us hl => match us, hl with | [_, _, _, _], _ => rfl
  exact ⟨fd, fun s us hl => b2 s us hl, gl X G c 21 _ rfl, F, b, sc_u_law_bent, rfl, by decide, chk_u_law_bent⟩
theorem ok_u_law_judged (X : K.In h) (G : h.Ns mainGlobals mg) (c : Ev.SaysG fa fn false K) : ∃ fd, (∀ (s : Shared) (us : List Value), us.length = 4 → BindsTo s fd ⟨us, []⟩ ((namesOf ["box", "town", "row", "colours"]).zip us)) ∧ DefOk K mg false d_u_law_judged (top 24) (namesOf ["box", "town", "row", "colours"]) (He.ga K (Str.ofString "_law_judged")) fd := by
  obtain ⟨fd, F⟩ := c.1.def_ 22 (d := x_u_law_judged) rfl
  have b := F.bindsN (ps := namesOf ["box", "town", "row", "colours"]) fun _ _ _ _ _ _ us hl => match us, hl with | [_, _, _, _], _ => rfl
  have b2 := F.bindsA (ps := namesOf ["box", "town", "row", "colours"]) fun _ _ _ _ _ _ us hl => match us, hl with | [_, _, _, _], _ => rfl
  exact ⟨fd, fun s us hl => b2 s us hl, gl X G c 22 _ rfl, F, b, sc_u_law_judged, rfl, by decide, chk_u_law_judged⟩
theorem ok_u_law_large (X : K.In h) (G : h.Ns mainGlobals mg) (c : Ev.SaysG fa fn false K) : ∃ fd, (∀ (s : Shared) (us : List Value), us.length = 2 → BindsTo s fd ⟨us, []⟩ ((namesOf ["box", "town"]).zip us)) ∧ DefOk K mg false d_u_law_large (top 25) (namesOf ["box", "town"]) (He.ga K (Str.ofString "_law_large")) fd := by
  obtain ⟨fd, F⟩ := c.1.def_ 23 (d := x_u_law_large) rfl
  have b := F.bindsN (ps := namesOf ["box", "town"]) fun _ _ _ _ _ _ us hl => match us, hl with | [_, _], _ => rfl
  have b2 := F.bindsA (ps := namesOf ["box", "town"]) fun _ _ _ _ _ _ us hl => match us, hl with | [_, _], _ => rfl
  exact ⟨fd, fun s us hl => b2 s us hl, gl X G c 23 _ rfl, F, b, sc_u_law_large, rfl, by decide, chk_u_law_large⟩
theorem ok_law (X : K.In h) (G : h.Ns mainGlobals mg) (c : Ev.SaysG fa fn false K) : ∃ fd, (∀ (s : Shared) (us : List Value), us.length = 1 → BindsTo s fd ⟨us, []⟩ ((namesOf ["script"]).zip us)) ∧ DefOk K mg false d_law (top 26) (namesOf ["script"]) (He.ga K (Str.ofString "law")) fd := by
  obtain ⟨fd, F⟩ := c.1.def_ 24 (d := x_law) rfl
  have b := F.bindsN (ps := namesOf ["script"]) fun _ _ _ _ _ _ us hl => match us, hl with | [_], _ => rfl
  have b2 := F.bindsA (ps := namesOf ["script"]) fun _ _ _ _ _ _ us hl => match us, hl with | [_], _ => rfl
  exact ⟨fd, fun s us hl => b2 s us hl, gl X G c 24 _ rfl, F, b, sc_law, rfl, by decide, chk_law⟩
theorem tab (X : K.In h) (G : h.Ns mainGlobals mg) (c : Ev.SaysG fa fn false K) : TabOk K mg false T := by
  intro d hd
  unfold T at hd
  rcases List.mem_cons.mp hd with e | hd
  · subst e; obtain ⟨fd, _, o⟩ := ok_is_lane_colouring X G c; exact ⟨_, _, _, fd, o⟩
  rcases List.mem_cons.mp hd with e | hd
  · subst e; obtain ⟨fd, _, o⟩ := ok_lane_colouring X G c; exact ⟨_, _, _, fd, o⟩
  rcases List.mem_cons.mp hd with e | hd
  · subst e; obtain ⟨fd, _, o⟩ := ok_least_lane_colours X G c; exact ⟨_, _, _, fd, o⟩
  rcases List.mem_cons.mp hd with e | hd
  · subst e; obtain ⟨fd, _, o⟩ := ok_u_law_cell X G c; exact ⟨_, _, _, fd, o⟩
  rcases List.mem_cons.mp hd with e | hd
  · subst e; obtain ⟨fd, _, o⟩ := ok_u_law_digits X G c; exact ⟨_, _, _, fd, o⟩
  rcases List.mem_cons.mp hd with e | hd
  · subst e; obtain ⟨fd, _, o⟩ := ok_u_law_draw X G c; exact ⟨_, _, _, fd, o⟩
  rcases List.mem_cons.mp hd with e | hd
  · subst e; obtain ⟨fd, _, o⟩ := ok_u_law_pick X G c; exact ⟨_, _, _, fd, o⟩
  rcases List.mem_cons.mp hd with e | hd
  · subst e; obtain ⟨fd, _, o⟩ := ok_u_law_mixed X G c; exact ⟨_, _, _, fd, o⟩
  rcases List.mem_cons.mp hd with e | hd
  · subst e; obtain ⟨fd, _, o⟩ := ok_u_law_town X G c; exact ⟨_, _, _, fd, o⟩
  rcases List.mem_cons.mp hd with e | hd
  · subst e; obtain ⟨fd, _, o⟩ := ok_u_law_same X G c; exact ⟨_, _, _, fd, o⟩
  rcases List.mem_cons.mp hd with e | hd
  · subst e; obtain ⟨fd, _, o⟩ := ok_u_law_lanes X G c; exact ⟨_, _, _, fd, o⟩
  rcases List.mem_cons.mp hd with e | hd
  · subst e; obtain ⟨fd, _, o⟩ := ok_u_law_twos X G c; exact ⟨_, _, _, fd, o⟩
  rcases List.mem_cons.mp hd with e | hd
  · subst e; obtain ⟨fd, _, o⟩ := ok_u_law_matches X G c; exact ⟨_, _, _, fd, o⟩
  rcases List.mem_cons.mp hd with e | hd
  · subst e; obtain ⟨fd, _, o⟩ := ok_u_law_small X G c; exact ⟨_, _, _, fd, o⟩
  rcases List.mem_cons.mp hd with e | hd
  · subst e; obtain ⟨fd, _, o⟩ := ok_u_law_great X G c; exact ⟨_, _, _, fd, o⟩
  rcases List.mem_cons.mp hd with e | hd
  · subst e; obtain ⟨fd, _, o⟩ := ok_u_law_meet X G c; exact ⟨_, _, _, fd, o⟩
  rcases List.mem_cons.mp hd with e | hd
  · subst e; obtain ⟨fd, _, o⟩ := ok_u_law_proper X G c; exact ⟨_, _, _, fd, o⟩
  rcases List.mem_cons.mp hd with e | hd
  · subst e; obtain ⟨fd, _, o⟩ := ok_u_law_least X G c; exact ⟨_, _, _, fd, o⟩
  rcases List.mem_cons.mp hd with e | hd
  · subst e; obtain ⟨fd, _, o⟩ := ok_u_law_within X G c; exact ⟨_, _, _, fd, o⟩
  rcases List.mem_cons.mp hd with e | hd
  · subst e; obtain ⟨fd, _, o⟩ := ok_u_law_first X G c; exact ⟨_, _, _, fd, o⟩
  rcases List.mem_cons.mp hd with e | hd
  · subst e; obtain ⟨fd, _, o⟩ := ok_u_law_free X G c; exact ⟨_, _, _, fd, o⟩
  rcases List.mem_cons.mp hd with e | hd
  · subst e; obtain ⟨fd, _, o⟩ := ok_u_law_bent X G c; exact ⟨_, _, _, fd, o⟩
  rcases List.mem_cons.mp hd with e | hd
  · subst e; obtain ⟨fd, _, o⟩ := ok_u_law_judged X G c; exact ⟨_, _, _, fd, o⟩
  rcases List.mem_cons.mp hd with e | hd
  · subst e; obtain ⟨fd, _, o⟩ := ok_u_law_large X G c; exact ⟨_, _, _, fd, o⟩
  rcases List.mem_cons.mp hd with e | hd
  · subst e; obtain ⟨fd, _, o⟩ := ok_law X G c; exact ⟨_, _, _, fd, o⟩
  cases hd
end
end K89
open PySem PySem.W PySem.Calls PyProof.Rows Ev
theorem K89.holds (law : ∀ ns : List Int, ns.length ≤ 63 → runD (callF K89.T 39) K89.d_law [.ro (ns.map .int)] = some (.fr (.bool true), [])) : PySem.Challenge.rw_lendland_k89_whole_colours_of_lanes.Holds := by
  w_on; o_law
  refine HandSHeadRun.head_any (r := K89.R) (q := K89.V0) (H := K89.hk) (ob := K89.ob) (M := 2000) (loose := K89.loose) (d := HandSHeadRun.topDef K89.R.prog 26) (kwd := []) K89.ob_eq
    (by kernel_rfl) (fun s => by kernel_rfl) K89.run (by kernel_rfl) (by kernel_rfl) (by kernel_rfl) (by rfl) (by first | assumption | decide +kernel) (by decide +kernel) ⟨rfl, rfl, rfl, rfl, rfl, by decide +kernel⟩ ?hw ?hc
  case hw => w_witness2
  case hc =>
    refine L2.walk_ofE (l := PySem.Challenge.rw_lendland_k89_whole_colours_of_lanes) (n := 63) (k := 40) (x := "script") (CX := L2.CX0) rfl (by decide) (by kernel_rfl) ⟨rfl, by decide, by decide⟩ ?F (fun _ _ _ _ z => z)
    intro w mg fa h Y G hmg0
    obtain ⟨K, KX, c⟩ := Y
    letI : TheK := ⟨K⟩
    have hmg : mg ("law" : PySem.Str) = some (.ref fa) := by
      have e : (HandSHeadRun.topDef K89.R.prog 26).name = ("law" : PySem.Str) := by kernel_rfl
      rw [← e]
      exact hmg0
    have M : ModOk K mg false := Ev.mod_ok rfl KX G c (fun x hx => by
      obtain ⟨i, hi⟩ := List.mem_iff_getElem?.mp hx
      refine ⟨25 + i, ?_⟩
      unfold K89.fa
      rw [List.getElem?_append_right (by show 25 ≤ 25 + i; omega)]
      show (bltNames.map fun x => He.Fa.free (Str.ofString x))[25 + i - 25]? = _
      rw [Nat.add_sub_cancel_left, List.getElem?_map, hi]
      rfl)
    have TB := K89.tab KX G c
    obtain ⟨fd, hb, o⟩ := K89.ok_law KX G c
    have ea : fa = He.ga K (Str.ofString "law") := by
      have := hmg.symm.trans o.at_
      cases this
      rfl
    subst ea
    exact ⟨K, fd, spOf [.B] (runD (callF K89.T 39) K89.d_law), KX, fun s u => hb s [u] rfl, fun H a ns hl hO hS => law_sp rfl (Nat.le_trans hl (by decide)) hO hS (law ns hl), fun base _ _ => law_fn M TB o⟩

theorem PySem.Challenge.cw_lendland_k89_whole_colours_of_lanes_holds : PySem.Challenge.rw_lendland_k89_whole_colours_of_lanes.Holds := by
  exact K89.holds fun ns _ => K89.r_law 34 ns
