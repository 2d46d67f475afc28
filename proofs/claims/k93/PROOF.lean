import PyProof.Rows.All
import Wide.All
import OpenK.AllK
import Wide.FinOn
import PySem.Challenge.RW_lendland_k93_lines_in_columns
import HandS.Iter
import KE.GoesMore
import PyProof.Draws
import HandS.List
import HandS.Style
import HandS.SortInts
import HandS.Text
import HandS.StrMore
import HandS.ReplaceLit
import HandS.RaiseMore
import PyProof.StrOps2
import PyProof.StrCalls6
import PyProof.ToksMono
import HandS.ForMost
import HandS.Wide
import HandS.Deep
import HandS.Conv
import HandS.IsInst
import HandS.TupLe
import HandS.TupAny
import KE.DataCmp
import KE.SortData
import KE.DataMinMax
import HandS.RevRange
import HandS.DictTup
import HandS.SortOrd
import PyProof.Transfer
import HandS.DictComp
import KE.KDictCopyH
import KE.KDictDisplayH
import KE.KDictOf
import KE.KTupSum
import HandS.Gcd
import KE.DataFind
import HandS.SetFor
import HandS.More
import HandS.Zip
import HandS.Rev
import HandS.SetBool
import HandS.Strs
import HandS.Dict
import HandS.Defaults
import HandS.Head0
import HandS.Head1
import HandS.Head2
import HandS.HeadEnd
import HandS.HeadHook1
import HandS.HeadHook2
import PyProof.StrLawsRepr
import PyProof.StrLawsReplace
import PyProof.StrLawsChain
import PyProof.StrLawsTight
import PyProof.FitsInt
import PyProof.P3Eq
import KE.KStateDown
import Lean
import HandS.Base
import HandS.Call
import HandS.Ends
set_option Elab.async false
set_option linter.all false
set_option maxRecDepth 100000
set_option maxHeartbeats 2000000
/-! EvT: enumerate over a tuple. -/
namespace PySem
open Sem (wp)
open AutoSeq1 (wpAny_loadPart')
theorem enT_new (l : Addr) (items : Array Value) (n : Nat) (dct : Option Addr) (sl : Array (Option Value)) :
    Meets (Builtin.«enumerate.__new__» ⟨[.type "enumerate", .ref l], []⟩) (fun _ R s => s.heap.get? l = some { cls := .type "tuple", dict := dct, data := .seq items n, slots := sl } ∧
      R (.ok (.ret (.ref (s.heap.push { cls := .type "tuple_iterator", data := .fields #[.ref l, .int 0 0] }).objs.size)))
        { s with heap := (s.heap.push { cls := .type "tuple_iterator", data := .fields #[.ref l, .int 0 0] }).push { cls := .type "enumerate", data := .fields #[.none, .bool false, .ref s.heap.objs.size, rawInt 0, .none, .none] } }) :=
  .of_wp fun prog w A R s h => by
    obtain ⟨hp, g, d, tk, os⟩ := s; obtain ⟨hl, h⟩ := h
    have hsub := sub_enumerate
    have hL : Heap.IsTuple (Shared.heap ⟨hp, g, d, tk, os⟩) l items := ⟨_, hl, rfl, n, rfl⟩
    wp_walk using wpAny_loadPart' hl
    refine wpAny_stack_any fun st => wpAny_pure ?_
    split
    · rename_i c _ _ _ _ _
      cases (c == Value.type "enumerate")
      · wp_walk using wpAny_loadPart' hl, wpAny_pyIter_tuple hL
        exact ⟨_, rfl, h⟩
      · wp_walk using wpAny_loadPart' hl, wpAny_pyIter_tuple hL
        exact ⟨_, rfl, h⟩
    · wp_walk using wpAny_loadPart' hl, wpAny_pyIter_tuple hL
      exact ⟨_, rfl, h⟩
section
variable {prog : Program} {w : World} {A : Around} {E : Value → Shared → Prop} {s : Shared}
theorem enT_call {l : Addr} {items : Array Value} {Q : Value → Shared → Prop} (hL : s.heap.IsTuple l items)
    (h : ∀ h', IsEnum h' (s.heap.objs.size + 1) s.heap.objs.size 0 .none → h'.IsTupleIter s.heap.objs.size l 0 → h'.objs.size = s.heap.objs.size + 2 →
      (∀ b o, s.heap.get? b = some o → h'.get? b = some o) → Q (.ref (s.heap.objs.size + 1)) { s with heap := h' }) :
    wpAny (model prog w) A (call (.type "enumerate") [.ref l]) Q E s := by
  obtain ⟨⟨c, dct, dt, sl⟩, hl, hc, n, hd⟩ := hL
  replace hc : c = .type "tuple" := hc
  replace hd : dt = .seq items n := hd
  subst hc hd
  refine callType_new F.called_enumerate (by decide) (F.typeCall_enumerate_1 _) (F.newCall_enumerate_1 _) (fun obj => F.args_object_init_2 obj _) F.entry_enumerate_new
    (enT_new l items n dct sl) ⟨hl, ?_⟩
  have hz : (s.heap.push { cls := .type "tuple_iterator", data := .fields #[.ref l, .int 0 0] }).objs.size = s.heap.objs.size + 1 := Heap.size_push ..
  show _ ∧ _
  rw [hz]
  have he : IsEnum ((s.heap.push { cls := .type "tuple_iterator", data := .fields #[.ref l, .int 0 0] }).push
      { cls := .type "enumerate", data := .fields #[.none, .bool false, .ref s.heap.objs.size, rawInt 0, .none, .none] }) (s.heap.objs.size + 1) s.heap.objs.size 0 .none := by
    have := Heap.get?_push_size (s.heap.push { cls := .type "tuple_iterator", data := .fields #[.ref l, .int 0 0] })
      (o := { cls := .type "enumerate", data := .fields #[.none, .bool false, .ref s.heap.objs.size, rawInt 0, .none, .none] }) rfl
    rw [hz] at this; exact this
  exact ⟨⟨_, he, rfl⟩, h _ he ⟨_, Heap.get?_push_of_some _ (Heap.get?_push_size _ rfl), rfl, rfl⟩ (by rw [Heap.size_push, hz]) fun b o x => Heap.get?_push_of_some _ (Heap.get?_push_of_some _ x)⟩
end
end PySem
namespace Ev
open PySem PySem.Spec PyProof.Rows L2
/-- the tuple at a as it stands at each turn, each item in a new pair -/
def IteT (K : PySem.W.Frag) (a : Addr) : It :=
  ⟨fun i H => ∃ (xs : List V) (x : V), SqT K H a xs ∧ xs[i]? = some x, fun i H v H' => ∃ T x, v = .ref T ∧ H T = none ∧ H' = upd H T (.tup [.int (i : Nat), x]) ∧ ∀ xs, SqT K H a xs → xs[i]? = some x, fun i H => ∃ xs : List V, SqT K H a xs ∧ xs.length ≤ i⟩
theorem enT_apart {h : Heap} {e it a : Addr} {c : Int} {old : Value} {i : Nat} {items : Array Value} (he : IsEnum h e it c old) (hi : h.IsTupleIter it a i) (ht : h.IsTuple a items) : e ≠ a ∧ a ≠ it := by
  obtain ⟨o, ho, hc, _⟩ := ht
  obtain ⟨o2, ho2, hc2, _⟩ := hi
  refine ⟨fun z => ?_, fun z => ?_⟩
  · subst z
    rw [he] at ho
    cases ho
    have hc : Value.type "enumerate" = Value.type "tuple" := hc
    injection hc with h1
    exact absurd h1 (by decide)
  · subst z
    rw [ho2] at ho
    cases ho
    rw [hc2] at hc
    injection hc with h1
    exact absurd h1 (by decide)
theorem turn_enumT {P : Program} {w : World} {K : PySem.W.Frag} {elts : List Expr} {kk : Nat} {tpos : Pos} (a e it : Addr) :
    Turn P w K (.Tuple elts kk tpos) (IteT K a) [e, it] e (fun i h => (∃ old, IsEnum h e it ((i : Nat) : Int) old) ∧ h.IsTupleIter it a i ∧ e ≠ it) where
  mem := by simp
  obj := fun i h st b hb => by
    obtain ⟨⟨old, he⟩, ⟨o, ho, hc, hd⟩, _⟩ := st
    have e' : b = e ∨ b = it := by simpa using hb
    rcases e' with z | z
    · rw [z]; exact ⟨_, he, fun v q => nomatch q⟩
    · rw [z]; exact ⟨o, ho, fun v q => by rw [hd] at q; cases q⟩
  keep := fun i h h' st k => let ⟨⟨old, he⟩, hi, hne⟩ := st; ⟨⟨old, k e (by simp) _ he⟩, hi.at fun o q => k it (by simp) o q, hne⟩
  item := by
    intro X hP hw hK hc i pins s σ H E I hf st hg
    subst hP hw hK
    obtain ⟨⟨old, he⟩, hit, hne⟩ := st
    obtain ⟨xs, x, hq, hx⟩ := hg
    obtain ⟨its, rv, p, hz⟩ := I.tuple hq
    obtain ⟨u, hu, ru⟩ := rv.get hx
    have hel : e < s.heap.objs.size := Heap.lt_size he
    have hil : it < s.heap.objs.size := by obtain ⟨_, q, _⟩ := hit; exact Heap.lt_size q
    have pt : s.heap.IsTuple a its.toArray := p
    obtain ⟨nea, nai⟩ := enT_apart he hit pt
    have hlt : i < its.toArray.size := by
      have := (List.getElem?_eq_some_iff.mp hu).1
      simpa using this
    have D := Draws.tuple (prog := X.prog) (w := X.w) (A := X.A.in1) (I.ok.hd hc) it a nai its.toArray
    refine wpAny_pyNext_enum_itemD D he ⟨hit, pt⟩ hlt hne (by simp [hne, nea]) fun x' h' tk hP ho st' hT hsz hk => ?_
    have ex : x' = u := by
      rw [show its.toArray[i]? = some u by simpa using hu] at hP
      cases hP; rfl
    subst ex
    refine ⟨_, rfl, wpAny_letOwnedTupleGo_enum (s := { s with heap := h', toks := tk + 1 }) ho fun h'' he' sb => ?_⟩
    have hT2 : h''.get? s.heap.objs.size = some { cls := .type "tuple", data := .seq #[.int i tk, x'] } := (sb.2 _ (Nat.ne_of_gt hel)).trans hT
    have new : ObjOk X.prog X.w (upd H s.heap.objs.size (.tup [.int (i : Nat), x])) h'' s.heap.objs.size (.tup [.int (i : Nat), x]) :=
      ⟨by show 2 ≤ sizeLine; decide, [.int i tk, x'], .cons ⟨_, rfl⟩ (.cons ru .nil), ⟨_, hT2, rfl, _, rfl⟩⟩
    have I1 : Inv X pins σ (upd H s.heap.objs.size (.tup [.int (i : Nat), x])) { s with heap := h'', toks := tk + 1 } :=
      I.turnedNew (ch := [e, it]) (fun b ob hb q => (sb.2 b (fun z => hb (by simp [z]))).trans (hk b ob (fun z => hb (by simp [z])) (fun z => hb (by simp [z])) q)) hf (Nat.le_refl _) new
    refine ⟨.ref s.heap.objs.size, _, I1, rfl, ⟨_, x, rfl, I.hok.fresh (Nat.le_refl _), rfl, fun ys hy => by rw [I.tuple_inj hy hq]; exact hx⟩, ⟨⟨x', ?_⟩, st'.1.at fun o q => (sb.2 it (Ne.symm hne)).trans q, hne⟩, fun b hb => ?_⟩
    · have e1 : ((i + 1 : Nat) : Int) = (i : Int) + 1 := by omega
      rw [e1]; exact he'
    · have hb' : b < s.heap.objs.size := by
        have e' : b = e ∨ b = it := by simpa using hb
        rcases e' with z | z
        · rw [z]; exact hel
        · rw [z]; exact hil
      rw [upd_ne (Nat.ne_of_lt hb')]
      exact (hf b hb).1
  done := by
    intro X hP hw hK hc i pins s σ H E I hf st hg
    subst hP hw hK
    obtain ⟨⟨old, he⟩, hit, hne⟩ := st
    obtain ⟨xs, hq, hx⟩ := hg
    obtain ⟨its, rv, p, hz⟩ := I.tuple hq
    have pt : s.heap.IsTuple a its.toArray := p
    obtain ⟨nea, nai⟩ := enT_apart he hit pt
    obtain ⟨f0, f1, f2, f3, f4, f5⟩ := hf it (by simp)
    have hl := rv.length
    have hT : s.TypeIs (.ref e) "enumerate" := ⟨_, he, rfl⟩
    unfold pyNext
    refine wpAny_bind (wpAny_attempt (wpAny_callSpecial?_slot (name := Str.ofString "__next__") hT F.slot_enumerate_next
      (wpAny_call_entry F.slot_enumerate_next hT F.entry_enumerate_next ?_ (F.args_enumerate_next_1 _))))
    show wpAny _ _ (field (.ref e) 2 >>= _) _ _ _
    refine wpAny_bind (wpAny_field he rfl (x := .ref it) rfl ?_)
    refine wpAny_bind (wpAny_nextOf_tuple_end (A := X.A.in1) (I.ok.hd hc) hit pt (by simp; omega) fun h' x he' hx' => ?_)
    obtain ⟨o, ho, hc'⟩ := hx'
    refine wpAny_bind (wpAny_isInstance (T := "StopIteration") (b := true) ⟨o, ho, hc'⟩ isSubtype_stop ?_)
    exact wpAny_pure ⟨rfl, I.turned (t' := s.toks) (fun b o hb q => he' b o hb q) f0 f1 f3 f4 f5⟩
  self := fun A i s Q E st h => let ⟨⟨_, he⟩, _⟩ := st; wpAny_pyIter_enum he h
/-- enumerate of a list or of a tuple -/
def iEnumA (K : PySem.W.Frag) (ta : TA) : TI := fun σ H R => ta σ H fun vs H1 => ∃ a xs, vs = [.ref a] ∧ ((SqL K H1 a xs ∧ R (Ite K a) H1) ∨ (SqT K H1 a xs ∧ R (IteT K a) H1))
theorem pi_enumA {X : Cx} {e : Expr} {ta : TA} {p pos tpos : Pos} {elts : List Expr} {kk : Nat} (hg : Gl X "enumerate") (hm : X.mg "enumerate" = none) (ha : PA X [e] ta) (hs : starEach [e] X.env = [(false, eval e X.env)]) :
    PI X (.Tuple elts kk tpos) (.Call (.Name "enumerate" p) [e] [] pos) (iEnumA X.K ta) := by
  refine ⟨fun pins s σ H R I h => ?_⟩
  refine Call_ (ld_blt I hg hm boot_enumerate (PyProof.Rows.callWith_type1 (thn (ha.run pos pins s σ H _ I h) fun us s1 ⟨vs, H1, I1, r1, q1⟩ => ?_) hs rfl))
  obtain ⟨a, xs, ex, q⟩ := q1
  subst ex
  cases r1 with
  | cons r rr =>
    cases rr
    cases r
    have fin : ∀ (h' : Heap), (∀ b ∈ [s1.heap.objs.size + 1, s1.heap.objs.size], s1.heap.objs.size ≤ b) := fun _ b hb => by
      have e' : b = s1.heap.objs.size + 1 ∨ b = s1.heap.objs.size := by simpa using hb
      rcases e' with z | z
      · rw [z]; exact Nat.le_add_right _ _
      · rw [z]; exact Nat.le_refl _
    rcases q with ⟨hq, q⟩ | ⟨hq, q⟩
    · obtain ⟨its, rv, p', hz⟩ := I1.list hq
      refine call_enumerate_list p'.isList fun h' he hit hsz hk => wpAny_pyIter_enum he ?_
      have I2 : Inv X pins σ H1 { s1 with heap := h' } := I1.kept (t' := s1.toks) hk
      exact ⟨s1.heap.objs.size + 1, [s1.heap.objs.size + 1, s1.heap.objs.size], _, _, H1, rfl, I2, turn_enum a (s1.heap.objs.size + 1) s1.heap.objs.size, ⟨⟨.none, he⟩, hit, Nat.succ_ne_self _⟩, fun b hb => I1.fpOk (fin h' b hb) (I1.hok.fresh (fin h' b hb)), q⟩
    · obtain ⟨its, rv, p', hz⟩ := I1.tuple hq
      refine enT_call (show s1.heap.IsTuple a its.toArray from p') fun h' he hit hsz hk => wpAny_pyIter_enum he ?_
      have I2 : Inv X pins σ H1 { s1 with heap := h' } := I1.kept (t' := s1.toks) hk
      exact ⟨s1.heap.objs.size + 1, [s1.heap.objs.size + 1, s1.heap.objs.size], _, _, H1, rfl, I2, turn_enumT a (s1.heap.objs.size + 1) s1.heap.objs.size, ⟨⟨.none, he⟩, hit, Nat.succ_ne_self _⟩, fun b hb => I1.fpOk (fin h' b hb) (I1.hok.fresh (fin h' b hb)), q⟩
end Ev

set_option maxRecDepth 100000
set_option maxHeartbeats 2000000
/-! EvU: sorted(a tuple of whole numbers); x[::-1] of a list or of a tuple. -/
namespace PyProof.Rows
open PySem PySem.Spec
section
variable {prog : Program} {w : World} {A : Around} {E : Value → Shared → Prop} {s : Shared}
theorem collectT {l : Addr} {vs : List Value} {Q : List Value → Shared → Prop} (hl : s.heap.IsTuple l vs.toArray)
    (h : Q vs { s with heap := (s.heap.push (seqObj "list" #[] 0)).update s.heap.objs.size (Obj.mapSeq (· ++ vs.toArray)) }) (hsz : vs.length ≤ sizeLine) :
    wpAny (model prog w) A (collect (.ref l)) Q E s := by
  obtain ⟨o, ho, hc, n, hd⟩ := id hl
  unfold collect
  refine wpAny_bind (wpAny_runValue (codeAny_builtin entry_proto_collect' ?_))
  show wpAny _ _ (do again (.builtin "list.__iadd__" ⟨[← newList [], .ref l], []⟩)) _ _ s
  refine wpAny_bind (wpAny_newList (wpAny_pure ⟨Code.quiet_builtin _ (by decide +kernel), codeAny_builtin entry_list_iadd' ?_⟩))
  show wpAny _ _ (Builtin.List.listExtendWith (.ref s.heap.objs.size) (.ref l) (.ref s.heap.objs.size)) _ _ { s with heap := s.heap.push (seqObj "list" #[] 0) }
  unfold Builtin.List.listExtendWith
  have ho' : (s.heap.push (seqObj "list" #[] 0)).get? l = some o := Heap.get?_push_of_some _ ho
  refine wpAny_bind (wpAny_typeOf (T := "tuple") ⟨o, ho', hc⟩ ?_)
  have ht : (Value.type "tuple" == Value.type "tuple") = true := by rfl
  rw [if_pos (by rw [ht]; simp)]
  refine wpAny_bind (listItems_at ho' hd ?_)
  refine wpAny_bind (listItems_at (xs := #[]) (n := 0) (Heap.get?_push_size _ rfl) rfl ?_)
  rw [if_neg (by simp)]
  refine wpAny_bind (listUpdate_at (xs := #[]) (n := 0) (Heap.get?_push_size _ rfl) rfl ?_ (Nat.zero_le _) (by show (#[] ++ vs.toArray).size ≤ sizeLine + 1; simp only [Array.size_append, List.size_toArray, List.length_nil]; omega))
  refine wpAny_pure ?_
  show wpAny (model prog w) A (do
      let o ← load s.heap.objs.size
      match o.data with
      | .seq xs _ => pure xs.toList
      | _ => unsupported "internal:collect") Q E { s with heap := (s.heap.push (seqObj "list" #[] 0)).update s.heap.objs.size (Obj.mapSeq (· ++ vs.toArray)) }
  refine wpAny_bind (wpAny_load (get?_update_seq (Heap.get?_push_size _ rfl) _) ?_)
  show wpAny _ _ (pure ((#[] : Array Value) ++ vs.toArray).toList) Q E _
  rw [show ((#[] : Array Value) ++ vs.toArray).toList = vs by simp]
  exact wpAny_pure h
end
end PyProof.Rows
namespace SrtO
open PySem PySem.Spec PyProof.Rows
section
variable {prog : Program} {w : World} {A : Around} {E : Value → Shared → Prop} {s : Shared}
theorem sortedT_ord {l : Addr} {vs : List Value} {ltv : Value → Value → Bool} {Q : Value → Shared → Prop} (O : Swo ltv) (hl : s.heap.IsTuple l vs.toArray) (hz : vs.length ≤ sizeLine)
    (hS : 2 ≤ vs.length → ∀ (h₁ : Heap) (a : Addr), h₁.get? a = some (seqObj "list" vs.toArray 0) → (∀ b o, s.heap.get? b = some o → b ≠ a ∧ h₁.get? b = some o) → SortableO prog w A.in1.in1 { s with heap := h₁ } a vs ltv)
    (h : ∀ out : List Value, Srtd ltv out → Stb ltv out vs → Q (.ref (s.heap.objs.size + 1)) { s with heap := sortedAll s.heap vs out.toArray }) :
    wpAny (model prog w) A (call (.builtin "sorted") [.ref l]) Q E s := by
  refine Calls.call_function_entry kind_sorted plain_sorted entry_sorted (args_sorted1 _) ?_
  unfold Builtin.«sorted»
  refine wpAny_bind (m := checkCount "sorted" 1 1 _) (wpAny_pure ?_)
  refine wpAny_bind (collectT hl ?_ hz)
  refine wpAny_bind (wpAny_newList ?_ hz)
  have hsz : ((s.heap.push (seqObj "list" #[] 0)).update s.heap.objs.size (Obj.mapSeq (· ++ vs.toArray))).objs.size = s.heap.objs.size + 1 := by
    rw [Heap.size_update, size_push']
  have hoL : (((s.heap.push (seqObj "list" #[] 0)).update s.heap.objs.size (Obj.mapSeq (· ++ vs.toArray))).push (seqObj "list" vs.toArray 0)).get? (s.heap.objs.size + 1) = some (seqObj "list" vs.toArray 0) := by
    rw [← hsz]; exact Heap.get?_push_size _ rfl
  have keep : ∀ b o, s.heap.get? b = some o → b ≠ s.heap.objs.size + 1 ∧ (((s.heap.push (seqObj "list" #[] 0)).update s.heap.objs.size (Obj.mapSeq (· ++ vs.toArray))).push (seqObj "list" vs.toArray 0)).get? b = some o := fun b o q => by
    have hlt : b < s.heap.objs.size := Heap.lt_size q
    refine ⟨Nat.ne_of_lt (Nat.lt_succ_of_lt hlt), Heap.get?_push_of_some _ ?_⟩
    rw [Heap.get?_update_ne _ _ _ _ (Nat.ne_of_lt hlt)]
    exact Heap.get?_push_of_some _ q
  show wpAny _ _ _ _ _ { s with heap := ((s.heap.push (seqObj "list" #[] 0)).update s.heap.objs.size (Obj.mapSeq (· ++ vs.toArray))).push (seqObj "list" vs.toArray 0) }
  rw [hsz]
  refine wpAny_bind (wpAny_holding (wpAny_call_entry slot_list_sort ⟨_, hoL, rfl⟩ entry_list_sort (list_sort_ord O hoL hz (fun h2 => hS h2 _ _ hoL keep) fun out hs hb => ⟨_, rfl, ?_⟩) (args_list_sort _)))
  exact wpAny_pure ⟨_, rfl, h out hs hb⟩
end
end SrtO
namespace HT
open PySem PySem.Spec PyProof.Rows L2
section
variable {prog : Program} {w : World} {A : Around} {E : Value → Shared → Prop} {s : Shared}
theorem revApplied {sl : Addr} {vl vu vs : Value} {n : Nat} {Q : Int × Int × Nat → Shared → Prop} (hs : s.heap.IsSliceOf sl vl vu vs) (pl : IsPart vl none) (pu : IsPart vu none) (ps : IsPart vs (some (-1)))
    (h : Q ((n : Int) - 1, -1, n) s) : wpAny (model prog w) A (Builtin.Slice.sliceApplied (.ref sl) (pure (n : Int))) Q E s := by
  obtain ⟨os, hos, hcs, hds⟩ := id hs
  unfold Builtin.Slice.sliceApplied Builtin.Slice.sliceFields
  refine wpAny_bind (wpAny_bind (wpAny_field hos hds (x := vl) rfl (wpAny_bind (wpAny_field hos hds (x := vu) rfl (wpAny_bind (wpAny_field hos hds (x := vs) rfl (wpAny_pure ?_)))))))
  refine wpAny_bind (slicePart_ ps ?_)
  show wpAny _ _ (if ((-1 : Int) == 0) = true then _ else _) _ _ s
  rw [if_neg (by decide)]
  refine wpAny_bind (slicePart_ pl (wpAny_bind (slicePart_ pu (wpAny_bind (wpAny_pure ?_)))))
  show wpAny _ _ (match Builtin.Slice.sliceAdjust none none (-1) (n : Int) with | (lo, hi) => pure (lo, (-1 : Int), Builtin.Slice.slicePlaces lo hi (-1))) _ _ s
  have e : Builtin.Slice.sliceAdjust none none (-1) (n : Int) = ((n : Int) - 1, -1) := rfl
  rw [e]
  show wpAny _ _ (pure ((n : Int) - 1, (-1 : Int), Builtin.Slice.slicePlaces ((n : Int) - 1) (-1) (-1))) _ _ s
  have e2 : Builtin.Slice.slicePlaces ((n : Int) - 1) (-1) (-1) = n := by
    unfold Builtin.Slice.slicePlaces
    have h1 : ¬ ((-1 : Int) > 0) := by omega
    simp only [h1, if_false]
    have h2 : (-(-1 : Int)) = 1 := rfl
    rw [h2, Int.ediv_one]
    split <;> omega
  rw [e2]
  exact wpAny_pure h
theorem pick_rev (xs : List Value) : (List.range xs.length).filterMap (fun (m : Nat) => xs.toArray[((xs.length : Int) - 1 + (m : Int) * (-1)).toNat]?) = xs.reverse := by
  have e : ∀ m, m ∈ List.range xs.length → xs.toArray[((xs.length : Int) - 1 + (m : Int) * (-1)).toNat]? = some (xs.reverse.getD m Value.none) := by
    intro m hm
    have hm : m < xs.length := by simpa using hm
    have h1 : ((xs.length : Int) - 1 + (m : Int) * (-1)).toNat = xs.length - 1 - m := by omega
    rw [h1]
    have h2 : xs.length - 1 - m < xs.length := by omega
    have h3 : m < xs.reverse.length := by simpa using hm
    rw [List.getD_eq_getElem?_getD, List.getElem?_eq_getElem h3, Option.getD_some, List.getElem_reverse]
    simp [h2]
  have e2 : (List.range xs.length).filterMap (fun (m : Nat) => xs.toArray[((xs.length : Int) - 1 + (m : Int) * (-1)).toNat]?) = (List.range xs.length).map fun m => xs.reverse.getD m Value.none := by
    have gen : ∀ (l : List Nat) (f : Nat → Option Value) (g : Nat → Value), (∀ m, m ∈ l → f m = some (g m)) → l.filterMap f = l.map g := by
      intro l f g
      induction l with
      | nil => intro _; rfl
      | cons a l ih => intro h; rw [List.filterMap_cons, h a (by simp), List.map_cons, ih fun m hm => h m (by simp [hm])]
    exact gen _ _ _ e
  rw [e2]
  apply List.ext_getElem
  · simp
  · intro i h1 h2
    have : i < xs.length := by simpa using h1
    simp [this]
theorem getItem_tuple_rev {t sl : Addr} {its : List Value} {vl vu vs : Value} {Q : Value → Shared → Prop} (ht : IsTup s.heap t its.toArray) (hs : s.heap.IsSliceOf sl vl vu vs) (pl : IsPart vl none) (pu : IsPart vu none) (ps : IsPart vs (some (-1)))
    (h : Q (.ref s.heap.objs.size) { s with heap := s.heap.push { cls := .type "tuple", data := .seq its.reverse.toArray } })
    (hsz : its.length ≤ sizeLine) : wpAny (model prog w) A (getItem (.ref t) (.ref sl)) Q E s := by
  have htake : sizeOk (.seq its.reverse.toArray) := by
    show its.reverse.toArray.size ≤ sizeLine
    rw [List.size_toArray, List.length_reverse]; exact hsz
  obtain ⟨os, hos, hcs, hds⟩ := id hs
  have hTs : s.TypeIs (.ref sl) "slice" := ⟨os, hos, hcs⟩
  unfold getItem
  try with_reducible refine wpAny_holding ?_
  first | refine wpAny_bind (wpAny_pure ?_) | skip
  refine wpAny_bind (wpAny_sequenceKey ht.typeIs (by decide) ?_)
  refine wpAny_bind (wpAny_callSpecial?_slot (name := Str.ofString "__getitem__") ht.typeIs PyProof.Rows.slot_tuple_getitem
    (wpAny_call_entry PyProof.Rows.slot_tuple_getitem ht.typeIs entry_tuple_getitem ?_ (args_tuple_getitem _ _)))
  show wpAny _ _ (Builtin.Tuple.tupleItemsOf (.ref t) >>= _) _ _ s
  refine wpAny_bind (tupleItemsOf_ ht ?_)
  refine wpAny_bind (wpAny_typeOf hTs ?_)
  rw [if_pos (by decide)]
  rw [show its.toArray.size = its.length by simp]
  refine wpAny_bind (revApplied (n := its.length) hs pl pu ps ?_)
  have hno : ¬ ((((its.length : Int) - 1) == 0 && (-1 : Int) == 1 && its.length == its.length) = true) := by
    intro q
    rw [Bool.and_eq_true, Bool.and_eq_true] at q
    exact absurd q.1.2 (by decide)
  show wpAny _ _ (if (((its.length : Int) - 1) == 0 && (-1 : Int) == 1 && its.length == its.length) = true then _ else _) _ _ s
  rw [if_neg hno, pick_rev]
  first
    | exact wpAny_bind (m := Builtin.Tuple.tupleExact _) (wpAny_newObj_type (wpAny_pure ⟨_, rfl, wpAny_pure h⟩) htake)
    | exact wpAny_bind (m := Builtin.Tuple.tupleExact _) (wpAny_newObj_type (wpAny_bind (wpAny_pure (wpAny_pure ⟨_, rfl, wpAny_pure h⟩))) htake)
    | exact wpAny_bind (wpAny_bind (m := Builtin.Tuple.tupleExact _) (wpAny_newObj_type (wpAny_pure (wpAny_pure ⟨_, rfl, wpAny_pure h⟩)) htake))
    | exact wpAny_bind (wpAny_bind (m := Builtin.Tuple.tupleExact _) (wpAny_newObj_type (wpAny_pure ⟨_, rfl, wpAny_pure h⟩) htake))
end
end HT
namespace Ev
open PySem PySem.Spec PyProof.Rows L2
section
variable {X : Cx}
/-- sorted(xs), a list or a tuple of ints -/
def rSortedA (K : PySem.W.Frag) : List V → Hp → VK → Prop := fun vs H Q => ∃ (a : Addr) (ns : List Int), vs = [V.ref a] ∧ (SqL K H a (ns.map V.int) ∨ SqT K H a (ns.map V.int)) ∧
  ∀ (ns' : List Int) (p : Addr), ns'.Perm ns → ns'.Pairwise (· ≤ ·) → H p = none → Q (.ref p) (upd H p (.lst (ns'.map V.int)))
theorem cr_sortedA : CallR X (.builtin "sorted") (rSortedA X.K) := by
  intro pins s σ H vs us Q I r h
  obtain ⟨a, ns, rfl, hs | hs, q⟩ := h
  · exact cr_sortedI pins s σ H _ us Q I r ⟨a, ns, rfl, hs, q⟩
  · obtain ⟨its, rv, hl, hz⟩ := I.tuple hs
    rw [Vals.ref1 r]
    have hi := rv.ints
    refine SrtO.sortedT_ord SrtO.swo_int (show s.heap.IsTuple a its.toArray from hl) (by rw [← rv.length]; exact hz) (fun h2 h₁ a' _ _ => SrtO.ints_sortable hi h2) fun out h1 h2 => ?_
    obtain ⟨k1, k2, k3⟩ := SrtO.ints_out hi h1 h2
    obtain ⟨ep, he'⟩ := PyProof.Rows.sortedAll_at s.heap its out.toArray
    have hlen : ((out.map SrtO.iv).map V.int).length ≤ sizeLine := by
      rw [List.length_map, k2.length_eq]
      rw [List.length_map] at hz
      exact hz
    exact ⟨.ref _, upd H (s.heap.objs.size + 1) (.lst ((out.map SrtO.iv).map V.int)), I.laid (t' := s.toks) (fun _ _ => PyProof.Rows.sortedAll_old) (Nat.le_succ _) ⟨hlen, out, ep, vals_of_ints k1, he'⟩, rfl, q _ _ k2 k3 (I.hok.fresh (Nat.le_succ _))⟩
/-- x[::-1] -/
def tRevA (K : PySem.W.Frag) (te : TE) : TE := fun σ H Q => te σ H fun x H1 => ∃ a xs, x = .ref a ∧ ((SqL K H1 a xs ∧ ∀ p, H1 p = none → Q (.ref p) (upd H1 p (.lst xs.reverse))) ∨ (SqT K H1 a xs ∧ ∀ p, H1 p = none → Q (.ref p) (upd H1 p (.tup xs.reverse))))
theorem pe_revA {e : Expr} {te : TE} {k : Nat} {p1 p2 p3 pos : Pos} (he : PE X e te) : PE X (.Subscript e (.Slice none none (some (.UnaryOp .USub (.Constant (.int 1) k p1) p2)) p3) pos) (tRevA X.K te) := by
  refine ⟨fun pins s σ H Q I h => ?_⟩
  refine Subscript_ (thn (he.run pins s σ H _ I h) fun v s1 ⟨x, H1, I1, r1, q1⟩ => ?_)
  obtain ⟨a, xs, ex, q⟩ := q1
  subst ex
  cases r1
  have hst : PO X (some (.UnaryOp .USub (.Constant (.int 1) k p1) p2)) (tPart (tUn (rU fun i => .int (-i)) (tC (.int 1)))) := po_some (pe_un un_neg pe_int)
  refine wpAny_Slice (thn (po_none.run pins s1 σ H1 (fun o H2 => o = none ∧ H2 = H1) I1 ⟨rfl, rfl⟩) fun vl s2 ⟨l, H2, I2, pl, el, e2⟩ => ?_)
  subst el e2
  refine thn (po_none.run pins s2 σ H2 (fun o H3 => o = none ∧ H3 = H2) I2 ⟨rfl, rfl⟩) fun vu s3 ⟨u, H3, I3, pu, eu, e3⟩ => ?_
  subst eu e3
  refine thn (hst.run pins s3 σ H3 (fun o H4 => o = some (-1) ∧ H4 = H3) I3 ⟨1, rfl, -1, rfl, rfl, rfl⟩) fun vs s4 ⟨o, H4, I4, ps, eo, e4⟩ => ?_
  subst eo e4
  have I5 : Inv X pins σ H4 { s4 with heap := s4.heap.push { cls := .type "slice", data := .fields #[vl, vu, vs] } } := I4.kept (t' := s4.toks) fun b ob q => Heap.get?_push_of_some _ q
  show wpAny (model X.prog X.w) X.A (subscriptTail e (.Slice none none (some (.UnaryOp .USub (.Constant (.int 1) k p1) p2)) p3) (.ref a) (.ref s4.heap.objs.size)) (EP X pins σ Q) X.xe { s4 with heap := s4.heap.push { cls := .type "slice", data := .fields #[vl, vu, vs] } }
  rcases q with ⟨hx, q⟩ | ⟨hx, q⟩
  · obtain ⟨its, r, ht, hz⟩ := I5.list hx
    have hlen := r.length
    refine tail_any (ops := [.ref a, .ref s4.heap.objs.size]) ht.isList.typeIs (PySem.slot_list_getitem.lookup) ?_ (by with_unfolding_all rfl)
    refine wpAny_getItem_list_slice ht.isList (Heap.IsSliceOf.new _ vl vu vs) pl pu ps (by decide) ?_ (by rw [List.size_toArray]; omega)
    rw [PySem.W.krv_pick]
    refine ⟨.ref _, _, I5.laid (t' := s4.toks) (o := .lst xs.reverse) (fun b ob q => Heap.get?_push_of_some _ q) (Nat.le_refl _) ?_, rfl, q _ (I5.hok.fresh (Nat.le_refl _))⟩
    exact ⟨by rw [List.length_reverse]; exact hz, _, 0, r.reverse, Heap.get?_push_size _ rfl⟩
  · obtain ⟨its, r, ht, hz⟩ := I5.tuple hx
    have hlen := r.length
    refine tail_any (ops := [.ref a, .ref s4.heap.objs.size]) ht.typeIs (PyProof.Rows.slot_tuple_getitem.lookup) ?_ (by with_unfolding_all rfl)
    refine HT.getItem_tuple_rev ht (Heap.IsSliceOf.new _ vl vu vs) pl pu ps ?_ (by omega)
    refine ⟨.ref _, _, I5.laid (t' := s4.toks) (o := .tup xs.reverse) (fun b ob q => Heap.get?_push_of_some _ q) (Nat.le_refl _) ?_, rfl, q _ (I5.hok.fresh (Nat.le_refl _))⟩
    exact ⟨by rw [List.length_reverse]; exact hz, _, r.reverse, IsTup.new _ _⟩
end
end Ev

set_option maxRecDepth 100000
set_option maxHeartbeats 2000000
/-! EvX: texts: a text times a number, repr of a text, .replace of written texts behind a call that a written number goes into. -/
namespace Ev
open PySem PySem.Spec PyProof.Rows L2
/-- a text n times -/
def repS (a : Str) (n : Int) : Str := if n < 1 then Str.empty else if (n == 1 || a.length == 0) = true then a else ⟨(List.replicate n.toNat a.cps).foldl (· ++ ·) #[]⟩
theorem fold_rep (a : Array Nat) : ∀ (n : Nat) (b : Array Nat), ((List.replicate n a).foldl (· ++ ·) b).size = b.size + n * a.size
  | 0, b => by simp
  | n + 1, b => by
    rw [List.replicate_succ, List.foldl_cons, fold_rep a n]
    simp [Nat.succ_mul]; omega
section
variable {X : Cx}
theorem op_mulS : OpR X (binaryOp .Mult) (fun x y H Q => ∃ (a : Str) (n : Int), x = .str a ∧ y = .int n ∧ -(2 ^ 62) ≤ n ∧ n < 2 ^ 62 ∧ a.length * n.toNat ≤ 16777216 ∧ Q (.str (repS a n)) H) := by
  intro pins s σ H x y v u Q I rx ry h
  obtain ⟨a, n, rfl, rfl, h1, h2, h3, q⟩ := h
  obtain ⟨t, rfl⟩ := rx
  obtain ⟨t', rfl⟩ := ry
  refine PySem.P.mul_str ?_ (fun h4 h5 => ?_) (fun h4 h5 => ?_) ?_
  · rw [Bool.or_eq_false_iff]
    exact ⟨decide_eq_false (by omega), decide_eq_false (by omega)⟩
  · have h4' : 1 ≤ n := by omega
    have e : a.length * n.toNat = ((a.length : Int) * n).toNat := by
      obtain ⟨m, rfl⟩ : ∃ m : Nat, n = (m : Int) := ⟨n.toNat, by omega⟩
      simp [← Int.natCast_mul]
    have h6 : (a.length : Int) * n ≤ 16777216 := by
      have : (0 : Int) ≤ (a.length : Int) * n := Int.mul_nonneg (by omega) (by omega)
      omega
    have h7 : (a.length : Int) ≤ (2 ^ 63 - 1) / n := (Int.le_ediv_iff_mul_le (by omega)).mpr (by omega)
    omega
  · exact decide_eq_false (by show ¬ (a.length * n.toNat > 16777216); omega)
  · unfold repS at q
    by_cases h4 : n < 1
    · rw [if_pos h4] at q ⊢
      exact ⟨by decide, ⟨.str _, H, I.tok _, ⟨_, rfl⟩, q⟩⟩
    · rw [if_neg h4] at q ⊢
      by_cases h5 : (n == 1 || a.length == 0) = true
      · rw [if_pos h5] at q ⊢
        exact ⟨.str _, H, I, ⟨_, rfl⟩, q⟩
      · rw [if_neg h5] at q ⊢
        exact ⟨by
          show (Array.size _) ≤ sizeLine
          rw [fold_rep]
          have : a.length = a.cps.size := rfl
          rw [this] at h3
          show 0 + _ ≤ 16777216
          rw [Nat.mul_comm]; omega, ⟨.str _, H, I.tok _, ⟨_, rfl⟩, q⟩⟩
theorem call_repr_str : CallR X (.builtin "repr") (fun xs H Q => ∃ x, xs = [.str x] ∧ (reprText x).length ≤ sizeLine ∧ Q (.str (reprText x)) H) := by
  intro pins s σ H xs us Q I r h
  obtain ⟨i, rfl, hz, q⟩ := h
  obtain ⟨u, rfl, t, rfl⟩ := vals1 r
  exact PySem.P.repr_of_str (hsz := hz) ⟨.str _, H, I.tok _, ⟨_, rfl⟩, q⟩
end
/-! ### a token is out -/
def TK {α : Type} (t : Sem α) : Prop := ∀ (M : Model) (Γ : PySem.Ctx) (Q : α → Pos → Shared → Prop) (E : Value → Pos → Shared → Prop) (p : Pos) (s : Shared), Sem.wp M Γ t Q E p s → Sem.wp M Γ t (fun a p' s' => 1 ≤ s'.toks ∧ Q a p' s') E p s
theorem TK.right {α β : Type} {m : Sem α} {f : α → Sem β} (h : ∀ a, TK (f a)) : TK (m >>= f) := by
  intro M Γ Q E p s hw
  rw [Sem.wp_bind'] at hw ⊢
  exact Sem.wp_mono M Γ m (fun a p' s' q => h a M Γ Q E p' s' q) (fun _ _ _ q => q) p s hw
theorem TK.left {α β : Type} {m : Sem α} {f : α → Sem β} (h : TK m) : TK (m >>= f) := by
  intro M Γ Q E p s hw
  rw [Sem.wp_bind'] at hw ⊢
  refine Sem.wp_mono M Γ m (fun a p' s' q => ?_) (fun _ _ _ q => q) p s (h M Γ _ E p s hw)
  exact Sem.wp_mono M Γ (f a) (fun _ _ _ q => q) (fun _ _ _ q => q.2) p' s' (Sem.wp_toks M Γ 1 (f a) Q E p' s' q.1 q.2)
theorem TK.any {α : Type} {M : Model} {A : Around} {t : Sem α} {Q : α → Shared → Prop} {E : Value → Shared → Prop} {s : Shared} (h : TK t) (w : wpAny M A t Q E s) : wpAny M A t (fun a s' => 1 ≤ s'.toks ∧ Q a s') E s :=
  fun Γ p hΓ => h M Γ _ _ p s (w Γ p hΓ)
theorem tk_int {i k pos env} : TK (eval (.Constant (.int i) k pos) env) := fun M Γ Q E p s h => ⟨Nat.le_add_left 1 s.toks, h⟩
def hasInt : List Expr → Bool
  | [] => false
  | .Constant (.int _) _ _ :: _ => true
  | .Starred .. :: _ => false
  | _ :: r => hasInt r
theorem tk_hold {α : Type} {vs : List Value} {m : Sem α} (h : TK m) : TK (holding vs m) := by
  intro M Γ Q E p s hw
  rw [Sem.wp_holding] at hw ⊢
  exact h M Γ Q E p s hw
theorem tk_spliced {env : PySem.Env} {pos : Pos} : ∀ (xs : List Expr), hasInt xs = true → TK (spliced (backTo pos (starEach xs env)))
  | [], h => by cases h
  | x :: r, h => by
    have key : ∀ (t : Sem Value), (TK t ∨ TK (spliced (backTo pos (starEach r env)))) → TK (spliced ((false, t) :: backTo pos (starEach r env))) := fun t h => by
      rw [spliced]
      rcases h with h | h
      · exact TK.left h
      · refine TK.right fun v => ?_
        simp only [Bool.false_eq_true, if_false]
        exact TK.right fun _ => TK.left (tk_hold h)
    cases x with
    | Constant c k p =>
      cases c with
      | int i => exact key _ (.inl (tk_int (k := k) (pos := p)))
      | _ => exact key _ (.inr (tk_spliced r h))
    | Starred e p => cases h
    | _ => exact key _ (.inr (tk_spliced r h))
def PE1 (X : Cx) (e : Expr) (t : TE) : Prop := ∀ (pins : List (Addr × Obj)) (s : Shared) (σ : L2.St) (H : Hp) (Q : VK), Inv X pins σ H s → t σ H Q → wpAny (model X.prog X.w) X.A (eval e X.env) (fun v s' => 1 ≤ s'.toks ∧ EP X pins σ Q v s') X.xe s
section
variable {X : Cx} {CX : _}
theorem pe_call1 {CX k f fd ps sp x ds dvs E e es t p pos} (F : FnOk X.prog X.w X.K X.mg X.base CX k f fd ps sp) (hr : Room k X.A) (hg : Gl X x) (hm : X.mg x = some (.ref f)) (hk : PySem.W.keepIn X.K (.ref f) = true) (hb : Binds X.K fd ps ds) (hd : Vals dvs ds) (hx : Passes CX X E)
    (ha : PA X (e :: es) t) (hdb : (x == ("__debug__" : Str)) = false) (he : starEach (e :: es) X.env = (false, eval e X.env) :: starEach es X.env) (hpl : (backTo pos (starEach es X.env)).any (·.1) = false) (hi : hasInt (e :: es) = true) :
    PE1 X (.Call (.Name x p) (e :: es) [] pos) (tCall sp dvs E t) := by
  intro pins s σ H Q I h
  refine wpAny_Call_Name_kw (ld_glob I hg hm ?_ hdb)
  refine PySem.W.callWith_K (h₀ := X.base) I.ok.mod.kin hk (thn ((tk_spliced (e :: es) hi).any (ha.run pos pins s σ H _ I h)) fun us s1 ⟨ht, vs, H1, I1, r, q⟩ => ⟨I1.kIn, ?_⟩) he hpl
  exact wpAny_mono (PySem.wpAny_toks_of ht (run_fn F hr hb hd hx I1 r q)) (fun _ _ z => z) fun _ _ z => z.2
theorem pe_repl1 {o : Expr} {to : TE} {y z : Str} {j k c0 c1 apos pos} (ho : PE1 X o to) (hyz : (y == z) = false)
    (hbase : attributeBase o "replace" X.env (eval o X.env) = eval o X.env) (hline : (apos.endLine == pos.line) = true) :
    PE X (.Call (.Attribute o "replace" apos) [.Constant (.str y) j c0, .Constant (.str z) k c1] [] pos) (CwR.tReplC to y z) := by
  refine ⟨fun pins s σ H Q I h => ?_⟩
  refine PySem.Call_method2 hbase (by rfl) hline (thn (ho pins s σ H _ I h) fun v s1 q => ?_)
  obtain ⟨hk, v', H1, I1, r1, x, e1, hb, q⟩ := q
  subst e1
  obtain ⟨tx, e2⟩ := r1
  subst e2
  refine ⟨"str", _, PySem.F.plainAttrs_str, PySem.F.slot_str_replace, PySem.F.type_str_replace, typeIs_str _ _ _, (fun _ e => nomatch e), Calls.callWith_builtin rfl (Calls.evalArgs_plain (Calls.spliced_cons ?_))⟩
  refine Calls.Constant_str (Calls.spliced_cons (Calls.Constant_str (Calls.spliced_nil ?_)))
  exact PySem.SC.replace (by show s1.toks ≠ 0; omega) (by show s1.toks + 1 ≠ 0; omega) (by show s1.toks ≠ s1.toks + 1; omega) hyz hb fun t' k => ⟨.str (Txt.replace x y z), H1, I1.tok k, ⟨t', rfl⟩, q⟩
end
end Ev

set_option maxRecDepth 100000
/-! Ev1: the IR, the data, the evaluator with value semantics. -/
namespace Ev
open PySem L2
/-- the written part of the program that is walked -/
class TheK where
  K : PySem.W.Frag

abbrev D := PyData

/-- what an expression gives: frozen data, or a list that nobody else holds -/
inductive Res where
  | fr (d : D)
  | nw (ds : List D)
def Res.d : Res → D
  | .fr d => d
  | .nw ds => .list ds
/-- lists under lists that nobody else holds: all different; of unknown sharing; of unknown items -/
inductive DK where
  | tree | prv | junk
  deriving DecidableEq

/-- a local name: unset; frozen data; a list of its own; the same while a loop walks it; a borrowed list; a list parameter that may be changed -/
inductive Slot where
  | un
  | fz (d : D)
  | own (ds : List D)
  | lent (ds : List D)
  | bor (ds : List D)
  | mu (ds : List D)
  | ro (ds : List D)
  | dct (kvs : List (Int × D))
  | dtt (kvs : List (List Int × D))
  | dp (k : DK) (d : D)
abbrev Env := List Slot
def Slot.d? : Slot → Option D
  | .un => none
  | .fz d => some d
  | .own ds => some (.list ds)
  | .lent ds => some (.list ds)
  | .bor ds => some (.list ds)
  | .mu ds => some (.list ds)
  | .ro _ => none
  | .dct _ => none
  | .dtt _ => none
  | .dp _ _ => none
/-- .. also the script's list, which is only indexed, measured and walked -/
def Slot.dr? : Slot → Option D
  | .ro ds => some (.list ds)
  | s => s.d?

inductive Bop where
  | add | sub | mul | fdiv | mod | pow
  deriving DecidableEq
inductive Cop where
  | eq | ne | lt | le | gt | ge | inn | nin | is | isn
  deriving DecidableEq
/-- builtins that take values and change nothing -/
inductive Blt where
  | abs | int | str | repr | sum | max | min | max2 | min2 | all | any | sorted | list | tuple | gcd
  deriving DecidableEq
/-- methods that change nothing -/
inductive Mth where
  | count | index
  deriving DecidableEq
/-- methods of texts -/
inductive Tmth where
  | ljust | rjust | strip | rstrip | split | join
  deriving DecidableEq
/-- methods that change a list -/
inductive Cth where
  | append | pop | popAt | insert | extend | remove | reverse
  deriving DecidableEq
inductive Ty where
  | int | bool | str | tuple | list
  deriving DecidableEq

mutual
inductive T where
  | name (i : Nat)
  | tup (ts : Ts)
inductive Ts where
  | nil
  | cons (t : T) (ts : Ts)
end

mutual
inductive E where
  | var (i : Nat) | int (n : Int) | bl (b : Bool) | non | str (s : String)
  | bin (o : Bop) (a b : E) | neg (a : E) | no (a : E)
  | cmp (o : Cop) (a b : E) | cmp2 (o p : Cop) (a b c : E)
  | and (a b : E) | or (a b : E) | ite (c a b : E)
  | idx (a i : E) | slc (a : E) (lo hi : OE) | rvs (a : E)
  | dix (i : Nat) (a b : E) | dlen (i : Nat)
  | dget (i : Nat) (k : E) | din (neg : Bool) (i : Nat) (k : E)
  | tlit (k v : E) | tget (i : Nat) (k d : E) | tcomp (k v : E) (t : T) (it : Wk) (vs : List Nat) | sitm (a : E)
  | tup (es : Es) | lst (es : Es)
  | comp (elt : E) (t : T) (it : Wk) (c : OE) (vs : List Nat)
  | comp2 (elt : E) (t : T) (it : Wk) (c0 : OE) (t1 : T) (it1 : Wk) (c : OE) (vs vs1 : List Nat)
  | setc (srt : Bool) (elt : E) (t : T) (it : Wk) (c : OE) (vs : List Nat)
  | call (f : String) (es : Es)
  | pcall (f : String) (es : Es)
  | blt (b : Blt) (es : Es)
  | isi (a : E) (t : Ty)
  | len (a : E)
  | rngs (t : Bool) (it : Wk)
  | meth (m : Mth) (o a : E)
  | tm (m : Tmth) (o a : E) | repl (f : String) (es : Es) (y z : String)
  | chg (m : Cth) (i : Nat) (es : Es)
inductive OE where
  | none
  | some (e : E)
inductive Wk where
  | seq (e : E) | rng1 (a : E) | rng2 (a b : E) | enm (a : E) | zip (a b : E) | rev (a : E) | rrng1 (a : E) | rrng2 (a b : E) | dwn (a b : E) | itm (a : E)
inductive Es where
  | nil
  | cons (e : E) (es : Es)
end

mutual
inductive S where
  | asg (t : T) (e : E)
  | par (i j : Nat) (a b : E)
  | aug (o : Bop) (i : Nat) (e : E)
  | setIx (i : Nat) (ix e : E)
  | dset (i : Nat) (a b e : E) | dswp (i : Nat) (a b : E)
  | dcomp (i : Nat) (elt : E) (t : T) (it : Wk) (c : OE) (vs : List Nat)
  | dnew (i : Nat) (k v : E) | dput (i : Nat) (k v : E) | rse
  | tcpy (i : Nat) (a : E) | tput (i : Nat) (k v : E)
  | augIx (o : Bop) (i : Nat) (ix e : E)
  | ex (e : E)
  | ret (e : E) | retN | brk | cont | pass
  | ife (c : E) (a b : Ss)
  | whl (fuel : Nat) (c : E) (b : Ss)
  | forr (t : T) (it : Wk) (b : Ss)
inductive Ss where
  | nil
  | cons (s : S) (ss : Ss)
end

/-! ### operations on data -/
def isFlat : D → Bool
  | .none | .bool _ | .int _ | .str _ => true
  | _ => false
def intOf : D → Option Int
  | .int i => some i
  | _ => none
def boolOf : D → Option Bool
  | .bool b => some b
  | _ => none
def seqOf : D → Option (List D)
  | .list ds => some ds
  | .tuple ds => some ds
  | _ => none
def allInts : List D → Option (List Int)
  | [] => some []
  | .int i :: r => (allInts r).map (i :: ·)
  | _ :: _ => none
def allBools : List D → Option (List Bool)
  | [] => some []
  | .bool i :: r => (allBools r).map (i :: ·)
  | _ :: _ => none

instance {i j : Int} : Decidable (CMul i j) := by unfold CMul; exact inferInstance
instance {i j : Int} : Decidable (CMulW i j) := by unfold CMulW; exact inferInstance
instance {i j : Int} : Decidable (CPow i j) := by unfold CPow; exact inferInstance
def dBin : Bop → D → D → Option Res
  | .add, .int i, .int j => some (.fr (.int (i + j)))
  | .add, .str x, .str y => if x.length + y.length ≤ sizeLine then some (.fr (.str (x ++ y))) else none
  | .add, .list x, .list y => if x.length + y.length ≤ sizeLine then some (.nw (x ++ y)) else none
  | .add, .tuple x, .tuple y => if x.length + y.length ≤ sizeLine then some (.fr (.tuple (x ++ y))) else none
  | .sub, .int i, .int j => some (.fr (.int (i - j)))
  | .mul, .int i, .int j => if CMul i j ∨ CMulW i j then some (.fr (.int (i * j))) else none
  | .mul, .str x, .int j => if -(2 ^ 62) ≤ j ∧ j < 2 ^ 62 ∧ x.length * j.toNat ≤ 16777216 then some (.fr (.str (repS x j))) else none
  | .mul, .list x, .int j => if -(2 ^ 63) ≤ j ∧ j < 2 ^ 63 ∧ x.length * j.toNat ≤ sizeLine then some (.nw (List.replicate j.toNat x).flatten) else none
  | .fdiv, .int i, .int j => if j ≠ 0 ∧ j.natAbs.log2 < 9000 then some (.fr (.int (i.fdiv j))) else none
  | .mod, .int i, .int j => if j ≠ 0 then some (.fr (.int (i.fmod j))) else none
  | .pow, .int i, .int j => if CPow i j then some (.fr (.int (i ^ j.toNat))) else none
  | _, _, _ => none

def maxI : Int → List Int → Int
  | m, [] => m
  | m, x :: r => maxI (if x > m then x else m) r
def minI : Int → List Int → Int
  | m, [] => m
  | m, x :: r => minI (if x < m then x else m) r
def insI (x : Int) : List Int → List Int
  | [] => [x]
  | y :: r => if x ≤ y then x :: y :: r else y :: insI x r
def sortI : List Int → List Int
  | [] => []
  | x :: r => insI x (sortI r)
def lexLtI : List Int → List Int → Bool := HT.lexLt
/-! no dict in it -/
mutual
def noDct : D → Bool
  | .none => true
  | .bool _ => true
  | .int _ => true
  | .str _ => true
  | .list ds => noDcts ds
  | .tuple ds => noDcts ds
  | .dict _ => false
def noDcts : List D → Bool
  | [] => true
  | d :: ds => noDct d && noDcts ds
end
/-! the order of data that are alike -/
def ordOk (d e : D) : Bool := PySem.W.alike d e && decide (min d.depth e.depth ≤ 60) && (match d with | .none => false | _ => true) && noDct d && noDct e
def ordC (d e : D) (b : Bool) : Option Bool := if ordOk d e = true then some b else none
def insD (x : D) : List D → List D
  | [] => [x]
  | y :: r => if PySem.W.dataLt y x = true then y :: insD x r else x :: y :: r
def sortD : List D → List D
  | [] => []
  | x :: r => insD x (sortD r)
def notTupD : D → Bool
  | .tuple _ => false
  | .none => false
  | _ => true
def tupD1 : D → Bool
  | .tuple (_ :: _) => true
  | _ => false
def alikeB (xs : List D) : Bool := xs.all fun d => xs.all fun e => PySem.W.alike d e
def sortOk (xs : List D) : Bool := alikeB xs && (xs.all fun d => decide (d.depth ≤ 60)) && (xs.all tupD1 || xs.all notTupD)
def sortG (xs : List D) : Option Res := if sortOk xs = true then some (.nw (sortD xs)) else if xs.length < 2 then some (.nw xs) else none
def mmOk (xs : List D) : Bool := alikeB xs && decide (PyData.depthAll xs ≤ 60) && (xs.all fun d => match d with | .none => false | _ => true)
def srtR : Option (List Int) → List D → Option Res
  | some ns, _ => some (.nw ((sortI ns).map .int))
  | none, xs => sortG xs
def mxR : Option (List Int) → List D → Option Res
  | some [], _ => none
  | some (x :: r), _ => some (.fr (.int (maxI x r)))
  | none, [] => none
  | none, x :: r => if mmOk (x :: r) = true then some (.fr (PySem.W.maxD x r)) else none
def mnR : Option (List Int) → List D → Option Res
  | some [], _ => none
  | some (x :: r), _ => some (.fr (.int (minI x r)))
  | none, [] => none
  | none, x :: r => if mmOk (x :: r) = true then some (.fr (PySem.W.minD x r)) else none
def dCmp : Cop → D → D → Option Bool
  | .lt, .int i, .int j => some (decide (i < j))
  | .le, .int i, .int j => some (decide (i ≤ j))
  | .gt, .int i, .int j => some (decide (j < i))
  | .ge, .int i, .int j => some (decide (j ≤ i))
  | .lt, d, e => ordC d e (PySem.W.dataLt d e)
  | .gt, d, e => ordC d e (PySem.W.dataLt e d)
  | .le, d, e => ordC d e (!PySem.W.dataLt e d)
  | .ge, d, e => ordC d e (!PySem.W.dataLt d e)
  | .eq, d, e => if SeqAt.shaped d && SeqAt.shaped e then some (PyData.eqv d e) else none
  | .ne, d, e => if SeqAt.shaped d && SeqAt.shaped e then some (!PyData.eqv d e) else none
  | .inn, d, .list ds => if SeqAt.shaped d && SeqAt.shaped (.list ds) then some (ds.any fun z => PyData.eqv z d) else none
  | .nin, d, .list ds => if SeqAt.shaped d && SeqAt.shaped (.list ds) then some (!ds.any fun z => PyData.eqv z d) else none
  | .inn, d, .tuple ds => if isFlat d && ds.all isFlat then some (ds.any fun z => PyData.eqv z d) else none
  | .nin, d, .tuple ds => if isFlat d && ds.all isFlat then some (!ds.any fun z => PyData.eqv z d) else none
  | .is, d, .none => some (match d with | .none => true | _ => false)
  | .isn, d, .none => some (match d with | .none => false | _ => true)
  | .is, d, .bool b => some (match d with | .bool c => b == c | _ => false)
  | .isn, d, .bool b => some (match d with | .bool c => b != c | _ => true)
  | _, _, _ => none

def dIdx : D → D → Option D
  | .list xs, .int i => atI xs i
  | .tuple xs, .int i => atI xs i
  | .str z, .int i => if z.length ≤ sizeLine then (atI z.cps.toList i).map fun c => .str ⟨#[c]⟩ else none
  | _, _ => none
def cutD (xs : List D) (lo hi : Option Int) : List D := (xs.drop (HT.sIx xs.length 0 lo)).take (HT.sIx xs.length xs.length hi - HT.sIx xs.length 0 lo)
def dSlc : D → Option Int → Option Int → Option Res
  | .list xs, lo, hi => some (.nw (cutD xs lo hi))
  | .tuple xs, lo, hi => some (.fr (.tuple (cutD xs lo hi)))
  | .str z, lo, hi => if z.length ≤ sizeLine then some (.fr (.str (cutS z lo hi))) else none
  | _, _, _ => none

def dRev : D → Option Res
  | .list xs => some (.nw xs.reverse)
  | .tuple xs => some (.fr (.tuple xs.reverse))
  | _ => none
def dLen : D → Option D
  | .list xs => some (.int xs.length)
  | .tuple xs => some (.int xs.length)
  | .str z => if z.length ≤ sizeLine then some (.int z.length) else none
  | _ => none
def dBlt : Blt → List D → Option Res
  | .abs, [.int i] => some (.fr (.int i.natAbs))
  | .int, [.int i] => some (.fr (.int i))
  | .int, [.bool b] => some (.fr (.int (if b then 1 else 0)))
  | .str, [.int i] => if i.natAbs.log2 < 1920 then some (.fr (.str (toString i))) else none
  | .repr, [.int i] => if i.natAbs.log2 < 1920 then some (.fr (.str (toString i))) else none
  | .repr, [.str x] => if (reprText x).length ≤ sizeLine then some (.fr (.str (reprText x))) else none
  | .sum, [.list xs] => (allInts xs).map fun ns => .fr (.int ns.sum)
  | .sum, [.tuple xs] => (allInts xs).map fun ns => .fr (.int ns.sum)
  | .max, [.list xs] => mxR (allInts xs) xs
  | .min, [.list xs] => mnR (allInts xs) xs
  | .max, [.tuple xs] => mxR (allInts xs) xs
  | .min, [.tuple xs] => mnR (allInts xs) xs
  | .max2, [.int i, .int j] => some (.fr (.int (if j > i then j else i)))
  | .min2, [.int i, .int j] => some (.fr (.int (if j < i then j else i)))
  | .all, [.list xs] => (allBools xs).map fun bs => .fr (.bool (bs.all id))
  | .any, [.list xs] => (allBools xs).map fun bs => .fr (.bool (bs.any id))
  | .sorted, [.list xs] => srtR (allInts xs) xs
  | .sorted, [.tuple xs] => (allInts xs).map fun ns => .nw ((sortI ns).map .int)
  | .list, [.list xs] => some (.nw xs)
  | .list, [.tuple xs] => some (.nw xs)
  | .tuple, [.list xs] => some (.fr (.tuple xs))
  | .tuple, [.tuple xs] => some (.fr (.tuple xs))
  | .gcd, [.int a, .int b] => some (.fr (.int (Nat.gcd a.natAbs b.natAbs : Nat)))
  | _, _ => none

def pairD (xs ys : List D) : List D := (xs.zip ys).map fun p => .tuple [p.1, p.2]
def enumD (xs : List D) : List D := xs.zipIdx.map fun p => .tuple [.int (p.2 : Nat), p.1]
def rngD (a b : Int) : List D := (List.range (b - a).toNat).map fun (i : Nat) => .int (a + i)
def dwnD (a b : Int) : List D := (List.range (a - b).toNat).map fun (i : Nat) => .int (a - i)
def tyIs : Ty → D → Bool
  | .int, .int _ => true
  | .int, .bool _ => true
  | .bool, .bool _ => true
  | .str, .str _ => true
  | .tuple, .tuple _ => true
  | .list, .list _ => true
  | _, _ => false

def countD (d : D) (xs : List D) : Nat := (xs.filter fun z => PyData.eqv z d).length
def indexD (d : D) : List D → Option Nat
  | [] => none
  | x :: r => if PyData.eqv x d then some 0 else (indexD d r).map (· + 1)
def dMth : Mth → D → D → Option D
  | .count, .list xs, .int i => (allInts xs).map fun ns => .int (ns.count i)
  | .index, .list xs, d => if SeqAt.shaped d && SeqAt.shaped (.list xs) then (indexD d xs).map fun n => .int n else none
  | _, _, _ => none
def allStrs : List D → Option (List Str)
  | [] => some []
  | .str i :: r => (allStrs r).map (i :: ·)
  | _ :: _ => none
def joinR (x : Str) : Option (List Str) → Option Res
  | some ys => if (ys.map (·.length)).sum + ys.length * x.length ≤ 16777216 then some (.fr (.str (Txt.join x ys))) else none
  | none => none
def dTm : Tmth → D → D → Option Res
  | .ljust, .str x, .int i => if PadOk i = true then some (.fr (.str (Txt.ljust x i))) else none
  | .rjust, .str x, .int i => if PadOk i = true then some (.fr (.str (Txt.rjust x i))) else none
  | .strip, .str x, .str y => if x.length ≤ sizeLine then some (.fr (.str (Txt.stripChars x y))) else none
  | .rstrip, .str x, .str y => if x.length ≤ sizeLine then some (.fr (.str (Txt.rstripChars x y))) else none
  | .split, .str x, .str y => if (y.length == 0) = false ∧ x.length + 2 ≤ sizeLine then some (.nw ((Txt.split x y).map .str)) else none
  | .join, .str x, .list ds => joinR x (allStrs ds)
  | .join, .str x, .tuple ds => joinR x (allStrs ds)
  | _, _, _ => none
def dRepl (y z : String) : D → Option Res
  | .str x => if (Str.ofString y == Str.ofString z) = false ∧ x.length + (x.length + 1) * (Str.ofString z).length ≤ 16777216 then some (.fr (.str (Txt.replace x (Str.ofString y) (Str.ofString z)))) else none
  | _ => none
/-- the list behind a change, and the answer -/
def dChg : Cth → List D → List D → Option (List D × D)
  | .append, xs, [d] => if xs.length < sizeLine then some (xs ++ [d], .none) else none
  | .pop, xs, [] => match xs.getLast? with | none => none | some z => some (xs.dropLast, z)
  | .popAt, xs, [.int i] => (ixN xs.length i).bind fun j => (xs[j]?).map fun z => (xs.eraseIdx j, z)
  | .insert, xs, [.int i, d] => if 0 ≤ i ∧ i < 2 ^ 63 ∧ xs.length < sizeLine then some (xs.take i.toNat ++ [d] ++ xs.drop i.toNat, .none) else none
  | .extend, xs, [.list ys] => if xs.length + ys.length ≤ sizeLine then some (xs ++ ys, .none) else none
  | .remove, xs, [d] => if SeqAt.shaped d && SeqAt.shaped (.list xs) then (indexD d xs).map fun j => (xs.eraseIdx j, .none) else none
  | .reverse, xs, [] => some (xs.reverse, .none)
  | _, _, _ => none

/-- the different ones -/
def dd : List Int → List Int
  | [] => []
  | x :: r => if x ∈ r then dd r else x :: dd r
/-- a set of whole numbers, sorted or measured -/
def setR (srt : Bool) (r : List D) : Option Res := match allInts r with
  | none => none
  | some ns => if ns.length < 4095 then (match srt with
    | true => if (dd ns).length < 64 then some (.nw ((sortI (dd ns)).map .int)) else none
    | false => some (.fr (.int ((dd ns).length : Nat)))) else none

/-! ### the evaluator -/
inductive PK where
  | B | I | M
  deriving DecidableEq
abbrev Fn := List Slot → Option (Res × List (List D))
abbrev FT := String → Option (List PK × Fn)

inductive Opd where
  | v (d : D)
  | sl (i : Nat)
def rd (ρ : Env) (i : Nat) : Option D := match ρ[i]? with
  | some s => s.d?
  | none => none
def rdr (ρ : Env) (i : Nat) : Option D := match ρ[i]? with
  | some s => s.dr?
  | none => none
def Opd.getR (ρ : Env) : Opd → Option D
  | .v d => some d
  | .sl i => rdr ρ i
def Opd.get (ρ : Env) : Opd → Option D
  | .v d => some d
  | .sl i => rd ρ i
def opd (a : E) (eva : Env → Option (Res × Env)) (ρ : Env) : Option (Opd × Env) := match a with
  | .var i => match ρ[i]? with
    | some (.fz d) => some (.v d, ρ)
    | some .un => none
    | some (.dp .tree d) => some (.v d, ρ.set i (.fz d))
    | some (.dp .prv d) => some (.v d, ρ.set i (.fz d))
    | some _ => some (.sl i, ρ)
    | none => none
  | _ => match eva ρ with
    | some (r, ρ') => some (.v r.d, ρ')
    | none => none
def freeze (i : Nat) (ρ : Env) : Option (Res × Env) := match ρ[i]? with
  | some (.fz d) => some (.fr d, ρ)
  | some (.own ds) => some (.fr (.list ds), ρ.set i (.fz (.list ds)))
  | some (.lent ds) => some (.fr (.list ds), ρ.set i (.fz (.list ds)))
  | some (.dp .tree d) => some (.fr d, ρ.set i (.fz d))
  | some (.dp .prv d) => some (.fr d, ρ.set i (.fz d))
  | _ => none
def slotOf : Res → Slot
  | .fr d => .fz d
  | .nw ds => .own ds
def put (i : Nat) (s : Slot) (ρ : Env) : Option Env := match ρ[i]? with
  | some (.mu _) => none
  | some _ => some (ρ.set i s)
  | none => none
mutual
def asgT : T → D → Env → Option Env
  | .name i, d, ρ => put i (.fz d) ρ
  | .tup ts, .tuple ds, ρ => asgTs ts ds ρ
  | .tup _, _, _ => none
def asgTs : Ts → List D → Env → Option Env
  | .nil, [], ρ => some ρ
  | .cons t ts, d :: ds, ρ => match asgT t d ρ with
    | some ρ1 => asgTs ts ds ρ1
    | none => none
  | _, _, _ => none
end
def asgR : T → Res → Env → Option Env
  | .name i, r, ρ => put i (slotOf r) ρ
  | t, r, ρ => asgT t r.d ρ

/-- while a loop walks a list of one's own it may not be changed -/
def lendL : List Nat → Env → Env
  | [], ρ => ρ
  | i :: r, ρ => match ρ[i]? with
    | some (.own ds) => lendL r (ρ.set i (.lent ds))
    | _ => lendL r ρ
/-- a parameter that may be changed is not walked -/
def noMu (o : Opd) (ρ : Env) : Bool := match o with
  | .v _ => true
  | .sl i => match ρ[i]? with
    | some (.mu _) => false
    | _ => true
def lends (o : Opd) (ρ : Env) : List Nat := match o with
  | .v _ => []
  | .sl i => match ρ[i]? with
    | some (.own ds) => [i]
    | _ => []
def unlend : List Nat → Env → Env
  | [], ρ => ρ
  | i :: r, ρ => match ρ[i]? with
    | some (.lent ds) => unlend r (ρ.set i (.own ds))
    | _ => unlend r ρ
def wipeE (vs : List Nat) (ρ : Env) : Env := match vs with
  | [] => ρ
  | v :: r => (wipeE r ρ).set v .un
def quietS : Slot → Bool
  | .un => true
  | .fz _ => true
  | _ => false
def backE (vs : List Nat) (ρ0 ρ : Env) : Env := match vs with
  | [] => ρ
  | v :: r => match ρ0[v]? with
    | some s => (backE r ρ0 ρ).set v s
    | none => backE r ρ0 ρ
def compL (step : D → Env → Option (Option D × Env)) : List D → Env → Option (List D × Env)
  | [], ρ => some ([], ρ)
  | d :: ds, ρ => match step d ρ with
    | none => none
    | some (o, ρ1) => match compL step ds ρ1 with
      | none => none
      | some (r, ρ2) => some ((match o with | some y => y :: r | none => r), ρ2)
def compL2 (step : D → Env → Option (List D × Env)) : List D → Env → Option (List D × Env)
  | [], ρ => some ([], ρ)
  | d :: ds, ρ => match step d ρ with
    | none => none
    | some (o, ρ1) => match compL2 step ds ρ1 with
      | none => none
      | some (r, ρ2) => some (o ++ r, ρ2)
/-- an argument as the callee sees it -/
def argOf (ρ : Env) : PK → Opd → Option Slot
  | .B, .v d => some (.fz d)
  | .B, .sl i => match ρ[i]? with
    | some (.fz d) => some (.fz d)
    | some (.own ds) => some (.bor ds)
    | some (.lent ds) => some (.bor ds)
    | some (.bor ds) => some (.bor ds)
    | some (.mu ds) => some (.bor ds)
    | some (.ro ds) => some (.ro ds)
    | _ => none
  | .I, .v d => some (.fz d)
  | .I, .sl _ => none
  | .M, .v _ => none
  | .M, .sl i => match ρ[i]? with
    | some (.own ds) => some (.mu ds)
    | some (.mu ds) => some (.mu ds)
    | _ => none
def argsOf (ρ : Env) : List PK → List Opd → Option (List Slot)
  | [], [] => some []
  | k :: ks, o :: os => match argOf ρ k o with
    | none => none
    | some s => match argsOf ρ ks os with
      | none => none
      | some ss => some (s :: ss)
  | _, _ => none
/-- the slots that are handed over to be changed -/
def muts : List PK → List Opd → List Nat
  | .M :: ks, .sl i :: os => i :: muts ks os
  | _ :: ks, _ :: os => muts ks os
  | _, _ => []
/-- what is handed over to be changed is handed over once -/
def okPair (p p' : PK × Opd) : Bool := match p.2, p'.2 with
  | .sl i, .sl j => if p.1 = .M ∨ p'.1 = .M then i != j else true
  | _, _ => true
def apartB (ks : List PK) (os : List Opd) : Bool := decide ((ks.zip os).Pairwise fun p p' => okPair p p' = true)
def outsIn : List Nat → List (List D) → Env → Option Env
  | [], [], ρ => some ρ
  | i :: is, ds :: r, ρ => match ρ[i]? with
    | some (.own _) => outsIn is r (ρ.set i (.own ds))
    | some (.mu _) => outsIn is r (ρ.set i (.mu ds))
    | _ => none
  | _, _, _ => none

def isLB : Option D → Bool
  | some (.list _) => true
  | _ => false
/-! ### a dict of one's own, by ints -/
def kvGet (kvs : List (Int × D)) (k : Int) : Option D := (kvs.find? fun p => decide (p.1 = k)).map (·.2)
def kvPut (kvs : List (Int × D)) (k : Int) (d : D) : List (Int × D) :=
  if (kvs.any fun p => decide (p.1 = k)) = true then kvs.map (fun p => if p.1 = k then (p.1, d) else p) else kvs ++ [(k, d)]
def dctB (ρ : Env) (i : Nat) : Bool := match ρ[i]? with
  | some (.dct _) => true
  | _ => false
def dGetS (ρ : Env) (i : Nat) (k : Int) : Option D := match ρ[i]? with
  | some (.dct kvs) => kvGet kvs k
  | _ => none
def dInS (ρ : Env) (i : Nat) (k : Int) : Option Bool := match ρ[i]? with
  | some (.dct kvs) => some (kvGet kvs k).isSome
  | _ => none
def dPutS (ρ : Env) (i : Nat) (k : Int) (d : D) : Option Env := match ρ[i]? with
  | some (.dct kvs) => if kvs.length < sizeLine then some (ρ.set i (.dct (kvPut kvs k d))) else none
  | _ => none
/-! ### dicts whose keys are tuples of ints -/
def tupI (k : List Int) : D := .tuple (k.map .int)
def dictD (kvs : List (List Int × D)) : D := .dict (kvs.map fun p => (tupI p.1, p.2))
def keyD : D → Option (List Int)
  | .tuple xs => allInts xs
  | _ => none
def kvsD : List (D × D) → Option (List (List Int × D))
  | [] => some []
  | (k, v) :: r => match keyD k with
    | some ks => (kvsD r).map ((ks, v) :: ·)
    | none => none
def dictOf : D → Option (List (List Int × D))
  | .dict r => kvsD r
  | _ => none
def tGet (kvs : List (List Int × D)) (k : List Int) : Option D := (kvs.find? fun p => decide (p.1 = k)).map (·.2)
def tPut (kvs : List (List Int × D)) (k : List Int) (d : D) : List (List Int × D) :=
  if (kvs.any fun p => decide (p.1 = k)) = true then kvs.map (fun p => if p.1 = k then (p.1, d) else p) else kvs ++ [(k, d)]
def tPairs (kvs : List (List Int × D)) : List D := kvs.map fun p => .tuple [tupI p.1, p.2]
/-- the hash of a key -/
def hsI (k : List Int) : Int := PySem.reduceHash (Builtin.Tuple.tupleHashOf (k.map hashInt))
def hashOk (kvs : List (List Int × D)) : Bool := decide ((kvs.map fun p => hsI p.1).Nodup)
def dttB (ρ : Env) (i : Nat) : Bool := match ρ[i]? with
  | some (.dtt _) => true
  | _ => false
def tGetS (ρ : Env) (i : Nat) (k : List Int) (d : D) : Option D := match ρ[i]? with
  | some (.dtt kvs) => some ((tGet kvs k).getD d)
  | _ => none
def tPutS (ρ : Env) (i : Nat) (k : List Int) (d : D) : Option Env := match ρ[i]? with
  | some (.dtt kvs) => if kvs.length < sizeLine then some (ρ.set i (.dtt (tPut kvs k d))) else none
  | _ => none
def tlitR (k : D) (v : D) : Option Res := match keyD k with
  | some ks => some (.fr (dictD [(ks, v)]))
  | none => none
def sitmR (d : D) : Option Res := match dictOf d with
  | some kvs => if sortOk (tPairs kvs) = true then some (.nw (sortD (tPairs kvs))) else none
  | none => none
/-- a dict's comprehension -/
def tcompL (step : D → Env → Option ((D × D) × Env)) : List D → List (List Int × D) → Env → Option (List (List Int × D) × Env)
  | [], acc, ρ => some (acc, ρ)
  | d :: ds, acc, ρ => match step d ρ with
    | none => none
    | some ((k, v), ρ1) => match keyD k with
      | none => none
      | some ks => if acc.length < sizeLine then tcompL step ds (tPut acc ks v) ρ1 else none
/-! what may be looked at without being frozen -/
mutual
def pk (ρ : Env) : E → Option D
  | .var i => rd ρ i
  | .int n => some (.int n)
  | .tup es => match pks ρ es with
    | some ds => if ds.length ≤ sizeLine then some (.tuple ds) else none
    | none => none
  | _ => none
def pks (ρ : Env) : Es → Option (List D)
  | .nil => some []
  | .cons e es => match pk ρ e with
    | some d => match pks ρ es with
      | some ds => some (d :: ds)
      | none => none
    | none => none
end
def notM : PK → Bool
  | .M => false
  | _ => true
/-- what such a call gives: flat data -/
def flatO (ρ : Env) : Option (Res × List (List D)) → Option (Res × Env)
  | some (.fr d, []) => if isFlat d = true then some (.fr d, ρ) else none
  | _ => none
/-! ### lists under lists -/
mutual
def noL : D → Bool
  | .none => true
  | .bool _ => true
  | .int _ => true
  | .str _ => true
  | .list _ => false
  | .tuple ds => noLs ds
  | .dict _ => false
def noLs : List D → Bool
  | [] => true
  | d :: ds => noL d && noLs ds
end
def rowB : D → Bool
  | .list es => noLs es
  | _ => false
/-- an index that is only looked at -/
def pixV (ρ : Env) (j : Nat) : Option Int := match ρ[j]? with
  | some (.fz (.int k)) => some k
  | _ => none
def pix (ρ : Env) : E → Option Int
  | .int n => some n
  | .var j => pixV ρ j
  | .idx (.var j) (.int n) => match rd ρ j with
    | some (.list ds) => match atI ds n with
      | some (.int k) => some k
      | _ => none
    | _ => none
  | .bin .add (.var j) (.int n) => match pixV ρ j with
    | some k => some (k + n)
    | none => none
  | .bin .sub (.var j) (.int n) => match pixV ρ j with
    | some k => some (k - n)
    | none => none
  | _ => none
def pxB : E → Bool
  | .int _ => true
  | .var _ => true
  | .idx (.var _) (.int _) => true
  | .bin .add (.var _) (.int _) => true
  | .bin .sub (.var _) (.int _) => true
  | _ => false
def treeAt (ρ : Env) (i : Nat) : Option (List D) := match ρ[i]? with
  | some (.dp .tree (.list ds)) => some ds
  | _ => none
def rowAt (ds : List D) : Option Int → Option (Nat × List D)
  | none => none
  | some k => match ixN ds.length k with
    | none => none
    | some n => match ds[n]? with
      | some (.list es) => some (n, es)
      | _ => none
def cellAt (es : List D) : Option Int → Option (Nat × D)
  | none => none
  | some k => match ixN es.length k with
    | none => none
    | some n => match es[n]? with
      | some d => some (n, d)
      | none => none
def dixG (ρ : Env) (i : Nat) (a b : E) : Option D := match treeAt ρ i with
  | none => none
  | some ds => match rowAt ds (pix ρ a) with
    | none => none
    | some (_, es) => match cellAt es (pix ρ b) with
      | none => none
      | some (_, d) => some d
def dlenG (ρ : Env) (i : Nat) : Option D := match treeAt ρ i with
  | none => none
  | some ds => some (.int ds.length)
def dsetG (ρ : Env) (i : Nat) (a b : E) (d : D) : Option Env := match treeAt ρ i with
  | none => none
  | some ds => match rowAt ds (pix ρ a) with
    | none => none
    | some (n, es) => match cellAt es (pix ρ b) with
      | none => none
      | some (j, _) => if noL d = true then some (ρ.set i (.dp .tree (.list (ds.set n (.list (es.set j d)))))) else none
def dswpG (ρ : Env) (i : Nat) (a b : E) : Option Env := match treeAt ρ i with
  | none => none
  | some ds => match cellAt ds (pix (ρ.set i .un) a) with
    | none => none
    | some (n, d) => match cellAt ds (pix (ρ.set i .un) b) with
      | none => none
      | some (m, e) => some (ρ.set i (.dp .tree (.list ((ds.set n e).set m d))))
inductive Out where
  | next | brk | cont | ret (r : Res)

mutual
def ev (F : FT) : E → Env → Option (Res × Env)
  | .var i, ρ => freeze i ρ
  | .int n, ρ => some (.fr (.int n), ρ)
  | .bl b, ρ => some (.fr (.bool b), ρ)
  | .non, ρ => some (.fr .none, ρ)
  | .str s, ρ => some (.fr (.str (Str.ofString s)), ρ)
  | .bin o a b, ρ => match opd a (ev F a) ρ with
    | none => none
    | some (oa, ρ1) => match opd b (ev F b) ρ1 with
      | none => none
      | some (ob, ρ2) => match oa.get ρ2, ob.get ρ2 with
        | some da, some db => (dBin o da db).map fun r => (r, ρ2)
        | _, _ => none
  | .neg a, ρ => match ev F a ρ with
    | some (.fr (.int i), ρ1) => some (.fr (.int (-i)), ρ1)
    | _ => none
  | .no a, ρ => match ev F a ρ with
    | some (.fr (.bool i), ρ1) => some (.fr (.bool (!i)), ρ1)
    | _ => none
  | .cmp o a b, ρ => match opd a (ev F a) ρ with
    | none => none
    | some (oa, ρ1) => match opd b (ev F b) ρ1 with
      | none => none
      | some (ob, ρ2) => match oa.get ρ2, ob.get ρ2 with
        | some da, some db => (dCmp o da db).map fun r => (.fr (.bool r), ρ2)
        | _, _ => none
  | .cmp2 o p a b c, ρ => match ev F a ρ with
    | none => none
    | some (ra, ρ1) => match ev F b ρ1 with
      | none => none
      | some (rb, ρ2) => match dCmp o ra.d rb.d with
        | none => none
        | some false => some (.fr (.bool false), ρ2)
        | some true => match ev F c ρ2 with
          | none => none
          | some (rc, ρ3) => (dCmp p rb.d rc.d).map fun r => (.fr (.bool r), ρ3)
  | .and a b, ρ => match ev F a ρ with
    | some (.fr (.bool false), ρ1) => some (.fr (.bool false), ρ1)
    | some (.fr (.bool true), ρ1) => ev F b ρ1
    | _ => none
  | .or a b, ρ => match ev F a ρ with
    | some (.fr (.bool true), ρ1) => some (.fr (.bool true), ρ1)
    | some (.fr (.bool false), ρ1) => ev F b ρ1
    | _ => none
  | .ite c a b, ρ => match ev F c ρ with
    | some (.fr (.bool true), ρ1) => ev F a ρ1
    | some (.fr (.bool false), ρ1) => ev F b ρ1
    | _ => none
  | .idx a i, ρ => match opd a (ev F a) ρ with
    | none => none
    | some (oa, ρ1) => match ev F i ρ1 with
      | none => none
      | some (ri, ρ2) => match oa.getR ρ2 with
        | some da => (dIdx da ri.d).map fun d => (.fr d, ρ2)
        | none => none
  | .slc a lo hi, ρ => match opd a (ev F a) ρ with
    | none => none
    | some (oa, ρ1) => match evO F lo ρ1 with
      | none => none
      | some (l, ρ2) => match evO F hi ρ2 with
        | none => none
        | some (h, ρ3) => match oa.get ρ3 with
          | some da => (dSlc da l h).map fun r => (r, ρ3)
          | none => none
  | .dix i a b, ρ => match dixG ρ i a b with
    | some d => some (.fr d, ρ)
    | none => none
  | .dlen i, ρ => match dlenG ρ i with
    | some d => some (.fr d, ρ)
    | none => none
  | .dget i k, ρ => match dctB ρ i with
    | false => none
    | true => match ev F k ρ with
      | some (.fr (.int j), ρ1) => (dGetS ρ1 i j).map fun d => (.fr d, ρ1)
      | _ => none
  | .din neg i k, ρ => match ev F k ρ with
    | some (.fr (.int j), ρ1) => (dInS ρ1 i j).map fun b => (.fr (.bool (neg != b)), ρ1)
    | _ => none
  | .tlit k v, ρ => match ev F k ρ with
    | none => none
    | some (rk, ρ1) => match ev F v ρ1 with
      | none => none
      | some (rv, ρ2) => (tlitR rk.d rv.d).map fun r => (r, ρ2)
  | .tget i k d, ρ => match dttB ρ i with
    | false => none
    | true => match ev F k ρ with
      | none => none
      | some (rk, ρ1) => match keyD rk.d with
        | none => none
        | some ks => match ev F d ρ1 with
          | none => none
          | some (rd, ρ2) => (tGetS ρ2 i ks rd.d).map fun x => (.fr x, ρ2)
  | .tcomp k v t it vs, ρ => match evI F it ρ with
    | none => none
    | some (ds, ρ0, ls) => if (vs.all fun v => match (lendL ls ρ0)[v]? with | some s => quietS s | none => false) = false then none else
      match tcompL (fun d ρ => match asgT t d ρ with
        | none => none
        | some ρa => match ev F k ρa with
          | none => none
          | some (rk, ρb) => match ev F v ρb with
            | none => none
            | some (rv, ρc) => some ((rk.d, rv.d), wipeE vs ρc)) ds [] (wipeE vs (lendL ls ρ0)) with
      | none => none
      | some (r, ρ2) => some (.fr (dictD r), unlend ls (backE vs (lendL ls ρ0) ρ2))
  | .tm m o a, ρ => match ev F o ρ with
    | none => none
    | some (ro, ρ1) => match opd a (ev F a) ρ1 with
      | none => none
      | some (oa, ρ2) => match oa.get ρ2 with
        | some d => (dTm m ro.d d).map fun r => (r, ρ2)
        | none => none
  | .repl f es y z, ρ => match F f with
    | none => none
    | some (ks, fn) => match evA F ks es ρ with
      | none => none
      | some (os, ρ1) => if apartB ks os = false then none else
        match argsOf ρ1 ks os with
        | none => none
        | some ss => match fn ss with
          | none => none
          | some (r, outs) => match outsIn (muts ks os) outs ρ1 with
            | none => none
            | some ρ2 => (dRepl y z r.d).map fun r => (r, ρ2)
  | .sitm a, ρ => match ev F a ρ with
    | none => none
    | some (ra, ρ1) => (sitmR ra.d).map fun r => (r, ρ1)
  | .rvs a, ρ => match opd a (ev F a) ρ with
    | none => none
    | some (oa, ρ1) => match oa.get ρ1 with
      | some d => (dRev d).map fun r => (r, ρ1)
      | none => none
  | .tup es, ρ => match evs F es ρ with
    | none => none
    | some (ds, ρ1) => if ds.length ≤ sizeLine then some (.fr (.tuple ds), ρ1) else none
  | .lst es, ρ => match evs F es ρ with
    | none => none
    | some (ds, ρ1) => if ds.length ≤ sizeLine then some (.nw ds, ρ1) else none
  | .comp elt t it c vs, ρ => match evI F it ρ with
    | none => none
    | some (ds, ρ0, ls) => if (vs.all fun v => match (lendL ls ρ0)[v]? with | some s => quietS s | none => false) = false then none else
      match compL (fun d ρ => match asgT t d ρ with
        | none => none
        | some ρa => match evC F c ρa with
          | none => none
          | some (false, ρb) => some (none, wipeE vs ρb)
          | some (true, ρb) => match ev F elt ρb with
            | none => none
            | some (r, ρc) => some (some r.d, wipeE vs ρc)) ds (wipeE vs (lendL ls ρ0)) with
      | none => none
      | some (r, ρ2) => some (.nw r, unlend ls (backE vs (lendL ls ρ0) ρ2))
  | .comp2 elt t it c0 t1 it1 c vs vs1, ρ => match evI F it ρ with
    | none => none
    | some (ds, ρ0, ls) => if (vs.all fun v => match (lendL ls ρ0)[v]? with | some s => quietS s | none => false) = false then none else
      match compL2 (fun d ρ => match asgT t d ρ with
        | none => none
        | some ρa => match evC F c0 ρa with
          | none => none
          | some (false, ρb) => some ([], wipeE vs ρb)
          | some (true, ρb) => match evI F it1 ρb with
            | some (ds1, ρ1, []) => if (vs1.all fun v => match ρ1[v]? with | some s => quietS s | none => false) = false then none else
              match compL (fun d ρ => match asgT t1 d ρ with
                | none => none
                | some ρa => match evC F c ρa with
                  | none => none
                  | some (false, ρb) => some (none, wipeE vs1 ρb)
                  | some (true, ρb) => match ev F elt ρb with
                    | none => none
                    | some (r, ρc) => some (some r.d, wipeE vs1 ρc)) ds1 (wipeE vs1 ρ1) with
              | none => none
              | some (r, ρ2) => some (r, wipeE vs ρ2)
            | _ => none) ds (wipeE vs (lendL ls ρ0)) with
      | none => none
      | some (r, ρ2) => if r.length ≤ sizeLine then some (.nw r, unlend ls (backE vs (lendL ls ρ0) ρ2)) else none
  | .setc srt elt t it c vs, ρ => match evI F it ρ with
    | none => none
    | some (ds, ρ0, ls) => if (vs.all fun v => match (lendL ls ρ0)[v]? with | some s => quietS s | none => false) = false then none else
      match compL (fun d ρ => match asgT t d ρ with
        | none => none
        | some ρa => match evC F c ρa with
          | none => none
          | some (false, ρb) => some (none, wipeE vs ρb)
          | some (true, ρb) => match ev F elt ρb with
            | none => none
            | some (r, ρc) => some (some r.d, wipeE vs ρc)) ds (wipeE vs (lendL ls ρ0)) with
      | none => none
      | some (r, ρ2) => (setR srt r).map fun x => (x, unlend ls (backE vs (lendL ls ρ0) ρ2))
  | .call f es, ρ => match F f with
    | none => none
    | some (ks, fn) => match evA F ks es ρ with
      | none => none
      | some (os, ρ1) => if apartB ks os = false then none else
        match argsOf ρ1 ks os with
        | none => none
        | some ss => match fn ss with
          | none => none
          | some (r, outs) => match outsIn (muts ks os) outs ρ1 with
            | none => none
            | some ρ2 => some (r, ρ2)
  | .pcall f es, ρ => match F f with
    | none => none
    | some (ks, fn) => match pks ρ es with
      | none => none
      | some ds => if (ks.all notM && decide (ds.length = ks.length)) = true then flatO ρ (fn (ds.map .fz)) else none
  | .blt b es, ρ => match evP F es ρ with
    | none => none
    | some (os, ρ1) => match os.mapM (Opd.get ρ1) with
      | none => none
      | some ds => (dBlt b ds).map fun r => (r, ρ1)
  | .isi a t, ρ => match opd a (ev F a) ρ with
    | none => none
    | some (oa, ρ1) => (oa.get ρ1).map fun d => (.fr (.bool (tyIs t d)), ρ1)
  | .len a, ρ => match opd a (ev F a) ρ with
    | none => none
    | some (oa, ρ1) => match oa.getR ρ1 with
      | some d => (dLen d).map fun r => (.fr r, ρ1)
      | none => none
  | .rngs t it, ρ => match evI F it ρ with
    | some (ds, ρ1, _) => some (if t then .fr (.tuple ds) else .nw ds, ρ1)
    | none => none
  | .meth m o a, ρ => match opd o (ev F o) ρ with
    | none => none
    | some (oo, ρ1) => match isLB (oo.get ρ1) with
      | false => none
      | true => match ev F a ρ1 with
        | none => none
        | some (ra, ρ2) => match oo.get ρ2 with
          | none => none
          | some d => (dMth m d ra.d).map fun r => (.fr r, ρ2)
  | .chg m i es, ρ => match rd ρ i with
    | some (.list _) => match evs F es ρ with
      | none => none
      | some (ds, ρ1) => match ρ1[i]? with
        | some (.own xs) => (dChg m xs ds).map fun p => (.fr p.2, ρ1.set i (.own p.1))
        | some (.mu xs) => (dChg m xs ds).map fun p => (.fr p.2, ρ1.set i (.mu p.1))
        | _ => none
    | _ => none
def evO (F : FT) : OE → Env → Option (Option Int × Env)
  | .none, ρ => some (none, ρ)
  | .some e, ρ => match ev F e ρ with
    | some (.fr (.int i), ρ1) => some (some i, ρ1)
    | _ => none
def evC (F : FT) : OE → Env → Option (Bool × Env)
  | .none, ρ => some (true, ρ)
  | .some e, ρ => match ev F e ρ with
    | some (.fr (.bool i), ρ1) => some (i, ρ1)
    | _ => none
/-- what is walked: the items, the slots behind, those to be lent -/
def evI (F : FT) : Wk → Env → Option (List D × Env × List Nat)
  | .seq a, ρ => match opd a (ev F a) ρ with
    | none => none
    | some (oa, ρ1) => if noMu oa ρ1 = false then none else match (oa.get ρ1).bind seqOf with
      | none => none
      | some ds => some (ds, ρ1, lends oa ρ1)
  | .rng1 a, ρ => match ev F a ρ with
    | some (.fr (.int i), ρ1) => if -(2 ^ 62) ≤ i ∧ i ≤ (sizeLine : Int) then some (rngD 0 i, ρ1, []) else none
    | _ => none
  | .rng2 a b, ρ => match ev F a ρ with
    | some (.fr (.int i), ρ1) => match ev F b ρ1 with
      | some (.fr (.int j), ρ2) => if -(2 ^ 62) ≤ i ∧ i < 2 ^ 62 ∧ j < 2 ^ 62 ∧ -(2 ^ 62) ≤ j ∧ j - i ≤ (sizeLine : Int) then some (rngD i j, ρ2, []) else none
      | _ => none
    | _ => none
  | .enm a, ρ => match opd a (ev F a) ρ with
    | none => none
    | some (oa, ρ1) => if noMu oa ρ1 = false then none else match (oa.get ρ1).bind seqOf with
      | some ds => some (enumD ds, ρ1, lends oa ρ1)
      | none => none
  | .zip a b, ρ => match opd a (ev F a) ρ with
    | none => none
    | some (oa, ρ1) => match opd b (ev F b) ρ1 with
      | none => none
      | some (ob, ρ2) => if noMu oa ρ2 = false then none else if noMu ob ρ2 = false then none else match oa.get ρ2 with
        | some (.list xs) => (match ob.get ρ2 with
          | some (.list ys) => some (pairD xs ys, ρ2, lends oa ρ2 ++ lends ob ρ2)
          | _ => none)
        | some (.tuple xs) => (match ob.get ρ2 with
          | some (.tuple ys) => some (pairD xs ys, ρ2, lends oa ρ2 ++ lends ob ρ2)
          | _ => none)
        | _ => none
  | .rev a, ρ => match opd a (ev F a) ρ with
    | none => none
    | some (oa, ρ1) => if noMu oa ρ1 = false then none else match (oa.get ρ1).bind seqOf with
      | none => none
      | some ds => some (ds.reverse, ρ1, lends oa ρ1)
  | .rrng1 a, ρ => match ev F a ρ with
    | some (.fr (.int i), ρ1) => if -(2 ^ 62) ≤ i ∧ i ≤ (sizeLine : Int) then some ((rngD 0 i).reverse, ρ1, []) else none
    | _ => none
  | .rrng2 a b, ρ => match ev F a ρ with
    | some (.fr (.int i), ρ1) => match ev F b ρ1 with
      | some (.fr (.int j), ρ2) => if -(2 ^ 62) ≤ i ∧ i < 2 ^ 62 ∧ j < 2 ^ 62 ∧ -(2 ^ 62) ≤ j ∧ j - i ≤ (sizeLine : Int) then some ((rngD i j).reverse, ρ2, []) else none
      | _ => none
    | _ => none
  | .dwn a b, ρ => match ev F a ρ with
    | some (.fr (.int i), ρ1) => match ev F b ρ1 with
      | some (.fr (.int j), ρ2) => if -(2 ^ 62) ≤ i ∧ i < 2 ^ 62 ∧ j < 2 ^ 62 ∧ -(2 ^ 62) ≤ j ∧ i - j ≤ (sizeLine : Int) then some (dwnD i j, ρ2, []) else none
      | _ => none
    | _ => none
  | .itm a, ρ => match ev F a ρ with
    | none => none
    | some (ra, ρ1) => match dictOf ra.d with
      | none => none
      | some kvs => some (tPairs kvs, ρ1, [])
def evs (F : FT) : Es → Env → Option (List D × Env)
  | .nil, ρ => some ([], ρ)
  | .cons e es, ρ => match ev F e ρ with
    | none => none
    | some (r, ρ1) => match evs F es ρ1 with
      | none => none
      | some (ds, ρ2) => some (r.d :: ds, ρ2)
def evP (F : FT) : Es → Env → Option (List Opd × Env)
  | .nil, ρ => some ([], ρ)
  | .cons e es, ρ => match opd e (ev F e) ρ with
    | none => none
    | some (o, ρ1) => match evP F es ρ1 with
      | none => none
      | some (os, ρ2) => some (o :: os, ρ2)
def evA (F : FT) : List PK → Es → Env → Option (List Opd × Env)
  | [], .nil, ρ => some ([], ρ)
  | .I :: ks, .cons e es, ρ => match ev F e ρ with
    | none => none
    | some (r, ρ1) => match evA F ks es ρ1 with
      | none => none
      | some (os, ρ2) => some (.v r.d :: os, ρ2)
  | _ :: ks, .cons e es, ρ => match opd e (ev F e) ρ with
    | none => none
    | some (o, ρ1) => match evA F ks es ρ1 with
      | none => none
      | some (os, ρ2) => some (o :: os, ρ2)
  | _, _, _ => none
end

def whileL (c : Env → Option (Res × Env)) (b : Env → Option (Out × Env)) : Nat → Env → Option (Out × Env)
  | 0, _ => none
  | n + 1, ρ => match c ρ with
    | some (.fr (.bool false), ρ1) => some (.next, ρ1)
    | some (.fr (.bool true), ρ1) => match b ρ1 with
      | none => none
      | some (.next, ρ2) => whileL c b n ρ2
      | some (.cont, ρ2) => whileL c b n ρ2
      | some (.brk, ρ2) => some (.next, ρ2)
      | some (.ret r, ρ2) => some (.ret r, ρ2)
    | _ => none
def forL (b : D → Env → Option (Out × Env)) : List D → Env → Option (Out × Env)
  | [], ρ => some (.next, ρ)
  | d :: ds, ρ => match b d ρ with
    | none => none
    | some (.next, ρ2) => forL b ds ρ2
    | some (.cont, ρ2) => forL b ds ρ2
    | some (.brk, ρ2) => some (.next, ρ2)
    | some (.ret r, ρ2) => some (.ret r, ρ2)
mutual
def ex (F : FT) : S → Env → Option (Out × Env)
  | .asg t e, ρ => match ev F e ρ with
    | none => none
    | some (r, ρ1) => (asgR t r ρ1).map fun ρ2 => (.next, ρ2)
  | .par i j a b, ρ => match ev F a ρ with
    | none => none
    | some (ra, ρ1) => match ev F b ρ1 with
      | none => none
      | some (rb, ρ2) => match put i (.fz ra.d) ρ2 with
        | none => none
        | some ρ3 => (put j (.fz rb.d) ρ3).map fun ρ4 => (.next, ρ4)
  | .aug o i e, ρ => match ρ[i]? with
    | some (.fz (.int x)) => match ev F e ρ with
      | some (.fr (.int y), ρ1) => match dBin o (.int x) (.int y) with
        | some (.fr (.int z)) => (put i (.fz (.int z)) ρ1).map fun ρ2 => (.next, ρ2)
        | _ => none
      | _ => none
    | _ => none
  | .dset i a b e, ρ => match ev F e ρ with
    | none => none
    | some (r, ρ1) => match dsetG ρ1 i a b r.d with
      | some ρ2 => some (.next, ρ2)
      | none => none
  | .dswp i a b, ρ => match dswpG ρ i a b with
    | some ρ1 => some (.next, ρ1)
    | none => none
  | .dcomp i elt t it c vs, ρ => match evI F it ρ with
    | none => none
    | some (ds, ρ0, ls) => if (vs.all fun v => match (lendL ls ρ0)[v]? with | some s => quietS s | none => false) = false then none else
      match compL (fun d ρ => match asgT t d ρ with
        | none => none
        | some ρa => match evC F c ρa with
          | none => none
          | some (false, ρb) => some (none, wipeE vs ρb)
          | some (true, ρb) => match ev F elt ρb with
            | some (.nw es, ρc) => if noLs es = true then some (some (.list es), wipeE vs ρc) else none
            | _ => none) ds (wipeE vs (lendL ls ρ0)) with
      | none => none
      | some (r, ρ2) => (put i (.dp .tree (.list r)) (unlend ls (backE vs (lendL ls ρ0) ρ2))).map fun ρ3 => (.next, ρ3)
  | .dnew i k v, ρ => match ev F k ρ with
    | some (.fr (.int j), ρ1) => match ev F v ρ1 with
      | some (r, ρ2) => (put i (.dct [(j, r.d)]) ρ2).map fun ρ3 => (.next, ρ3)
      | none => none
    | _ => none
  | .dput i k v, ρ => match ev F v ρ with
    | some (r, ρ1) => match dctB ρ1 i with
      | false => none
      | true => match ev F k ρ1 with
        | some (.fr (.int j), ρ2) => (dPutS ρ2 i j r.d).map fun ρ3 => (.next, ρ3)
        | _ => none
    | none => none
  | .tcpy i a, ρ => match ev F a ρ with
    | none => none
    | some (ra, ρ1) => match dictOf ra.d with
      | none => none
      | some kvs => if hashOk kvs = true then (put i (.dtt kvs) ρ1).map fun ρ2 => (.next, ρ2) else none
  | .tput i k v, ρ => match ev F v ρ with
    | some (r, ρ1) => match dttB ρ1 i with
      | false => none
      | true => match ev F k ρ1 with
        | none => none
        | some (rk, ρ2) => match keyD rk.d with
          | none => none
          | some ks => (tPutS ρ2 i ks r.d).map fun ρ3 => (.next, ρ3)
    | none => none
  | .rse, _ => none
  | .setIx i ix e, ρ => match ev F e ρ with
    | none => none
    | some (r, ρ1) => match rd ρ1 i with
      | some (.list _) => match ev F ix ρ1 with
        | some (.fr (.int k), ρ2) => match ρ2[i]? with
          | some (.own xs) => (ixN xs.length k).map fun j => (.next, ρ2.set i (.own (xs.set j r.d)))
          | some (.mu xs) => (ixN xs.length k).map fun j => (.next, ρ2.set i (.mu (xs.set j r.d)))
          | _ => none
        | _ => none
      | _ => none
  | .augIx o i ix e, ρ => match rd ρ i with
    | some (.list _) => match ev F ix ρ with
      | some (.fr (.int k), ρ1) => match (match rd ρ1 i with | some (.list us) => atI us k | _ => none) with
        | some (.int x) => match ev F e ρ1 with
          | some (.fr (.int y), ρ2) => match dBin o (.int x) (.int y) with
            | some (.fr (.int z)) => match ρ2[i]? with
              | some (.own xs) => (ixN xs.length k).map fun j => (.next, ρ2.set i (.own (xs.set j (.int z))))
              | some (.mu xs) => (ixN xs.length k).map fun j => (.next, ρ2.set i (.mu (xs.set j (.int z))))
              | _ => none
            | _ => none
          | _ => none
        | _ => none
      | _ => none
    | _ => none
  | .ex e, ρ => (ev F e ρ).map fun p => (.next, p.2)
  | .ret (.var i), ρ => match ρ[i]? with
    | some (.fz d) => some (.ret (.fr d), ρ)
    | some (.own ds) => some (.ret (.nw ds), ρ)
    | some (.dtt kvs) => some (.ret (.fr (dictD kvs)), ρ.set i (.fz (dictD kvs)))
    | some (.dp .tree d) => some (.ret (.fr d), ρ.set i (.fz d))
    | some (.dp .prv d) => some (.ret (.fr d), ρ.set i (.fz d))
    | _ => none
  | .ret e, ρ => (ev F e ρ).map fun p => (.ret p.1, p.2)
  | .retN, ρ => some (.ret (.fr .none), ρ)
  | .brk, ρ => some (.brk, ρ)
  | .cont, ρ => some (.cont, ρ)
  | .pass, ρ => some (.next, ρ)
  | .ife c a b, ρ => match ev F c ρ with
    | some (.fr (.bool true), ρ1) => exs F a ρ1
    | some (.fr (.bool false), ρ1) => exs F b ρ1
    | _ => none
  | .whl n c b, ρ => whileL (ev F c) (exs F b) n ρ
  | .forr t it b, ρ => match evI F it ρ with
    | none => none
    | some (ds, ρ1, ls) => match forL (fun d ρ => match asgT t d ρ with
        | none => none
        | some ρa => exs F b ρa) ds (lendL ls ρ1) with
      | none => none
      | some (o, ρ2) => some (o, unlend ls ρ2)
def exs (F : FT) : Ss → Env → Option (Out × Env)
  | .nil, ρ => some (.next, ρ)
  | .cons s ss, ρ => match ex F s ρ with
    | some (.next, ρ1) => exs F ss ρ1
    | x => x
end

/-! ### defs -/
structure Def where
  name : String
  at_ : Nat
  ks : List PK
  N : List String
  body : Ss
abbrev Tab := List Def
def find (T : Tab) (f : String) : Option Def := List.find? (fun d => d.name == f) T
def outsOf : List PK → Env → Option (List (List D))
  | [], _ => some []
  | .M :: ks, .mu ds :: ρ => (outsOf ks ρ).map (ds :: ·)
  | .M :: _, _ => none
  | _ :: ks, _ :: ρ => outsOf ks ρ
  | _ :: _, [] => none
/-- the arguments are of the kinds that the def says -/
def kindsB : List PK → List Slot → Bool
  | [], [] => true
  | .M :: ks, .mu _ :: r => kindsB ks r
  | .B :: ks, .fz _ :: r => kindsB ks r
  | .B :: ks, .bor _ :: r => kindsB ks r
  | .B :: ks, .ro _ :: r => kindsB ks r
  | .I :: ks, .fz _ :: r => kindsB ks r
  | _, _ => false
def runD (F : FT) (d : Def) (args : List Slot) : Option (Res × List (List D)) :=
  if kindsB d.ks args = false then none else
  match exs F d.body (args ++ List.replicate (d.N.length - args.length) .un) with
  | some (.ret r, ρ) => (outsOf d.ks ρ).map fun o => (r, o)
  | some (.next, ρ) => (outsOf d.ks ρ).map fun o => (.fr .none, o)
  | _ => none
def callF (T : Tab) : Nat → FT
  | 0, _ => none
  | k + 1, f => match find T f with
    | none => none
    | some d => some (d.ks, runD (callF T k) d)
end Ev


set_option maxRecDepth 100000
/-! Ev2: how data lie in the heap; the state; steps. -/
namespace Ev
open PySem L2
variable [TheK]

/-- a list that is known to the heap, or the text's own -/
def Ro (H : Hp) (a : Addr) (vs : List V) : Prop := (∃ o, H a = some (.frz o (.lst vs))) ∨
    ∃ (o : Obj) (its : Array Value) (n : Nat), TheK.K.lookup a = some o ∧ o.cls = .type "list" ∧ o.dict = none ∧ o.data = .seq its n ∧ its.size ≤ sizeLine ∧ Vals vs its.toList
theorem Ro.sq {H a vs} (h : Ro H a vs) : SqL TheK.K H a vs := by
  rcases h with ⟨o, h⟩ | h
  · exact .inl (.inr ⟨o, h⟩)
  · exact .inr h
theorem Ro.keep {H H' : Hp} {a vs} (h : Ro H a vs) (k : ∀ o u, H a = some (.frz o u) → H' a = some (.frz o u)) : Ro H' a vs := by
  rcases h with ⟨o, h⟩ | h
  · exact .inl ⟨o, k _ _ h⟩
  · exact .inr h
mutual
/-- the value v is the data d, all of whose objects are frozen (in A) -/
inductive Rep (A : Addr → Prop) (H : Hp) : V → D → Prop
  | none : Rep A H V.non PyData.none
  | bool {b} : Rep A H (V.bl b) (PyData.bool b)
  | int {i} : Rep A H (V.int i) (PyData.int i)
  | str {x} : Rep A H (V.str x) (PyData.str x)
  | lst {a vs ds} : A a → H a = some (HO.lst vs) → vs.length ≤ sizeLine → RepAll A H vs ds → Rep A H (V.ref a) (PyData.list ds)
  | tup {a vs ds} : A a → H a = some (HO.tup vs) → vs.length ≤ sizeLine → RepAll A H vs ds → Rep A H (V.ref a) (PyData.tuple ds)
  | dct {a : Addr} {o : Obj} {ws : List (List Key × V)} {kvs : List (List Int × D)} : A a → H a = some (HO.frz o (HO.dT ws)) → ws.length ≤ sizeLine → ws.map (·.1) = kvs.map (fun (p : List Int × D) => p.1.map Sum.inl) → RepAll A H (ws.map (·.2)) (kvs.map (fun (p : List Int × D) => p.2)) → Rep A H (V.ref a) (PyData.dict (kvs.map fun (p : List Int × D) => (tupI p.1, p.2)))
inductive RepAll (A : Addr → Prop) (H : Hp) : List V → List D → Prop
  | nil : RepAll A H [] []
  | cons {v d vs ds} : Rep A H v d → RepAll A H vs ds → RepAll A H (v :: vs) (d :: ds)
end

/-- frozen things stay -/
def Keep (A : Addr → Prop) (H H' : Hp) : Prop := ∀ a o, A a → H a = some o → H' a = some o
theorem _root_.L2.Rd.keep {H H' : Hp} {a : Addr} {u : HO} (h : Rd H a u) (k : ∀ o, H a = some o → H' a = some o) : Rd H' a u := by
  rcases h with h | ⟨o, h⟩
  · exact .inl (k _ h)
  · exact .inr ⟨o, k _ h⟩
mutual
theorem Rep.mono {A A' : Addr → Prop} {H H' : Hp} (e : ∀ a, A a → A' a) (k : Keep A H H') : ∀ {v d}, Rep A H v d → Rep A' H' v d
  | _, _, .none => .none
  | _, _, .bool => .bool
  | _, _, .int => .int
  | _, _, .str => .str
  | _, _, .lst h1 h2 h3 h4 => .lst (e _ h1) (k _ _ h1 h2) h3 (RepAll.mono e k h4)
  | _, _, .tup h1 h2 h3 h4 => .tup (e _ h1) (k _ _ h1 h2) h3 (RepAll.mono e k h4)
  | _, _, .dct h1 h2 h3 h4 h5 => .dct (e _ h1) (k _ _ h1 h2) h3 h4 (RepAll.mono e k h5)
theorem RepAll.mono {A A' : Addr → Prop} {H H' : Hp} (e : ∀ a, A a → A' a) (k : Keep A H H') : ∀ {vs ds}, RepAll A H vs ds → RepAll A' H' vs ds
  | _, _, .nil => .nil
  | _, _, .cons h1 h2 => .cons (Rep.mono e k h1) (RepAll.mono e k h2)
end
section
variable {A : Addr → Prop} {H : Hp} {vs ws : List V} {ds es : List D} {v : V} {d : D}
theorem RepAll.length : ∀ {vs ds}, RepAll A H vs ds → vs.length = ds.length
  | _, _, .nil => rfl
  | _, _, .cons _ h => by simp [RepAll.length h]
theorem RepAll.get : ∀ {vs ds} (i : Nat) {d}, RepAll A H vs ds → ds[i]? = some d → ∃ v, vs[i]? = some v ∧ Rep A H v d
  | _, _, i, d, .nil, e => by simp at e
  | _, _, 0, d, .cons h1 h2, e => by simp at e; subst e; exact ⟨_, rfl, h1⟩
  | _, _, i + 1, d, .cons h1 h2, e => by simpa using RepAll.get i h2 (by simpa using e)
theorem RepAll.getV : ∀ {vs ds} (i : Nat) {v}, RepAll A H vs ds → vs[i]? = some v → ∃ d, ds[i]? = some d ∧ Rep A H v d
  | _, _, i, d, .nil, e => by simp at e
  | _, _, 0, d, .cons h1 h2, e => by simp at e; subst e; exact ⟨_, rfl, h1⟩
  | _, _, i + 1, d, .cons h1 h2, e => by simpa using RepAll.getV i h2 (by simpa using e)
theorem RepAll.append : ∀ {vs ds ws es}, RepAll A H vs ds → RepAll A H ws es → RepAll A H (vs ++ ws) (ds ++ es)
  | _, _, _, _, .nil, h => h
  | _, _, _, _, .cons h1 h2, h => .cons h1 (RepAll.append h2 h)
theorem RepAll.one (h : Rep A H v d) : RepAll A H [v] [d] := .cons h .nil
theorem RepAll.take : ∀ {vs ds} (n : Nat), RepAll A H vs ds → RepAll A H (vs.take n) (ds.take n)
  | _, _, 0, _ => .nil
  | _, _, _ + 1, .nil => .nil
  | _, _, n + 1, .cons h1 h2 => .cons h1 (RepAll.take n h2)
theorem RepAll.drop : ∀ {vs ds} (n : Nat), RepAll A H vs ds → RepAll A H (vs.drop n) (ds.drop n)
  | _, _, 0, h => h
  | _, _, _ + 1, .nil => .nil
  | _, _, n + 1, .cons h1 h2 => RepAll.drop n h2
theorem RepAll.set (h : Rep A H v d) : ∀ {vs ds} (n : Nat), RepAll A H vs ds → RepAll A H (vs.set n v) (ds.set n d)
  | _, _, _, .nil => .nil
  | _, _, 0, .cons _ h2 => .cons h h2
  | _, _, n + 1, .cons h1 h2 => .cons h1 (RepAll.set h n h2)
theorem RepAll.erase : ∀ {vs ds} (n : Nat), RepAll A H vs ds → RepAll A H (vs.eraseIdx n) (ds.eraseIdx n)
  | _, _, _, .nil => .nil
  | _, _, 0, .cons _ h2 => h2
  | _, _, n + 1, .cons h1 h2 => .cons h1 (RepAll.erase n h2)
theorem RepAll.reverse (h : RepAll A H vs ds) : RepAll A H vs.reverse ds.reverse := by
  induction vs generalizing ds with
  | nil => cases h; exact .nil
  | cons x r ih => cases h with | cons h1 h2 => simpa using (ih h2).append (.one h1)
theorem RepAll.dropLast (h : RepAll A H vs ds) : RepAll A H vs.dropLast ds.dropLast := by
  rw [List.dropLast_eq_take, List.dropLast_eq_take, h.length]
  exact h.take _
theorem RepAll.rep (n : Nat) (h : RepAll A H vs ds) : RepAll A H (List.replicate n vs).flatten (List.replicate n ds).flatten := by
  induction n with
  | zero => exact .nil
  | succ n ih => simpa [List.replicate_succ] using h.append ih
theorem rep_ints : ∀ (ns : List Int), RepAll A H (ns.map V.int) (ns.map .int)
  | [] => .nil
  | _ :: r => .cons .int (rep_ints r)
theorem rep_of_ints : ∀ {vs ds ns}, RepAll A H vs ds → allInts ds = some ns → vs = ns.map V.int ∧ ds = ns.map .int
  | _, _, _, .nil, e => by simp [allInts] at e; subst e; exact ⟨rfl, rfl⟩
  | _, _, _, .cons h1 h2, e => by
    cases h1 <;> simp [allInts] at e
    obtain ⟨ms, e1, e2⟩ := e
    subst e2
    obtain ⟨e3, e4⟩ := rep_of_ints h2 e1
    subst e3 e4
    exact ⟨rfl, rfl⟩
theorem rep_of_bools : ∀ {vs ds bs}, RepAll A H vs ds → allBools ds = some bs → vs = bs.map V.bl ∧ ds = bs.map .bool
  | _, _, _, .nil, e => by simp [allBools] at e; subst e; exact ⟨rfl, rfl⟩
  | _, _, _, .cons h1 h2, e => by
    cases h1 <;> simp [allBools] at e
    obtain ⟨ms, e1, e2⟩ := e
    subst e2
    obtain ⟨e3, e4⟩ := rep_of_bools h2 e1
    subst e3 e4
    exact ⟨rfl, rfl⟩
end

/-! ### lists under lists -/
/-- the lists under a value -/
inductive LR (H : Hp) : V → Addr → Prop
  | here {a vs} : H a = some (HO.lst vs) → LR H (V.ref a) a
  | lst {a vs v b} : H a = some (HO.lst vs) → v ∈ vs → LR H v b → LR H (V.ref a) b
  | tup {a vs v b} : H a = some (HO.tup vs) → v ∈ vs → LR H v b → LR H (V.ref a) b
mutual
/-- v is the data d, whose lists are not frozen -/
inductive DpR (A : Addr → Prop) (H : Hp) : V → D → Prop
  | leaf {v d} : Rep A H v d → noL d = true → DpR A H v d
  | lst {a vs ds} : H a = some (HO.lst vs) → vs.length ≤ sizeLine → ¬ A a → DpRs A H vs ds → DpR A H (V.ref a) (PyData.list ds)
  | tup {a vs ds} : A a → H a = some (HO.tup vs) → vs.length ≤ sizeLine → DpRs A H vs ds → DpR A H (V.ref a) (PyData.tuple ds)
inductive DpRs (A : Addr → Prop) (H : Hp) : List V → List D → Prop
  | nil : DpRs A H [] []
  | cons {v vs d ds} : DpR A H v d → DpRs A H vs ds → DpRs A H (v :: vs) (d :: ds)
end
def isLD : D → Bool
  | .list _ => true
  | _ => false
/-- a list of different flat lists -/
def TreeOk (H : Hp) (v : V) (d : D) : Prop := ∃ (a : Addr) (bs : List Addr) (ds : List D), v = .ref a ∧ H a = some (.lst (bs.map V.ref)) ∧ (a :: bs).Nodup ∧ d = .list ds ∧ ds.all rowB = true
mutual
theorem Rep.noLR {A H} : ∀ {v d}, Rep A H v d → noL d = true → ∀ a, ¬ LR H v a
  | _, _, .none, _, a, h => by cases h
  | _, _, .bool, _, a, h => by cases h
  | _, _, .int, _, a, h => by cases h
  | _, _, .str, _, a, h => by cases h
  | _, _, .lst _ _ _ _, n, _, _ => by cases n
  | _, _, .dct _ _ _ _ _, n, _, _ => by cases n
  | _, _, .tup h1 h2 h3 h4, n, b, h => by
    rename_i ds
    have n' : noLs ds = true := by simpa [noL] using n
    cases h with
    | here e => rw [h2] at e; cases e
    | lst e _ _ => rw [h2] at e; cases e
    | tup e hm hr => rw [h2] at e; cases e; exact RepAll.noLR h4 n' _ hm b hr
theorem RepAll.noLR {A H} : ∀ {vs ds}, RepAll A H vs ds → noLs ds = true → ∀ v ∈ vs, ∀ a, ¬ LR H v a
  | _, _, .nil, _, v, hv, _, _ => by cases hv
  | _, _, .cons h1 h2, n, v, hv, a, h => by
    rw [noLs, Bool.and_eq_true] at n
    have n' := n
    rcases List.mem_cons.mp hv with e | hv
    · rw [e] at h; exact Rep.noLR h1 n'.1 a h
    · exact RepAll.noLR h2 n'.2 v hv a h
end
mutual
theorem DpR.lr {A H} : ∀ {v d}, DpR A H v d → ∀ a, LR H v a → ¬ A a ∧ ∃ vs, H a = some (.lst vs)
  | _, _, .leaf h n, a, l => absurd l (Rep.noLR h n a)
  | _, _, .lst h1 h2 h3 h4, b, l => by
    cases l with
    | here e => exact ⟨h3, _, e⟩
    | lst e hm hr => rw [h1] at e; cases e; exact DpRs.lr h4 _ hm b hr
    | tup e _ _ => rw [h1] at e; cases e
  | _, _, .tup h1 h2 h3 h4, b, l => by
    cases l with
    | here e => rw [h2] at e; cases e
    | lst e _ _ => rw [h2] at e; cases e
    | tup e hm hr => rw [h2] at e; cases e; exact DpRs.lr h4 _ hm b hr
theorem DpRs.lr {A H} : ∀ {vs ds}, DpRs A H vs ds → ∀ v ∈ vs, ∀ a, LR H v a → ¬ A a ∧ ∃ vs, H a = some (.lst vs)
  | _, _, .nil, v, hv, _, _ => by cases hv
  | _, _, .cons h1 h2, v, hv, a, l => by
    rcases List.mem_cons.mp hv with e | hv
    · rw [e] at l; exact DpR.lr h1 a l
    · exact DpRs.lr h2 v hv a l
end
mutual
theorem DpR.keep {A A' : Addr → Prop} {H H' : Hp} (e : ∀ a, A a → A' a) (k : Keep A H H') : ∀ {v d}, DpR A H v d → (∀ a o, LR H v a → H a = some o → H' a = some o) → (∀ a, LR H v a → ¬ A' a) → DpR A' H' v d
  | _, _, .leaf h n, _, _ => .leaf (Rep.mono e k h) n
  | _, _, .lst h1 h2 h3 h4, kl, na => .lst (kl _ _ (.here h1) h1) h2 (na _ (.here h1)) (DpRs.keep e k h4 (fun v hv a o l => kl a o (.lst h1 hv l)) (fun v hv a l => na a (.lst h1 hv l)))
  | _, _, .tup h1 h2 h3 h4, kl, na => .tup (e _ h1) (k _ _ h1 h2) h3 (DpRs.keep e k h4 (fun v hv a o l => kl a o (.tup h2 hv l)) (fun v hv a l => na a (.tup h2 hv l)))
theorem DpRs.keep {A A' : Addr → Prop} {H H' : Hp} (e : ∀ a, A a → A' a) (k : Keep A H H') : ∀ {vs ds}, DpRs A H vs ds → (∀ v ∈ vs, ∀ a o, LR H v a → H a = some o → H' a = some o) → (∀ v ∈ vs, ∀ a, LR H v a → ¬ A' a) → DpRs A' H' vs ds
  | _, _, .nil, _, _ => .nil
  | _, _, .cons h1 h2, kl, na => .cons (DpR.keep e k h1 (kl _ List.mem_cons_self) (na _ List.mem_cons_self)) (DpRs.keep e k h2 (fun v hv => kl v (List.mem_cons_of_mem _ hv)) (fun v hv => na v (List.mem_cons_of_mem _ hv)))
end
mutual
theorem DpR.back {A : Addr → Prop} {H H' : Hp} (k : Keep A H H') : ∀ {v d}, DpR A H v d → (∀ a o, LR H v a → H a = some o → H' a = some o) → ∀ a, LR H' v a → LR H v a
  | _, _, .leaf h n, _, a, l => absurd l (Rep.noLR (Rep.mono (fun _ z => z) k h) n a)
  | _, _, .lst h1 h2 h3 h4, kl, b, l => by
    have h1' := kl _ _ (.here h1) h1
    cases l with
    | here e => exact .here h1
    | lst e hm hr => rw [h1'] at e; cases e; exact .lst h1 hm (DpRs.back k h4 (fun v hv a o l => kl a o (.lst h1 hv l)) _ hm b hr)
    | tup e _ _ => rw [h1'] at e; cases e
  | _, _, .tup h1 h2 h3 h4, kl, b, l => by
    have h2' := k _ _ h1 h2
    cases l with
    | here e => rw [h2'] at e; cases e
    | lst e _ _ => rw [h2'] at e; cases e
    | tup e hm hr => rw [h2'] at e; cases e; exact .tup h2 hm (DpRs.back k h4 (fun v hv a o l => kl a o (.tup h2 hv l)) _ hm b hr)
theorem DpRs.back {A : Addr → Prop} {H H' : Hp} (k : Keep A H H') : ∀ {vs ds}, DpRs A H vs ds → (∀ v ∈ vs, ∀ a o, LR H v a → H a = some o → H' a = some o) → ∀ v ∈ vs, ∀ a, LR H' v a → LR H v a
  | _, _, .nil, _, v, hv, _, _ => by cases hv
  | _, _, .cons h1 h2, kl, v, hv, a, l => by
    rcases List.mem_cons.mp hv with e | hv
    · rw [e] at l ⊢; exact DpR.back k h1 (kl _ List.mem_cons_self) a l
    · exact DpRs.back k h2 (fun v hv => kl v (List.mem_cons_of_mem _ hv)) v hv a l
end
/-- a slot of lists under lists -/
def DpOk (A : Addr → Prop) (H : Hp) (ov : Option V) (k : DK) (d : D) : Prop := ∃ v d', ov = some v ∧ DpR A H v d' ∧ (k ≠ .junk → d' = d) ∧ (k = .tree → TreeOk H v d') ∧ isLD d' = isLD d
theorem DpOk.keep {A A' : Addr → Prop} {H H' : Hp} {ov k d} (e : ∀ a, A a → A' a) (kp : Keep A H H') (h : DpOk A H ov k d) (kl : ∀ v a o, ov = some v → LR H v a → H a = some o → H' a = some o) (na : ∀ v a, ov = some v → LR H v a → ¬ A' a) : DpOk A' H' ov k d := by
  obtain ⟨v, d', rfl, h1, h2, h3, h4⟩ := h
  refine ⟨v, d', rfl, h1.keep e kp (fun a o => kl v a o rfl) (fun a => na v a rfl), h2, fun hk => ?_, h4⟩
  obtain ⟨a, bs, ds, rfl, e1, e2⟩ := h3 hk
  exact ⟨a, bs, ds, rfl, kl _ a _ rfl (.here e1) e1, e2⟩

/-! ### the slots -/
/-- a dict's pairs -/
def KvRep (A : Addr → Prop) (H : Hp) (ws : List (Key × V)) (kvs : List (Int × D)) : Prop := ws.map (·.1) = kvs.map (fun p => (Sum.inl p.1 : Key)) ∧ RepAll A H (ws.map (·.2)) (kvs.map (·.2))
theorem KvRep.mono {A A' : Addr → Prop} {H H' : Hp} {ws kvs} (e : ∀ a, A a → A' a) (k : Keep A H H') (h : KvRep A H ws kvs) : KvRep A' H' ws kvs := ⟨h.1, RepAll.mono e k h.2⟩
def KtRep (A : Addr → Prop) (H : Hp) (ws : List (List Key × V)) (kvs : List (List Int × D)) : Prop := ws.map (·.1) = kvs.map (fun p => p.1.map Sum.inl) ∧ RepAll A H (ws.map (·.2)) (kvs.map (·.2))
theorem KtRep.mono {A A' : Addr → Prop} {H H' : Hp} {ws kvs} (e : ∀ a, A a → A' a) (k : Keep A H H') (h : KtRep A H ws kvs) : KtRep A' H' ws kvs := ⟨h.1, RepAll.mono e k h.2⟩
def SlotOk (A : Addr → Prop) (H : Hp) (ov : Option V) : Slot → Prop
  | .un => True
  | .fz d => ∃ v, ov = some v ∧ Rep A H v d
  | .own ds => ∃ a vs, ov = some (.ref a) ∧ H a = some (.lst vs) ∧ vs.length ≤ sizeLine ∧ RepAll A H vs ds ∧ ¬ A a
  | .lent ds => ∃ a vs, ov = some (.ref a) ∧ H a = some (.lst vs) ∧ vs.length ≤ sizeLine ∧ RepAll A H vs ds ∧ ¬ A a
  | .mu ds => ∃ a vs, ov = some (.ref a) ∧ H a = some (.lst vs) ∧ vs.length ≤ sizeLine ∧ RepAll A H vs ds ∧ ¬ A a
  | .dct kvs => ∃ a ws, ov = some (.ref a) ∧ H a = some (.dK ws) ∧ ws.length ≤ sizeLine ∧ KvRep A H ws kvs ∧ ¬ A a
  | .dtt kvs => ∃ a ws, ov = some (.ref a) ∧ H a = some (.dT ws) ∧ ws.length ≤ sizeLine ∧ KtRep A H ws kvs ∧ ¬ A a
  | .dp k d => DpOk A H ov k d
  | .bor ds => ∃ a vs, ov = some (.ref a) ∧ H a = some (.lst vs) ∧ vs.length ≤ sizeLine ∧ RepAll A H vs ds
  | .ro ds => ∃ a vs, ov = some (.ref a) ∧ Ro H a vs ∧ vs.length ≤ sizeLine ∧ RepAll A H vs ds
def live : Slot → Bool
  | .own _ => true
  | .lent _ => true
  | .mu _ => true
  | .dct _ => true
  | .dtt _ => true
  | _ => false
def liveB : Slot → Bool
  | .bor _ => true
  | s => live s
def mutS : Slot → Bool
  | .own _ => true
  | .mu _ => true
  | .dct _ => true
  | .dtt _ => true
  | _ => false
/-- a list that may be changed -/
def mutL : Slot → Bool
  | .own _ => true
  | .mu _ => true
  | _ => false
theorem mutL_S {s} (h : mutL s = true) : mutS s = true := by cases s <;> first | rfl | cases h
def oldS : Slot → Bool
  | .lent _ => true
  | .bor _ => true
  | .ro _ => true
  | _ => false
/-- the addresses that may be changed -/
def Mut (σ : St) (ρ : Env) (a : Addr) : Prop := ∃ (i : Nat) (s : Slot), ρ[i]? = some s ∧ mutS s = true ∧ σ[i]? = some (some (.ref a))
/-- .. the lists of the slots of lists under lists -/
def Prv (H : Hp) (σ : St) (ρ : Env) (a : Addr) : Prop := ∃ (i : Nat) (k : DK) (d : D) (v : V), ρ[i]? = some (.dp k d) ∧ σ[i]? = some (some v) ∧ LR H v a
/-- they are held by their slot alone -/
def PrvOk (H : Hp) (σ : St) (ρ : Env) : Prop := ∀ (i : Nat) (k : DK) (d : D) (v : V) (a : Addr), ρ[i]? = some (.dp k d) → σ[i]? = some (some v) → LR H v a →
  (∀ (j : Nat) (s : Slot), ρ[j]? = some s → liveB s = true → σ[j]? ≠ some (some (.ref a))) ∧ ∀ (j : Nat) (k' : DK) (d' : D) (v' : V), j ≠ i → ρ[j]? = some (.dp k' d') → σ[j]? = some (some v') → ¬ LR H v' a

structure Fit (A : Addr → Prop) (H : Hp) (σ : St) (ρ : Env) : Prop where
  len : σ.length = ρ.length
  slot : ∀ (i : Nat) (s : Slot) (ov : Option V), ρ[i]? = some s → σ[i]? = some ov → SlotOk A H ov s
  apart : ∀ (i j : Nat) (s t : Slot) (a : Addr), i ≠ j → ρ[i]? = some s → ρ[j]? = some t → live s = true → liveB t = true → σ[i]? = some (some (.ref a)) → σ[j]? = some (some (.ref a)) → False
  trk : ∀ a, A a → ∃ o, H a = some o
  prv : PrvOk H σ ρ

theorem Fit.at {A H σ} {ρ : Env} (f : Fit A H σ ρ) {i : Nat} {s : Slot} (h : ρ[i]? = some s) : ∃ ov, σ[i]? = some ov ∧ SlotOk A H ov s := by
  have h1 : i < ρ.length := (List.getElem?_eq_some_iff.mp h).1
  have h2 : i < σ.length := by rw [f.len]; exact h1
  exact ⟨σ[i], List.getElem?_eq_getElem h2, f.slot i s _ h (List.getElem?_eq_getElem h2)⟩
theorem Fit.dpr {A H σ} {ρ : Env} (f : Fit A H σ ρ) {i : Nat} {k d v} (h : ρ[i]? = some (.dp k d)) (hv : σ[i]? = some (some v)) : ∃ d', DpR A H v d' := by
  obtain ⟨v', d', e, h1, _⟩ := f.slot i _ _ h hv
  cases e
  exact ⟨d', h1⟩
theorem Fit.lr {A H σ} {ρ : Env} (f : Fit A H σ ρ) {i : Nat} {k d v a} (h : ρ[i]? = some (.dp k d)) (hv : σ[i]? = some (some v)) (l : LR H v a) : ¬ A a ∧ ∃ vs, H a = some (.lst vs) := by
  obtain ⟨d', h1⟩ := f.dpr h hv
  exact h1.lr a l
/-- such slots' lists, when one goes on and they stay -/
theorem Fit.prv_go {A H σ ρ} (f : Fit A H σ ρ) {H' : Hp} {σ' : St} {ρ' : Env} (hd : ∀ (i : Nat) k d, ρ'[i]? = some (Slot.dp k d) → ρ[i]? = some (.dp k d) ∧ σ'[i]? = σ[i]?) (kp : Keep A H H')
    (kl : ∀ a o, Prv H σ ρ a → H a = some o → H' a = some o)
    (rt : ∀ (j : Nat) s a, ρ'[j]? = some s → liveB s = true → σ'[j]? = some (some (.ref a)) → (∃ (j' : Nat) (s' : Slot), ρ[j']? = some s' ∧ liveB s' = true ∧ σ[j']? = some (some (.ref a))) ∨ H a = none) : PrvOk H' σ' ρ' := by
  intro i k d v a h1 h2 l
  obtain ⟨g1, g2⟩ := hd i k d h1
  rw [g2] at h2
  have back : ∀ (i : Nat) k d v, ρ[i]? = some (Slot.dp k d) → σ[i]? = some (some v) → ∀ a, LR H' v a → LR H v a := fun i k d v e1 e2 => by
    obtain ⟨d', r⟩ := f.dpr e1 e2
    exact r.back kp fun a o l e => kl a o ⟨i, k, d, v, e1, e2, l⟩ e
  have l0 := back i k d v g1 h2 a l
  obtain ⟨p1, p2⟩ := f.prv i k d v a g1 h2 l0
  refine ⟨fun j s e1 e2 e3 => ?_, fun j k' d' v' hj e1 e2 l2 => ?_⟩
  · rcases rt j s a e1 e2 e3 with ⟨j', s', z1, z2, z3⟩ | z
    · exact p1 j' s' z1 z2 z3
    · obtain ⟨_, vs, e⟩ := f.lr g1 h2 l0
      rw [z] at e; cases e
  · obtain ⟨q1, q2⟩ := hd j k' d' e1
    rw [q2] at e2
    exact p2 j k' d' v' hj q1 e2 (back j k' d' v' q1 e2 a l2)
theorem Fit.prv_back {A H σ ρ} (f : Fit A H σ ρ) {H' : Hp} {σ' : St} {ρ' : Env} (hd : ∀ (i : Nat) k d, ρ'[i]? = some (Slot.dp k d) → ρ[i]? = some (.dp k d) ∧ σ'[i]? = σ[i]?) (kp : Keep A H H')
    (kl : ∀ a o, Prv H σ ρ a → H a = some o → H' a = some o) : ∀ a, Prv H' σ' ρ' a → Prv H σ ρ a := by
  rintro a ⟨i, k, d, v, h1, h2, l⟩
  obtain ⟨g1, g2⟩ := hd i k d h1
  rw [g2] at h2
  obtain ⟨d', r⟩ := f.dpr g1 h2
  exact ⟨i, k, d, v, g1, h2, r.back kp (fun a o l e => kl a o ⟨i, k, d, v, g1, h2, l⟩ e) a l⟩

/-- one goes on from (A, H, σ, ρ) to (A', H', σ', ρ') -/
structure Stp (A : Addr → Prop) (H : Hp) (σ : St) (ρ : Env) (A' : Addr → Prop) (H' : Hp) (σ' : St) (ρ' : Env) : Prop where
  ext : ∀ a, A a → A' a
  frame : ∀ a o, H a = some o → ¬ Mut σ ρ a → ¬ Prv H σ ρ a → H' a = some o
  dom : ∀ a, H' a = none → H a = none
  sub : ∀ a, Mut σ' ρ' a → Mut σ ρ a ∨ Prv H σ ρ a ∨ H a = none
  mus : ∀ (i : Nat) (ds : List D), ρ[i]? = some (Slot.mu ds) → σ'[i]? = σ[i]? ∧ ∃ ds', ρ'[i]? = some (Slot.mu ds')
  news : ∀ a, A' a → A a ∨ H a = none ∨ Mut σ ρ a ∨ Prv H σ ρ a ∨ (∃ (i : Nat) (ds : List D), ρ[i]? = some (Slot.lent ds) ∧ σ[i]? = some (some (V.ref a))) ∨ ∃ vs, H a = some (HO.tup vs)
  lents : ∀ (i : Nat) (s : Slot), ρ'[i]? = some s → oldS s = true → ρ[i]? = some s ∧ σ'[i]? = σ[i]?
  prv : ∀ a, Prv H' σ' ρ' a → Mut σ ρ a ∨ Prv H σ ρ a ∨ H a = none
  fit : Fit A' H' σ' ρ'

theorem Fit.nomut {A H σ ρ} (f : Fit A H σ ρ) {a} (h : A a) : ¬ Mut σ ρ a := by
  rintro ⟨i, s, e1, e2, e3⟩
  have q := f.slot i s _ e1 e3
  cases s <;> simp [mutS] at e2 <;> obtain ⟨b, vs, e, _, _, _, n⟩ := q <;> cases e <;> exact n h
theorem Fit.noprv {A H σ ρ} (f : Fit A H σ ρ) {a} (h : A a) : ¬ Prv H σ ρ a := by
  rintro ⟨i, k, d, v, e1, e2, l⟩
  exact (f.lr e1 e2 l).1 h
theorem Stp.keep {A H σ ρ A' H' σ' ρ'} (f : Fit A H σ ρ) (s : Stp A H σ ρ A' H' σ' ρ') : Keep A H H' := fun a o ha e => s.frame a o e (f.nomut ha) (f.noprv ha)
theorem Fit.mut_at {A H σ ρ} (f : Fit A H σ ρ) {a} (h : Mut σ ρ a) : ∃ o, H a = some o := by
  obtain ⟨i, s, e1, e2, e3⟩ := h
  have q := f.slot i s _ e1 e3
  cases s <;> simp [mutS] at e2 <;> obtain ⟨b, vs, e, h, _⟩ := q <;> cases e <;> exact ⟨_, h⟩
theorem Fit.mut_prv {A H σ ρ} (f : Fit A H σ ρ) {a} (h : Mut σ ρ a) : ¬ Prv H σ ρ a := by
  rintro ⟨i, k, d, v, e1, e2, l⟩
  obtain ⟨j, s, e3, e4, e5⟩ := h
  exact (f.prv i k d v a e1 e2 l).1 j s e3 (by cases s <;> first | rfl | (cases e4; done)) e5

/-- what an expression's value is: frozen data, or a new list -/
def ResOk (A : Addr → Prop) (Hs H : Hp) (σ : St) (ρ : Env) (v : V) : Res → Prop
  | .fr d => Rep A H v d
  | .nw ds => ∃ a vs, v = .ref a ∧ H a = some (.lst vs) ∧ vs.length ≤ sizeLine ∧ RepAll A H vs ds ∧ ¬ A a ∧ Hs a = none ∧ (∀ (i : Nat) s, ρ[i]? = some s → liveB s = true → σ[i]? ≠ some (some (.ref a))) ∧ ¬ Prv H σ ρ a
/-- .. of an operand: data, or the slot's list -/
def OpdOk (A : Addr → Prop) (H : Hp) (σ : St) (v : V) : Opd → Prop
  | .v d => Rep A H v d
  | .sl i => σ[i]? = some (some v)
/-- what can be read of a value: its own list need not be frozen -/
def RepW (A : Addr → Prop) (H : Hp) (v : V) (d : D) : Prop :=
  Rep A H v d ∨ ∃ a vs ds, v = .ref a ∧ d = .list ds ∧ H a = some (.lst vs) ∧ vs.length ≤ sizeLine ∧ RepAll A H vs ds
/-- .. also the script's -/
def RepR (A : Addr → Prop) (H : Hp) (v : V) (d : D) : Prop :=
  Rep A H v d ∨ ∃ a vs ds, v = .ref a ∧ d = .list ds ∧ SqL TheK.K H a vs ∧ vs.length ≤ sizeLine ∧ RepAll A H vs ds
theorem RepW.r {A H v d} (h : RepW A H v d) : RepR A H v d := by
  rcases h with h | ⟨a, vs, ds, h1, h2, h3, h4, h5⟩
  · exact .inl h
  · exact .inr ⟨a, vs, ds, h1, h2, SqL.of h3, h4, h5⟩
theorem rd_ok {A H σ v d} {ρ : Env} {i : Nat} (f : Fit A H σ ρ) (h : σ[i]? = some (some v)) (e : rd ρ i = some d) : RepW A H v d := by
  simp only [rd] at e
  split at e
  · rename_i s hs
    have q := f.slot i s _ hs h
    cases s <;> simp only [Slot.d?, reduceCtorEq, Option.some.injEq] at e <;> subst e
    · obtain ⟨w, e, q⟩ := q; cases e; exact .inl q
    all_goals (obtain ⟨a, vs, e, q1, q2, q3⟩ := q; cases e; first | exact .inr ⟨_, _, _, rfl, rfl, q1, q2, q3⟩ | exact .inr ⟨_, _, _, rfl, rfl, q1, q2, q3.1⟩)
  · cases e
theorem Opd.ok {A H σ ρ v o d} (f : Fit A H σ ρ) (h : OpdOk A H σ v o) (e : o.get ρ = some d) : RepW A H v d := by
  cases o with
  | v d' => simp [Opd.get] at e; subst e; exact .inl h
  | sl i => exact rd_ok f h e
theorem Opd.okR {A H σ ρ v o d} (f : Fit A H σ ρ) (h : OpdOk A H σ v o) (e : o.getR ρ = some d) : RepR A H v d := by
  cases o with
  | v d' => simp [Opd.getR] at e; subst e; exact .inl h
  | sl i =>
    simp only [Opd.getR, rdr] at e
    split at e
    · rename_i s hs
      by_cases hr : ∃ ds, s = .ro ds
      · obtain ⟨ds, rfl⟩ := hr
        obtain ⟨a, vs, e1, q1, q2, q3⟩ := f.slot i _ _ hs h
        cases e1
        simp only [Slot.dr?, Option.some.injEq] at e
        subst e
        exact .inr ⟨_, _, _, rfl, rfl, q1.sq, q2, q3⟩
      · have e' : rd ρ i = some d := by
          simp only [rd, hs]
          cases s <;> first | exact e | exact absurd ⟨_, rfl⟩ hr
        exact (rd_ok f h e').r
    · cases e
theorem OpdOk.mono {A A' H H' σ v o} (e : ∀ a, A a → A' a) (k : Keep A H H') (h : OpdOk A H σ v o) : OpdOk A' H' σ v o := by
  cases o with
  | v d => exact Rep.mono e k h
  | sl i => exact h

/-! ### steps put together -/
theorem Stp.refl {A H σ ρ} (f : Fit A H σ ρ) : Stp A H σ ρ A H σ ρ :=
  ⟨fun _ h => h, fun _ _ h _ _ => h, fun _ h => h, fun _ h => .inl h, fun _ ds h => ⟨rfl, ds, h⟩, fun _ h => .inl h, fun _ _ h _ => ⟨h, rfl⟩, fun _ h => .inr (.inl h), f⟩
theorem Stp.trans {A H σ ρ A1 H1 σ1 ρ1 A2 H2 σ2 ρ2} (a : Stp A H σ ρ A1 H1 σ1 ρ1) (b : Stp A1 H1 σ1 ρ1 A2 H2 σ2 ρ2) : Stp A H σ ρ A2 H2 σ2 ρ2 where
  ext := fun x h => b.ext x (a.ext x h)
  frame := fun x o h n n2 => b.frame x o (a.frame x o h n n2) (fun m => by
    rcases a.sub x m with q | q | q
    · exact n q
    · exact n2 q
    · rw [h] at q; cases q) (fun m => by
    rcases a.prv x m with q | q | q
    · exact n q
    · exact n2 q
    · rw [h] at q; cases q)
  dom := fun x h => a.dom x (b.dom x h)
  sub := fun x m => by
    rcases b.sub x m with q | q | q
    · exact a.sub x q
    · rcases a.prv x q with z | z | z
      · exact .inl z
      · exact .inr (.inl z)
      · exact .inr (.inr z)
    · exact .inr (.inr (a.dom x q))
  mus := fun i ds h => by
    obtain ⟨e1, ds1, q1⟩ := a.mus i ds h
    obtain ⟨e2, ds2, q2⟩ := b.mus i ds1 q1
    exact ⟨e2.trans e1, ds2, q2⟩
  news := fun x h => by
    rcases b.news x h with q | q | q | q | ⟨i, ds, q1, q2⟩ | ⟨vs, q⟩
    · exact a.news x q
    · exact .inr (.inl (a.dom x q))
    · rcases a.sub x q with z | z | z
      · exact .inr (.inr (.inl z))
      · exact .inr (.inr (.inr (.inl z)))
      · exact .inr (.inl z)
    · rcases a.prv x q with z | z | z
      · exact .inr (.inr (.inl z))
      · exact .inr (.inr (.inr (.inl z)))
      · exact .inr (.inl z)
    · obtain ⟨e1, e2⟩ := a.lents i _ q1 rfl
      exact .inr (.inr (.inr (.inr (.inl ⟨i, ds, e1, by rw [← e2]; exact q2⟩))))
    · by_cases m : Mut σ ρ x
      · exact .inr (.inr (.inl m))
      · by_cases p : Prv H σ ρ x
        · exact .inr (.inr (.inr (.inl p)))
        · cases e : H x with
          | none => exact .inr (.inl rfl)
          | some o =>
            have := a.frame x o e m p
            rw [q] at this
            cases this
            exact .inr (.inr (.inr (.inr (.inr ⟨vs, rfl⟩))))
  lents := fun i s h o => by
    obtain ⟨e1, e2⟩ := b.lents i s h o
    obtain ⟨e3, e4⟩ := a.lents i s e1 o
    exact ⟨e3, e2.trans e4⟩
  prv := fun x h => by
    rcases b.prv x h with q | q | q
    · exact a.sub x q
    · exact a.prv x q
    · exact .inr (.inr (a.dom x q))
  fit := b.fit
theorem ResOk.start {A Hs Hs' H σ ρ v r} (h : ResOk A Hs H σ ρ v r) (d : ∀ a, Hs a = none → Hs' a = none) : ResOk A Hs' H σ ρ v r := by
  cases r with
  | fr _ => exact h
  | nw _ => obtain ⟨a, vs, h1, h2, h3, h4, h5, h6, h7, h8⟩ := h; exact ⟨a, vs, h1, h2, h3, h4, h5, d _ h6, h7, h8⟩
/-- a new list is frozen -/
theorem ResOk.fz {A Hs H σ ρ A0 ρ0 v r} (s : Stp A0 Hs σ ρ0 A H σ ρ) (h : ResOk A Hs H σ ρ v r) : ∃ A', Stp A0 Hs σ ρ0 A' H σ ρ ∧ Rep A' H v r.d := by
  cases r with
  | fr _ => exact ⟨A, s, h⟩
  | nw ds =>
    obtain ⟨a, vs, rfl, h2, h3, h4, h5, h6, h7, h8⟩ := h
    have e : ∀ b, A b → A b ∨ b = a := fun _ h => .inl h
    have k : Keep A H H := fun _ _ _ h => h
    refine ⟨fun b => A b ∨ b = a, ⟨fun b hb => .inl (s.ext b hb), s.frame, s.dom, s.sub, s.mus, fun b hb => ?_, s.lents, s.prv, ⟨s.fit.len, fun i sl ov e1 e2 => ?_, s.fit.apart, fun b hb => ?_, s.fit.prv⟩⟩, .lst (.inr rfl) h2 h3 (RepAll.mono e k h4)⟩
    · rcases hb with hb | rfl
      · exact s.news b hb
      · exact .inr (.inl h6)
    · have q := s.fit.slot i sl ov e1 e2
      cases sl with
      | un => trivial
      | fz d => obtain ⟨w, q1, q2⟩ := q; exact ⟨w, q1, Rep.mono e k q2⟩
      | own es => obtain ⟨b, ws, q1, q2, q3, q4, q5⟩ := q; subst q1; exact ⟨b, ws, rfl, q2, q3, RepAll.mono e k q4, fun z => z.elim q5 fun z => h7 i _ e1 rfl (by rw [e2, z])⟩
      | lent es => obtain ⟨b, ws, q1, q2, q3, q4, q5⟩ := q; subst q1; exact ⟨b, ws, rfl, q2, q3, RepAll.mono e k q4, fun z => z.elim q5 fun z => h7 i _ e1 rfl (by rw [e2, z])⟩
      | mu es => obtain ⟨b, ws, q1, q2, q3, q4, q5⟩ := q; subst q1; exact ⟨b, ws, rfl, q2, q3, RepAll.mono e k q4, fun z => z.elim q5 fun z => h7 i _ e1 rfl (by rw [e2, z])⟩
      | dct es => obtain ⟨b, ws, q1, q2, q3, q4, q5⟩ := q; subst q1; exact ⟨b, ws, rfl, q2, q3, KvRep.mono e k q4, fun z => z.elim q5 fun z => h7 i _ e1 rfl (by rw [e2, z])⟩
      | dtt es => obtain ⟨b, ws, q1, q2, q3, q4, q5⟩ := q; subst q1; exact ⟨b, ws, rfl, q2, q3, KtRep.mono e k q4, fun z => z.elim q5 fun z => h7 i _ e1 rfl (by rw [e2, z])⟩
      | dp kk dd => exact q.keep e k (fun _ _ _ _ _ z => z) (fun w b ew l z => by
          subst ew
          rcases z with z | z
          · exact (s.fit.lr e1 e2 l).1 z
          · subst z; exact h8 ⟨i, kk, dd, w, e1, e2, l⟩)
      | bor es => obtain ⟨b, ws, q1, q2, q3, q4⟩ := q; exact ⟨b, ws, q1, q2, q3, RepAll.mono e k q4⟩
      | ro es => obtain ⟨b, ws, q1, q2, q3, q4⟩ := q; exact ⟨b, ws, q1, q2, q3, RepAll.mono e k q4⟩
    · rcases hb with hb | rfl
      · exact s.fit.trk b hb
      · exact ⟨_, h2⟩

/-! ### what a piece of syntax does -/
def SndE (X : Cx) (e : Expr) (f : Env → Option (Res × Env)) : Prop := ∃ t : TE, PE X e t ∧
  ∀ A H σ ρ r ρ', Fit A H σ ρ → f ρ = some (r, ρ') → ∀ Q : VK, (∀ A' H' v, Stp A H σ ρ A' H' σ ρ' → ResOk A' H H' σ ρ' v r → Q v H') → t σ H Q
def SndD (X : Cx) (e : Expr) (f : Env → Option (Res × Env)) : Prop := ∃ t : TE, PE X e t ∧
  ∀ A H σ ρ r ρ', Fit A H σ ρ → f ρ = some (r, ρ') → ∀ Q : VK, (∀ A' H' v, Stp A H σ ρ A' H' σ ρ' → Rep A' H' v r.d → Q v H') → t σ H Q
theorem SndE.d {X e f} (h : SndE X e f) : SndD X e f := by
  obtain ⟨t, p, q⟩ := h
  refine ⟨t, p, fun A H σ ρ r ρ' ft e Q k => q A H σ ρ r ρ' ft e Q fun A' H' v s ok => ?_⟩
  obtain ⟨A2, s2, ok2⟩ := ok.fz s
  exact k A2 H' v s2 ok2
def SndO (X : Cx) (e : Expr) (f : Env → Option (Opd × Env)) : Prop := ∃ t : TE, PE X e t ∧
  ∀ A H σ ρ o ρ', Fit A H σ ρ → f ρ = some (o, ρ') → ∀ Q : VK, (∀ A' H' v, Stp A H σ ρ A' H' σ ρ' → OpdOk A' H' σ v o → Q v H') → t σ H Q
def SndT (X : Cx) (e : Expr) (f : Env → Option (Res × Env)) : Prop := ∃ t : TT, PT X e t ∧
  ∀ A H σ ρ b ρ', Fit A H σ ρ → f ρ = some (.fr (.bool b), ρ') → ∀ Q : Bool → Hp → Prop, (∀ A' H', Stp A H σ ρ A' H' σ ρ' → Q b H') → t σ H Q
/-- frozen arguments, operands -/
def SndA (X : Cx) (es : List Expr) (f : Env → Option (List D × Env)) : Prop := ∃ t : TA, PA X es t ∧
  ∀ A H σ ρ r ρ', Fit A H σ ρ → f ρ = some (r, ρ') → ∀ Q : List V → Hp → Prop, (∀ A' H' vs, Stp A H σ ρ A' H' σ ρ' → RepAll A' H' vs r → Q vs H') → t σ H Q
def OpdsOk (A : Addr → Prop) (H : Hp) (σ : St) : List V → List Opd → Prop
  | [], [] => True
  | v :: vs, o :: os => OpdOk A H σ v o ∧ OpdsOk A H σ vs os
  | _, _ => False
theorem OpdsOk.mono {A A' H H' σ} (e : ∀ a, A a → A' a) (k : Keep A H H') : ∀ {vs os}, OpdsOk A H σ vs os → OpdsOk A' H' σ vs os
  | [], [], _ => trivial
  | _ :: _, _ :: _, ⟨h1, h2⟩ => ⟨h1.mono e k, OpdsOk.mono e k h2⟩
def SndP (X : Cx) (es : List Expr) (f : Env → Option (List Opd × Env)) : Prop := ∃ t : TA, PA X es t ∧
  ∀ A H σ ρ r ρ', Fit A H σ ρ → f ρ = some (r, ρ') → ∀ Q : List V → Hp → Prop, (∀ A' H' vs, Stp A H σ ρ A' H' σ ρ' → OpdsOk A' H' σ vs r → Q vs H') → t σ H Q
end Ev

set_option maxRecDepth 100000
set_option maxHeartbeats 1000000
/-! EvO: the order of data that are alike: <, sorted, min, max. -/
namespace Ev
open PySem PySem.Spec PySem.W PyProof.Rows
mutual
theorem eqv_eq : ∀ (x y : PyData), alike x y = true → PyData.eqv x y = true → x = y
  | .none, y, h, e => by cases y <;> first | rfl | exact absurd h (by simp [alike])
  | .bool a, y, h, e => by
    cases y with
    | bool b =>
      have e' : a = b := by simpa [PyData.eqv] using e
      rw [e']
    | _ => exact absurd h (by simp [alike])
  | .int a, y, h, e => by
    cases y with
    | int b =>
      have e' : a = b := by simpa [PyData.eqv] using e
      rw [e']
    | _ => exact absurd h (by simp [alike])
  | .str a, y, h, e => by
    cases y with
    | str b =>
      have e' : a = b := by simpa [PyData.eqv] using e
      rw [e']
    | _ => exact absurd h (by simp [alike])
  | .list xs, y, h, e => by
    cases y with
    | list ys => rw [eqvAll_eq xs ys (by simpa [alike] using h) (by simpa [PyData.eqv] using e)]
    | _ => exact absurd h (by simp [alike])
  | .tuple xs, y, h, e => by
    cases y with
    | tuple ys => rw [eqvAll_eq xs ys (by simpa [alike] using h) (by simpa [PyData.eqv] using e)]
    | _ => exact absurd h (by simp [alike])
  | .dict _, y, h, e => absurd h (by cases y <;> simp [alike])
theorem eqvAll_eq : ∀ (xs ys : List PyData), alikeAll xs ys = true → PyData.eqvAll xs ys = true → xs = ys
  | [], [], _, _ => rfl
  | [], y :: ys, _, e => absurd e (by simp [PyData.eqvAll])
  | x :: xs, [], _, e => absurd e (by simp [PyData.eqvAll])
  | x :: xs, y :: ys, h, e => by
    rw [eqv_all_cons, Bool.and_eq_true] at e
    rw [eqv_eq x y (alike_all_cons h).1 e.1, eqvAll_eq xs ys (alike_all_cons h).2 e.2]
end
theorem lt_refl (x : PyData) : dataLt x x = false := lex_irrefl _
theorem lt_anti {x y : PyData} (h : alike x y = true) (h1 : dataLt x y = false) (h2 : dataLt y x = false) : x = y := by
  have e : keyToks x = keyToks y := lex_total (O := itemOrd) _ _ h1 h2
  cases hx : PyData.eqv x y with
  | true => exact eqv_eq x y h hx
  | false =>
    exfalso
    have z := (toks_eqv x y h).2 hx [] [.inl 0]
    rw [e] at z
    have a1 : PyProof.Rows.lexLt itemOrd (keyToks y ++ []) (keyToks y ++ [.inl 0]) = true := (lex_pre _ _ _).trans rfl
    rw [a1, lex_irrefl] at z
    cases z
theorem lt_trans' {x y z : PyData} (h1 : dataLt x y = true) (h2 : dataLt y z = true) : dataLt x z = true := lex_trans (O := itemOrd) _ _ _ h1 h2
theorem lt_neg {x y z : PyData} (h : dataLt x z = true) : dataLt x y = true ∨ dataLt y z = true := lex_negTrans (O := itemOrd) _ _ _ h
theorem lt_asymm {x y : PyData} (h1 : dataLt x y = true) : dataLt y x = false := by
  cases h : dataLt y x with
  | false => rfl
  | true => have := lt_trans' h1 h; rw [lt_refl] at this; cases this
theorem insD_perm (x : D) : ∀ r : List D, (insD x r).Perm (x :: r)
  | [] => .refl _
  | y :: r => by
    unfold insD
    split
    · exact ((insD_perm x r).cons y).trans (.swap x y r)
    · exact .refl _
theorem sortD_perm : ∀ r : List D, (sortD r).Perm r
  | [] => .refl _
  | x :: r => (insD_perm x _).trans ((sortD_perm r).cons x)
theorem insD_sorted (x : D) : ∀ r : List D, r.Pairwise (fun a b => dataLt b a = false) → (insD x r).Pairwise (fun a b => dataLt b a = false)
  | [], _ => by simp [insD]
  | y :: r, h => by
    unfold insD
    obtain ⟨h1, h2⟩ := List.pairwise_cons.mp h
    split
    · rename_i hz
      refine List.pairwise_cons.mpr ⟨fun a ha => ?_, insD_sorted x r h2⟩
      rcases List.mem_cons.mp ((insD_perm x r).mem_iff.mp ha) with rfl | ha
      · exact lt_asymm hz
      · exact h1 a ha
    · rename_i hz
      have hz : dataLt y x = false := by simpa using hz
      refine List.pairwise_cons.mpr ⟨fun a ha => ?_, h⟩
      rcases List.mem_cons.mp ha with rfl | ha
      · exact hz
      · cases e : dataLt a x with
        | false => rfl
        | true =>
          rcases lt_neg (y := y) e with z | z
          · rw [h1 a ha] at z; cases z
          · rw [hz] at z; cases z
theorem sortD_sorted : ∀ r : List D, (sortD r).Pairwise (fun a b => dataLt b a = false)
  | [] => .nil
  | x :: r => insD_sorted x _ (sortD_sorted r)
theorem sortD_uniq {l m : List D} (p : l.Perm m) (h : ∀ x ∈ l, ∀ y ∈ l, alike x y = true) (h1 : l.Pairwise (fun a b => dataLt b a = false)) (h2 : m.Pairwise (fun a b => dataLt b a = false)) : l = m :=
  p.eq_of_pairwise (fun a b ha hb h3 h4 => lt_anti (h a ha b (p.mem_iff.mpr hb)) h4 h3) h1 h2
theorem alikeB_iff {xs : List D} : alikeB xs = true ↔ ∀ x ∈ xs, ∀ y ∈ xs, alike x y = true := by
  simp only [alikeB, List.all_eq_true]
theorem mergeD (ds : List D) (h : alikeB ds = true) {α : Type} (ps : List α) (enc : α → D) (e : ps.map enc = ds) : (ps.mergeSort (dataLe false enc)).map enc = sortD ds := by
  have le : ∀ a b, dataLe false enc a b = !dataLt (enc b) (enc a) := fun a b => rfl
  have hp : ((ps.mergeSort (dataLe false enc)).map enc).Perm ds := by rw [← e]; exact (List.mergeSort_perm _ _).map _
  refine sortD_uniq (hp.trans (sortD_perm ds).symm) (fun x hx y hy => alikeB_iff.mp h x (hp.mem_iff.mp hx) y (hp.mem_iff.mp hy)) ?_ (sortD_sorted ds)
  rw [List.pairwise_map]
  refine List.Pairwise.imp (R := fun a b => dataLe false enc a b = true) (fun {a b} hab => by rw [le] at hab; simpa using hab) (List.pairwise_mergeSort (fun a b c h1 h2 => ?_) (fun a b => ?_) ps)
  · rw [le] at h1 h2 ⊢
    simp only [Bool.not_eq_true'] at h1 h2 ⊢
    cases z : dataLt (enc c) (enc a) with
    | false => rfl
    | true =>
      rcases lt_neg (y := enc b) z with q | q
      · rw [h2] at q; cases q
      · rw [h1] at q; cases q
  · rw [le, le]
    cases z : dataLt (enc b) (enc a) with
    | false => rfl
    | true => simp [lt_asymm z]
theorem minD_mem (x : D) : ∀ xs : List D, minD x xs ∈ x :: xs := by
  intro xs
  unfold minD
  induction xs generalizing x with
  | nil => simp
  | cons y ys ih =>
    rw [List.foldl_cons]
    have := ih (if dataLt y x = true then y else x)
    rcases List.mem_cons.mp this with h | h
    · rw [h]; split <;> simp
    · simp [h]
theorem maxD_mem (x : D) : ∀ xs : List D, maxD x xs ∈ x :: xs := by
  intro xs
  unfold maxD
  induction xs generalizing x with
  | nil => simp
  | cons y ys ih =>
    rw [List.foldl_cons]
    have := ih (if dataLt x y = true then y else x)
    rcases List.mem_cons.mp this with h | h
    · rw [h]; split <;> simp
    · simp [h]
end Ev
namespace Ev
open PySem PySem.Spec PyProof.Rows L2
section
variable {X : Cx}
/-- a test by the order -/
def rOrd (K : PySem.W.Frag) (g : D → D → Bool) : R2 := fun x y H Q => ∃ d e, Dp K H x d ∧ Dp K H y e ∧ ordOk d e = true ∧ Q (.bl (g d e)) H
theorem ordOk_iff {d e : D} (h : ordOk d e = true) : PySem.W.alike d e = true ∧ d ≠ .none ∧ min d.depth e.depth ≤ 60 := by
  unfold ordOk at h
  simp only [Bool.and_eq_true, decide_eq_true_eq] at h
  obtain ⟨⟨⟨⟨h1, h2⟩, h3⟩, _⟩, _⟩ := h
  exact ⟨h1, fun z => by (subst z; cases h3), h2⟩
theorem op_ltD (hu : X.A.units + 65 < cLine) : OpR X (compareOp .Lt) (rOrd X.K fun d e => PySem.W.dataLt d e) := by
  intro pins s σ H x y v u Q I rx ry h
  obtain ⟨d, e, hd, he, ok, q⟩ := h
  obtain ⟨as, r1⟩ := Dp.reads I d x v hd rx
  obtain ⟨bs, r2⟩ := Dp.reads I e y u he ry
  obtain ⟨h1, h2, h3⟩ := ordOk_iff ok
  exact PySem.W.lt_data r1 r2 h1 h2 (by omega) ⟨.bl _, H, I, rfl, q⟩
theorem op_gtD (hu : X.A.units + 65 < cLine) : OpR X (compareOp .Gt) (rOrd X.K fun d e => PySem.W.dataLt e d) := by
  intro pins s σ H x y v u Q I rx ry h
  obtain ⟨d, e, hd, he, ok, q⟩ := h
  obtain ⟨as, r1⟩ := Dp.reads I d x v hd rx
  obtain ⟨bs, r2⟩ := Dp.reads I e y u he ry
  obtain ⟨h1, h2, h3⟩ := ordOk_iff ok
  exact PySem.W.gt_data r1 r2 h1 h2 (by omega) ⟨.bl _, H, I, rfl, q⟩
theorem op_leD (hu : X.A.units + 65 < cLine) : OpR X (compareOp .LtE) (rOrd X.K fun d e => !PySem.W.dataLt e d) := by
  intro pins s σ H x y v u Q I rx ry h
  obtain ⟨d, e, hd, he, ok, q⟩ := h
  obtain ⟨as, r1⟩ := Dp.reads I d x v hd rx
  obtain ⟨bs, r2⟩ := Dp.reads I e y u he ry
  obtain ⟨h1, h2, h3⟩ := ordOk_iff ok
  exact PySem.W.le_data r1 r2 h1 h2 (by omega) ⟨.bl _, H, I, rfl, q⟩
theorem op_geD (hu : X.A.units + 65 < cLine) : OpR X (compareOp .GtE) (rOrd X.K fun d e => !PySem.W.dataLt d e) := by
  intro pins s σ H x y v u Q I rx ry h
  obtain ⟨d, e, hd, he, ok, q⟩ := h
  obtain ⟨as, r1⟩ := Dp.reads I d x v hd rx
  obtain ⟨bs, r2⟩ := Dp.reads I e y u he ry
  obtain ⟨h1, h2, h3⟩ := ordOk_iff ok
  exact PySem.W.ge_data r1 r2 h1 h2 (by omega) ⟨.bl _, H, I, rfl, q⟩
theorem dp_len {K H} : ∀ {vs : List V} {ds : List D}, DpAll K H vs ds → vs.length = ds.length
  | [], [], _ => rfl
  | _ :: _, _ :: _, .cons _ h => by simp [dp_len h]
theorem zip_snd {α β : Type} : ∀ (xs : List α) (ys : List β), xs.length = ys.length → (xs.zip ys).map Prod.snd = ys
  | [], [], _ => rfl
  | [], _ :: _, h => by simp at h
  | _ :: _, [], h => by simp at h
  | x :: xs, y :: ys, h => by simp [zip_snd xs ys (by simpa using h)]
theorem zip_each {K : PySem.W.Frag} {H : Hp} : ∀ {vs : List V} {us : List Value} {ds : List D}, Vals vs us → vs.length = ds.length → PySem.W.EachIs (fun (v : Value) (b : V × D) => RelV b.1 v) us (vs.zip ds)
  | [], _, [], h, _ => by cases h; exact .nil
  | [], _, _ :: _, _, h => by simp at h
  | _ :: _, _, [], _, h => by simp at h
  | v :: vs, _, d :: ds, h, hl => by
    cases h with
    | cons r rr => exact .cons r (zip_each (K := K) (H := H) rr (by simpa using hl))
theorem zip_reads {X : Cx} {pins : List (Addr × Obj)} {σ : L2.St} {H : Hp} {s : Shared} (I : Inv X pins σ H s) : ∀ {vs : List V} {us : List Value} {ds : List D}, DpAll X.K H vs ds → Vals vs us → PySem.W.EachIs (fun (v : Value) (b : V × D) => ∃ as, Reads s.heap v b.2 as) us (vs.zip ds)
  | [], _, [], _, h => by cases h; exact .nil
  | v :: vs, _, d :: ds, .cons hd hds, h => by
    cases h with
    | cons r rr => exact .cons (Dp.reads I d v _ hd r) (zip_reads I hds rr)
theorem each_vals {R : List (V × D)} {us : List Value} (h : PySem.W.EachIs (fun (v : Value) (b : V × D) => RelV b.1 v) us R) : Vals (R.map Prod.fst) us := by
  induction h with
  | nil => exact .nil
  | cons a _ ih => exact .cons a ih
def rSortD (K : PySem.W.Frag) : List V → Hp → VK → Prop := fun vs H Q => ∃ (a : Addr) (xs : List V) (ds : List D), vs = [V.ref a] ∧ SqL K H a xs ∧ DpAll K H xs ds ∧ sortOk ds = true ∧
  ∀ (ps : List (V × D)) (p : Addr), ps.Perm (xs.zip ds) → ps.map Prod.snd = sortD ds → H p = none → Q (.ref p) (upd H p (.lst (ps.map Prod.fst)))
theorem cr_sortD (hu : X.A.units + 65 < cLine) : CallR X (.builtin "sorted") (rSortD X.K) := by
  intro pins s σ H vs us Q I r h
  obtain ⟨a, xs, ds, rfl, hs, hd, ok, q⟩ := h
  obtain ⟨its, rv, hl, hz⟩ := I.list hs
  rw [Vals.ref1 r]
  unfold sortOk at ok
  simp only [Bool.and_eq_true, Bool.or_eq_true] at ok
  obtain ⟨⟨o1, o2⟩, o3⟩ := ok
  have el := dp_len hd
  have em : (xs.zip ds).map Prod.snd = ds := zip_snd _ _ el
  refine PySem.W.sorted_data (bs := xs.zip ds) (enc := Prod.snd) (show s.heap.IsList a its.toArray from hl.isList) (zip_each (K := X.K) (H := H) rv el) (zip_reads I hd rv) ?_ ?_ ?_ ?_ fun out hlen he => ?_
  · rw [em]; exact fun d h1 d' h2 => alikeB_iff.mp o1 d h1 d' h2
  · rw [em]
    rcases o3 with o3 | o3
    · refine .inl fun d h1 => ?_
      have := List.all_eq_true.mp o3 d h1
      unfold tupD1 at this
      split at this
      · exact ⟨_, _, rfl⟩
      · cases this
    · refine .inr fun d h1 => ?_
      have := List.all_eq_true.mp o3 d h1
      unfold notTupD at this
      split at this
      · cases this
      · cases this
      · rename_i z1 z2
        exact ⟨z2, fun xs e => z1 xs e⟩
  · rw [List.length_zip, ← el, Nat.min_self]; exact hz
  · intro b hb
    have hm : b.2 ∈ ds := by rw [← em]; exact List.mem_map_of_mem hb
    have := List.all_eq_true.mp o2 _ hm
    simp only [decide_eq_true_eq] at this
    omega
  · have hv := each_vals he
    obtain ⟨ep, he'⟩ := PyProof.Rows.sortedAll_at s.heap its out.toArray
    have hp := List.mergeSort_perm (xs.zip ds) (PySem.W.dataLe false Prod.snd)
    have hlen' : (((xs.zip ds).mergeSort (PySem.W.dataLe false Prod.snd)).map Prod.fst).length ≤ sizeLine := by
      rw [List.length_map, hp.length_eq, List.length_zip, ← el, Nat.min_self]; exact hz
    exact ⟨.ref _, upd H (s.heap.objs.size + 1) (.lst (((xs.zip ds).mergeSort (PySem.W.dataLe false Prod.snd)).map Prod.fst)), I.laid (t' := s.toks) (fun _ _ => PyProof.Rows.sortedAll_old) (Nat.le_succ _) ⟨hlen', out, ep, hv, he'⟩, rfl,
      q _ _ hp (mergeD ds o1 _ _ em) (I.hok.fresh (Nat.le_succ _))⟩
theorem perm_short {α : Type} : ∀ {l m : List α}, l.Perm m → m.length < 2 → l = m
  | l, [], p, _ => p.eq_nil
  | l, [x], p, _ => List.perm_singleton.mp p
  | _, _ :: _ :: _, _, h => absurd h (by simp)
/-- of fewer than two items -/
def rSortS (K : PySem.W.Frag) : List V → Hp → VK → Prop := fun vs H Q => ∃ (a : Addr) (xs : List V), vs = [V.ref a] ∧ SqL K H a xs ∧ xs.length < 2 ∧ ∀ p, H p = none → Q (.ref p) (upd H p (.lst xs))
theorem cr_sortS : CallR X (.builtin "sorted") (rSortS X.K) := by
  intro pins s σ H vs us Q I r h
  obtain ⟨a, xs, rfl, hs, hl2, q⟩ := h
  obtain ⟨its, rv, hl, hz⟩ := I.list hs
  rw [Vals.ref1 r]
  have el := rv.length
  refine SrtO.sorted_ord (ltv := fun _ _ => false) ⟨fun _ _ h => (by cases h), fun _ _ _ _ _ => rfl⟩ (show s.heap.IsList a its.toArray from hl.isList) (by omega) (fun h => by omega) fun out _ hb => ?_
  have e : out = its := perm_short hb.perm (by omega)
  subst e
  obtain ⟨ep, he'⟩ := PyProof.Rows.sortedAll_at s.heap out out.toArray
  exact ⟨.ref _, upd H (s.heap.objs.size + 1) (.lst xs), I.laid (t' := s.toks) (fun _ _ => PyProof.Rows.sortedAll_old) (Nat.le_succ _) ⟨hz, out, ep, rv, he'⟩, rfl, q _ (I.hok.fresh (Nat.le_succ _))⟩
theorem depthAll_le {xs : List D} {d : D} (h : d ∈ xs) : d.depth ≤ PyData.depthAll xs := by
  induction xs with
  | nil => cases h
  | cons x xs ih =>
    simp only [PyData.depthAll]
    rcases List.mem_cons.mp h with rfl | h
    · omega
    · have := ih h; omega
def rMm (K : PySem.W.Frag) (g : D → List D → D) : List V → Hp → VK → Prop := fun vs H Q => ∃ (a : Addr) (xs : List V) (d : D) (ds : List D), vs = [V.ref a] ∧ (SqL K H a xs ∨ SqT K H a xs) ∧ DpAll K H xs (d :: ds) ∧ mmOk (d :: ds) = true ∧
  ∀ (i : Nat) (v : V), xs[i]? = some v → (d :: ds)[i]? = some (g d ds) → Q v H
theorem mmOk_iff {xs : List D} (h : mmOk xs = true) : PySem.W.AlikeAll xs ∧ PyData.depthAll xs ≤ 60 := by
  unfold mmOk at h
  simp only [Bool.and_eq_true, decide_eq_true_eq] at h
  refine ⟨⟨alikeB_iff.mp h.1.1, fun x hx e => ?_⟩, h.1.2⟩
  have := List.all_eq_true.mp h.2 x hx
  subst e
  cases this
theorem vals_at : ∀ {vs : List V} {us : List Value}, Vals vs us → ∀ {i : Nat} {u : Value}, us[i]? = some u → ∃ v, vs[i]? = some v ∧ RelV v u
  | _, _, .nil, i, u, h => by simp at h
  | _, _, .cons r rr, 0, u, h => by simp at h; subst h; exact ⟨_, rfl, r⟩
  | _, _, .cons r rr, i + 1, u, h => by
    obtain ⟨v, h1, h2⟩ := vals_at rr (i := i) (u := u) (by simpa using h)
    exact ⟨v, by simpa using h1, h2⟩
theorem dp_at {K H} : ∀ {vs : List V} {ds : List D}, DpAll K H vs ds → ∀ {i : Nat} {v : V}, vs[i]? = some v → ∃ d, ds[i]? = some d ∧ Dp K H v d
  | [], [], _, i, v, h => by simp at h
  | _ :: _, _ :: _, .cons r rr, 0, v, h => by simp at h; subst h; exact ⟨_, rfl, r⟩
  | _ :: _, _ :: _, .cons r rr, i + 1, v, h => by
    obtain ⟨d, h1, h2⟩ := dp_at rr (i := i) (v := v) (by simpa using h)
    exact ⟨d, by simpa using h1, h2⟩
theorem mm_fin {g : D → List D → D} {pins : List (Addr × Obj)} {σ : L2.St} {H : Hp} {s : Shared} {Q : VK} (I : Inv X pins σ H s) {xs : List V} {d : D} {ds : List D} {its : List Value} (rv : Vals xs its) (hd : DpAll X.K H xs (d :: ds)) (ok : mmOk (d :: ds) = true) (hg : g d ds ∈ d :: ds)
    (q : ∀ (i : Nat) (v : V), xs[i]? = some v → (d :: ds)[i]? = some (g d ds) → Q v H) {i : Nat} {v : Value} {h' : Heap} {tk : Nat} {bs : List Addr} (e1 : its[i]? = some v) (e2 : Reads h' v (g d ds) bs) (k : ∀ b o, s.heap.get? b = some o → h'.get? b = some o) :
    ∃ w H', Inv X pins σ H' { s with heap := h', toks := tk } ∧ RelV w v ∧ Q w H' := by
  obtain ⟨w, h1, h2⟩ := vals_at rv e1
  obtain ⟨e, h3, h4⟩ := dp_at hd h1
  obtain ⟨as, h5⟩ := Dp.reads I e w v h4 h2
  have h6 : Reads h' v e as := PyProof.Rows.Reads.keeps k h5
  have hal := (mmOk_iff ok).1.1 e (List.mem_of_getElem? h3) _ hg
  have := PySem.W.alike_unique e (g d ds) v as bs hal h6 e2
  subst this
  exact ⟨w, H, I.kept (t' := tk) k, h2, q i w h1 h3⟩
theorem cr_minD (hc : X.calm = true) (hu : X.A.units + 65 < cLine) : CallR X (.builtin "min") (rMm X.K PySem.W.minD) := by
  intro pins s σ H vs us Q I r h
  obtain ⟨a, xs, d, ds, rfl, hs, hd, ok, q⟩ := h
  rw [Vals.ref1 r]
  obtain ⟨o1, o2⟩ := mmOk_iff ok
  rcases hs with hs | hs
  · obtain ⟨its, rv, hl, hz⟩ := I.list hs
    obtain ⟨as, rr⟩ := Dp.readsAll I _ _ its hd rv
    refine PySem.W.min_list_data (I.ok.hd hc) (show s.heap.IsList a its.toArray from hl.isList) (by simpa using rr) o1 (by omega) fun i v h' tk bs e1 e2 k => ?_
    obtain ⟨w, H', z1, z2, z3⟩ := mm_fin (tk := tk) I rv hd ok (minD_mem d ds) q (by simpa using e1) e2 k
    exact ⟨w, H', z1, z2, z3⟩
  · obtain ⟨its, rv, hl, hz⟩ := I.tuple hs
    obtain ⟨as, rr⟩ := Dp.readsAll I _ _ its hd rv
    refine PySem.W.min_tuple_data (I.ok.hd hc) (show s.heap.IsTuple a its.toArray from hl) (by simpa using rr) o1 (by omega) fun i v h' tk bs e1 e2 k => ?_
    obtain ⟨w, H', z1, z2, z3⟩ := mm_fin (tk := tk) I rv hd ok (minD_mem d ds) q (by simpa using e1) e2 k
    exact ⟨w, H', z1, z2, z3⟩
theorem cr_maxD (hc : X.calm = true) (hu : X.A.units + 65 < cLine) : CallR X (.builtin "max") (rMm X.K PySem.W.maxD) := by
  intro pins s σ H vs us Q I r h
  obtain ⟨a, xs, d, ds, rfl, hs, hd, ok, q⟩ := h
  rw [Vals.ref1 r]
  obtain ⟨o1, o2⟩ := mmOk_iff ok
  rcases hs with hs | hs
  · obtain ⟨its, rv, hl, hz⟩ := I.list hs
    obtain ⟨as, rr⟩ := Dp.readsAll I _ _ its hd rv
    refine PySem.W.max_list_data (I.ok.hd hc) (show s.heap.IsList a its.toArray from hl.isList) (by simpa using rr) o1 (by omega) fun i v h' tk bs e1 e2 k => ?_
    obtain ⟨w, H', z1, z2, z3⟩ := mm_fin (tk := tk) I rv hd ok (maxD_mem d ds) q (by simpa using e1) e2 k
    exact ⟨w, H', z1, z2, z3⟩
  · obtain ⟨its, rv, hl, hz⟩ := I.tuple hs
    obtain ⟨as, rr⟩ := Dp.readsAll I _ _ its hd rv
    refine PySem.W.max_tuple_data (I.ok.hd hc) (show s.heap.IsTuple a its.toArray from hl) (by simpa using rr) o1 (by omega) fun i v h' tk bs e1 e2 k => ?_
    obtain ⟨w, H', z1, z2, z3⟩ := mm_fin (tk := tk) I rv hd ok (maxD_mem d ds) q (by simpa using e1) e2 k
    exact ⟨w, H', z1, z2, z3⟩
end
end Ev

set_option maxRecDepth 100000
/-! EvI: the items of a dict with tuple keys, walked. -/
namespace Ev
open PySem PySem.Spec PyProof.Rows L2
section
variable {X : Cx} {pins : List (Addr × Obj)} {σ : L2.St} {H : Hp} {s : Shared} {d : Addr} {o : Obj}
theorem frzTv {kvs : List (List Key × V)} (I : Inv X pins σ H s) (h : H d = some (.frz o (.dT kvs))) :
    (d == sysModules) = false ∧ s.heap.get? d = some o ∧ o.ExactDict ∧ ∃ (es : Array DictEntry) (ep : Nat), o.data = .dict es ep ∧ es.size = kvs.length ∧
      ∀ (i : Nat) (k : List Key) (v : V), kvs[i]? = some (k, v) → ∃ (en : DictEntry) (q : Addr), es[i]? = some en ∧ en.key = .ref q ∧ H q = some (.tup (k.map kV)) ∧ RelV v en.val := by
  obtain ⟨hd, z, hs, xs, pr, o', es, ep, ho, hx, hdt, he, _⟩ := I.hok d _ h
  rw [hd] at ho
  cases ho
  refine ⟨hs, hd, hx, es, ep, hdt, ?_, fun i k v e => ?_⟩
  · have l1 : es.size = xs.length := size_of_entries he
    have l2 : kvs.length = xs.length := Paired.length pr
    omega
  · obtain ⟨b, hb, e1, e2, e3⟩ := paired_get pr e
    have q := entry_at he i
    rw [hb] at q
    exact ⟨_, b.2.1, q, rfl, e2, e3⟩
end
def Itit (d : Addr) (o : Obj) (kvs : List (List Key × V)) : It :=
  ⟨fun i H => H d = some (.frz o (.dT kvs)) ∧ i < kvs.length, fun i H x H' => ∃ (T q : Addr) (k : List Key) (v : V), kvs[i]? = some (k, v) ∧ H q = some (.tup (k.map kV)) ∧ (k.map kV).length ≤ sizeLine ∧ x = .ref T ∧ H T = none ∧ H' = upd H T (.tup [.ref q, v]), fun i H => H d = some (.frz o (.dT kvs)) ∧ kvs.length ≤ i⟩
section
variable {P : Program} {w : World} {K : PySem.W.Frag} {tg : Expr} {d : Addr} {o : Obj} {es : Array DictEntry} {ep : Nat}
theorem raw_of {h : Heap} (h1 : h.get? d = some o) (h2 : o.ExactDict) (h3 : o.data = .dict es ep) : DT.Raw h d es ep := ⟨o, h1, h2, h3⟩
theorem turn_itemsT {kvs : List (List Key × V)} {elts : List Expr} {kk : Nat} {tpos : Pos} (it : Addr) (hod : o.data = .dict es ep) :
    Turn P w K (.Tuple elts kk tpos) (Itit d o kvs) [it] it (fun i h => ∃ ok ov, IsItemIter h it d i kvs.length ep ok ov) where
  mem := by simp
  obj := fun i h st b hb => by
    have e : b = it := by simpa using hb
    subst e
    obtain ⟨ok, ov, e⟩ := st
    exact ⟨_, e, fun v z => nomatch z⟩
  keep := fun i h h' st k => let ⟨ok, ov, e⟩ := st; ⟨ok, ov, k it (by simp) _ e⟩
  item := by
    intro X hP hw hK hc i pins s σ H E I hf st hg
    subst hP hw hK
    obtain ⟨hd, hi⟩ := hg
    obtain ⟨hs, hgd, hx, es', ep', hdt, hsz, ent⟩ := frzTv I hd
    obtain ⟨rfl, rfl⟩ := dict_ep hod hdt
    obtain ⟨⟨k, v⟩, hkv⟩ : ∃ p, kvs[i]? = some p := ⟨kvs[i], List.getElem?_eq_getElem hi⟩
    obtain ⟨en, q, hen, hkey, hq, hv⟩ := ent i k v hkv
    obtain ⟨ok, ov, he⟩ := st
    rw [← hsz] at he
    have hlt : it < s.heap.objs.size := Heap.lt_size he
    have hi' : i < es'.size := by omega
    have hen' : es'[i] = en := by rw [Array.getElem?_eq_getElem hi'] at hen; exact Option.some.inj hen
    refine DT.nextI he (raw_of hgd hx hdt) hi' fun h' ho hT hz hk => ?_
    rw [hen'] at ho hT
    refine ⟨_, rfl, wpAny_letOwnedTupleGo_items (s := { s with heap := h' }) ho fun h'' he' sb => ?_⟩
    have hT2 : h''.get? s.heap.objs.size = some { cls := .type "tuple", data := .seq #[en.key, en.val] } := (sb.2 _ (Nat.ne_of_gt hlt)).trans hT
    have new : ObjOk X.prog X.w (upd H s.heap.objs.size (.tup [.ref q, v])) h'' s.heap.objs.size (.tup [.ref q, v]) :=
      ⟨by show 2 ≤ sizeLine; decide, [en.key, en.val], .cons hkey (.cons hv .nil), ⟨_, hT2, rfl, _, rfl⟩⟩
    have I1 : Inv X pins σ (upd H s.heap.objs.size (.tup [.ref q, v])) { s with heap := h'' } :=
      I.turnedNew (t' := s.toks) (ch := [it]) (fun b ob hb e => (sb.2 b (by simpa using hb)).trans (hk b ob (by simpa using hb) e)) hf (Nat.le_refl _) new
    refine ⟨.ref s.heap.objs.size, _, I1, rfl, ⟨_, q, k, v, hkv, hq, (show ObjOk X.prog X.w H s.heap q (.tup (k.map kV)) from I.hok q _ hq).1, rfl, I.hok.fresh (Nat.le_refl _), rfl⟩, ⟨en.key, en.val, ?_⟩, fun b hb => ?_⟩
    · rw [← hsz]; exact he'
    · have e : b = it := by simpa using hb
      rw [e, upd_ne (Nat.ne_of_lt hlt)]
      exact (hf it (by simp)).1
  done := by
    intro X hP hw hK hc i pins s σ H E I hf st hg
    subst hP hw hK
    obtain ⟨hd, hi⟩ := hg
    obtain ⟨f0, f1, f2, f3, f4, f5⟩ := hf it (by simp)
    obtain ⟨hs, hgd, hx, es', ep', hdt, hsz, ent⟩ := frzTv I hd
    obtain ⟨rfl, rfl⟩ := dict_ep hod hdt
    obtain ⟨ok, ov, he⟩ := st
    rw [← hsz] at he
    exact DT.endI (I.ok.hd hc) he (raw_of hgd hx hdt) (by omega) fun h' eb => ⟨rfl, I.turned (t' := s.toks) (fun b ob hb e => eb b ob hb e) f0 f1 f3 f4 f5⟩
  self := fun A i s Q E st h => let ⟨_, _, e⟩ := st; PySem.W.kcp_self e h
end
def iItemsT (td : TE) : TI := fun σ H R => td σ H fun x H1 => ∃ d o kvs, x = .ref d ∧ H1 d = some (.frz o (.dT kvs)) ∧ R (Itit d o kvs) H1
theorem pi_itemsT {X : Cx} {e : Expr} {td : TE} {apos cpos : Pos} {elts : List Expr} {kk : Nat} {tpos : Pos} (he : PE X e td) (hbase : attributeBase e "items" X.env (eval e X.env) = eval e X.env := by rfl) (hline : (apos.endLine == cpos.line) = true := by rfl) :
    PI X (.Tuple elts kk tpos) (.Call (.Attribute e "items" apos) [] [] cpos) (iItemsT td) := by
  refine ⟨fun pins s σ H R I h => ?_⟩
  refine wpAny_Call_method (T := "dict") (id := "dict.items") hbase rfl hline F.plainAttrs_dict F.slot_dict_items F.type_dict_items (thn (he.run pins s σ H _ I h) fun u s1 ⟨x, H1, I1, rx, d, o, kvs, ex, hd, q⟩ => ?_)
  subst ex
  obtain rfl : u = Value.ref d := rx
  obtain ⟨hs, hgd, hx, es, ep, hdt, hsz, ent⟩ := frzTv I1 hd
  have hm : DT.Raw s1.heap d es ep := raw_of hgd hx hdt
  refine ⟨hm.typeIs, (fun a ea => by cases ea; exact ⟨o, hgd, hx.2.1⟩), ?_⟩
  have I2 : Inv X pins σ H1 { s1 with heap := s1.heap.push { cls := .type "dict_items", data := .fields #[.ref d] } } := I1.kept (t' := s1.toks) fun b ob q => Heap.get?_push_of_some _ q
  have fin : wpAny (model X.prog X.w) X.A (pyIter (.ref s1.heap.objs.size)) (PIE X pins σ (.Tuple elts kk tpos) R) X.xe { s1 with heap := s1.heap.push { cls := .type "dict_items", data := .fields #[.ref d] } } := by
    refine DT.iterI (d := d) (es := es) (ep := ep) ⟨_, Heap.get?_push_size _ rfl, rfl, rfl⟩ (hm.push _) (pi_one (tk := s1.toks) I2 _ (turn_itemsT _ hdt) ⟨.none, .none, ?_⟩ q)
    rw [← hsz]
    exact Heap.get?_push_size _ rfl
  show wpAny _ _ (callWith cpos (.builtin "dict.items") [.ref d] [] []) _ X.xe s1
  exact method_meetsIn F.slot_dict_items F.entry_dict_items rfl (PySem.evalArgs_none ⟨rfl, hm.typeIs, F.args_dict_items_1 _, _, DT.meetsItems (es := es) (ep := ep) hs, hm, fin⟩)
end Ev

set_option maxRecDepth 100000
set_option maxHeartbeats 1000000
/-! EvJ: dicts with tuple keys: copies, displays, comprehensions, sorted items, at the model's level. -/
namespace Ev
open PySem PySem.Spec PyProof.Rows L2
section
variable {X : Cx} {pins : List (Addr × Obj)} {σ : L2.St} {H : Hp} {s : Shared}
/-- a thing of one's own is locked for good -/
def tFz (t : TE) : TE := fun σ H Q => t σ H fun v H1 => ∃ d u, v = .ref d ∧ H1 d = some u ∧ L2.Mut (some u) ∧ ∀ od, Q v (upd H1 d (.frz od u))
theorem pe_fz {e : Expr} {t : TE} (h : PE X e t) : PE X e (tFz t) :=
  ⟨fun pins s σ H Q I q => thn (h.run pins s σ H _ I q) fun u s1 ⟨x, H1, I1, rx, d, o, ex, hd, mu, q1⟩ => by
    obtain ⟨od, I2⟩ := I1.lock hd mu
    exact ⟨x, _, I2, rx, q1 od⟩⟩
/-- .. or not -/
def tFzO (t : TE) : TE := fun σ H Q => t σ H fun v H1 => Q v H1 ∨ ∃ d u, v = .ref d ∧ H1 d = some u ∧ L2.Mut (some u) ∧ ∀ od, Q v (upd H1 d (.frz od u))
theorem pe_fzO {e : Expr} {t : TE} (h : PE X e t) : PE X e (tFzO t) :=
  ⟨fun pins s σ H Q I q => thn (h.run pins s σ H _ I q) fun u s1 ⟨x, H1, I1, rx, q1⟩ => by
    rcases q1 with q1 | ⟨d, o, ex, hd, mu, q1⟩
    · exact ⟨x, _, I1, rx, q1⟩
    · obtain ⟨od, I2⟩ := I1.lock hd mu
      exact ⟨x, _, I2, rx, q1 od⟩⟩
/-- what a dict's object is, by DictOfH -/
theorem dT_new {P : Program} {w : World} {H' : Hp} {h' : Heap} {a : Addr} {kvs : List (List Key × V)} {xs : List (List Key × Addr × Value)} (z : kvs.length ≤ sizeLine) (hd : (a == sysModules) = false) (rel : KT H' kvs xs)
    (dd : h'.DictOfH (tupleKind (mixKind P w)) a xs) : ObjOk P w H' h' a (.dT kvs) := by
  obtain ⟨o, es, ep, h1, h2, h3, h4, _, h6⟩ := dd
  exact ⟨z, hd, xs, rel, o, es, ep, h1, h2, h3, h4, h6⟩
theorem frz_dT {a : Addr} {o : Obj} {kvs : List (List Key × V)} (I : Inv X pins σ H s) (h : H a = some (.frz o (.dT kvs))) :
    kvs.length ≤ sizeLine ∧ (a == sysModules) = false ∧ ∃ xs, KT H kvs xs ∧ s.heap.DictOfH (tupleKind (mixKind X.prog X.w)) a xs := dt_rd I.hok (.inr ⟨o, h⟩)
/-- d[k] = v by a display or a comprehension -/
theorem dT_set {D b : Addr} {kvs : List (List Key × V)} {k : List Key} {v : V} {r : Value} {E : Value → Shared → Prop} {Q : Unit → Shared → Prop} (hu : X.A.units < cLine) (I : Inv X pins σ H s) (hD : H D = some (.dT kvs)) (hz : kvs.length < sizeLine)
    (hb : H b = some (.tup (k.map kV))) (rv : RelV v r) (h : ∀ s', Inv X pins σ (upd H D (.dT (putK kvs k v))) s' → Q () s') : wpAny (model X.prog X.w) X.A (dictSet D (.ref b) r) Q E s := by
  obtain ⟨z, hd, xs, rel, dd⟩ := dt_of I.hok hD
  have hxl : xs.length ≤ sizeLine := by rw [← Paired.length rel]; exact z
  refine wpAny_dictSet_heap (hsz := hxl) hu (key_of I.hok hb) dd fun h' dd' hs => h _ ?_
  have hp : (putK kvs k v).length ≤ sizeLine := by have := length_putK kvs k v; omega
  refine d_write I (by rw [hD]; exact True.intro) hs (let ⟨q, _, _, hq, _⟩ := dd'; ⟨q, hq⟩) (dT_new hp hd ((rel.put k hb rv).keeps fun c ys ec => ?_) dd')
  rw [upd_ne (ne_of ec hD (fun z => nomatch z))]
  exact ec
/-! ### a display of one pair -/
theorem Dict_pairsT {prog : Program} {w : World} {K : Type} [DecidableEq K] {knd : HeapKind prog w K} {A : Around} {E : Value → Shared → Prop} {env : PySem.Env} {k v : Expr} {pos : Pos} {Q : Value → Shared → Prop} (hu : knd.room A)
    (h : wpAny (model prog w) A (evalPairs (pairTrees [some k] [v] env pos)) (fun vs s₁ => ∃ ps, CarriesH knd s₁.heap vs ps ∧ s₁.heap.DictOfH knd s.heap.objs.size [] ∧
      ∀ h' tk, h'.DictOfH knd s.heap.objs.size (storedAllH [] ps) → Heap.SameBut s.heap.objs.size s₁.heap h' → Q (.ref s.heap.objs.size) { s₁ with heap := h', toks := tk }) E
      { s with heap := s.heap.push { cls := .type "dict", data := .dict #[] } }) : wpAny (model prog w) A (eval (.Dict [some k] [v] pos) env) Q E s := by
  rw [arm_eval_Dict, zip_pairTrees [some k] [v] env pos rfl rfl, dictDisplay_pairs (pairTrees [some k] [v] env pos) (by simp [pairTrees]) (by simp [pairTrees])]
  refine wpAny_bind (wpAny_standAt (wpAny_bind (wpAny_subDictH (knd := knd) hu (by simp [pairTrees]) ?_)))
  refine wpAny_mono h (fun vs s₁ ⟨ps, hc, hm, hq⟩ => ⟨ps, hc, hm, fun h' tk a b => ?_⟩) fun _ _ e => e
  exact wpAny_pure (hq h' tk a b)
def tDisp1T (tk tv : TE) : TE := fun σ H Q => ∀ p, H p = none → tk σ (upd H p (.dT [])) fun x H1 => tv σ H1 fun y H2 => H2 p = some (.dT []) ∧ ∃ b ks, x = .ref b ∧ H2 b = some (.tup (ks.map kV)) ∧ Q (.ref p) (upd H2 p (.dT [(ks, y)]))
theorem pe_disp1T {k v : Expr} {pos : Pos} {tk tv : TE} (hu : X.A.units < cLine) (hk : PE X k tk) (hv : PE X v tv) : PE X (.Dict [some k] [v] pos) (tDisp1T tk tv) := by
  refine ⟨fun pins s σ H Q I q => ?_⟩
  have hn := I.hok.fresh (Nat.le_refl s.heap.objs.size)
  have I1 := I.laid (a := s.heap.objs.size) (o := .dT []) (h' := s.heap.push { cls := .type "dict", data := .dict #[] }) (t' := s.toks) (fun _ _ q => Heap.get?_push_of_some _ q) (Nat.le_refl _) (dt_empty s.heap I.big)
  have pp := pps_cons (pos := pos) hk hv pps_nil
  refine Dict_pairsT (knd := tupleKind (mixKind X.prog X.w)) hu (thn (pp.run pins _ σ _ (fun ps H2 => match ps with
    | [(x, y)] => H2 s.heap.objs.size = some (.dT []) ∧ ∃ b ks, x = .ref b ∧ H2 b = some (.tup (ks.map kV)) ∧ Q (.ref s.heap.objs.size) (upd H2 s.heap.objs.size (.dT [(ks, y)]))
    | _ => False) I1 (q _ hn)) fun ws s2 ⟨ps, H2, I2, rel, e⟩ => ?_)
  cases rel with
  | nil => exact e.elim
  | @cons p0 p1 _ _ r rr =>
    cases rr with
    | cons => exact e.elim
    | nil =>
      obtain ⟨x, y⟩ := p0
      obtain ⟨w1, w2⟩ := p1
      obtain ⟨r1, r2⟩ := r
      obtain ⟨e, b, ks, rfl, hb, q2⟩ := e
      obtain rfl : w1 = Value.ref b := r1
      obtain ⟨z, hd, vs0, r0, dd⟩ := dt_of I2.hok e
      cases r0
      refine ⟨[(ks, b, w2)], ⟨rfl, rfl, key_of I2.hok hb, trivial⟩, dd, fun h' tk' dd' hs => ⟨.ref s.heap.objs.size, _, ?_, rfl, q2⟩⟩
      refine d_write I2 (by rw [e]; exact True.intro) hs (let ⟨o, _, _, hq, _⟩ := dd'; ⟨o, hq⟩) (dT_new (by show 1 ≤ sizeLine; rw [sizeLine_eq]; omega) hd (xs := [(ks, b, w2)]) (.cons ⟨rfl, ?_, r2⟩ .nil) dd')
      rw [upd_ne (ne_of hb e (fun z => nomatch z))]
      exact hb
/-! ### a comprehension with tuple keys -/
def tDcT (wi : TI) (g : TG) (tk tv : TE) (vs : List Nat) : TE := fun σ H Q => wi σ H fun J H1 => ∀ D, H1 D = none → ∃ W : Nat → Nat → Hp → Prop, (∃ m, W 0 m (upd H1 D (.dT []))) ∧ ∀ i m H, W i m H →
  (J.stop i H ∧ Q (.ref D) H) ∨ (J.go i H ∧ ∃ Nx : Hp → Prop, (∀ H', Nx H' → ∃ m', m' < m ∧ W (i + 1) m' H') ∧ ∀ x H', J.yld i H x H' → g x (wipe σ vs) H' fun σ2 H2 => wipe σ2 vs = wipe σ vs ∧
    tk σ2 H2 fun y H4 => tv σ2 H4 fun z H5 => ∃ kvs k b, y = .ref b ∧ H5 b = some (.tup (k.map kV)) ∧ H5 D = some (.dT kvs) ∧ kvs.length < sizeLine ∧ Nx (upd H5 D (.dT (putK kvs k z))))
abbrev BX (X : Cx) (s : Shared) (H : Hp) (sc : Scope) (C : Addr) (cl : List (Str × Addr)) (fp : List Addr) : Cx := X.blk s H sc (compEnvC sc cl C X.env) fp
theorem pe_dcT {kx vx tg iter : Expr} {sc : Scope} {own : List (Str × Nat)} {pos : Pos} {wi : TI} {g : TG} {tk tv : TE} (hc : X.calm = true) (hu : X.A.units < cLine) (hN : X.N.Nodup) (hi : PI X tg iter wi) (ok : BlkOk X.N X.env.scope sc own)
    (hg : ∀ s H C cl fp, PG (BX X s H sc C cl fp) tg g) (hk : ∀ s H C cl fp, PE (BX X s H sc C cl fp) kx tk) (hv : ∀ s H C cl fp, PE (BX X s H sc C cl fp) vx tv) (hs : ∀ x, foldedSetIterable iter X.env x = pure x) :
    PE X (.DictComp kx vx [⟨tg, iter, [], 0⟩] sc pos) (tDcT wi g tk tv (own.map (·.2))) := by
  refine ⟨fun pins s σ H Q I h => ?_⟩
  rw [arm_eval_DictComp]
  have clo : ∀ y ∈ sc.names, y.2 = .free → ∃ c, X.env.cells.lookup y.1 = some c := fun y hy e => (ok.free y hy e).elim (fun k => I.ok.has _ (.inl k)) fun k => I.ok.has _ (.inr k)
  refine wpAny_comprehension_free rfl hs (closure_ok clo) ok.kind (fun y hy e => by rw [ok.uniq y hy, e]) (thn (hi.run pins s σ H _ I h) fun _ s1 hx => thn hx fun _ s2 h2 => ?_)
  obtain ⟨it, fp, tn, J, H2, rfl, I2, T, st2, f2, q⟩ := h2
  refine wpAny_newObj_type (newEnv_comp ?_)
  -- the new dict stands at the heap's end
  have nD : H2 s2.heap.objs.size = none := I2.hok.fresh (Nat.le_refl _)
  obtain ⟨W, ⟨m0, w0⟩, turn⟩ := q s2.heap.objs.size nD
  have I3 := I2.laid (a := s2.heap.objs.size) (o := .dT []) (t' := s2.toks) (fun b o e => Heap.get?_push_of_some { cls := .type "dict", data := .dict #[] } e) (Nat.le_refl _) (dt_empty s2.heap I2.big)
  have lt2 : ∀ b ∈ fp, b < s2.heap.objs.size := fun b hb => (T.obj _ _ st2 b hb).elim fun o e => Heap.lt_size e.1
  have st3 : tn 0 (s2.heap.push { cls := .type "dict", data := .dict #[] }) := T.keep _ _ _ st2 fun b _ o e => Heap.get?_push_of_some _ e
  generalize hD : s2.heap.objs.size = D at nD turn w0 I3 lt2 ⊢
  generalize hp3 : s2.heap.push { cls := .type "dict", data := .dict #[] } = h3 at I3 st3 ⊢
  have sz3 : h3.objs.size = D + 1 := by rw [← hp3, Heap.size_push, hD]
  have f3 : ∀ b ∈ fp, FpOk X pins (upd H2 D (.dT [])) b ∧ b < h3.objs.size := fun b hb => by
    have hlt := lt2 b hb
    exact ⟨⟨by rw [upd_ne (Nat.ne_of_lt hlt)]; exact (f2 b hb).1, (f2 b hb).2⟩, by rw [sz3]; exact Nat.lt_succ_of_lt hlt⟩
  generalize hH3 : upd H2 D (.dT []) = H3 at I3 f3 w0
  have I4 := block_start I3 ok hN f3
  have pg := hg { s2 with heap := h3 } H3 h3.objs.size (cellsFrom (h3.objs.size + 1) sc.names (cloFrom X.env.cells sc.names [])) fp
  have pk := hk { s2 with heap := h3 } H3 h3.objs.size (cellsFrom (h3.objs.size + 1) sc.names (cloFrom X.env.cells sc.names [])) fp
  have pv := hv { s2 with heap := h3 } H3 h3.objs.size (cellsFrom (h3.objs.size + 1) sc.names (cloFrom X.env.cells sc.names [])) fp
  show codeAny _ _ (.compStart _ 0 (.ref it) (.ref D) (compEnvC sc (cellsFrom (h3.objs.size + 1) sc.names (cloFrom X.env.cells sc.names [])) h3.objs.size X.env)) _ _
  unfold BX at pg pk pv
  generalize hce : compEnvC sc (cellsFrom (h3.objs.size + 1) sc.names (cloFrom X.env.cells sc.names [])) h3.objs.size X.env = ce at I4 pg pk pv ⊢
  have cL : ce.locals = h3.objs.size := by subst hce; rfl
  generalize hs4 : pushCells (h3.push { cls := .type "dict", data := .dict #[] }) sc.names = h4 at I4 ⊢
  have st4 : tn 0 h4 := T.keep _ _ _ st3 fun b _ o e => by rw [← hs4]; exact pushCells_keeps _ _ _ _ (Heap.get?_push_of_some _ e)
  have fpk : ∀ {σ' : L2.St} {H' : Hp} {s' : Shared}, Inv (X.blk { s2 with heap := h3 } H3 sc ce fp) [] σ' H' s' → (∀ b ∈ fp, H' b = none) → ∀ b ∈ fp, FpOk (X.blk { s2 with heap := h3 } H3 sc ce fp) [] H' b := fun {σ' H' s'} I' hn b hb =>
    ⟨hn b hb, (I'.ok.exf b hb).1, I'.ok.exfs b hb, .inl hb, fun x c e => (I'.ok.exf b hb).2 x c e, fun p hp => by cases hp⟩
  have loop : codeAny (model X.prog X.w) X.A (.compLoop (.DictComp kx vx [⟨tg, iter, [], 0⟩] sc pos) 0 (.ref it) (.ref D) ce) (compPost (model X.prog X.w) X.A X.xe none (EP X pins σ Q) (.ref D) h3.objs.size) { s2 with heap := h4 } := by
    refine compLoop_anyD (fun n s' => ∃ i H', Inv (X.blk { s2 with heap := h3 } H3 sc ce fp) [] (wipe σ (own.map (·.2))) H' s' ∧ tn i s'.heap ∧ (∀ b ∈ fp, H' b = none) ∧ W i n H') ?_ m0 ⟨0, H3, I4, st4, fun b hb => (f3 b hb).1.1, w0⟩
    rintro n s5 ⟨i, H5, I5, st5, n5, w5⟩
    rcases turn i n H5 w5 with ⟨stop, qq⟩ | ⟨go, Nx, hNx, step⟩
    · refine thnF (T.done (X.blk { s2 with heap := h3 } H3 sc ce fp) rfl rfl rfl hc i [] s5 _ H5 (fun _ _ => False) I5 (fpk I5 n5) st5 stop) fun r s6 ⟨hr, I6⟩ => ?_
      subst hr
      have I7 : Inv X pins σ H5 s6 := I3.call' (ch := fp) I6.os I6.base I6.hok I6.bare fun b hb => ⟨(f3 b hb).1.2.2.2.1, (f3 b hb).1.2.1, (f3 b hb).1.2.2.2.2.1, (f3 b hb).1.2.2.2.2.2⟩
      have nC : H5 h3.objs.size = none := by have z := I6.free; rw [show (X.blk { s2 with heap := h3 } H3 sc ce fp).env.locals = h3.objs.size from cL] at z; exact z
      obtain ⟨m, hn, _⟩ := I6.loc
      rw [show (X.blk { s2 with heap := h3 } H3 sc ce fp).env.locals = h3.objs.size from cL] at hn
      refine ⟨m, hn, fun h'' sb => ?_⟩
      obtain ⟨g0, g1, g2, g3, g4, g5⟩ := I3.fpOk (Nat.le_refl _) nC
      exact ⟨.ref D, H5, I7.turned (t' := s6.toks) (fun b o hb e => (sb.2 b hb).trans e) g0 g1 g3 g4 g5, rfl, qq⟩
    · refine thnF (T.item (X.blk { s2 with heap := h3 } H3 sc ce fp) rfl rfl rfl hc i [] s5 _ H5 (fun _ _ => False) I5 (fpk I5 n5) st5 go) fun r s6 ⟨u, hr, h6⟩ => ?_
      subst hr
      refine thnF h6 fun _ s7 ⟨x, H7, I7, r7, y7, st7, n7⟩ => ?_
      have I7' := I7.pinned (fpk I7 n7) (T.obj _ _ st7)
      refine thnF (pg.run _ s7 _ H7 x u _ I7' r7 (step x H7 y7)) fun _ s8 ⟨σ8, H8, I8, hw8, q8⟩ => ?_
      show wpAny _ _ (pure true) _ _ _
      refine wpAny_pure ?_
      rw [if_pos rfl]
      refine thnF (pk.run _ s8 σ8 H8 _ I8 q8) fun z s10 ⟨yk, H10, I10, r10, q10⟩ => ?_
      refine thnF (pv.run _ s10 σ8 H10 _ I10 q10) fun z2 s11 ⟨yv, H11, I11, r11, kvs, k, b, ek, hb, hD11, hz11, nx⟩ => ?_
      subst ek
      obtain rfl : z = Value.ref b := r10
      refine dT_set (X := X.blk { s2 with heap := h3 } H3 sc ce fp) hu I11 hD11 hz11 hb r11 fun s12 I12 => ?_
      obtain ⟨m', hm, w'⟩ := hNx _ nx
      have pin' : ∀ b ∈ fp, ∀ o, s7.heap.get? b = some o → s12.heap.get? b = some o ∧ (upd H11 D (.dT (putK kvs k yv))) b = none := fun b hb o e =>
        let z := I12.pin (b, o) (List.mem_append_right _ (List.mem_append_right _ (mem_pinsAt hb e)))
        ⟨z.1, z.2.1⟩
      refine ⟨m', hm, i + 1, _, (I12.unpinned (pins := [])).weak (by rw [← hw8, wipe_length]) (fun j v e => by rw [← hw8] at e; exact (wipe_some e).1), T.keep _ _ _ st7 fun b hb o e => (pin' b hb o e).1, fun b hb => ?_, w'⟩
      obtain ⟨o, e, _⟩ := T.obj _ _ st7 b hb
      exact (pin' b hb o e).2
  exact codeAny_compStart_dict loop (T.self X.A 0 _ _ _ st4 loop)
/-! ### dict(d) of a locked dict -/
theorem d_copyF {a : Addr} {od : Obj} {kvs : List (List Key × V)} {A : Around} {E : Value → Shared → Prop} {Q : Value → Shared → Prop} (hu : A.units + 2 < cLine) (I : Inv X pins σ H s) (e : H a = some (.frz od (.dT kvs)))
    (hap : (kvs.map fun p => tupleKeyHash (mixKind X.prog X.w) p.1).Nodup) (h : ∀ p s', H p = none → Inv X pins σ (upd H p (.dT kvs)) s' → Q (.ref p) s') : wpAny (model X.prog X.w) A (call (.type "dict") [.ref a]) Q E s := by
  obtain ⟨z, hoS, xs, rel, dd⟩ := frz_dT I e
  have hn := I.hok.fresh (Nat.le_refl s.heap.objs.size)
  refine callType_codes (Q₁ := fun obj s₁ => obj = .ref s.heap.objs.size ∧ s₁ = { s with heap := s.heap.push { cls := .type "dict", data := .dict #[] } }) F.kt_called_dict (F.kt_typeCall_dict_1 _) F.entry_dict_init (kt_code_dict_new _ ⟨rfl, rfl⟩) ?_
  rintro obj s₁ ⟨rfl, rfl⟩
  have I1 := I.laid (a := s.heap.objs.size) (o := .dT []) (h' := s.heap.push { cls := .type "dict", data := .dict #[] }) (t' := s.toks) (fun _ _ q => Heap.get?_push_of_some _ q) (Nat.le_refl _) (dt_empty s.heap I.big)
  have ne : s.heap.objs.size ≠ a := fun z => by rw [z, e] at hn; cases hn
  have e1 : upd H s.heap.objs.size (.dT []) a = some (.frz od (.dT kvs)) := by rw [upd_ne (Ne.symm ne)]; exact e
  obtain ⟨_, _, xs1, rel1, d1⟩ := frz_dT I1 e1
  obtain ⟨_, nS, ys, rely, dn⟩ := dt_of I1.hok (show upd H s.heap.objs.size (.dT []) s.heap.objs.size = some (.dT []) from upd_same)
  cases rely
  have hsz : ([] : List (List Key × Addr × Value)).length + xs1.length ≤ sizeLine := by have := Paired.length rel1; simp only [List.length_nil, Nat.zero_add]; omega
  refine ⟨dn.typeIs, F.args_dict_init_2 _ _, ?_⟩
  unfold Builtin.«dict.__init__»
  refine wpAny_bind ?_
  unfold Builtin.Dict.selfAndRest
  refine wpAny_bind (wpAny_notOrdered_dict dn.typeIs ?_)
  show wpAny _ _ (pure (s.heap.objs.size, [Value.ref a])) _ _ _
  refine wpAny_pure ?_
  show wpAny _ _ (Builtin.Dict.updateFrom "dict.__init__" s.heap.objs.size (.ref a) [] .none) _ _ _
  have ty : ∀ x ∈ xs1, ({ s with heap := s.heap.push { cls := .type "dict", data := .dict #[] } } : Shared).TypeIs (.ref x.2.1) "tuple" := fun x hx => by
    obtain ⟨_, _, _, _, _, _, _, his, _⟩ := d1
    exact IsTupleKey.typeIs (his x hx)
  have hm : xs1.map (fun x => (tupleKind (mixKind X.prog X.w)).hash x.1) = kvs.map fun p => tupleKeyHash (mixKind X.prog X.w) p.1 := by
    have : ∀ {l : List (List Key × V)} {m : List (List Key × Addr × Value)}, KT (upd H s.heap.objs.size (.dT [])) l m → m.map (fun x => (tupleKind (mixKind X.prog X.w)).hash x.1) = l.map fun p => tupleKeyHash (mixKind X.prog X.w) p.1 := fun {l m} q => by
      induction q with
      | nil => rfl
      | cons hq _ ih => rw [List.map_cons, List.map_cons, ih, hq.1]; rfl
    exact this rel1
  refine updateFrom_dictH (knd := tupleKind (mixKind X.prog X.w)) (R := wants (fun r s₂ => r = Value.none ∧ Q (.ref s.heap.objs.size) s₂) E) .none (tupleKind_room_in1 (by show A.units + 1 + 1 < cLine; omega)) ne hoS dn d1 (.inr ⟨ty, by rw [hm]; exact hap⟩) hsz fun h' hd' ho' hs => ⟨rfl, ?_⟩
  rw [storedAllH_nil_of_nodup xs1 (let ⟨_, _, _, _, _, _, _, _, hn⟩ := d1; hn)] at hd'
  refine h _ _ hn ?_
  have I2 := d_write (t' := s.toks) I1 (a := s.heap.objs.size) (ob := .dT kvs) (h' := h') (by rw [upd_same]; exact True.intro) hs (let ⟨o, _, _, hq, _⟩ := hd'; ⟨o, hq⟩) (dT_new z nS (rel1.keeps fun c ys ec => by
    have : c ≠ s.heap.objs.size := fun z => by rw [z, upd_same] at ec; cases ec
    rw [upd_upd, upd_ne this]; rw [upd_ne this] at ec; exact ec) hd')
  rw [upd_upd] at I2
  exact I2
theorem sql_mono {K : PySem.W.Frag} {H H' : Hp} {a vs} (g : ∀ b o, H b = some o → H' b = some o) (h : SqL K H a vs) : SqL K H' a vs := by
  rcases h with (h | ⟨o, h⟩) | h
  · exact .inl (.inl (g _ _ h))
  · exact .inl (.inr ⟨o, g _ _ h⟩)
  · exact .inr h
theorem sqt_mono {K : PySem.W.Frag} {H H' : Hp} {a vs} (g : ∀ b o, H b = some o → H' b = some o) (h : SqT K H a vs) : SqT K H' a vs := by
  rcases h with (h | ⟨o, h⟩) | h
  · exact .inl (.inl (g _ _ h))
  · exact .inl (.inr ⟨o, g _ _ h⟩)
  · exact .inr h
mutual
theorem dp_mono {K : PySem.W.Frag} {H H' : Hp} (g : ∀ b o, H b = some o → H' b = some o) : ∀ {v : V} {d : D}, Dp K H v d → Dp K H' v d
  | _, _, .non => .non
  | _, _, .bl b => .bl b
  | _, _, .int i => .int i
  | _, _, .str x => .str x
  | _, _, .lst h1 h2 => .lst (sql_mono g h1) (dps_mono g h2)
  | _, _, .tup h1 h2 => .tup (sqt_mono g h1) (dps_mono g h2)
theorem dps_mono {K : PySem.W.Frag} {H H' : Hp} (g : ∀ b o, H b = some o → H' b = some o) : ∀ {vs : List V} {ds : List D}, DpAll K H vs ds → DpAll K H' vs ds
  | _, _, .nil => .nil
  | _, _, .cons h1 h2 => .cons (dp_mono g h1) (dps_mono g h2)
end
theorem dps_ints {K : PySem.W.Frag} {H : Hp} : ∀ (k : List Int), DpAll K H (k.map V.int) (k.map .int)
  | [] => .nil
  | _ :: r => .cons (.int _) (dps_ints r)
/-! ### the items of a locked dict, sorted -/
def rItemsF : V → List V → Hp → VK → Prop := fun x xs H Q => ∃ (a : Addr) (od : Obj) (kvs : List (List Key × V)), x = .ref a ∧ xs = [] ∧ H a = some (.frz od (.dT kvs)) ∧ ∀ p, H p = none → Q (.ref p) (upd H p (L2.DX.itemsO p a))
theorem mt_itemsF : MtR X "dict.items" rItemsF := by
  intro pins s σ H x xs v us Q I rx rxs h
  obtain ⟨a, od, kvs, rfl, rfl, ha, q⟩ := h
  cases rx
  cases rxs
  obtain ⟨hs, hgd, hx, es, ep, hdt, _⟩ := frzTv I ha
  refine DT.callItems (es := es) (ep := ep) hs (raw_of hgd hx hdt) ?_
  exact ⟨.ref s.heap.objs.size, _, I.laid (t' := s.toks) (fun b u e => Heap.get?_push_of_some _ e) (Nat.le_refl _) (L2.DX.itemsO_ok (Heap.get?_push_size _ rfl)), rfl, q _ (I.hok.fresh (Nat.le_refl _))⟩
theorem pe_itemsF {e : Expr} {td : TE} {apos cpos : Pos} (he : PE X e td) (hbase : attributeBase e "items" X.env (eval e X.env) = eval e X.env) (hline : (apos.endLine == cpos.line) = true) :
    PE X (.Call (.Attribute e "items" apos) [] [] cpos) (fun σ H Q => td σ H fun x H1 => rItemsF x [] H1 Q) := by
  refine ⟨fun pins s σ H Q I h => ?_⟩
  refine wpAny_Call_method0_late hbase hline (thn (he.run pins s σ H _ I h) fun v s1 ⟨x, H1, I1, r1, q1⟩ => ?_)
  have q2 := q1
  obtain ⟨a, od, kvs, rfl, _, ha, _⟩ := q1
  obtain rfl : v = Value.ref a := r1
  obtain ⟨hs, hgd, hx, es, ep, hdt, _⟩ := frzTv I1 ha
  exact ⟨"dict", "dict.items", F.plainAttrs_dict, F.slot_dict_items, F.type_dict_items, (raw_of hgd hx hdt).typeIs, (fun b eb => by cases eb; exact ⟨_, hgd, hx.2.1⟩), Calls.callWith_builtin rfl (PySem.evalArgs_none (mt_itemsF pins s1 σ H1 (.ref a) [] _ [] Q I1 rfl .nil q2))⟩
def pairI (k : List Int) (d : D) : D := .tuple [.tuple (k.map .int), d]
/-- z = (the new tuple, its data) of the dict's i-th pair -/
def ItemAt (H H' : Hp) (kvs : List (List Key × V)) (ks : List (List Int)) (ds : List D) (z : Addr × D) : Prop := H z.1 = none ∧ ∃ (i : Nat) (q : Addr) (v : V) (k : List Int) (d : D), kvs[i]? = some (k.map Sum.inl, v) ∧ ks[i]? = some k ∧ ds[i]? = some d ∧
  z.2 = pairI k d ∧ H q = some (.tup (k.map V.int)) ∧ k.length ≤ sizeLine ∧ H' z.1 = some (.tup [.ref q, v])
def rSortItF (K : PySem.W.Frag) : List V → Hp → VK → Prop := fun vs H Q => ∃ (p a : Addr) (od : Obj) (kvs : List (List Key × V)) (ks : List (List Int)) (ds : List D), vs = [V.ref p] ∧ H p = some (L2.DX.itemsO p a) ∧ H a = some (.frz od (.dT kvs)) ∧
  kvs.map (·.1) = ks.map (fun k => k.map Sum.inl) ∧ DpAll K H (kvs.map (·.2)) ds ∧ sortOk ((ks.zip ds).map fun z => pairI z.1 z.2) = true ∧
  ∀ (H' : Hp) (l : Addr) (zs : List (Addr × D)), (∀ b o, H b = some o → H' b = some o) → zs.map (·.2) = sortD ((ks.zip ds).map fun z => pairI z.1 z.2) → H l = none → H' l = some (.lst (zs.map fun z => V.ref z.1)) → zs.length ≤ sizeLine → (zs.map (·.1)).Nodup → (∀ z ∈ zs, z.1 ≠ l ∧ ItemAt H H' kvs ks ds z) →
    (∀ b, H' b = none → H b = none) → Q (.ref l) H'
theorem cr_sortItF (hc : X.calm = true) (hu : X.A.units + 65 < cLine) : CallR X (.builtin "sorted") (rSortItF X.K) := by
  intro pins s σ H xs us Q I r h
  obtain ⟨p, a, od, kvs, ks, ds, rfl, hp, ha, hks, hds, ok, q⟩ := h
  obtain rfl := Vals.ref1 r
  have view : s.heap.IsItemsView p a := (show ObjOk X.prog X.w H s.heap p (L2.DX.itemsO p a) from I.hok p _ hp).1
  obtain ⟨hs, hgd, hx, es, ep, hdt, hsz, ent⟩ := frzTv I ha
  obtain ⟨hzl, _⟩ := frz_dT I ha
  have hh : X.A.handled = none := I.ok.hd hc
  have lk : kvs.length = ks.length := by have := congrArg List.length hks; simpa using this
  have ld : kvs.length = ds.length := by have := dp_len hds; simpa using this
  refine DT.sortedI (es := es) (ep := ep) hh view (raw_of hgd hx hdt) (by rw [hsz]; exact hzl) fun h' tk as hk hlt hl hG => ?_
  have nd : as.Nodup := List.Pairwise.imp (fun h => Nat.ne_of_lt h) hG.rise
  have lak : as.length = kvs.length := by omega
  -- the new pairs
  have pr : ∀ (j : Nat) (b : Addr), as[j]? = some b → ∃ (k : List Int) (v : V) (d : D) (q : Addr) (u : Value), kvs[j]? = some (k.map Sum.inl, v) ∧ ks[j]? = some k ∧ ds[j]? = some d ∧ Dp X.K H v d ∧ H q = some (.tup (k.map V.int)) ∧ RelV v u ∧ h'.get? b = some { cls := .type "tuple", data := .seq #[Value.ref q, u] } := by
    intro j b hj
    obtain ⟨en, he, hg⟩ := hG.pairs j b hj
    have hj' : j < kvs.length := by rw [← lak]; exact (List.getElem?_eq_some_iff.mp hj).1
    obtain ⟨k0, hk0⟩ : ∃ k, ks[j]? = some k := ⟨ks[j], List.getElem?_eq_getElem (by omega)⟩
    obtain ⟨d, hd⟩ : ∃ d, ds[j]? = some d := ⟨ds[j], List.getElem?_eq_getElem (by omega)⟩
    obtain ⟨⟨kk, v⟩, hkv⟩ : ∃ z, kvs[j]? = some z := ⟨kvs[j], List.getElem?_eq_getElem hj'⟩
    have hkk : kk = k0.map Sum.inl := by
      have e1 : (kvs.map (·.1))[j]? = some kk := by rw [List.getElem?_map, hkv]; rfl
      rw [hks, List.getElem?_map, hk0] at e1
      exact (Option.some.inj e1).symm
    subst hkk
    obtain ⟨en', qa, hen, hkey, hq, hv⟩ := ent j _ v hkv
    rw [he] at hen
    cases hen
    have hdp : Dp X.K H v d := by
      obtain ⟨d', h1, h2⟩ := dp_at hds (i := j) (v := v) (by rw [List.getElem?_map, hkv]; rfl)
      rw [hd] at h1; cases h1; exact h2
    refine ⟨k0, v, d, qa, en.val, hkv, hk0, hd, hdp, ?_, hv, ?_⟩
    · rw [hq, List.map_map]; rfl
    · rw [hg, hkey]
  -- they are tracked
  have I' : Inv X pins σ H { s with heap := h', toks := tk } := I.kept (t' := tk) hk
  obtain ⟨H2, I3, g, qt⟩ := L2.DX.takeT (P := fun b vs => ∃ (j : Nat) (k : List Int) (v : V) (d : D) (q : Addr), as[j]? = some b ∧ kvs[j]? = some (k.map Sum.inl, v) ∧ ks[j]? = some k ∧ ds[j]? = some d ∧ Dp X.K H v d ∧ H q = some (.tup (k.map V.int)) ∧ vs = [.ref q, v]) I as H I' nd fun b hb => by
    obtain ⟨j, hj⟩ := List.mem_iff_getElem?.mp hb
    obtain ⟨k, v, d, qa, u, h1, h2, h3, h4, h5, h6, h7⟩ := pr j b hj
    have hbl : s.heap.objs.size ≤ b := Nat.le_of_lt (hG.above b hb)
    refine ⟨hbl, I.hok.fresh hbl, _, ⟨j, k, v, d, qa, hj, h1, h2, h3, h4, h5, rfl⟩, fun H3 => ⟨(by rw [sizeLine_eq]; show 2 ≤ 16777216; omega), [Value.ref qa, u], .cons rfl (.cons h6 .nil), ⟨_, h7, rfl, 0, rfl⟩⟩⟩
  -- the list
  let pds : List D := (ks.zip ds).map fun z => pairI z.1 z.2
  have lpd : pds.length = as.length := by show ((ks.zip ds).map _).length = _; rw [List.length_map, List.length_zip]; omega
  have pdAt : ∀ (j : Nat) (k : List Int) (d : D), ks[j]? = some k → ds[j]? = some d → pds[j]? = some (pairI k d) := fun j k d h1 h2 => by
    show ((ks.zip ds).map _)[j]? = _
    rw [List.getElem?_map, show (ks.zip ds)[j]? = some (k, d) from List.getElem?_zip_eq_some.mpr ⟨h1, h2⟩]; rfl
  have em : (as.zip pds).map Prod.snd = pds := zip_snd _ _ lpd.symm
  have hob : (h'.push { cls := .type "list", data := .seq (as.map Value.ref).toArray }).get? h'.objs.size = some (seqObj "list" (as.map Value.ref).toArray 0) := Heap.get?_push_size _ rfl
  have kp : ∀ b o, h'.get? b = some o → (h'.push { cls := .type "list", data := .seq (as.map Value.ref).toArray }).get? b = some o := fun b o e => Heap.get?_push_of_some _ e
  have ne0 : ∀ b o, h'.get? b = some o → b ≠ h'.objs.size := fun b o e => Nat.ne_of_lt (Heap.lt_size e)
  generalize hh2 : h'.push { cls := .type "list", data := .seq (as.map Value.ref).toArray } = h2 at hob kp ⊢
  have dpH2 : ∀ {v d}, Dp X.K H v d → Dp X.K H2 v d := fun {v d} h => dp_mono g h
  have rd : ∀ (j : Nat) (b : Addr), as[j]? = some b → ∃ k d, ks[j]? = some k ∧ ds[j]? = some d ∧ ∃ ls, Reads h' (.ref b) (pairI k d) ls := fun j b hj => by
    obtain ⟨vs, ⟨j', k, v, d, qa, e1, e2, e3, e4, e5, e6, rfl⟩, e7⟩ := qt b (List.mem_of_getElem? hj)
    have : j = j' := (List.getElem?_inj (List.getElem?_eq_some_iff.mp hj).1 nd).mp (hj.trans e1.symm)
    subst this
    refine ⟨k, d, e3, e4, Dp.reads I3 _ (V.ref b) _ (.tup (SqT.of e7) (.cons (.tup (SqT.of (g _ _ e6)) (dps_ints k)) (.cons (dpH2 e5) .nil))) rfl⟩
  unfold sortOk at ok
  simp only [Bool.and_eq_true, Bool.or_eq_true] at ok
  obtain ⟨⟨o1, o2⟩, o3⟩ := ok
  have ew : ∀ (l : List Addr) (m : List D), l.length = m.length → PySem.W.EachIs (fun (v : Value) (b : Addr × D) => v = .ref b.1) (l.map Value.ref) (l.zip m) := fun l => by
    induction l with
    | nil => intro m _; exact .nil
    | cons x l ih =>
      intro m hm
      cases m with
      | nil => simp at hm
      | cons y m => exact .cons rfl (ih m (by simpa using hm))
  have er : PySem.W.EachIs (fun (v : Value) (b : Addr × D) => ∃ ls, Reads h2 v b.2 ls ∧ h'.objs.size ∉ ls) (as.map Value.ref) (as.zip pds) := by
    refine (PySem.W.each_mem (ew as pds lpd.symm)).mono fun v b ⟨e, hb⟩ => ?_
    subst e
    obtain ⟨j, hj⟩ := List.mem_iff_getElem?.mp hb
    obtain ⟨h1, h2'⟩ := List.getElem?_zip_eq_some.mp hj
    obtain ⟨k, d, e3, e4, ls, rr⟩ := rd j b.1 h1
    rw [pdAt j k d e3 e4] at h2'
    rw [← Option.some.inj h2']
    refine ⟨ls, PyProof.Rows.Reads.keeps kp rr, fun hm => ?_⟩
    obtain ⟨o, ho⟩ := PyProof.On.reads_mem_get rr _ hm
    exact ne0 _ _ ho rfl
  refine PySem.W.list_sort_data (s := { s with heap := h2, toks := tk }) (A := X.A.in1) (bs := as.zip pds) (enc := Prod.snd) (R := fun (v : Value) (b : Addr × D) => v = .ref b.1) hob (ew as pds lpd.symm) er ?_ ?_ ?_ ?_ fun out hlen he => ?_
  · rw [em]; exact fun d h1 d' h2 => alikeB_iff.mp o1 d h1 d' h2
  · rw [em]
    refine .inl fun d h1 => ?_
    obtain ⟨z, _, e⟩ := List.mem_map.mp h1
    exact ⟨_, _, e.symm⟩
  · rw [List.length_zip, lpd, Nat.min_self]; omega
  · intro b hb
    have hm : b.2 ∈ pds := by rw [← em]; exact List.mem_map_of_mem hb
    have := List.all_eq_true.mp o2 _ hm
    simp only [decide_eq_true_eq] at this
    show X.A.units + 1 + 1 + _ < cLine
    omega
  · have hpm := List.mergeSort_perm (as.zip pds) (PySem.W.dataLe false Prod.snd)
    have hsd : ((as.zip pds).mergeSort (PySem.W.dataLe false Prod.snd)).map Prod.snd = sortD pds := mergeD pds o1 _ _ em
    generalize hz : (as.zip pds).mergeSort (PySem.W.dataLe false Prod.snd) = zs at hpm hsd he
    have hzz : zs.length = as.length := by rw [hpm.length_eq, List.length_zip, lpd, Nat.min_self]
    have hout : out = zs.map fun z => Value.ref z.1 := by
      have : ∀ {o : List Value} {m : List (Addr × D)}, PySem.W.EachIs (fun (v : Value) (b : Addr × D) => v = .ref b.1) o m → o = m.map fun z => Value.ref z.1 := fun {o m} h => by
        induction h with
        | nil => rfl
        | cons a _ ih => rw [List.map_cons, ← ih, ← a]
      exact this he
    have kF : ∀ b o, b ≠ h'.objs.size → h2.get? b = some o → (sortedHeap h2 h'.objs.size (as.map Value.ref) out.toArray).get? b = some o := fun b o hb e => (PyProof.Rows.sortedHeap_old hb (Heap.lt_size e)).trans e
    have kS : ∀ b o, h'.get? b = some o → (sortedHeap h2 h'.objs.size (as.map Value.ref) out.toArray).get? b = some o := fun b o e => kF b o (ne0 _ _ e) (kp b o e)
    obtain ⟨eF, heF⟩ := PyProof.Rows.sortedHeap_at (vs := as.map Value.ref) (out := out.toArray) hob
    have nL : H2 h'.objs.size = none := I3.hok.fresh (Nat.le_refl _)
    have I5 : Inv X pins σ (upd H2 h'.objs.size (.lst (zs.map fun z => V.ref z.1))) { s with heap := sortedHeap h2 h'.objs.size (as.map Value.ref) out.toArray, toks := tk } := by
      refine I3.laid (a := h'.objs.size) (h' := sortedHeap h2 h'.objs.size (as.map Value.ref) out.toArray) (t' := tk) kS (Nat.le_refl _) ⟨by rw [List.length_map]; omega, out, eF, ?_, heF⟩
      rw [hout]
      exact vals_maps (fun z : Addr × D => V.ref z.1) (fun z => Value.ref z.1) zs fun _ _ => rfl
    refine ⟨.ref h'.objs.size, _, I5, rfl, q _ h'.objs.size zs (fun b o e => ?_) hsd (I.hok.fresh (Nat.le_of_lt hlt)) upd_same (by omega) ?_ (fun z hz' => ?_) (fun b hb => ?_)⟩
    · rw [upd_ne (ne_of_none (g b o e) nL)]; exact g b o e
    · have e : (zs.map (·.1)).Perm as := by
        have := hpm.map (·.1)
        rw [List.map_fst_zip (by omega)] at this
        exact this
      exact e.nodup_iff.mpr nd
    · have hb : z ∈ as.zip pds := hpm.mem_iff.mp hz'
      obtain ⟨j, hj⟩ := List.mem_iff_getElem?.mp hb
      obtain ⟨h1, h2'⟩ := List.getElem?_zip_eq_some.mp hj
      obtain ⟨vs, ⟨j', k, v, d, qa, e1, e2, e3, e4, e5, e6, rfl⟩, e7⟩ := qt z.1 (List.mem_of_getElem? h1)
      have : j = j' := (List.getElem?_inj (List.getElem?_eq_some_iff.mp h1).1 nd).mp (h1.trans e1.symm)
      subst this
      have nz : z.1 ≠ h'.objs.size := ne_of_none e7 nL
      refine ⟨nz, I.hok.fresh (Nat.le_of_lt (hG.above _ (List.mem_of_getElem? h1))), j, qa, v, k, d, e2, e3, e4, ?_, e6, (by have := (show ObjOk X.prog X.w H s.heap qa (.tup (k.map V.int)) from I.hok qa _ e6).1; rw [List.length_map] at this; exact this), by rw [upd_ne nz]; exact e7⟩
      rw [pdAt j k d e3 e4] at h2'
      exact (Option.some.inj h2').symm
    · cases e : H b with
      | none => rfl
      | some o => have := g b o e; rw [upd_ne (ne_of_none this nL), this] at hb; cases hb
end
end Ev

set_option maxRecDepth 100000
/-! Ev3: operations on values. -/
namespace Ev
open PySem L2
variable [TheK]

/-! ### heaps that grow -/
theorem Fit.grow {A H H' σ ρ} (f : Fit A H σ ρ) (k : ∀ a o, H a = some o → H' a = some o) : Fit A H' σ ρ := by
  have kk : Keep A H H' := fun a o _ e => k a o e
  have e : ∀ a, A a → A a := fun _ h => h
  refine ⟨f.len, fun i s ov e1 e2 => ?_, f.apart, fun a h => let ⟨o, q⟩ := f.trk a h; ⟨o, k a o q⟩, f.prv_go (fun _ _ _ h => ⟨h, rfl⟩) kk (fun a o _ e => k a o e) fun j s a h1 h2 h3 => .inl ⟨j, s, h1, h2, h3⟩⟩
  have q := f.slot i s ov e1 e2
  cases s with
  | un => trivial
  | dp kd d => exact q.keep e kk (fun _ a o _ _ => k a o) fun w a ew l => by subst ew; exact (f.lr e1 e2 l).1
  | fz d => obtain ⟨w, q1, q2⟩ := q; exact ⟨w, q1, Rep.mono e kk q2⟩
  | own es => obtain ⟨b, ws, q1, q2, q3, q4, q5⟩ := q; exact ⟨b, ws, q1, k _ _ q2, q3, RepAll.mono e kk q4, q5⟩
  | lent es => obtain ⟨b, ws, q1, q2, q3, q4, q5⟩ := q; exact ⟨b, ws, q1, k _ _ q2, q3, RepAll.mono e kk q4, q5⟩
  | mu es => obtain ⟨b, ws, q1, q2, q3, q4, q5⟩ := q; exact ⟨b, ws, q1, k _ _ q2, q3, RepAll.mono e kk q4, q5⟩
  | dct es => obtain ⟨b, ws, q1, q2, q3, q4, q5⟩ := q; exact ⟨b, ws, q1, k _ _ q2, q3, KvRep.mono e kk q4, q5⟩
  | dtt es => obtain ⟨b, ws, q1, q2, q3, q4, q5⟩ := q; exact ⟨b, ws, q1, k _ _ q2, q3, KtRep.mono e kk q4, q5⟩
  | bor es => obtain ⟨b, ws, q1, q2, q3, q4⟩ := q; exact ⟨b, ws, q1, k _ _ q2, q3, RepAll.mono e kk q4⟩
  | ro es => obtain ⟨b, ws, q1, q2, q3, q4⟩ := q; exact ⟨b, ws, q1, q2.keep fun o u => k b _, q3, RepAll.mono e kk q4⟩
theorem Stp.grow {A H H' σ ρ} (f : Fit A H σ ρ) (k : ∀ a o, H a = some o → H' a = some o) : Stp A H σ ρ A H' σ ρ :=
  ⟨fun _ h => h, fun a o e _ _ => k a o e, fun a e =>
    (by
      cases q : H a with
      | none => rfl
      | some o => rw [k a o q] at e; cases e), fun _ h => .inl h, fun _ ds h => ⟨rfl, ds, h⟩, fun _ h => .inl h, fun _ _ h _ => ⟨h, rfl⟩, fun a h => .inr (.inl (f.prv_back (fun _ _ _ h => ⟨h, rfl⟩) (fun a o _ e => k a o e) (fun a o _ e => k a o e) a h)), f.grow k⟩
theorem upd_grow {H : Hp} {p : Addr} {o : HO} (h : H p = none) : ∀ a u, H a = some u → upd H p o a = some u := fun a u e => by
  rw [upd_ne (ne_of_none e h)]; exact e
/-- a new object that is frozen at once -/
theorem Stp.frz {A H σ ρ} (f : Fit A H σ ρ) {p : Addr} {o : HO} (h : H p = none) : Stp A H σ ρ (fun b => A b ∨ b = p) (upd H p o) σ ρ := by
  have s := Stp.grow f (upd_grow (o := o) h)
  have k : Keep A (upd H p o) (upd H p o) := fun _ _ _ h => h
  have e : ∀ b, A b → A b ∨ b = p := fun _ h => .inl h
  refine ⟨e, s.frame, s.dom, s.sub, s.mus, fun b hb => Or.elim hb .inl fun z => .inr (.inl (by rw [z]; exact h)), s.lents, s.prv, ⟨f.len, fun i sl ov e1 e2 => ?_, f.apart, fun b hb => ?_, s.fit.prv⟩⟩
  · have q := s.fit.slot i sl ov e1 e2
    have np : ∀ b ws, (upd H p o) b = some ws → (∃ us, H b = some us) → b ≠ p := fun b ws _ ⟨us, z⟩ y => by rw [y, h] at z; cases z
    have q0 := f.slot i sl ov e1 e2
    cases sl with
    | un => trivial
    | dp kd d => exact q.keep e k (fun _ _ _ _ _ z => z) (fun w b ew l z => by
        subst ew
        rcases z with z | z
        · exact (s.fit.lr e1 e2 l).1 z
        · have lo := f.prv_back (H' := upd H p o) (fun _ _ _ h => ⟨h, rfl⟩) (fun a u _ e => upd_grow h a u e) (fun a u _ e => upd_grow h a u e) b ⟨i, kd, d, w, e1, e2, l⟩
          obtain ⟨i', k', d', w', z1, z2, z3⟩ := lo
          obtain ⟨_, vs, z4⟩ := f.lr z1 z2 z3
          rw [z, h] at z4; cases z4)
    | fz d => obtain ⟨w, q1, q2⟩ := q; exact ⟨w, q1, Rep.mono e k q2⟩
    | own es => obtain ⟨b, ws, q1, q2, q3, q4, q5⟩ := q; obtain ⟨b', ws', z1, z2, _⟩ := q0; rw [q1] at z1; cases z1; exact ⟨b, ws, q1, q2, q3, RepAll.mono e k q4, fun z => z.elim q5 (np b _ q2 ⟨_, z2⟩)⟩
    | lent es => obtain ⟨b, ws, q1, q2, q3, q4, q5⟩ := q; obtain ⟨b', ws', z1, z2, _⟩ := q0; rw [q1] at z1; cases z1; exact ⟨b, ws, q1, q2, q3, RepAll.mono e k q4, fun z => z.elim q5 (np b _ q2 ⟨_, z2⟩)⟩
    | mu es => obtain ⟨b, ws, q1, q2, q3, q4, q5⟩ := q; obtain ⟨b', ws', z1, z2, _⟩ := q0; rw [q1] at z1; cases z1; exact ⟨b, ws, q1, q2, q3, RepAll.mono e k q4, fun z => z.elim q5 (np b _ q2 ⟨_, z2⟩)⟩
    | dct es => obtain ⟨b, ws, q1, q2, q3, q4, q5⟩ := q; obtain ⟨b', ws', z1, z2, _⟩ := q0; rw [q1] at z1; cases z1; exact ⟨b, ws, q1, q2, q3, KvRep.mono e k q4, fun z => z.elim q5 (np b _ q2 ⟨_, z2⟩)⟩
    | dtt es => obtain ⟨b, ws, q1, q2, q3, q4, q5⟩ := q; obtain ⟨b', ws', z1, z2, _⟩ := q0; rw [q1] at z1; cases z1; exact ⟨b, ws, q1, q2, q3, KtRep.mono e k q4, fun z => z.elim q5 (np b _ q2 ⟨_, z2⟩)⟩
    | bor es => obtain ⟨b, ws, q1, q2, q3, q4⟩ := q; exact ⟨b, ws, q1, q2, q3, RepAll.mono e k q4⟩
    | ro es => obtain ⟨b, ws, q1, q2, q3, q4⟩ := q; exact ⟨b, ws, q1, q2, q3, RepAll.mono e k q4⟩
  · rcases hb with hb | rfl
    · exact s.fit.trk b hb
    · exact ⟨_, upd_same⟩
/-- tuples that stand are frozen -/
theorem Stp.addT {A H σ ρ} (f : Fit A H σ ρ) {B : Addr → Prop} (hB : ∀ b, B b → ∃ vs, H b = some (HO.tup vs)) : Stp A H σ ρ (fun b => A b ∨ B b) H σ ρ := by
  have s := Stp.grow f (H' := H) (fun _ _ h => h)
  have k : Keep A H H := fun _ _ _ h => h
  have e : ∀ b, A b → A b ∨ B b := fun _ h => .inl h
  have nb : ∀ b o, H b = some o → (∀ vs, o ≠ .tup vs) → ¬ B b := fun b o h n z => by
    obtain ⟨vs, q⟩ := hB b z
    rw [h] at q; cases q; exact n _ rfl
  refine ⟨e, s.frame, s.dom, s.sub, s.mus, fun b hb => Or.elim hb .inl fun z => .inr (.inr (.inr (.inr (.inr (hB b z))))), s.lents, s.prv, ⟨f.len, fun i sl ov e1 e2 => ?_, f.apart, fun b hb => ?_, f.prv⟩⟩
  · have q := f.slot i sl ov e1 e2
    cases sl with
    | un => trivial
    | dp kd d => exact q.keep e k (fun _ _ _ _ _ z => z) (fun w b ew l z => by
        subst ew
        obtain ⟨z1, vs, z2⟩ := f.lr e1 e2 l
        exact z.elim z1 (nb b _ z2 (fun _ y => by cases y)))
    | fz d => obtain ⟨w, q1, q2⟩ := q; exact ⟨w, q1, Rep.mono e k q2⟩
    | own es => obtain ⟨b, ws, q1, q2, q3, q4, q5⟩ := q; exact ⟨b, ws, q1, q2, q3, RepAll.mono e k q4, fun z => z.elim q5 (nb b _ q2 (fun _ y => by cases y))⟩
    | lent es => obtain ⟨b, ws, q1, q2, q3, q4, q5⟩ := q; exact ⟨b, ws, q1, q2, q3, RepAll.mono e k q4, fun z => z.elim q5 (nb b _ q2 (fun _ y => by cases y))⟩
    | mu es => obtain ⟨b, ws, q1, q2, q3, q4, q5⟩ := q; exact ⟨b, ws, q1, q2, q3, RepAll.mono e k q4, fun z => z.elim q5 (nb b _ q2 (fun _ y => by cases y))⟩
    | dct es => obtain ⟨b, ws, q1, q2, q3, q4, q5⟩ := q; exact ⟨b, ws, q1, q2, q3, KvRep.mono e k q4, fun z => z.elim q5 (nb b _ q2 (fun _ y => by cases y))⟩
    | dtt es => obtain ⟨b, ws, q1, q2, q3, q4, q5⟩ := q; exact ⟨b, ws, q1, q2, q3, KtRep.mono e k q4, fun z => z.elim q5 (nb b _ q2 (fun _ y => by cases y))⟩
    | bor es => obtain ⟨b, ws, q1, q2, q3, q4⟩ := q; exact ⟨b, ws, q1, q2, q3, RepAll.mono e k q4⟩
    | ro es => obtain ⟨b, ws, q1, q2, q3, q4⟩ := q; exact ⟨b, ws, q1, q2, q3, RepAll.mono e k q4⟩
  · rcases hb with hb | hb
    · exact f.trk b hb
    · obtain ⟨vs, q⟩ := hB b hb; exact ⟨_, q⟩
theorem Stp.frzB {A H σ ρ} (f : Fit A H σ ρ) {p : Addr} {o : HO} {B : Addr → Prop} (h : H p = none) (hB : ∀ b, B b → ∃ vs, H b = some (HO.tup vs)) : Stp A H σ ρ (fun b => (A b ∨ b = p) ∨ B b) (upd H p o) σ ρ :=
  (Stp.frz f h).trans (Stp.addT (Stp.frz f h).fit fun b hb => let ⟨vs, q⟩ := hB b hb; ⟨vs, upd_grow h b _ q⟩)
theorem Fit.noref {A H σ ρ} (f : Fit A H σ ρ) {p : Addr} (h : H p = none) (i : Nat) (s : Slot) (hs : ρ[i]? = some s) (hl : liveB s = true) : σ[i]? ≠ some (some (.ref p)) := fun e => by
  have q := f.slot i s _ hs e
  cases s with
  | un => cases hl
  | fz d => cases hl
  | own es => obtain ⟨b, ws, q1, q2, _⟩ := q; cases q1; rw [h] at q2; cases q2
  | lent es => obtain ⟨b, ws, q1, q2, _⟩ := q; cases q1; rw [h] at q2; cases q2
  | mu es => obtain ⟨b, ws, q1, q2, _⟩ := q; cases q1; rw [h] at q2; cases q2
  | dct es => obtain ⟨b, ws, q1, q2, _⟩ := q; cases q1; rw [h] at q2; cases q2
  | dtt es => obtain ⟨b, ws, q1, q2, _⟩ := q; cases q1; rw [h] at q2; cases q2
  | bor es => obtain ⟨b, ws, q1, q2, _⟩ := q; cases q1; rw [h] at q2; cases q2
  | ro es => cases hl
  | dp _ _ => cases hl
theorem Fit.noprv_none {A H σ ρ} (f : Fit A H σ ρ) {p : Addr} (h : H p = none) : ¬ Prv H σ ρ p := by
  rintro ⟨i, k, d, w, z1, z2, z3⟩
  obtain ⟨_, vs, z4⟩ := f.lr z1 z2 z3
  rw [h] at z4; cases z4
theorem Fit.noprv_upd {A H σ ρ} (f : Fit A H σ ρ) {p : Addr} {o : HO} (h : H p = none) : ¬ Prv (upd H p o) σ ρ p := fun z =>
  f.noprv_none h (f.prv_back (H' := upd H p o) (fun _ _ _ h => ⟨h, rfl⟩) (fun a u _ e => upd_grow h a u e) (fun a u _ e => upd_grow h a u e) p z)
theorem Fit.nofrz {A H σ ρ} (f : Fit A H σ ρ) {p : Addr} (h : H p = none) : ¬ A p := fun z => by
  obtain ⟨o, e⟩ := f.trk p z; rw [h] at e; cases e
/-- a new list -/
theorem res_new {A H σ ρ} (f : Fit A H σ ρ) {p : Addr} {vs : List V} {ds : List D} (h : H p = none) (hl : vs.length ≤ sizeLine) (r : RepAll A H vs ds) : ResOk A H (upd H p (.lst vs)) σ ρ (.ref p) (.nw ds) :=
  ⟨p, vs, rfl, upd_same, hl, RepAll.mono (fun _ z => z) (fun a o _ e => upd_grow h a o e) r, f.nofrz h, h, f.noref h, f.noprv_upd h⟩
theorem rep_newT {A : Addr → Prop} {H : Hp} {p : Addr} {vs : List V} {ds : List D} (h : H p = none) (hl : vs.length ≤ sizeLine) (r : RepAll A H vs ds) : Rep (fun b => A b ∨ b = p) (upd H p (.tup vs)) (.ref p) (.tuple ds) :=
  .tup (.inr rfl) upd_same hl (RepAll.mono (fun _ z => .inl z) (fun a o _ e => upd_grow h a o e) r)

/-! ### reading -/
theorem RepW.list {A H v ds} (h : RepW A H v (.list ds)) : ∃ a vs, v = .ref a ∧ H a = some (.lst vs) ∧ vs.length ≤ sizeLine ∧ RepAll A H vs ds := by
  rcases h with h | ⟨a, vs, es, h1, h2, h3, h4, h5⟩
  · cases h with | lst h1 h2 h3 h4 => exact ⟨_, _, rfl, h2, h3, h4⟩
  · cases h2; exact ⟨a, vs, h1, h3, h4, h5⟩
theorem RepW.rep {A H v d} (h : RepW A H v d) (n : ∀ ds, d ≠ .list ds) : Rep A H v d := by
  rcases h with h | ⟨a, vs, es, h1, h2, h3, h4, h5⟩
  · exact h
  · exact absurd h2 (n _)
theorem RepW.tup {A H v ds} (h : RepW A H v (.tuple ds)) : ∃ a vs, v = .ref a ∧ A a ∧ H a = some (.tup vs) ∧ vs.length ≤ sizeLine ∧ RepAll A H vs ds := by
  have h := h.rep (fun _ z => by cases z)
  cases h with | tup h1 h2 h3 h4 => exact ⟨_, _, rfl, h1, h2, h3, h4⟩
theorem RepW.int {A H v i} (h : RepW A H v (.int i)) : v = .int i := by
  have h := h.rep (fun _ z => by cases z)
  cases h; rfl
theorem RepW.bool {A H v i} (h : RepW A H v (.bool i)) : v = .bl i := by
  have h := h.rep (fun _ z => by cases z)
  cases h; rfl
theorem RepW.str {A H v i} (h : RepW A H v (.str i)) : v = .str i := by
  have h := h.rep (fun _ z => by cases z)
  cases h; rfl
theorem RepW.non {A H v} (h : RepW A H v .none) : v = .non := by
  have h := h.rep (fun _ z => by cases z)
  cases h; rfl
theorem noDcts_iff : ∀ {ds : List D}, noDcts ds = true ↔ ∀ d ∈ ds, noDct d = true
  | [] => by simp [noDcts]
  | d :: ds => by simp [noDcts, noDcts_iff (ds := ds)]
mutual
theorem lay_noDct : ∀ {d : D}, d.canLay0 = true → noDct d = true
  | .none, _ => by simp [noDct]
  | .bool _, _ => by simp [noDct]
  | .int _, _ => by simp [noDct]
  | .str _, _ => by simp [noDct]
  | .list ds, h => by rw [noDct]; exact lay_noDcts (by simpa [PyData.canLay0] using h)
  | .tuple ds, h => by rw [noDct]; exact lay_noDcts (by simpa [PyData.canLay0] using h)
  | .dict _, h => by simp [PyData.canLay0] at h
theorem lay_noDcts : ∀ {ds : List D}, PyData.canLayAll0 ds = true → noDcts ds = true
  | [], _ => by simp [noDcts]
  | d :: ds, h => by
    rw [PyData.canLayAll0, Bool.and_eq_true] at h
    rw [noDcts, Bool.and_eq_true]
    exact ⟨lay_noDct h.1, lay_noDcts h.2⟩
end
theorem shaped_noDct {d : D} (h : SeqAt.shaped d = true) : noDct d = true := lay_noDct (SeqAt.canLay_of_shaped h)
mutual
theorem alike_noDct : ∀ (d : D), PySem.W.alike d d = true → noDct d = true
  | .none, h => by simp [noDct]
  | .bool _, h => by simp [noDct]
  | .int _, h => by simp [noDct]
  | .str _, h => by simp [noDct]
  | .list xs, h => by rw [noDct]; exact alikes_noDct xs (by simpa [PySem.W.alike] using h)
  | .tuple xs, h => by rw [noDct]; exact alikes_noDct xs (by simpa [PySem.W.alike] using h)
  | .dict _, h => by simp [PySem.W.alike] at h
theorem alikes_noDct : ∀ (xs : List D), PySem.W.alikeAll xs xs = true → noDcts xs = true
  | [], h => by simp [noDcts]
  | x :: xs, h => by
    have h1 := PySem.W.alike_all_cons h
    rw [noDcts, Bool.and_eq_true]
    exact ⟨alike_noDct x h1.1, alikes_noDct xs h1.2⟩
end
theorem ordOk_noDct {d e : D} (h : ordOk d e = true) : noDct d = true ∧ noDct e = true := by
  unfold ordOk at h
  simp only [Bool.and_eq_true] at h
  exact ⟨h.1.2, h.2⟩
theorem ordOk_noDct' {d e : D} (h : ordOk d e = true) : noDct e = true ∧ noDct d = true := (ordOk_noDct h).symm
theorem alikeB_noDct {xs : List D} (h : alikeB xs = true) : noDcts xs = true := noDcts_iff.mpr fun d hd => alike_noDct d (alikeB_iff.mp h d hd d hd)
theorem sortOk_noDct {xs : List D} (h : sortOk xs = true) : noDcts xs = true := by
  unfold sortOk at h
  simp only [Bool.and_eq_true] at h
  exact alikeB_noDct h.1.1
theorem mmOk_noDct {xs : List D} (h : mmOk xs = true) : noDcts xs = true := by
  unfold mmOk at h
  simp only [Bool.and_eq_true] at h
  exact alikeB_noDct h.1.1
theorem flat_noDct {d : D} (h : isFlat d = true) : noDct d = true := by cases d <;> first | (simp [noDct]; done) | cases h
mutual
theorem Rep.dp {K A H} : ∀ {v d}, Rep A H v d → noDct d = true → Dp K H v d
  | _, _, .none, _ => .non
  | _, _, .bool, _ => .bl _
  | _, _, .int, _ => .int _
  | _, _, .str, _ => .str _
  | _, _, .lst _ h2 _ h4, n => .lst (SqL.of h2) (RepAll.dp h4 (by rw [noDct] at n; exact n))
  | _, _, .tup _ h2 _ h4, n => .tup (SqT.of h2) (RepAll.dp h4 (by rw [noDct] at n; exact n))
  | _, _, .dct _ _ _ _ _, n => by cases n
theorem RepAll.dp {K A H} : ∀ {vs ds}, RepAll A H vs ds → noDcts ds = true → DpAll K H vs ds
  | _, _, .nil, _ => .nil
  | _, _, .cons h1 h2, n => by
    rw [noDcts, Bool.and_eq_true] at n
    exact .cons (Rep.dp h1 n.1) (RepAll.dp h2 n.2)
end
theorem RepW.dp {K A H v d} (h : RepW A H v d) (n : noDct d = true) : Dp K H v d := by
  rcases h with h | ⟨a, vs, es, h1, h2, h3, h4, h5⟩
  · exact h.dp n
  · subst h1 h2; rw [noDct] at n; exact .lst (SqL.of h3) (h5.dp n)

/-! ### an operation on two values -/
def OpSnd (X : Cx) (f : Value → Value → Sem Value) (g : D → D → Option Res) : Prop := ∃ r : R2, OpR X f r ∧
  ∀ A H σ ρ x y d e res, Fit A H σ ρ → RepW A H x d → RepW A H y e → g d e = some res → ∀ Q : VK, (∀ A' H' v, Stp A H σ ρ A' H' σ ρ → ResOk A' H H' σ ρ v res → Q v H') → r x y H Q
/-- .. that makes nothing -/
theorem OpSnd.flat {X f g} {r : R2} (ho : OpR X f r) (h : ∀ A H x y d e res, RepW A H x d → RepW A H y e → g d e = some res → ∃ d', res = .fr d' ∧ ∀ Q : VK, (∀ v, Rep A H v d' → Q v H) → r x y H Q) : OpSnd X f g :=
  ⟨r, ho, fun A H σ ρ x y d e res ft hx hy hg Q k => by
    obtain ⟨d', rfl, q⟩ := h A H x y d e res hx hy hg
    exact q Q fun v hv => k A H v (Stp.refl ft) hv⟩

def bop : Bop → Operator
  | .add => .Add
  | .sub => .Sub
  | .mul => .Mult
  | .fdiv => .FloorDiv
  | .mod => .Mod
  | .pow => .Pow
def cop : Cop → CmpOp
  | .eq => .Eq
  | .ne => .NotEq
  | .lt => .Lt
  | .le => .LtE
  | .gt => .Gt
  | .ge => .GtE
  | .inn => .In
  | .nin => .NotIn
  | .is => .Is
  | .isn => .IsNot
section
variable {X : Cx}
theorem rep_int' {A H i} : Rep A H (.int i) (.int i) := .int
theorem op_fdivNW : OpR X (binaryOp .FloorDiv) (rI (fun _ j => j ≠ 0 ∧ j.natAbs.log2 < 9000) fun i j => .int (i.fdiv j)) := opI fun _ _ _ _ _ _ _ hc q => PyProof.Rows.floordiv_int hc.1 q (.inl (PyProof.noPylong_of_log2 hc.2))
theorem op_mulA : OpR X (binaryOp .Mult) (rI (fun i j => CMul i j ∨ CMulW i j) fun i j => .int (i * j)) := by
  intro pins s σ H x y v u Q I rx ry h
  obtain ⟨i, j, rfl, rfl, c, q⟩ := h
  rcases c with c | c
  · exact op_mul pins s σ H _ _ v u Q I rx ry ⟨i, j, rfl, rfl, c, q⟩
  · exact op_mulW pins s σ H _ _ v u Q I rx ry ⟨i, j, rfl, rfl, c, q⟩
theorem snd_bop (o : Bop) : OpSnd X (binaryOp (bop o)) (dBin o) := by
  cases o with
  | add =>
    refine ⟨_, ((op_add.or op_add_str).or (op_cat.or op_catA)), fun A H σ ρ x y d e res ft hx hy hg Q k => ?_⟩
    cases d <;> cases e <;> simp only [dBin, reduceCtorEq] at hg
    · cases hg
      cases hx.int; cases hy.int
      exact .inl (.inl ⟨_, _, rfl, rfl, k A H _ (Stp.refl ft) .int⟩)
    · split at hg
      · rename_i hz
        cases hg
        cases hx.str; cases hy.str
        exact .inl (.inr ⟨_, _, rfl, rfl, hz, k A H _ (Stp.refl ft) .str⟩)
      · cases hg
    · split at hg
      · rename_i hz
        cases hg
        obtain ⟨a, vs, rfl, h1, h2, h3⟩ := hx.list
        obtain ⟨b, ws, rfl, h4, h5, h6⟩ := hy.list
        have hz' : vs.length + ws.length ≤ sizeLine := by rw [h3.length, h6.length]; exact hz
        exact .inr (.inl ⟨a, b, vs, ws, rfl, rfl, h1, h4, hz', fun p hp => k A _ _ (Stp.grow ft (upd_grow hp)) (res_new ft hp (by rw [List.length_append]; exact hz') (h3.append h6))⟩)
      · cases hg
    · split at hg
      · rename_i hz
        cases hg
        obtain ⟨a, vs, rfl, h0, h1, h2, h3⟩ := hx.tup
        obtain ⟨b, ws, rfl, h0', h4, h5, h6⟩ := hy.tup
        have hz' : vs.length + ws.length ≤ sizeLine := by rw [h3.length, h6.length]; exact hz
        refine .inr (.inr ⟨a, b, vs, ws, rfl, rfl, SqT.of h1, SqT.of h4, hz', fun e => ?_, fun _ e => ?_, fun _ _ p hp => ?_⟩)
        · subst e
          cases h3
          exact k A H _ (Stp.refl ft) (.tup h0' h4 h5 h6)
        · subst e
          cases h6
          exact k A H _ (Stp.refl ft) (by rw [List.append_nil]; exact .tup h0 h1 h2 h3)
        · exact k _ _ _ (Stp.frz ft hp) (rep_newT hp (by rw [List.length_append]; exact hz') (h3.append h6))
      · cases hg
  | sub =>
    refine ⟨_, op_sub, fun A H σ ρ x y d e res ft hx hy hg Q k => ?_⟩
    cases d <;> cases e <;> simp only [dBin, reduceCtorEq] at hg
    cases hg
    cases hx.int; cases hy.int
    exact ⟨_, _, rfl, rfl, k A H _ (Stp.refl ft) .int⟩
  | mul =>
    refine ⟨_, (op_mulA.or op_rep).or op_mulS, fun A H σ ρ x y d e res ft hx hy hg Q k => ?_⟩
    cases d <;> cases e <;> simp only [dBin, reduceCtorEq] at hg
    · split at hg
      · rename_i hz
        cases hg
        cases hx.int; cases hy.int
        exact .inl (.inl ⟨_, _, rfl, rfl, hz, k A H _ (Stp.refl ft) .int⟩)
      · cases hg
    · split at hg
      · rename_i hz
        cases hg
        cases hx.str; cases hy.int
        exact .inr ⟨_, _, rfl, rfl, hz.1, hz.2.1, hz.2.2, k A H _ (Stp.refl ft) .str⟩
      · cases hg
    · split at hg
      · rename_i hz
        cases hg
        obtain ⟨a, vs, rfl, h1, h2, h3⟩ := hx.list
        cases hy.int
        obtain ⟨z1, z2, z3⟩ := hz
        rw [← h3.length] at z3
        exact .inl <| .inr ⟨a, _, vs, rfl, rfl, h1, z1, z2, z3, fun p hp => k A _ _ (Stp.grow ft (upd_grow hp)) (res_new ft hp (by rw [PyProof.Rows.lm_len_rep_flat, Nat.mul_comm]; exact z3) (h3.rep _))⟩
      · cases hg
  | fdiv =>
    refine ⟨_, op_fdivNW, fun A H σ ρ x y d e res ft hx hy hg Q k => ?_⟩
    cases d <;> cases e <;> simp only [dBin, reduceCtorEq] at hg
    split at hg
    · rename_i hz
      cases hg
      cases hx.int; cases hy.int
      exact ⟨_, _, rfl, rfl, hz, k A H _ (Stp.refl ft) .int⟩
    · cases hg
  | mod =>
    refine ⟨_, op_modN, fun A H σ ρ x y d e res ft hx hy hg Q k => ?_⟩
    cases d <;> cases e <;> simp only [dBin, reduceCtorEq] at hg
    split at hg
    · rename_i hz
      cases hg
      cases hx.int; cases hy.int
      exact ⟨_, _, rfl, rfl, hz, k A H _ (Stp.refl ft) .int⟩
    · cases hg
  | pow =>
    refine ⟨_, op_pow, fun A H σ ρ x y d e res ft hx hy hg Q k => ?_⟩
    cases d <;> cases e <;> simp only [dBin, reduceCtorEq] at hg
    split at hg
    · rename_i hz
      cases hg
      cases hx.int; cases hy.int
      exact ⟨_, _, rfl, rfl, hz, k A H _ (Stp.refl ft) .int⟩
    · cases hg

/-! ### comparisons -/
/-- .. a test by values -/
def CmpSnd (X : Cx) (f : Value → Value → Sem Value) (g : D → D → Option Bool) : Prop := ∃ r : R2, OpR X f r ∧
  ∀ A H x y d e b, RepW A H x d → RepW A H y e → g d e = some b → ∀ Q : VK, Q (.bl b) H → r x y H Q
theorem op_isB : OpR X (compareOp .Is) (fun x y H Q => ∃ b, y = .bl b ∧ Q (.bl (decide (x = .bl b))) H) := by
  intro pins s σ H x y v u Q I rx ry h
  obtain ⟨b, rfl, q⟩ := h
  cases (show u = Value.bool b from ry)
  by_cases e : x = .bl b
  · subst e
    cases (show v = Value.bool b from rx)
    exact wpAny_is_self rfl ⟨.bl true, H, I, rfl, by simpa using q⟩
  · refine wpAny_is_other ?_ ?_ ⟨.bl false, H, I, rfl, by simpa [e] using q⟩
    · cases x <;> first
        | (cases rx; rfl)
        | (obtain ⟨t, rfl⟩ := rx; rfl)
    · intro z
      subst z
      exact e (rx.inj rfl)
theorem op_isnB : OpR X (compareOp .IsNot) (fun x y H Q => ∃ b, y = .bl b ∧ Q (.bl (!decide (x = .bl b))) H) := by
  intro pins s σ H x y v u Q I rx ry h
  obtain ⟨b, rfl, q⟩ := h
  cases (show u = Value.bool b from ry)
  by_cases e : x = .bl b
  · subst e
    cases (show v = Value.bool b from rx)
    exact wpAny_isNot_self rfl ⟨.bl false, H, I, rfl, by simpa using q⟩
  · refine wpAny_isNot_other ?_ ?_ ⟨.bl true, H, I, rfl, by simpa [e] using q⟩
    · cases x <;> first
        | (cases rx; rfl)
        | (obtain ⟨t, rfl⟩ := rx; rfl)
    · intro z
      subst z
      exact e (rx.inj rfl)
theorem flat_rep : ∀ {A H v d}, Rep A H v d → isFlat d = flatV v
  | _, _, _, _, .dct _ _ _ _ _ => rfl
  | _, _, _, _, .none => rfl
  | _, _, _, _, .bool => rfl
  | _, _, _, _, .int => rfl
  | _, _, _, _, .str => rfl
  | _, _, _, _, .lst .. => rfl
  | _, _, _, _, .tup .. => rfl
theorem eqv_flat {A H v d w e} (h : Rep A H v d) (h' : Rep A H w e) (f : isFlat d = true) (f' : isFlat e = true) : PyData.eqv d e = eqV v w := by
  cases h <;> cases h' <;> first | (simp [isFlat] at f; done) | (simp [isFlat] at f'; done) | rfl | simp [PyData.eqv, eqV]
theorem all_flat {A H} : ∀ {vs ds}, RepAll A H vs ds → ds.all isFlat = vs.all flatV
  | _, _, .nil => rfl
  | _, _, .cons h1 h2 => by rw [List.all_cons, List.all_cons, flat_rep h1, all_flat h2]
theorem any_flat {A H v d} (h : Rep A H v d) (f : isFlat d = true) : ∀ {vs ds}, RepAll A H vs ds → ds.all isFlat = true → (ds.any fun z => PyData.eqv z d) = inV v vs
  | _, _, .nil, _ => rfl
  | _, _, .cons h1 h2, g => by
    rw [List.all_cons, Bool.and_eq_true] at g
    unfold inV
    rw [List.any_cons, List.any_cons, eqv_flat h1 h g.1 f, any_flat h f h2 g.2]
    rfl
theorem flat_w {A H v d} (h : RepW A H v d) (f : isFlat d = true) : Rep A H v d := h.rep fun ds e => by subst e; cases f
theorem snd_cop (hu : X.A.units + 65 < cLine) (o : Cop) : CmpSnd X (compareOp (cop o)) (dCmp o) := by
  cases o with
  | eq =>
    refine ⟨_, op_eqD (by omega), fun A H x y d e b hx hy hg Q k => ?_⟩
    simp only [dCmp, Bool.and_eq_true] at hg
    split at hg
    · rename_i hz
      cases hg
      exact ⟨d, e, hx.dp (shaped_noDct hz.1), hy.dp (shaped_noDct hz.2), hz.1, hz.2, k⟩
    · cases hg
  | ne =>
    refine ⟨_, op_neD (by omega), fun A H x y d e b hx hy hg Q k => ?_⟩
    simp only [dCmp, Bool.and_eq_true] at hg
    split at hg
    · rename_i hz
      cases hg
      exact ⟨d, e, hx.dp (shaped_noDct hz.1), hy.dp (shaped_noDct hz.2), hz.1, hz.2, k⟩
    · cases hg
  | lt =>
    refine ⟨_, op_lt.or (op_ltD hu), fun A H x y d e b hx hy hg Q k => ?_⟩
    by_cases hi : ∃ i j, d = .int i ∧ e = .int j
    · obtain ⟨i, j, rfl, rfl⟩ := hi
      simp only [dCmp, Option.some.injEq] at hg
      subst hg
      cases hx.int; cases hy.int
      exact .inl ⟨_, _, rfl, rfl, k⟩
    · refine .inr ?_
      have hg' : ordC d e (PySem.W.dataLt d e) = some b := by
        cases d <;> first
          | exact hg
          | (cases e <;> first | exact hg | exact absurd ⟨_, _, rfl, rfl⟩ hi)
      unfold ordC at hg'
      split at hg'
      · rename_i z
        cases hg'
        exact ⟨d, e, hx.dp (ordOk_noDct z).1, hy.dp (ordOk_noDct z).2, z, k⟩
      · cases hg'
  | le =>
    refine ⟨_, op_le.or (op_leD hu), fun A H x y d e b hx hy hg Q k => ?_⟩
    by_cases hi : ∃ i j, d = .int i ∧ e = .int j
    · obtain ⟨i, j, rfl, rfl⟩ := hi
      simp only [dCmp, Option.some.injEq] at hg
      subst hg
      cases hx.int; cases hy.int
      exact .inl ⟨_, _, rfl, rfl, k⟩
    · refine .inr ?_
      have hg' : ordC d e (!PySem.W.dataLt e d) = some b := by
        cases d <;> first
          | exact hg
          | (cases e <;> first | exact hg | exact absurd ⟨_, _, rfl, rfl⟩ hi)
      unfold ordC at hg'
      split at hg'
      · rename_i z
        cases hg'
        exact ⟨d, e, hx.dp (ordOk_noDct z).1, hy.dp (ordOk_noDct z).2, z, k⟩
      · cases hg'
  | gt =>
    refine ⟨_, op_gt.or (op_gtD hu), fun A H x y d e b hx hy hg Q k => ?_⟩
    by_cases hi : ∃ i j, d = .int i ∧ e = .int j
    · obtain ⟨i, j, rfl, rfl⟩ := hi
      simp only [dCmp, Option.some.injEq] at hg
      subst hg
      cases hx.int; cases hy.int
      exact .inl ⟨_, _, rfl, rfl, k⟩
    · refine .inr ?_
      have hg' : ordC d e (PySem.W.dataLt e d) = some b := by
        cases d <;> first
          | exact hg
          | (cases e <;> first | exact hg | exact absurd ⟨_, _, rfl, rfl⟩ hi)
      unfold ordC at hg'
      split at hg'
      · rename_i z
        cases hg'
        exact ⟨d, e, hx.dp (ordOk_noDct z).1, hy.dp (ordOk_noDct z).2, z, k⟩
      · cases hg'
  | ge =>
    refine ⟨_, op_ge.or (op_geD hu), fun A H x y d e b hx hy hg Q k => ?_⟩
    by_cases hi : ∃ i j, d = .int i ∧ e = .int j
    · obtain ⟨i, j, rfl, rfl⟩ := hi
      simp only [dCmp, Option.some.injEq] at hg
      subst hg
      cases hx.int; cases hy.int
      exact .inl ⟨_, _, rfl, rfl, k⟩
    · refine .inr ?_
      have hg' : ordC d e (!PySem.W.dataLt d e) = some b := by
        cases d <;> first
          | exact hg
          | (cases e <;> first | exact hg | exact absurd ⟨_, _, rfl, rfl⟩ hi)
      unfold ordC at hg'
      split at hg'
      · rename_i z
        cases hg'
        exact ⟨d, e, hx.dp (ordOk_noDct z).1, hy.dp (ordOk_noDct z).2, z, k⟩
      · cases hg'
  | inn =>
    refine ⟨_, (op_inD hu).or op_in_seq, fun A H x y d e b hx hy hg Q k => ?_⟩
    cases e <;> simp only [dCmp, reduceCtorEq, Bool.and_eq_true] at hg
    · split at hg
      · rename_i hz
        cases hg
        exact .inl ⟨d, _, hx.dp (shaped_noDct hz.1), hy.dp (shaped_noDct hz.2), hz.1, hz.2, k⟩
      · cases hg
    · split at hg
      · rename_i hz
        cases hg
        have hx' := flat_w hx hz.1
        obtain ⟨a, vs, rfl, _, h1, _, h2⟩ := hy.tup
        refine .inr ⟨a, vs, rfl, .inr (SqT.of h1), by rw [← flat_rep hx']; exact hz.1, by rw [← all_flat h2]; exact hz.2, ?_⟩
        rw [any_flat hx' hz.1 h2 hz.2] at k
        exact k
      · cases hg
  | nin =>
    refine ⟨_, (op_notInD hu).or op_notIn_seq, fun A H x y d e b hx hy hg Q k => ?_⟩
    cases e <;> simp only [dCmp, reduceCtorEq, Bool.and_eq_true] at hg
    · split at hg
      · rename_i hz
        cases hg
        exact .inl ⟨d, _, hx.dp (shaped_noDct hz.1), hy.dp (shaped_noDct hz.2), hz.1, hz.2, k⟩
      · cases hg
    · split at hg
      · rename_i hz
        cases hg
        have hx' := flat_w hx hz.1
        obtain ⟨a, vs, rfl, _, h1, _, h2⟩ := hy.tup
        refine .inr ⟨a, vs, rfl, .inr (SqT.of h1), by rw [← flat_rep hx']; exact hz.1, by rw [← all_flat h2]; exact hz.2, ?_⟩
        rw [any_flat hx' hz.1 h2 hz.2] at k
        exact k
      · cases hg
  | is =>
    refine ⟨_, op_isN.or op_isB, fun A H x y d e b hx hy hg Q k => ?_⟩
    cases e <;> simp only [dCmp, reduceCtorEq] at hg
    · cases hg
      cases hy.non
      refine .inl ⟨rfl, ?_⟩
      rcases hx with hx | ⟨a, vs, ds, rfl, rfl, _⟩
      · cases hx <;> exact k
      · exact k
    · cases hg
      cases hy.bool
      refine .inr ⟨_, rfl, ?_⟩
      rcases hx with hx | ⟨a, vs, ds, rfl, rfl, _⟩
      · cases hx <;> first | (simpa using k; done) | (rename_i b c; cases b <;> cases c <;> exact k)
      · simpa using k
  | isn =>
    refine ⟨_, op_notN.or op_isnB, fun A H x y d e b hx hy hg Q k => ?_⟩
    cases e <;> simp only [dCmp, reduceCtorEq] at hg
    · cases hg
      cases hy.non
      refine .inl ⟨rfl, ?_⟩
      rcases hx with hx | ⟨a, vs, ds, rfl, rfl, _⟩
      · cases hx <;> exact k
      · exact k
    · cases hg
      cases hy.bool
      refine .inr ⟨_, rfl, ?_⟩
      rcases hx with hx | ⟨a, vs, ds, rfl, rfl, _⟩
      · cases hx <;> first | (simpa using k; done) | (rename_i b c; cases b <;> cases c <;> exact k)
      · simpa using k
end
end Ev

set_option maxRecDepth 100000
/-! Ev4: the context; names, constants, operators, calls. -/
namespace Ev
open PySem L2
variable [TheK]

def bltNames : List String := ["len", "abs", "int", "str", "repr", "sum", "max", "min", "all", "any", "sorted", "list", "tuple", "range", "isinstance", "enumerate", "zip", "reversed", "bool", "dict", "set"]
/-- where one stands: the scope, the names whose cells are one's own -/
structure Sc where
  sc : Scope
  fs : Str → Bool
  gcd : Bool

/-! ### what a def promises -/
def RetOk (A : Addr → Prop) (Hs H : Hp) (v : V) : Res → Prop
  | .fr d => Rep A H v d
  | .nw ds => ∃ a vs, v = .ref a ∧ H a = some (.lst vs) ∧ vs.length ≤ sizeLine ∧ RepAll A H vs ds ∧ ¬ A a ∧ Hs a = none
def OutsOk (A : Addr → Prop) (H : Hp) : List PK → List V → List (List D) → Prop
  | [], _, [] => True
  | .M :: ks, v :: vs, ds :: outs => (∃ a ws, v = .ref a ∧ H a = some (.lst ws) ∧ ws.length ≤ sizeLine ∧ RepAll A H ws ds ∧ ¬ A a) ∧ OutsOk A H ks vs outs
  | .B :: ks, _ :: vs, outs => OutsOk A H ks vs outs
  | .I :: ks, _ :: vs, outs => OutsOk A H ks vs outs
  | _, _, _ => False
def spOf (ks : List PK) (fn : Fn) : Sp := fun vs H Q _ => vs.length = ks.length ∧ ∃ (A : Addr → Prop) (args : List Slot) (r : Res) (outs : List (List D)),
  Fit A H (vs.map some) args ∧ fn args = some (r, outs) ∧ ∀ (A' : Addr → Prop) (H' : Hp) (v : V), (∀ a, A a → A' a) → (∀ a o, H a = some o → ¬ Mut (vs.map some) args a → H' a = some o) → (∀ a, H' a = none → H a = none) →
    (∀ a, A' a → A a ∨ H a = none ∨ ∃ vs, H a = some (HO.tup vs)) → (∀ a, A' a → ∃ o, H' a = some o) → RetOk A' H H' v r → OutsOk A' H' ks vs outs → Q v H'

structure CtxOk (X : Cx) (N : List Str) (q : Sc) (F : FT) : Prop where
  N : X.N = N
  nd : X.N.Nodup
  sc : X.env.scope = q.sc
  fn : X.fn = q.fs
  calm : X.calm = true
  nox : X.xe = fun _ _ => False
  bl : ∀ x, x ∈ bltNames → X.mg (Str.ofString x) = none
  un : X.A.units + 65 < cLine
  kk : TheK.K = X.K
  kd : X.env.scope.kind = .function
  gc : q.gcd = true → X.mg (Str.ofString "gcd") = some (.builtin "math.gcd")
  fns : ∀ f ks fn, F f = some (ks, fn) → ∃ (fa : Addr) (fd : FuncData) (ps : List Str) (k : Nat), X.mg (Str.ofString f) = some (.ref fa) ∧ PySem.W.keepIn X.K (.ref fa) = true ∧ Binds X.K fd ps [] ∧ Room k X.A ∧
    FnOk X.prog X.w X.K X.mg X.base CX0 k fa fd ps (spOf ks fn)

def visB (sc : Scope) (x : Str) : Bool := match sc.names.lookup x with
  | some .local => true
  | some .cell => true
  | some .free => true
  | _ => false
def glB (sc : Scope) (x : Str) : Bool := match sc.names.lookup x with
  | some .globalImplicit => true
  | _ => false
def okName (x : Str) : Bool := !(x == ("__debug__" : Str)) && !(x == ("__classdict__" : Str))
theorem vis_of {sc x} (h : visB sc x = true) : Vis sc x := by
  unfold visB at h
  split at h
  · exact .inl (by assumption)
  · exact .inr (.inl (by assumption))
  · exact .inr (.inr (by assumption))
  · cases h
section
variable {X : Cx} {N : List Str} {q : Sc} {F : FT}
theorem gl_of (C : CtxOk X N q F) {x} (h : glB q.sc x = true) : Gl X x := by
  unfold glB at h
  split at h
  · show X.env.scope.names.lookup x = some .globalImplicit
    rw [C.sc]; assumption
  · cases h
theorem okName1 {x} (h : okName x = true) : (x == ("__debug__" : Str)) = false := by
  unfold okName at h; rw [Bool.and_eq_true] at h; simpa using h.1
theorem okName2 {x} (h : okName x = true) : (x == ("__classdict__" : Str)) = false := by
  unfold okName at h; rw [Bool.and_eq_true] at h; simpa using h.2

/-! ### names -/
def nameB (N : List Str) (q : Sc) (i : Nat) (x : Str) : Bool := decide (N[i]? = some x) && visB q.sc x && okName x
theorem pe_name (C : CtxOk X N q F) {i x pos} (h : nameB N q i x = true) : PE X (.Name x pos) (tVar i) := by
  unfold nameB at h
  simp only [Bool.and_eq_true, decide_eq_true_eq] at h
  obtain ⟨⟨h1, h2⟩, h3⟩ := h
  exact pe_var (by rw [C.N]; exact h1) (by rw [C.sc]; exact vis_of h2) (okName1 h3) (okName2 h3)

/-- a slot's word goes over to more frozen things and a later heap -/
theorem SlotOk.go {A A' : Addr → Prop} {H H' ov s} (e : ∀ a, A a → A' a) (k : Keep A H H') (h : SlotOk A H ov s)
    (kh : ∀ a o, liveB s = true → ov = some (.ref a) → H a = some o → H' a = some o) (hn : ∀ a, live s = true → ov = some (.ref a) → ¬ A' a) (kf : ∀ a o u, H a = some (.frz o u) → H' a = some (.frz o u))
    (kd : ∀ kk d v a o, s = .dp kk d → ov = some v → LR H v a → H a = some o → H' a = some o) (nd : ∀ kk d v a, s = .dp kk d → ov = some v → LR H v a → ¬ A' a) : SlotOk A' H' ov s := by
  cases s with
  | un => trivial
  | fz d => obtain ⟨w, q1, q2⟩ := h; exact ⟨w, q1, Rep.mono e k q2⟩
  | own es => obtain ⟨b, ws, q1, q2, q3, q4, q5⟩ := h; exact ⟨b, ws, q1, kh _ _ rfl q1 q2, q3, RepAll.mono e k q4, hn b rfl q1⟩
  | lent es => obtain ⟨b, ws, q1, q2, q3, q4, q5⟩ := h; exact ⟨b, ws, q1, kh _ _ rfl q1 q2, q3, RepAll.mono e k q4, hn b rfl q1⟩
  | mu es => obtain ⟨b, ws, q1, q2, q3, q4, q5⟩ := h; exact ⟨b, ws, q1, kh _ _ rfl q1 q2, q3, RepAll.mono e k q4, hn b rfl q1⟩
  | dct es => obtain ⟨b, ws, q1, q2, q3, q4, q5⟩ := h; exact ⟨b, ws, q1, kh _ _ rfl q1 q2, q3, KvRep.mono e k q4, hn b rfl q1⟩
  | dtt es => obtain ⟨b, ws, q1, q2, q3, q4, q5⟩ := h; exact ⟨b, ws, q1, kh _ _ rfl q1 q2, q3, KtRep.mono e k q4, hn b rfl q1⟩
  | dp kk d => exact h.keep e k (fun v a o ev l => kd kk d v a o rfl ev l) (fun v a ev l => nd kk d v a rfl ev l)
  | bor es => obtain ⟨b, ws, q1, q2, q3, q4⟩ := h; exact ⟨b, ws, q1, kh _ _ rfl q1 q2, q3, RepAll.mono e k q4⟩
  | ro es => obtain ⟨b, ws, q1, q2, q3, q4⟩ := h; exact ⟨b, ws, q1, q2.keep fun o u => kf _ o u, q3, RepAll.mono e k q4⟩
theorem liveB_of {s} (h : live s = true) : liveB s = true := by cases s <;> first | rfl | cases h
theorem SlotOk.nofz {A H s a} (h : SlotOk A H (some (.ref a)) s) (l : live s = true) : ¬ A a := by
  cases s <;> simp [live] at l <;> (obtain ⟨b, ws, q1, q2, q3, q4, q5⟩ := h; cases q1; exact q5)
theorem SlotOk.notup {A H s a vs} (h : SlotOk A H (some (.ref a)) s) (l : live s = true) (e : H a = some (HO.tup vs)) : False := by
  cases s <;> simp [live] at l <;> (obtain ⟨b, ws, q1, q2, q3, q4, q5⟩ := h; cases q1; rw [e] at q2; cases q2)

theorem get_set {α : Type} {l : List α} {i j : Nat} {a b : α} (h : (l.set i a)[j]? = some b) : (i = j ∧ b = a) ∨ (i ≠ j ∧ l[j]? = some b) := by
  by_cases e : i = j
  · subst e
    by_cases hl : i < l.length
    · rw [List.getElem?_set_self hl] at h; exact .inl ⟨rfl, (Option.some.inj h).symm⟩
    · rw [List.getElem?_eq_none (by rw [List.length_set]; omega)] at h; cases h
  · rw [List.getElem?_set_ne e] at h; exact .inr ⟨e, h⟩
theorem set_get {α : Type} {l : List α} {i : Nat} {a b : α} (h : l[i]? = some b) : (l.set i a)[i]? = some a := List.getElem?_set_self (List.getElem?_eq_some_iff.mp h).1

/-- a list of one's own is frozen where it stands -/
theorem stp_freeze {A H σ} {ρ : Env} {i : Nat} {s : Slot} {ds : List D} (f : Fit A H σ ρ) (hs : ρ[i]? = some s) (hk : s = .own ds ∨ s = .lent ds) :
    ∃ a, σ[i]? = some (some (.ref a)) ∧ Stp A H σ ρ (fun b => A b ∨ b = a) H σ (ρ.set i (.fz (.list ds))) ∧ Rep (fun b => A b ∨ b = a) H (.ref a) (.list ds) := by
  obtain ⟨ov, e1, q⟩ := f.at hs
  have q' : ∃ a vs, ov = some (.ref a) ∧ H a = some (.lst vs) ∧ vs.length ≤ sizeLine ∧ RepAll A H vs ds ∧ ¬ A a := by rcases hk with rfl | rfl <;> exact q
  have lv : live s = true := by rcases hk with rfl | rfl <;> rfl
  obtain ⟨a, vs, rfl, q1, q2, q3, q4⟩ := q'
  have e : ∀ b, A b → A b ∨ b = a := fun _ h => .inl h
  have k : Keep A H H := fun _ _ _ h => h
  have rep : Rep (fun b => A b ∨ b = a) H (.ref a) (.list ds) := .lst (.inr rfl) q1 q2 (RepAll.mono e k q3)
  have mt : ∀ b, Mut σ (ρ.set i (.fz (.list ds))) b → Mut σ ρ b := fun b ⟨j, t, h1, h2, h3⟩ => by
    rcases get_set h1 with ⟨_, rfl⟩ | ⟨_, h1⟩
    · cases h2
    · exact ⟨j, t, h1, h2, h3⟩
  have dps : ∀ (j : Nat) kk d, (ρ.set i (Slot.fz (.list ds)))[j]? = some (Slot.dp kk d) → ρ[j]? = some (.dp kk d) ∧ σ[j]? = σ[j]? := fun j kk d h => by
    rcases get_set h with ⟨_, h⟩ | ⟨_, h⟩
    · cases h
    · exact ⟨h, rfl⟩
  refine ⟨a, e1, ⟨e, fun _ _ h _ _ => h, fun _ h => h, fun b m => .inl (mt b m), fun j es h => ⟨rfl, ?_⟩, fun b hb => ?_, fun j es h o => ?_, fun b hb => .inr (.inl (f.prv_back dps (fun _ _ _ z => z) (fun _ _ _ z => z) b hb)), ⟨by rw [List.length_set]; exact f.len, fun j t ov h1 h2 => ?_, fun j l t u b hjl h1 h2 h3 h4 h5 h6 => ?_, fun b hb => ?_, f.prv_go dps (fun _ _ _ z => z) (fun _ _ _ z => z) fun j t b h1 h2 h3 => ?_⟩⟩, rep⟩
  · by_cases hj : i = j
    · subst hj; rw [hs] at h; cases h; rcases hk with hk | hk <;> cases hk
    · exact ⟨es, by rw [List.getElem?_set_ne hj]; exact h⟩
  · rcases hb with hb | rfl
    · exact .inl hb
    · rcases hk with rfl | rfl
      · exact .inr (.inr (.inl ⟨i, _, hs, rfl, e1⟩))
      · exact .inr (.inr (.inr (.inr (.inl ⟨i, _, hs, e1⟩))))
  · rcases get_set h with ⟨_, h⟩ | ⟨_, h⟩
    · subst h; cases o
    · exact ⟨h, rfl⟩
  · rcases get_set h1 with ⟨rfl, rfl⟩ | ⟨hj, h1⟩
    · rw [e1] at h2; cases h2; exact ⟨_, rfl, rep⟩
    · have ok := f.slot j t _ h1 h2
      refine ok.go e k (fun _ _ _ _ z => z) (fun b lt z hb => ?_) (fun _ _ _ z => z) (fun _ _ _ _ _ _ _ _ z => z) (fun kk d w b z ez l hb => ?_)
      subst z
      rcases hb with hb | rfl
      · exact ok.nofz lt hb
      · exact f.apart i j s t _ hj hs h1 lv (liveB_of lt) e1 h2
      · subst ez z
        rcases hb with hb | rfl
        · exact (f.lr h1 h2 l).1 hb
        · exact (f.prv j kk d w b h1 h2 l).1 i s hs (liveB_of lv) e1
  · rcases get_set h1 with ⟨rfl, rfl⟩ | ⟨_, h1⟩
    · cases h3
    · rcases get_set h2 with ⟨rfl, rfl⟩ | ⟨_, h2⟩
      · cases h4
      · exact f.apart j l t u b hjl h1 h2 h3 h4 h5 h6
  · rcases hb with hb | rfl
    · exact f.trk b hb
    · exact ⟨_, q1⟩
  · rcases get_set h1 with ⟨_, rfl⟩ | ⟨_, h1⟩
    · cases h2
    · exact .inl ⟨j, t, h1, h2, h3⟩
mutual
theorem DpR.rep {A A' : Addr → Prop} {H : Hp} (e : ∀ a, A a → A' a) : ∀ {v d}, DpR A H v d → (∀ a, LR H v a → A' a) → Rep A' H v d
  | _, _, .leaf h _, _ => Rep.mono e (fun _ _ _ z => z) h
  | _, _, .lst h1 h2 _ h4, k => .lst (k _ (.here h1)) h1 h2 (DpRs.rep e h4 fun v hv a l => k a (.lst h1 hv l))
  | _, _, .tup h1 h2 h3 h4, k => .tup (e _ h1) h2 h3 (DpRs.rep e h4 fun v hv a l => k a (.tup h2 hv l))
theorem DpRs.rep {A A' : Addr → Prop} {H : Hp} (e : ∀ a, A a → A' a) : ∀ {vs ds}, DpRs A H vs ds → (∀ v ∈ vs, ∀ a, LR H v a → A' a) → RepAll A' H vs ds
  | _, _, .nil, _ => .nil
  | _, _, .cons h1 h2, k => .cons (DpR.rep e h1 (k _ List.mem_cons_self)) (DpRs.rep e h2 fun v hv => k v (List.mem_cons_of_mem _ hv))
end
/-- lists under lists are frozen where they stand -/
theorem stp_freezeD {A H σ} {ρ : Env} {i : Nat} {kk : DK} {d : D} (f : Fit A H σ ρ) (hs : ρ[i]? = some (.dp kk d)) (hk : kk ≠ .junk) :
    ∃ v, σ[i]? = some (some v) ∧ Stp A H σ ρ (fun b => A b ∨ LR H v b) H σ (ρ.set i (.fz d)) ∧ Rep (fun b => A b ∨ LR H v b) H v d := by
  obtain ⟨ov, e1, v, d', rfl, r, h2, _, _⟩ := f.at hs
  cases h2 hk
  have e : ∀ b, A b → A b ∨ LR H v b := fun _ h => .inl h
  have k : Keep A H H := fun _ _ _ h => h
  have rep : Rep (fun b => A b ∨ LR H v b) H v d := r.rep e fun _ l => .inr l
  have mt : ∀ b, Mut σ (ρ.set i (.fz d)) b → Mut σ ρ b := fun b ⟨j, t, h1, h2, h3⟩ => by
    rcases get_set h1 with ⟨_, rfl⟩ | ⟨_, h1⟩
    · cases h2
    · exact ⟨j, t, h1, h2, h3⟩
  have dps : ∀ (j : Nat) k2 d2, (ρ.set i (Slot.fz d))[j]? = some (Slot.dp k2 d2) → ρ[j]? = some (.dp k2 d2) ∧ σ[j]? = σ[j]? := fun j k2 d2 h => by
    rcases get_set h with ⟨_, h⟩ | ⟨_, h⟩
    · cases h
    · exact ⟨h, rfl⟩
  have pv : ∀ b, LR H v b → Prv H σ ρ b := fun b l => ⟨i, kk, d, v, hs, e1, l⟩
  refine ⟨v, e1, ⟨e, fun _ _ h _ _ => h, fun _ h => h, fun b m => .inl (mt b m), fun j es h => ⟨rfl, ?_⟩, fun b hb => ?_, fun j es h o => ?_, fun b hb => .inr (.inl (f.prv_back dps (fun _ _ _ z => z) (fun _ _ _ z => z) b hb)), ⟨by rw [List.length_set]; exact f.len, fun j t ov h1 h2 => ?_, fun j l t u b hjl h1 h2 h3 h4 h5 h6 => ?_, fun b hb => ?_, f.prv_go dps (fun _ _ _ z => z) (fun _ _ _ z => z) fun j t b h1 h2 h3 => ?_⟩⟩, rep⟩
  · by_cases hj : i = j
    · subst hj; rw [hs] at h; cases h
    · exact ⟨es, by rw [List.getElem?_set_ne hj]; exact h⟩
  · rcases hb with hb | hb
    · exact .inl hb
    · exact .inr (.inr (.inr (.inl (pv b hb))))
  · rcases get_set h with ⟨_, h⟩ | ⟨_, h⟩
    · subst h; cases o
    · exact ⟨h, rfl⟩
  · rcases get_set h1 with ⟨rfl, rfl⟩ | ⟨hj, h1⟩
    · rw [e1] at h2; cases h2; exact ⟨_, rfl, rep⟩
    · have ok := f.slot j t _ h1 h2
      refine ok.go e k (fun _ _ _ _ z => z) (fun b lt z hb => ?_) (fun _ _ _ z => z) (fun _ _ _ _ _ _ _ _ z => z) (fun k2 d2 w b ez z l hb => ?_)
      · subst z
        rcases hb with hb | hb
        · exact ok.nofz lt hb
        · exact (f.prv i kk d v b hs e1 hb).1 j t h1 (liveB_of lt) h2
      · subst ez z
        rcases hb with hb | hb
        · exact (f.lr h1 h2 l).1 hb
        · exact (f.prv i kk d v b hs e1 hb).2 j k2 d2 w (fun z => hj z.symm) h1 h2 l
  · rcases get_set h1 with ⟨rfl, rfl⟩ | ⟨_, h1⟩
    · cases h3
    · rcases get_set h2 with ⟨rfl, rfl⟩ | ⟨_, h2⟩
      · cases h4
      · exact f.apart j l t u b hjl h1 h2 h3 h4 h5 h6
  · rcases hb with hb | hb
    · exact f.trk b hb
    · obtain ⟨_, vs, z⟩ := f.lr hs e1 hb
      exact ⟨_, z⟩
  · rcases get_set h1 with ⟨_, rfl⟩ | ⟨_, h1⟩
    · cases h2
    · exact .inl ⟨j, t, h1, h2, h3⟩

theorem snd_var (C : CtxOk X N q F) {i x pos} (h : nameB N q i x = true) : SndE X (.Name x pos) (ev F (.var i)) := by
  refine ⟨tVar i, pe_name C h, fun A H σ ρ r ρ' f e Q k => ?_⟩
  simp only [ev, freeze] at e
  split at e
  · rename_i d hs
    cases e
    obtain ⟨ov, e1, w, rfl, q⟩ := f.at hs
    exact ⟨w, e1, k A H w (Stp.refl f) q⟩
  · rename_i ds hs
    cases e
    obtain ⟨a, e1, s, r⟩ := stp_freeze f hs (.inl rfl)
    exact ⟨_, e1, k _ H _ s r⟩
  · rename_i ds hs
    cases e
    obtain ⟨a, e1, s, r⟩ := stp_freeze f hs (.inr rfl)
    exact ⟨_, e1, k _ H _ s r⟩
  · rename_i d hs
    cases e
    obtain ⟨v, e1, s, r⟩ := stp_freezeD f hs (by simp)
    exact ⟨_, e1, k _ H _ s r⟩
  · rename_i d hs
    cases e
    obtain ⟨v, e1, s, r⟩ := stp_freezeD f hs (by simp)
    exact ⟨_, e1, k _ H _ s r⟩
  · cases e
theorem sndO_var (C : CtxOk X N q F) {i x pos g} (h : nameB N q i x = true) : SndO X (.Name x pos) (opd (.var i) g) := by
  refine ⟨tVar i, pe_name C h, fun A H σ ρ o ρ' f e Q k => ?_⟩
  simp only [opd] at e
  split at e
  · rename_i d hs
    cases e
    obtain ⟨ov, e1, w, rfl, q⟩ := f.at hs
    exact ⟨w, e1, k A H w (Stp.refl f) q⟩
  · cases e
  · rename_i d hs
    cases e
    obtain ⟨v, e1, s, r⟩ := stp_freezeD f hs (by simp)
    exact ⟨_, e1, k _ H _ s r⟩
  · rename_i d hs
    cases e
    obtain ⟨v, e1, s, r⟩ := stp_freezeD f hs (by simp)
    exact ⟨_, e1, k _ H _ s r⟩
  · rename_i s n1 n2 n3 n4 hs
    cases e
    obtain ⟨ov, e1, q⟩ := f.at hs
    have : ∃ w, ov = some w := by
      cases s with
      | un => exact absurd rfl n2
      | fz d => exact absurd rfl (n1 d)
      | own _ => obtain ⟨_, _, q, _⟩ := q; exact ⟨_, q⟩
      | lent _ => obtain ⟨_, _, q, _⟩ := q; exact ⟨_, q⟩
      | bor _ => obtain ⟨_, _, q, _⟩ := q; exact ⟨_, q⟩
      | mu _ => obtain ⟨_, _, q, _⟩ := q; exact ⟨_, q⟩
      | dct _ => obtain ⟨_, _, q, _⟩ := q; exact ⟨_, q⟩
      | dtt _ => obtain ⟨_, _, q, _⟩ := q; exact ⟨_, q⟩
      | ro _ => obtain ⟨_, _, q, _⟩ := q; exact ⟨_, q⟩
      | dp _ _ => obtain ⟨_, _, q, _⟩ := q; exact ⟨_, q⟩
    obtain ⟨w, rfl⟩ := this
    exact ⟨w, e1, k A H w (Stp.refl f) e1⟩
  · cases e
theorem SndE.o {e f a} (h : SndE X e f) (n : ∀ i, a ≠ .var i) : SndO X e (opd a f) := by
  obtain ⟨t, p, hq⟩ := h.d
  refine ⟨t, p, fun A H σ ρ o ρ' ft e Q k => ?_⟩
  have e' : (match f ρ with | some (r, ρ') => some (Opd.v r.d, ρ') | none => none) = some (o, ρ') := by
    cases a <;> first | exact e | exact absurd rfl (n _)
  cases hr : f ρ with
  | none => rw [hr] at e'; cases e'
  | some p =>
    rw [hr] at e'
    cases e'
    exact hq A H σ ρ p.1 p.2 ft hr Q fun A' H' v s ok => k A' H' v s ok
theorem snd_flat {e v d f} (p : PE X e (tC v)) (r : ∀ A H, Rep A H v d) (hf : ∀ ρ, f ρ = some (Res.fr d, ρ)) : SndE X e f := by
  refine ⟨tC v, p, fun A H σ ρ r' ρ' ft e Q k => ?_⟩
  rw [hf] at e
  cases e
  exact k A H v (Stp.refl ft) (r A H)

def fBin (o : Bop) (fa fb : Env → Option (Opd × Env)) (ρ : Env) : Option (Res × Env) := match fa ρ with
    | none => none
    | some (oa, ρ1) => match fb ρ1 with
      | none => none
      | some (ob, ρ2) => match oa.get ρ2, ob.get ρ2 with
        | some da, some db => (dBin o da db).map fun r => (r, ρ2)
        | _, _ => none
def fNeg (fa : Env → Option (Res × Env)) (ρ : Env) : Option (Res × Env) := match fa ρ with
    | some (.fr (.int i), ρ1) => some (.fr (.int (-i)), ρ1)
    | _ => none
def fNo (fa : Env → Option (Res × Env)) (ρ : Env) : Option (Res × Env) := match fa ρ with
    | some (.fr (.bool i), ρ1) => some (.fr (.bool (!i)), ρ1)
    | _ => none
theorem snd_bin {a b pos fa fb} (o : Bop) (ha : SndO X a fa) (hb : SndO X b fb) : SndE X (.BinOp a (bop o) b pos) (fBin o fa fb) := by
  obtain ⟨ta, pa, qa⟩ := ha
  obtain ⟨tb, pb, qb⟩ := hb
  obtain ⟨r, po, qo⟩ := snd_bop (X := X) o
  refine ⟨_, pe_op po pa pb, fun A H σ ρ r ρ' ft e Q k => ?_⟩
  unfold fBin at e
  split at e
  · cases e
  · rename_i oa ρ1 e1
    split at e
    · cases e
    · rename_i ob ρ2 e2
      split at e
      · rename_i da db e3 e4
        cases e5 : dBin o da db with
        | none => rw [e5] at e; cases e
        | some r' =>
          rw [e5] at e
          cases e
          refine qa A H σ ρ oa ρ1 ft e1 _ fun A1 H1 v1 s1 k1 => ?_
          refine qb A1 H1 σ ρ1 ob ρ' s1.fit e2 _ fun A2 H2 v2 s2 k2 => ?_
          have k1' := k1.mono s2.ext (s2.keep s1.fit)
          refine qo A2 H2 σ ρ' v1 v2 da db r s2.fit (Opd.ok s2.fit k1' e3) (Opd.ok s2.fit k2 e4) e5 Q fun A3 H3 v3 s3 k3 => ?_
          exact k A3 H3 v3 ((s1.trans s2).trans s3) (k3.start fun a z => (s1.trans s2).dom a z)
      · cases e
theorem snd_neg {a pos fa} (ha : SndE X a fa) : SndE X (.UnaryOp .USub a pos) (fNeg fa) := by
  obtain ⟨ta, pa, qa⟩ := ha
  refine ⟨_, pe_un un_neg pa, fun A H σ ρ r ρ' ft e Q k => ?_⟩
  unfold fNeg at e
  split at e
  · rename_i i ρ1 e1
    cases e
    refine qa A H σ ρ _ ρ' ft e1 _ fun A1 H1 v1 s1 k1 => ?_
    cases k1
    exact ⟨i, rfl, k A1 H1 _ s1 .int⟩
  · cases e
/-- a value that is a bool, as a test -/
theorem SndE.t {e f} (h : SndE X e f) (he : ∀ whole, isTrue e X.env whole = (do let v ← whole; standAt e.pos; holding [v] (truthy v))) : SndT X e f := by
  obtain ⟨t, p, hq⟩ := h
  refine ⟨_, pt_val p he, fun A H σ ρ b ρ' ft e Q k => ?_⟩
  refine hq A H σ ρ _ ρ' ft e _ fun A' H' v s ok => ?_
  cases ok
  exact ⟨b, rfl, k A' H' s⟩
theorem snd_no {a pos fa} (ha : SndE X a fa) : SndE X (.UnaryOp .Not a pos) (fNo fa) := by
  obtain ⟨ta, pa, qa⟩ := ha
  refine ⟨_, pe_not pa, fun A H σ ρ r ρ' ft e Q k => ?_⟩
  unfold fNo at e
  split at e
  · rename_i i ρ1 e1
    cases e
    refine qa A H σ ρ _ ρ' ft e1 _ fun A1 H1 v1 s1 k1 => ?_
    cases k1
    exact ⟨i, rfl, k A1 H1 _ s1 .bool⟩
  · cases e
theorem sndT_no {a pos fa} (ha : SndT X a fa) : SndT X (.UnaryOp .Not a pos) (fNo fa) := by
  obtain ⟨ta, pa, qa⟩ := ha
  refine ⟨_, pt_not pa, fun A H σ ρ r ρ' ft e Q k => ?_⟩
  unfold fNo at e
  split at e
  · rename_i i ρ1 e1
    cases e
    exact qa A H σ ρ _ ρ' ft e1 _ fun A1 H1 s1 => k A1 H1 s1
  · cases e
def fCmp (o : Cop) (fa fb : Env → Option (Opd × Env)) (ρ : Env) : Option (Res × Env) := match fa ρ with
    | none => none
    | some (oa, ρ1) => match fb ρ1 with
      | none => none
      | some (ob, ρ2) => match oa.get ρ2, ob.get ρ2 with
        | some da, some db => (dCmp o da db).map fun r => (.fr (.bool r), ρ2)
        | _, _ => none
theorem cmp_core {ta tb fa fb A H σ ρ b ρ'} {r : R2} {o : Cop} (qa : ∀ A H σ ρ o ρ', Fit A H σ ρ → fa ρ = some (o, ρ') → ∀ Q : VK, (∀ A' H' v, Stp A H σ ρ A' H' σ ρ' → OpdOk A' H' σ v o → Q v H') → ta σ H Q)
    (qb : ∀ A H σ ρ o ρ', Fit A H σ ρ → fb ρ = some (o, ρ') → ∀ Q : VK, (∀ A' H' v, Stp A H σ ρ A' H' σ ρ' → OpdOk A' H' σ v o → Q v H') → tb σ H Q)
    (qo : ∀ A H x y d e b, RepW A H x d → RepW A H y e → dCmp o d e = some b → ∀ Q : VK, Q (.bl b) H → r x y H Q)
    (ft : Fit A H σ ρ) (e : fCmp o fa fb ρ = some (b, ρ')) (Q : VK) (k : ∀ A' H' c, Stp A H σ ρ A' H' σ ρ' → b = .fr (.bool c) → Q (.bl c) H') : tOp r ta tb σ H Q := by
  unfold fCmp at e
  split at e
  · cases e
  · rename_i oa ρ1 e1
    split at e
    · cases e
    · rename_i ob ρ2 e2
      split at e
      · rename_i da db e3 e4
        cases e5 : dCmp o da db with
        | none => rw [e5] at e; cases e
        | some c =>
          rw [e5] at e
          cases e
          refine qa A H σ ρ oa ρ1 ft e1 _ fun A1 H1 v1 s1 k1 => ?_
          refine qb A1 H1 σ ρ1 ob ρ' s1.fit e2 _ fun A2 H2 v2 s2 k2 => ?_
          have k1' := k1.mono s2.ext (s2.keep s1.fit)
          exact qo A2 H2 v1 v2 da db c (Opd.ok s2.fit k1' e3) (Opd.ok s2.fit k2 e4) e5 Q (k A2 H2 c (s1.trans s2) rfl)
      · cases e
theorem snd_cmp (C : CtxOk X N q F) {a b pos fa fb} (o : Cop) (hm : behindInMarks (cop o) b = false) (ha : SndO X a fa) (hb : SndO X b fb) : SndE X (.Compare a [cop o] [b] pos) (fCmp o fa fb) := by
  obtain ⟨ta, pa, qa⟩ := ha
  obtain ⟨tb, pb, qb⟩ := hb
  obtain ⟨r, po, qo⟩ := snd_cop C.un o
  exact ⟨_, pe_cmpR po pa pb hm, fun A H σ ρ r ρ' ft e Q k => cmp_core qa qb qo ft e Q fun A' H' c s e => k A' H' _ s (by subst e; exact .bool)⟩
theorem sndT_cmp (C : CtxOk X N q F) {a b pos fa fb} (o : Cop) (hm : behindInMarks (cop o) b = false) (ha : SndO X a fa) (hb : SndO X b fb) : SndT X (.Compare a [cop o] [b] pos) (fCmp o fa fb) := by
  obtain ⟨ta, pa, qa⟩ := ha
  obtain ⟨tb, pb, qb⟩ := hb
  obtain ⟨r, po, qo⟩ := snd_cop C.un o
  exact ⟨_, pt_cmpR po pa pb hm, fun A H σ ρ b ρ' ft e Q k => cmp_core qa qb qo ft e _ fun A' H' c s e => ⟨c, rfl, by cases e; exact k A' H' s⟩⟩
def fCmp2 (o p : Cop) (fa fb fc : Env → Option (Res × Env)) (ρ : Env) : Option (Res × Env) := match fa ρ with
    | none => none
    | some (ra, ρ1) => match fb ρ1 with
      | none => none
      | some (rb, ρ2) => match dCmp o ra.d rb.d with
        | none => none
        | some false => some (.fr (.bool false), ρ2)
        | some true => match fc ρ2 with
          | none => none
          | some (rc, ρ3) => (dCmp p rb.d rc.d).map fun r => (.fr (.bool r), ρ3)
theorem chain_core {ta tb tc fa fb fc A H σ ρ b ρ'} {r r' : R2} {o p : Cop} (qa : ∀ A H σ ρ r ρ', Fit A H σ ρ → fa ρ = some (r, ρ') → ∀ Q : VK, (∀ A' H' v, Stp A H σ ρ A' H' σ ρ' → Rep A' H' v r.d → Q v H') → ta σ H Q)
    (qb : ∀ A H σ ρ r ρ', Fit A H σ ρ → fb ρ = some (r, ρ') → ∀ Q : VK, (∀ A' H' v, Stp A H σ ρ A' H' σ ρ' → Rep A' H' v r.d → Q v H') → tb σ H Q)
    (qc : ∀ A H σ ρ r ρ', Fit A H σ ρ → fc ρ = some (r, ρ') → ∀ Q : VK, (∀ A' H' v, Stp A H σ ρ A' H' σ ρ' → Rep A' H' v r.d → Q v H') → tc σ H Q)
    (qo : ∀ A H x y d e b, RepW A H x d → RepW A H y e → dCmp o d e = some b → ∀ Q : VK, Q (.bl b) H → r x y H Q)
    (qp : ∀ A H x y d e b, RepW A H x d → RepW A H y e → dCmp p d e = some b → ∀ Q : VK, Q (.bl b) H → r' x y H Q)
    (ft : Fit A H σ ρ) (e : fCmp2 o p fa fb fc ρ = some (b, ρ')) (Q : VK) (k : ∀ A' H' c, Stp A H σ ρ A' H' σ ρ' → b = .fr (.bool c) → Q (.bl c) H') : tChain r r' ta tb tc σ H Q := by
  unfold fCmp2 at e
  split at e
  · cases e
  · rename_i ra ρ1 e1
    split at e
    · cases e
    · rename_i rb ρ2 e2
      refine qa A H σ ρ ra ρ1 ft e1 _ fun A1 H1 v1 s1 k1 => ?_
      refine qb A1 H1 σ ρ1 rb ρ2 s1.fit e2 _ fun A2 H2 v2 s2 k2 => ?_
      have k1' := k1.mono s2.ext (s2.keep s1.fit)
      split at e
      · cases e
      · rename_i e3
        cases e
        exact qo A2 H2 v1 v2 _ _ false (.inl k1') (.inl k2) e3 _ ⟨false, rfl, by rw [if_neg Bool.false_ne_true]; exact k A2 H2 false (s1.trans s2) rfl⟩
      · rename_i e3
        split at e
        · cases e
        · rename_i rc ρ3 e4
          cases e5 : dCmp p rb.d rc.d with
          | none => rw [e5] at e; cases e
          | some c =>
            rw [e5] at e
            cases e
            refine qo A2 H2 v1 v2 _ _ true (.inl k1') (.inl k2) e3 _ ⟨true, rfl, ?_⟩
            rw [if_pos rfl]
            refine qc A2 H2 σ ρ2 rc ρ' s2.fit e4 _ fun A3 H3 v3 s3 k3 => ?_
            exact qp A3 H3 v2 v3 _ _ c (.inl (k2.mono s3.ext (s3.keep s2.fit))) (.inl k3) e5 Q (k A3 H3 c ((s1.trans s2).trans s3) rfl)
theorem snd_cmp2 (C : CtxOk X N q F) {a b c pos fa fb fc} (o p : Cop) (hm : lastMarks [cop o, cop p] [b, c] = false) (ha : SndE X a fa) (hb : SndE X b fb) (hc : SndE X c fc) : SndE X (.Compare a [cop o, cop p] [b, c] pos) (fCmp2 o p fa fb fc) := by
  obtain ⟨ta, pa, qa⟩ := ha.d
  obtain ⟨tb, pb, qb⟩ := hb.d
  obtain ⟨tc, pc, qc⟩ := hc.d
  obtain ⟨r, po, qo⟩ := snd_cop C.un o
  obtain ⟨r', po', qo'⟩ := snd_cop C.un p
  exact ⟨_, pe_chain po po' pa pb pc hm, fun A H σ ρ r ρ' ft e Q k => chain_core qa qb qc qo qo' ft e Q fun A' H' c s e => k A' H' _ s (by subst e; exact .bool)⟩
theorem sndT_cmp2 (C : CtxOk X N q F) {a b c pos fa fb fc} (o p : Cop) (hm : lastMarks [cop o, cop p] [b, c] = false) (ha : SndE X a fa) (hb : SndE X b fb) (hc : SndE X c fc) : SndT X (.Compare a [cop o, cop p] [b, c] pos) (fCmp2 o p fa fb fc) := by
  obtain ⟨ta, pa, qa⟩ := ha.d
  obtain ⟨tb, pb, qb⟩ := hb.d
  obtain ⟨tc, pc, qc⟩ := hc.d
  obtain ⟨r, po, qo⟩ := snd_cop C.un o
  obtain ⟨r', po', qo'⟩ := snd_cop C.un p
  exact ⟨_, pt_chain po po' pa pb pc hm, fun A H σ ρ b ρ' ft e Q k => chain_core qa qb qc qo qo' ft e _ fun A' H' c s e => ⟨c, rfl, by cases e; exact k A' H' s⟩⟩

/-! ### and, or, if -/
def fAnd (fa fb : Env → Option (Res × Env)) (ρ : Env) : Option (Res × Env) := match fa ρ with
    | some (.fr (.bool false), ρ1) => some (.fr (.bool false), ρ1)
    | some (.fr (.bool true), ρ1) => fb ρ1
    | _ => none
def fOr (fa fb : Env → Option (Res × Env)) (ρ : Env) : Option (Res × Env) := match fa ρ with
    | some (.fr (.bool true), ρ1) => some (.fr (.bool true), ρ1)
    | some (.fr (.bool false), ρ1) => fb ρ1
    | _ => none
def fIf (fc fa fb : Env → Option (Res × Env)) (ρ : Env) : Option (Res × Env) := match fc ρ with
    | some (.fr (.bool true), ρ1) => fa ρ1
    | some (.fr (.bool false), ρ1) => fb ρ1
    | _ => none
theorem snd_and {a b rest pos fa fb} (ha : SndE X a fa) (hb : SndE X (.BoolOp .And (b :: rest) pos) fb) : SndE X (.BoolOp .And (a :: b :: rest) pos) (fAnd fa fb) := by
  obtain ⟨ta, pa, qa⟩ := ha
  obtain ⟨tb, pb, qb⟩ := hb
  refine ⟨_, pe_and pa pb, fun A H σ ρ r ρ' ft e Q k => ?_⟩
  unfold fAnd at e
  split at e
  · rename_i ρ1 e1
    cases e
    refine qa A H σ ρ _ ρ' ft e1 _ fun A1 H1 v1 s1 k1 => ?_
    cases k1
    exact ⟨false, rfl, by rw [if_neg Bool.false_ne_true]; exact k A1 H1 _ s1 .bool⟩
  · rename_i ρ1 e1
    refine qa A H σ ρ _ ρ1 ft e1 _ fun A1 H1 v1 s1 k1 => ?_
    cases k1
    refine ⟨true, rfl, ?_⟩
    rw [if_pos rfl]
    exact qb A1 H1 σ ρ1 r ρ' s1.fit e Q fun A2 H2 v2 s2 k2 => k A2 H2 v2 (s1.trans s2) (k2.start s1.dom)
  · cases e
theorem snd_or {a b rest pos fa fb} (ha : SndE X a fa) (hb : SndE X (.BoolOp .Or (b :: rest) pos) fb) : SndE X (.BoolOp .Or (a :: b :: rest) pos) (fOr fa fb) := by
  obtain ⟨ta, pa, qa⟩ := ha
  obtain ⟨tb, pb, qb⟩ := hb
  refine ⟨_, pe_or pa pb, fun A H σ ρ r ρ' ft e Q k => ?_⟩
  unfold fOr at e
  split at e
  · rename_i ρ1 e1
    cases e
    refine qa A H σ ρ _ ρ' ft e1 _ fun A1 H1 v1 s1 k1 => ?_
    cases k1
    exact ⟨true, rfl, by rw [if_pos rfl]; exact k A1 H1 _ s1 .bool⟩
  · rename_i ρ1 e1
    refine qa A H σ ρ _ ρ1 ft e1 _ fun A1 H1 v1 s1 k1 => ?_
    cases k1
    refine ⟨false, rfl, ?_⟩
    rw [if_neg Bool.false_ne_true]
    exact qb A1 H1 σ ρ1 r ρ' s1.fit e Q fun A2 H2 v2 s2 k2 => k A2 H2 v2 (s1.trans s2) (k2.start s1.dom)
  · cases e
theorem snd_one {op a pos f} (h : SndE X a f) : SndE X (.BoolOp op [a] pos) f := by
  obtain ⟨t, p, hq⟩ := h
  exact ⟨t, pe_one p, hq⟩
/-- a chain of and, or as a test, whatever its whole is -/
def SndW (X : Cx) (e : Expr) (f : Env → Option (Res × Env)) : Prop := ∃ t : TT, PW X e t ∧
  ∀ A H σ ρ b ρ', Fit A H σ ρ → f ρ = some (.fr (.bool b), ρ') → ∀ Q : Bool → Hp → Prop, (∀ A' H', Stp A H σ ρ A' H' σ ρ' → Q b H') → t σ H Q
theorem SndW.t {e f} (h : SndW X e f) : SndT X e f := let ⟨t, p, hq⟩ := h; ⟨t, p.pt, hq⟩
theorem sndW_and1 {a pos f} (h : SndT X a f) : SndW X (.BoolOp .And [a] pos) f := let ⟨t, p, hq⟩ := h; ⟨t, pw_and1 p, hq⟩
theorem sndW_or1 {a pos f} (h : SndT X a f) : SndW X (.BoolOp .Or [a] pos) f := let ⟨t, p, hq⟩ := h; ⟨t, pw_or1 p, hq⟩
theorem sndW_and {a b rest pos fa fb} (ha : SndT X a fa) (hb : SndW X (.BoolOp .And (b :: rest) pos) fb) : SndW X (.BoolOp .And (a :: b :: rest) pos) (fAnd fa fb) := by
  obtain ⟨ta, pa, qa⟩ := ha
  obtain ⟨tb, pb, qb⟩ := hb
  refine ⟨_, pw_and pa pb, fun A H σ ρ b ρ' ft e Q k => ?_⟩
  unfold fAnd at e
  split at e
  · rename_i ρ1 e1
    cases e
    refine qa A H σ ρ _ ρ' ft e1 _ fun A1 H1 s1 => ?_
    show if false = true then _ else _
    rw [if_neg Bool.false_ne_true]
    exact k A1 H1 s1
  · rename_i ρ1 e1
    refine qa A H σ ρ _ ρ1 ft e1 _ fun A1 H1 s1 => ?_
    show if true = true then _ else _
    rw [if_pos rfl]
    exact qb A1 H1 σ ρ1 b ρ' s1.fit e Q fun A2 H2 s2 => k A2 H2 (s1.trans s2)
  · cases e
theorem sndW_or {a b rest pos fa fb} (ha : SndT X a fa) (hb : SndW X (.BoolOp .Or (b :: rest) pos) fb) : SndW X (.BoolOp .Or (a :: b :: rest) pos) (fOr fa fb) := by
  obtain ⟨ta, pa, qa⟩ := ha
  obtain ⟨tb, pb, qb⟩ := hb
  refine ⟨_, pw_or pa pb, fun A H σ ρ b ρ' ft e Q k => ?_⟩
  unfold fOr at e
  split at e
  · rename_i ρ1 e1
    cases e
    refine qa A H σ ρ _ ρ' ft e1 _ fun A1 H1 s1 => ?_
    show if true = true then _ else _
    rw [if_pos rfl]
    exact k A1 H1 s1
  · rename_i ρ1 e1
    refine qa A H σ ρ _ ρ1 ft e1 _ fun A1 H1 s1 => ?_
    show if false = true then _ else _
    rw [if_neg Bool.false_ne_true]
    exact qb A1 H1 σ ρ1 b ρ' s1.fit e Q fun A2 H2 s2 => k A2 H2 (s1.trans s2)
  · cases e
theorem snd_if {c a b pos fc fa fb} (hc : SndT X c fc) (ha : SndE X a fa) (hb : SndE X b fb) : SndE X (.IfExp c a b pos) (fIf fc fa fb) := by
  obtain ⟨tc, pc, qc⟩ := hc
  obtain ⟨ta, pa, qa⟩ := ha
  obtain ⟨tb, pb, qb⟩ := hb
  refine ⟨_, pe_ifExp pc pa pb, fun A H σ ρ r ρ' ft e Q k => ?_⟩
  unfold fIf at e
  split at e
  · rename_i ρ1 e1
    refine qc A H σ ρ _ ρ1 ft e1 _ fun A1 H1 s1 => ?_
    show if true = true then _ else _
    rw [if_pos rfl]
    exact qa A1 H1 σ ρ1 r ρ' s1.fit e Q fun A2 H2 v2 s2 k2 => k A2 H2 v2 (s1.trans s2) (k2.start s1.dom)
  · rename_i ρ1 e1
    refine qc A H σ ρ _ ρ1 ft e1 _ fun A1 H1 s1 => ?_
    show if false = true then _ else _
    rw [if_neg Bool.false_ne_true]
    exact qb A1 H1 σ ρ1 r ρ' s1.fit e Q fun A2 H2 v2 s2 k2 => k A2 H2 v2 (s1.trans s2) (k2.start s1.dom)
  · cases e
theorem pt_ifExp {c a b pos} {tc ta tb : TT} (hc : PT X c tc) (ha : PT X a ta) (hb : PT X b tb) : PT X (.IfExp c a b pos) (fun σ H Q => tc σ H fun d H1 => if d = true then ta σ H1 Q else tb σ H1 Q) := by
  refine ⟨fun pins s σ H Q I h => ?_⟩
  show wpAny _ _ (isTrue c X.env (eval c X.env) >>= fun d => if d = true then isTrue a X.env (eval a X.env) else isTrue b X.env (eval b X.env)) _ _ s
  refine wpAny_bind (thn (hc.run pins s σ H _ I h) fun d s1 ⟨H1, I1, q1⟩ => ?_)
  cases d with
  | true => exact ha.run pins s1 σ H1 Q I1 q1
  | false => exact hb.run pins s1 σ H1 Q I1 q1
theorem sndT_if {c a b pos fc fa fb} (hc : SndT X c fc) (ha : SndT X a fa) (hb : SndT X b fb) : SndT X (.IfExp c a b pos) (fIf fc fa fb) := by
  obtain ⟨tc, pc, qc⟩ := hc
  obtain ⟨ta, pa, qa⟩ := ha
  obtain ⟨tb, pb, qb⟩ := hb
  refine ⟨_, pt_ifExp pc pa pb, fun A H σ ρ r ρ' ft e Q k => ?_⟩
  unfold fIf at e
  split at e
  · rename_i ρ1 e1
    refine qc A H σ ρ _ ρ1 ft e1 _ fun A1 H1 s1 => ?_
    show if true = true then _ else _
    rw [if_pos rfl]
    exact qa A1 H1 σ ρ1 r ρ' s1.fit e Q fun A2 H2 s2 => k A2 H2 (s1.trans s2)
  · rename_i ρ1 e1
    refine qc A H σ ρ _ ρ1 ft e1 _ fun A1 H1 s1 => ?_
    show if false = true then _ else _
    rw [if_neg Bool.false_ne_true]
    exact qb A1 H1 σ ρ1 r ρ' s1.fit e Q fun A2 H2 s2 => k A2 H2 (s1.trans s2)
  · cases e
end
end Ev

set_option maxRecDepth 100000
/-! Ev5: subscripts, displays, arguments, builtins. -/
namespace Ev
open PySem L2
variable [TheK]
section
variable {X : Cx} {N : List Str} {q : Sc} {F : FT}

theorem RepR.list {A H v ds} (h : RepR A H v (.list ds)) : ∃ a vs, v = .ref a ∧ SqL TheK.K H a vs ∧ vs.length ≤ sizeLine ∧ RepAll A H vs ds := by
  rcases h with h | ⟨a, vs, es, h1, h2, h3, h4, h5⟩
  · cases h with | lst h1 h2 h3 h4 => exact ⟨_, _, rfl, SqL.of h2, h3, h4⟩
  · cases h2; exact ⟨a, vs, h1, h3, h4, h5⟩
theorem RepR.w {A H v d} (h : RepR A H v d) (n : ∀ ds, d ≠ .list ds) : RepW A H v d := by
  rcases h with h | ⟨a, vs, es, h1, h2, h3, h4, h5⟩
  · exact .inl h
  · exact absurd h2 (n _)
theorem at_rep {A H vs ds i d} (r : RepAll A H vs ds) (h : atI ds i = some d) : ∃ v, atI vs i = some v ∧ Rep A H v d := by
  unfold atI at *
  rw [r.length]
  cases e : ixN ds.length i with
  | none => rw [e] at h; cases h
  | some j =>
    rw [e] at h
    exact r.get j h
def fIdx (fa : Env → Option (Opd × Env)) (fi : Env → Option (Res × Env)) (ρ : Env) : Option (Res × Env) := match fa ρ with
    | none => none
    | some (oa, ρ1) => match fi ρ1 with
      | none => none
      | some (ri, ρ2) => match oa.getR ρ2 with
        | some da => (dIdx da ri.d).map fun d => (.fr d, ρ2)
        | none => none
theorem snd_idx (C : CtxOk X N q F) {a b pos fa fb} (hs : PlainIx b) (ha : SndO X a fa) (hb : SndE X b fb) : SndE X (.Subscript a b pos) (fIdx fa fb) := by
  obtain ⟨ta, pa, qa⟩ := ha
  obtain ⟨tb, pb, qb⟩ := hb.d
  refine ⟨_, pe_ix ix_seq pa pb hs, fun A H σ ρ r ρ' ft e Q k => ?_⟩
  unfold fIdx at e
  split at e
  · cases e
  · rename_i oa ρ1 e1
    split at e
    · cases e
    · rename_i ri ρ2 e2
      split at e
      · rename_i da e3
        cases e4 : dIdx da ri.d with
        | none => rw [e4] at e; cases e
        | some d =>
          rw [e4] at e
          cases e
          refine qa A H σ ρ oa ρ1 ft e1 _ fun A1 H1 v1 s1 k1 => ?_
          refine qb A1 H1 σ ρ1 ri ρ' s1.fit e2 _ fun A2 H2 v2 s2 k2 => ?_
          have k1' := Opd.okR s2.fit (k1.mono s2.ext (s2.keep s1.fit)) e3
          have fin : ∀ w, Rep A2 H2 w d → Q w H2 := fun w hw => k A2 H2 w (s1.trans s2) hw
          generalize ri.d = di at e4 k2
          cases da <;> try (simp only [dIdx, reduceCtorEq] at e4; done)
          · rename_i z
            cases k2 <;> simp only [dIdx, reduceCtorEq] at e4
            rename_i i
            split at e4
            · rename_i hz
              cases e5 : atI z.cps.toList i with
              | none => rw [e5] at e4; cases e4
              | some c =>
                rw [e5] at e4
                cases e4
                cases (k1'.w (fun _ z => by cases z)).str
                exact .inr (.inr ⟨z, i, c, rfl, rfl, hz, e5, fin _ .str⟩)
            · cases e4
          · rename_i ds
            cases k2 <;> simp only [dIdx, reduceCtorEq] at e4
            obtain ⟨p, vs, rfl, h1, h2, h3⟩ := k1'.list
            obtain ⟨w, h4, h5⟩ := at_rep h3 e4
            exact .inl ⟨p, vs, _, w, rfl, rfl, by rw [← C.kk]; exact h1, h4, fin w h5⟩
          · rename_i ds
            cases k2 <;> simp only [dIdx, reduceCtorEq] at e4
            obtain ⟨p, vs, rfl, h0, h1, h2, h3⟩ := (k1'.w (fun _ z => by cases z)).tup
            obtain ⟨w, h4, h5⟩ := at_rep h3 e4
            exact .inr (.inl ⟨p, vs, _, w, rfl, rfl, SqT.of h1, h4, fin w h5⟩)
      · cases e
/-- a part of a slice -/
def SndPart (X : Cx) (e : Option Expr) (f : Env → Option (Option Int × Env)) : Prop := ∃ t : TO, PO X e t ∧
  ∀ A H σ ρ r ρ', Fit A H σ ρ → f ρ = some (r, ρ') → ∀ Q : Option Int → Hp → Prop, (∀ A' H', Stp A H σ ρ A' H' σ ρ' → Q r H') → t σ H Q
theorem sndPart_none : SndPart X none (fun ρ => some (none, ρ)) := ⟨_, po_none, fun A H σ ρ r ρ' ft e Q k => by cases e; exact k A H (Stp.refl ft)⟩
def fPart (fa : Env → Option (Res × Env)) (ρ : Env) : Option (Option Int × Env) := match fa ρ with
    | some (.fr (.int i), ρ1) => some (some i, ρ1)
    | _ => none
theorem sndPart_some {e f} (h : SndE X e f) : SndPart X (some e) (fPart f) := by
  obtain ⟨t, p, hq⟩ := h
  refine ⟨_, po_some p, fun A H σ ρ r ρ' ft e Q k => ?_⟩
  unfold fPart at e
  split at e
  · rename_i i ρ1 e1
    cases e
    refine hq A H σ ρ _ ρ' ft e1 _ fun A1 H1 v s1 k1 => ?_
    cases k1
    exact ⟨i, rfl, k A1 H1 s1⟩
  · cases e
theorem cut_rep {A H vs ds lo hi} (r : RepAll A H vs ds) : RepAll A H (cutV vs lo hi) (cutD ds lo hi) := by
  unfold cutV cutD
  rw [r.length]
  exact (r.drop _).take _
theorem cut_len {vs : List V} {lo hi} : (cutV vs lo hi).length ≤ vs.length := by
  unfold cutV
  rw [List.length_take, List.length_drop]
  omega
def fSlc (fa : Env → Option (Opd × Env)) (fl fh : Env → Option (Option Int × Env)) (ρ : Env) : Option (Res × Env) := match fa ρ with
    | none => none
    | some (oa, ρ1) => match fl ρ1 with
      | none => none
      | some (l, ρ2) => match fh ρ2 with
        | none => none
        | some (h, ρ3) => match oa.get ρ3 with
          | some da => (dSlc da l h).map fun r => (r, ρ3)
          | none => none
def fRvs (fa : Env → Option (Opd × Env)) (ρ : Env) : Option (Res × Env) := match fa ρ with
    | none => none
    | some (oa, ρ1) => match oa.get ρ1 with
      | some d => (dRev d).map fun r => (r, ρ1)
      | none => none
theorem RepAll.rev {A H} : ∀ {vs ds}, RepAll A H vs ds → RepAll A H vs.reverse ds.reverse
  | _, _, .nil => .nil
  | _, _, .cons h t => by
    rw [List.reverse_cons, List.reverse_cons]
    exact (RepAll.rev t).append (.cons h .nil)
theorem snd_rvs {a pos fa} {kk : Nat} {p1 p2 p3 : Pos} (ha : SndO X a fa) : SndE X (.Subscript a (.Slice none none (some (.UnaryOp .USub (.Constant (.int 1) kk p1) p2)) p3) pos) (fRvs fa) := by
  obtain ⟨ta, pa, qa⟩ := ha
  refine ⟨_, pe_revA pa, fun A H σ ρ r ρ' ft e Q k => ?_⟩
  unfold fRvs at e
  split at e
  · cases e
  · rename_i oa ρ1 e1
    split at e
    · rename_i d e2
      cases e3 : dRev d with
      | none => rw [e3] at e; cases e
      | some r' =>
        rw [e3] at e
        cases e
        refine qa A H σ ρ oa ρ' ft e1 _ fun A1 H1 v1 s1 k1 => ?_
        have k1' := Opd.ok s1.fit k1 e2
        cases d <;> simp only [dRev, reduceCtorEq, Option.some.injEq] at e3
        · subst e3
          obtain ⟨p, vs, rfl, h1, h2, h3⟩ := k1'.list
          exact ⟨p, vs, rfl, .inl ⟨SqL.of h1, fun b hb => k A1 _ _ (s1.trans (Stp.grow s1.fit (upd_grow hb))) ((res_new s1.fit hb (by rw [List.length_reverse]; exact h2) (RepAll.rev h3)).start s1.dom)⟩⟩
        · subst e3
          obtain ⟨p, vs, rfl, h0, h1, h2, h3⟩ := k1'.tup
          exact ⟨p, vs, rfl, .inr ⟨SqT.of h1, fun b hb => k _ _ _ (s1.trans (Stp.frz s1.fit hb)) (rep_newT hb (by rw [List.length_reverse]; exact h2) (RepAll.rev h3))⟩⟩
    · cases e
theorem snd_slc {a lo hi p2 pos fa fl fh} (ha : SndO X a fa) (hl : SndPart X lo fl) (hh : SndPart X hi fh) : SndE X (.Subscript a (.Slice lo hi none p2) pos) (fSlc fa fl fh) := by
  obtain ⟨ta, pa, qa⟩ := ha
  obtain ⟨tl, pl, ql⟩ := hl
  obtain ⟨th, ph, qh⟩ := hh
  refine ⟨_, pe_slice (sl_list.or (sl_tupA.or sl_str)) pa pl ph, fun A H σ ρ r ρ' ft e Q k => ?_⟩
  unfold fSlc at e
  split at e
  · cases e
  · rename_i oa ρ1 e1
    split at e
    · cases e
    · rename_i l ρ2 e2
      split at e
      · cases e
      · rename_i h ρ3 e3
        split at e
        · rename_i da e4
          cases e5 : dSlc da l h with
          | none => rw [e5] at e; cases e
          | some d =>
            rw [e5] at e
            cases e
            refine qa A H σ ρ oa ρ1 ft e1 _ fun A1 H1 v1 s1 k1 => ?_
            refine ql A1 H1 σ ρ1 l ρ2 s1.fit e2 _ fun A2 H2 s2 => ?_
            refine qh A2 H2 σ ρ2 h ρ' s2.fit e3 _ fun A3 H3 s3 => ?_
            have s23 := s2.trans s3
            have k1' := Opd.ok s3.fit (k1.mono s23.ext (s23.keep s1.fit)) e4
            have s := s1.trans s23
            cases da <;> simp only [dSlc, reduceCtorEq] at e5
            · split at e5
              · rename_i hz
                cases e5
                cases k1'.str
                exact .inr (.inr ⟨_, rfl, hz, k A3 H3 _ s .str⟩)
              · cases e5
            · cases e5
              obtain ⟨p, vs, rfl, h1, h2, h3⟩ := k1'.list
              exact .inl ⟨p, vs, rfl, SqL.of h1, fun b hb => k A3 _ _ (s.trans (Stp.grow s.fit (upd_grow hb))) ((res_new s.fit hb (Nat.le_trans cut_len h2) (cut_rep h3)).start s.dom)⟩
            · rename_i ds
              cases e5
              obtain ⟨p, vs, rfl, h0, h1, h2, h3⟩ := k1'.tup
              refine .inr (.inl ⟨p, vs, rfl, SqT.of h1, fun hw => ?_, fun hw b hb => ?_⟩)
              · have e6 : cutD ds l h = ds := by
                  unfold cutD
                  rw [← h3.length, hw.1, hw.2, List.drop_zero, Nat.sub_zero, h3.length, List.take_length]
                exact k A3 H3 _ s (by rw [e6]; exact .tup h0 h1 h2 h3)
              · exact k _ _ _ (s.trans (Stp.frz s.fit hb)) (rep_newT hb (Nat.le_trans cut_len h2) (cut_rep h3))
        · cases e

/-! ### arguments -/
def notStar : Expr → Bool
  | .Starred .. => false
  | _ => true
theorem star_cons {e : Expr} {es : List Expr} {env : PySem.Env} (h : notStar e = true) : starEach (e :: es) env = (false, eval e env) :: starEach es env := by
  cases e <;> first | rfl | cases h
theorem star_any {es : List Expr} {env : PySem.Env} {pos : Pos} (h : es.all notStar = true) : (backTo pos (starEach es env)).any (·.1) = false := by
  induction es with
  | nil => rfl
  | cons e r ih =>
    rw [List.all_cons, Bool.and_eq_true] at h
    rw [star_cons h.1]
    show (backTo pos (starEach r env)).any (·.1) = false
    exact ih h.2
theorem sndA_nil : SndA X [] (fun ρ => some ([], ρ)) := ⟨_, pa_nil, fun A H σ ρ r ρ' ft e Q k => by cases e; exact k A H [] (Stp.refl ft) .nil⟩
def fCons (fa : Env → Option (Res × Env)) (fs : Env → Option (List D × Env)) (ρ : Env) : Option (List D × Env) := match fa ρ with
    | none => none
    | some (r, ρ1) => match fs ρ1 with
      | none => none
      | some (ds, ρ2) => some (r.d :: ds, ρ2)
theorem sndA_cons {e es fa fs} (hn : notStar e = true) (ha : SndE X e fa) (hs : SndA X es fs) : SndA X (e :: es) (fCons fa fs) := by
  obtain ⟨ta, pa, qa⟩ := ha.d
  obtain ⟨ts, ps, qs⟩ := hs
  refine ⟨_, pa_cons pa ps (star_cons hn), fun A H σ ρ r ρ' ft e Q k => ?_⟩
  unfold fCons at e
  split at e
  · cases e
  · rename_i ra ρ1 e1
    split at e
    · cases e
    · rename_i ds ρ2 e2
      cases e
      refine qa A H σ ρ ra ρ1 ft e1 _ fun A1 H1 v1 s1 k1 => ?_
      refine qs A1 H1 σ ρ1 ds ρ' s1.fit e2 _ fun A2 H2 vs s2 k2 => ?_
      exact k A2 H2 _ (s1.trans s2) (.cons (k1.mono s2.ext (s2.keep s1.fit)) k2)
theorem sndP_nil : SndP X [] (fun ρ => some ([], ρ)) := ⟨_, pa_nil, fun A H σ ρ r ρ' ft e Q k => by cases e; exact k A H [] (Stp.refl ft) trivial⟩
def fConsP (fa : Env → Option (Opd × Env)) (fs : Env → Option (List Opd × Env)) (ρ : Env) : Option (List Opd × Env) := match fa ρ with
    | none => none
    | some (r, ρ1) => match fs ρ1 with
      | none => none
      | some (ds, ρ2) => some (r :: ds, ρ2)
theorem sndP_cons {e es fa fs} (hn : notStar e = true) (ha : SndO X e fa) (hs : SndP X es fs) : SndP X (e :: es) (fConsP fa fs) := by
  obtain ⟨ta, pa, qa⟩ := ha
  obtain ⟨ts, ps, qs⟩ := hs
  refine ⟨_, pa_cons pa ps (star_cons hn), fun A H σ ρ r ρ' ft e Q k => ?_⟩
  unfold fConsP at e
  split at e
  · cases e
  · rename_i ra ρ1 e1
    split at e
    · cases e
    · rename_i ds ρ2 e2
      cases e
      refine qa A H σ ρ ra ρ1 ft e1 _ fun A1 H1 v1 s1 k1 => ?_
      refine qs A1 H1 σ ρ1 ds ρ' s1.fit e2 _ fun A2 H2 vs s2 k2 => ?_
      exact k A2 H2 _ (s1.trans s2) ⟨k1.mono s2.ext (s2.keep s1.fit), k2⟩
/-- a frozen argument is an operand -/
theorem SndE.ov {e f} (h : SndE X e f) : SndO X e (fun ρ => match f ρ with | none => none | some (r, ρ1) => some (.v r.d, ρ1)) := by
  obtain ⟨t, p, hq⟩ := h.d
  refine ⟨t, p, fun A H σ ρ o ρ' ft e Q k => ?_⟩
  cases hr : f ρ with
  | none => simp only [hr, reduceCtorEq] at e
  | some r =>
    simp only [hr, Option.some.injEq, Prod.mk.injEq] at e
    obtain ⟨rfl, rfl⟩ := e
    exact hq A H σ ρ r.1 r.2 ft hr Q fun A' H' v s ok => k A' H' v s ok

/-! ### displays -/
def fTup (fs : Env → Option (List D × Env)) (ρ : Env) : Option (Res × Env) := match fs ρ with
    | none => none
    | some (ds, ρ1) => if ds.length ≤ sizeLine then some (.fr (.tuple ds), ρ1) else none
def fLst (fs : Env → Option (List D × Env)) (ρ : Env) : Option (Res × Env) := match fs ρ with
    | none => none
    | some (ds, ρ1) => if ds.length ≤ sizeLine then some (.nw ds, ρ1) else none
theorem snd_tup {es k2 pos fs} (hs : SndA X es fs) : SndE X (.Tuple es k2 pos) (fTup fs) := by
  obtain ⟨ts, ps, qs⟩ := hs
  refine ⟨_, pe_tup ps, fun A H σ ρ r ρ' ft e Q k => ?_⟩
  unfold fTup at e
  split at e
  · cases e
  · rename_i ds ρ1 e1
    split at e
    · rename_i hz
      cases e
      refine qs A H σ ρ ds ρ' ft e1 _ fun A1 H1 vs s1 k1 => ?_
      rw [← k1.length] at hz
      exact ⟨hz, fun p hp => k _ _ _ (s1.trans (Stp.frz s1.fit hp)) (rep_newT hp hz k1)⟩
    · cases e
theorem snd_lst {es pos fs} (hs : SndA X es fs) : SndE X (.List es pos) (fLst fs) := by
  obtain ⟨ts, ps, qs⟩ := hs
  refine ⟨_, pe_lst ps, fun A H σ ρ r ρ' ft e Q k => ?_⟩
  unfold fLst at e
  split at e
  · cases e
  · rename_i ds ρ1 e1
    split at e
    · rename_i hz
      cases e
      refine qs A H σ ρ ds ρ' ft e1 _ fun A1 H1 vs s1 k1 => ?_
      rw [← k1.length] at hz
      exact ⟨hz, fun p hp => k _ _ _ (s1.trans (Stp.grow s1.fit (upd_grow hp))) ((res_new s1.fit hp hz k1).start s1.dom)⟩
    · cases e

/-! ### builtins -/
def RepWs (A : Addr → Prop) (H : Hp) : List V → List D → Prop
  | [], [] => True
  | v :: vs, d :: ds => RepW A H v d ∧ RepWs A H vs ds
  | _, _ => False
theorem opds_ok {A H σ ρ} (f : Fit A H σ ρ) : ∀ {vs os ds}, OpdsOk A H σ vs os → os.mapM (Opd.get ρ) = some ds → RepWs A H vs ds
  | [], [], ds, _, e => by simp at e; subst e; trivial
  | v :: vs, o :: os, ds, ⟨h1, h2⟩, e => by
    rw [List.mapM_cons] at e
    cases e1 : o.get ρ with
    | none => rw [e1] at e; cases e
    | some d =>
      cases e2 : os.mapM (Opd.get ρ) with
      | none => rw [e1, e2] at e; cases e
      | some es =>
        rw [e1, e2] at e
        cases e
        exact ⟨Opd.ok f h1 e1, opds_ok f h2 e2⟩
def CallSnd (X : Cx) (f : Value) (g : List D → Option Res) : Prop := ∃ r : List V → Hp → VK → Prop, CallR X f r ∧
  ∀ A H σ ρ vs ds res, Fit A H σ ρ → RepWs A H vs ds → g ds = some res → ∀ Q : VK, (∀ A' H' v, Stp A H σ ρ A' H' σ ρ → ResOk A' H H' σ ρ v res → Q v H') → r vs H Q
def fBlt (g : List D → Option Res) (fs : Env → Option (List Opd × Env)) (ρ : Env) : Option (Res × Env) := match fs ρ with
    | none => none
    | some (os, ρ1) => match os.mapM (Opd.get ρ1) with
      | none => none
      | some ds => (g ds).map fun r => (r, ρ1)
theorem blt_core {t : TA} {fs g r A H σ ρ res ρ'} {Q : VK} (qs : ∀ A H σ ρ r ρ', Fit A H σ ρ → fs ρ = some (r, ρ') → ∀ Q : List V → Hp → Prop, (∀ A' H' vs, Stp A H σ ρ A' H' σ ρ' → OpdsOk A' H' σ vs r → Q vs H') → t σ H Q)
    (hc : ∀ A H σ ρ vs ds res, Fit A H σ ρ → RepWs A H vs ds → g ds = some res → ∀ Q : VK, (∀ A' H' v, Stp A H σ ρ A' H' σ ρ → ResOk A' H H' σ ρ v res → Q v H') → r vs H Q)
    (ft : Fit A H σ ρ) (e : fBlt g fs ρ = some (res, ρ')) (k : ∀ A' H' v, Stp A H σ ρ A' H' σ ρ' → ResOk A' H H' σ ρ' v res → Q v H') : tCB r t σ H Q := by
  unfold fBlt at e
  split at e
  · cases e
  · rename_i os ρ1 e1
    split at e
    · cases e
    · rename_i ds e2
      cases e3 : g ds with
      | none => rw [e3] at e; cases e
      | some r' =>
        rw [e3] at e
        cases e
        refine qs A H σ ρ os ρ' ft e1 _ fun A1 H1 vs s1 k1 => ?_
        exact hc A1 H1 σ ρ' vs ds res s1.fit (opds_ok s1.fit k1 e2) e3 Q fun A2 H2 v s2 k2 => k A2 H2 v (s1.trans s2) (k2.start s1.dom)
theorem snd_bltB (C : CtxOk X N q F) {name : String} {id e es p pos fs g} (hc : CallSnd X (.builtin id) g) (hx : name ∈ bltNames) (hg : glB q.sc (Str.ofString name) = true) (hv : bootBuiltins (Str.ofString name) = some (.builtin id))
    (hn : Str.ofString name ≠ "__name__") (hd : (Str.ofString name == ("__debug__" : Str)) = false) (st : (e :: es).all notStar = true) (hs : SndP X (e :: es) fs) : SndE X (.Call (.Name (Str.ofString name) p) (e :: es) [] pos) (fBlt g fs) := by
  obtain ⟨r, pr, qr⟩ := hc
  obtain ⟨ts, ps, qs⟩ := hs
  rw [List.all_cons, Bool.and_eq_true] at st
  exact ⟨_, pe_callB pr (gl_of C hg) (C.bl _ hx) hv ps hn hd (star_cons st.1) (star_any st.2), fun A H σ ρ r ρ' ft e Q k => blt_core qs qr ft e k⟩
theorem snd_bltT (C : CtxOk X N q F) {name : String} {id e es p pos fs g} (hc : CallSnd X (.type id) g) (hx : name ∈ bltNames) (hg : glB q.sc (Str.ofString name) = true) (hv : bootBuiltins (Str.ofString name) = some (.type id))
    (hn : Str.ofString name ≠ "__name__") (hd : (Str.ofString name == ("__debug__" : Str)) = false) (st : (e :: es).all notStar = true) (hs : SndP X (e :: es) fs) : SndE X (.Call (.Name (Str.ofString name) p) (e :: es) [] pos) (fBlt g fs) := by
  obtain ⟨r, pr, qr⟩ := hc
  obtain ⟨ts, ps, qs⟩ := hs
  rw [List.all_cons, Bool.and_eq_true] at st
  exact ⟨_, pe_callTy pr (gl_of C hg) (C.bl _ hx) hv ps hn hd (star_cons st.1) (star_any st.2), fun A H σ ρ r ρ' ft e Q k => blt_core qs qr ft e k⟩
end
end Ev

set_option maxRecDepth 100000
/-! Ev6: each builtin. -/
namespace Ev
open PySem L2
variable [TheK]
section
variable {X : Cx}
theorem RepW.seq {A H v ds} (h : RepW A H v (.list ds) ∨ RepW A H v (.tuple ds)) {K} : ∃ a vs, v = .ref a ∧ (SqL K H a vs ∨ SqT K H a vs) ∧ vs.length ≤ sizeLine ∧ RepAll A H vs ds := by
  rcases h with h | h
  · obtain ⟨a, vs, h1, h2, h3, h4⟩ := h.list
    exact ⟨a, vs, h1, .inl (SqL.of h2), h3, h4⟩
  · obtain ⟨a, vs, h1, _, h2, h3, h4⟩ := h.tup
    exact ⟨a, vs, h1, .inr (SqT.of h2), h3, h4⟩
theorem RepWs.nil {A H vs} (h : RepWs A H vs []) : vs = [] := by cases vs with | nil => rfl | cons _ _ => exact h.elim
theorem RepWs.cons {A H vs d ds} (h : RepWs A H vs (d :: ds)) : ∃ v ws, vs = v :: ws ∧ RepW A H v d ∧ RepWs A H ws ds := by
  cases vs with
  | nil => exact h.elim
  | cons v ws => exact ⟨v, ws, rfl, h.1, h.2⟩
theorem RepWs.one {A H vs d} (h : RepWs A H vs [d]) : ∃ v, vs = [v] ∧ RepW A H v d := by
  obtain ⟨v, ws, rfl, h1, h2⟩ := h.cons
  cases h2.nil
  exact ⟨v, rfl, h1⟩
theorem RepWs.two {A H vs d e} (h : RepWs A H vs [d, e]) : ∃ v w, vs = [v, w] ∧ RepW A H v d ∧ RepW A H w e := by
  obtain ⟨v, ws, rfl, h1, h2⟩ := h.cons
  obtain ⟨w, rfl, h3⟩ := h2.one
  exact ⟨v, w, rfl, h1, h3⟩
/-- a builtin of one argument that makes nothing -/
theorem call1 {f g} {r : List V → Hp → VK → Prop} (hc : CallR X f r) (n : ∀ ds, ds.length ≠ 1 → g ds = none)
    (h : ∀ A H v d res, RepW A H v d → g [d] = some res → ∃ d', res = .fr d' ∧ ∀ Q : VK, (∀ w, Rep A H w d' → Q w H) → r [v] H Q) : CallSnd X f g := by
  refine ⟨r, hc, fun A H σ ρ vs ds res ft hv e Q k => ?_⟩
  by_cases hl : ds.length = 1
  · obtain ⟨d, rfl⟩ := List.length_eq_one_iff.mp hl
    obtain ⟨v, rfl, h1⟩ := hv.one
    obtain ⟨d', rfl, h2⟩ := h A H v d res h1 e
    exact h2 Q fun w hw => k A H w (Stp.refl ft) hw
  · rw [n ds hl] at e; cases e
theorem one_none {b : Blt} (hb : b ≠ .max2 ∧ b ≠ .min2 ∧ b ≠ .gcd) : ∀ ds : List D, ds.length ≠ 1 → dBlt b ds = none := by
  intro ds h
  match ds with
  | [] => cases b <;> rfl
  | [_] => exact absurd rfl h
  | x :: y :: r => cases b <;> simp_all [dBlt]
theorem cs_abs : CallSnd X (.builtin "abs") (dBlt .abs) := by
  refine call1 call_abs (one_none (by decide)) fun A H v d res h e => ?_
  cases d <;> simp only [dBlt, reduceCtorEq] at e
  cases e
  cases h.int
  refine ⟨_, rfl, fun Q k => ⟨_, rfl, k _ ?_⟩⟩
  rename_i i
  have : (if i < 0 then -i else i) = (i.natAbs : Int) := by split <;> omega
  rw [this]; exact .int
theorem cs_int : CallSnd X (.type "int") (dBlt .int) := by
  refine call1 call_int1 (one_none (by decide)) fun A H v d res h e => ?_
  cases d <;> simp only [dBlt, reduceCtorEq] at e <;> cases e
  · cases h.bool
    exact ⟨_, rfl, fun Q k => .inr ⟨_, rfl, k _ .int⟩⟩
  · cases h.int
    exact ⟨_, rfl, fun Q k => .inl ⟨_, rfl, k _ .int⟩⟩
theorem cs_str : CallSnd X (.type "str") (dBlt .str) := by
  refine call1 call_str_int (one_none (by decide)) fun A H v d res h e => ?_
  cases d <;> simp only [dBlt, reduceCtorEq] at e
  split at e
  · rename_i hz
    cases e
    cases h.int
    exact ⟨_, rfl, fun Q k => ⟨_, rfl, hz, k _ .str⟩⟩
  · cases e
theorem cs_repr : CallSnd X (.builtin "repr") (dBlt .repr) := by
  refine call1 (SkE.call_repr_int.or call_repr_str) (one_none (by decide)) fun A H v d res h e => ?_
  cases d <;> simp only [dBlt, reduceCtorEq] at e
  · split at e
    · rename_i hz
      cases e
      cases h.int
      exact ⟨_, rfl, fun Q k => .inl ⟨_, rfl, hz, k _ .str⟩⟩
    · cases e
  · split at e
    · rename_i hz
      cases e
      cases h.str
      exact ⟨_, rfl, fun Q k => .inr ⟨_, rfl, hz, k _ .str⟩⟩
    · cases e
/-- sum of a tuple of ints -/
def rSumT (K : PySem.W.Frag) : List V → Hp → VK → Prop := fun vs H Q => ∃ (a : Addr) (ns : List Int), vs = [V.ref a] ∧ SqT K H a (ns.map V.int) ∧ Q (.int ns.sum) H
theorem cr_sumT (hc : X.calm = true) : CallR X (.builtin "sum") (rSumT X.K) := by
  intro pins s σ H vs us Q I r h
  obtain ⟨a, ns, rfl, hs, q⟩ := h
  obtain ⟨its, rv, hl, _⟩ := I.tuple hs
  rw [Vals.ref1 r]
  have hi := rv.ints
  obtain ⟨xs, hx⟩ := hi.allInts.items
  have hn : PySem.numsOf its.toArray.toList = ns := by rw [show its.toArray.toList = its from rfl, hi.numsOf]
  have ht : s.heap.IsTuple a its.toArray := hl
  rw [hx] at ht hn
  rw [PySem.nums_intItems] at hn
  refine PySem.W.ktm_sumG (I.ok.hd hc) ht fun h' tk t' hk => ?_
  rw [PySem.preSum_eq, List.take_of_length_le (by simp), hn]
  exact ⟨.int _, H, I.kept hk, ⟨_, rfl⟩, q⟩
theorem cs_sum (hc : X.calm = true) : CallSnd X (.builtin "sum") (dBlt .sum) := by
  refine call1 ((cr_sum hc).or (cr_sumT hc)) (one_none (by decide)) fun A H v d res h e => ?_
  cases d <;> simp only [dBlt, reduceCtorEq] at e
  · rename_i ds
    cases e1 : allInts ds with
    | none => rw [e1] at e; cases e
    | some ns =>
      rw [e1] at e
      cases e
      obtain ⟨a, vs, rfl, h1, h2, h3⟩ := h.list
      obtain ⟨rfl, _⟩ := rep_of_ints h3 e1
      exact ⟨_, rfl, fun Q k => .inl ⟨a, ns, rfl, SqL.of h1, k _ .int⟩⟩
  · rename_i ds
    cases e1 : allInts ds with
    | none => rw [e1] at e; cases e
    | some ns =>
      rw [e1] at e
      cases e
      obtain ⟨a, vs, rfl, _, h1, h2, h3⟩ := h.tup
      obtain ⟨rfl, _⟩ := rep_of_ints h3 e1
      exact ⟨_, rfl, fun Q k => .inr ⟨a, ns, rfl, SqT.of h1, k _ .int⟩⟩
theorem maxI_mem : ∀ (m : Int) (r : List Int), maxI m r ∈ m :: r ∧ ∀ y ∈ m :: r, y ≤ maxI m r
  | m, [] => ⟨by simp [maxI], fun y h => by simp at h; simp [maxI, h]⟩
  | m, x :: r => by
    obtain ⟨h1, h2⟩ := maxI_mem (if x > m then x else m) r
    unfold maxI
    refine ⟨?_, fun y hy => ?_⟩
    · rcases List.mem_cons.mp h1 with h | h
      · rw [h]; split <;> simp
      · exact List.mem_cons_of_mem _ (List.mem_cons_of_mem _ h)
    · have h0 := h2 _ List.mem_cons_self
      rcases List.mem_cons.mp hy with rfl | hy
      · split at h0 <;> split <;> omega
      · rcases List.mem_cons.mp hy with rfl | hy
        · split at h0 <;> split <;> omega
        · exact h2 y (List.mem_cons_of_mem _ hy)
theorem minI_mem : ∀ (m : Int) (r : List Int), minI m r ∈ m :: r ∧ ∀ y ∈ m :: r, minI m r ≤ y
  | m, [] => ⟨by simp [minI], fun y h => by simp at h; simp [minI, h]⟩
  | m, x :: r => by
    obtain ⟨h1, h2⟩ := minI_mem (if x < m then x else m) r
    unfold minI
    refine ⟨?_, fun y hy => ?_⟩
    · rcases List.mem_cons.mp h1 with h | h
      · rw [h]; split <;> simp
      · exact List.mem_cons_of_mem _ (List.mem_cons_of_mem _ h)
    · have h0 := h2 _ List.mem_cons_self
      rcases List.mem_cons.mp hy with rfl | hy
      · split at h0 <;> split <;> omega
      · rcases List.mem_cons.mp hy with rfl | hy
        · split at h0 <;> split <;> omega
        · exact h2 y (List.mem_cons_of_mem _ hy)
theorem max_uniq {x : Int} {r : List Int} {m : Int} (h1 : m ∈ x :: r) (h2 : ∀ y ∈ x :: r, y ≤ m) : m = maxI x r := by
  obtain ⟨h3, h4⟩ := maxI_mem x r
  exact Int.le_antisymm (h4 m h1) (h2 _ h3)
theorem min_uniq {x : Int} {r : List Int} {m : Int} (h1 : m ∈ x :: r) (h2 : ∀ y ∈ x :: r, m ≤ y) : m = minI x r := by
  obtain ⟨h3, h4⟩ := minI_mem x r
  exact Int.le_antisymm (h2 _ h3) (h4 m h1)

theorem reads_ints {h : Heap} : ∀ {its : List Value} {ns : List Int}, Vals (ns.map V.int) its → ∃ as, ReadsAll h its (ns.map .int) as
  | [], [], _ => ⟨_, ReadsAll.nil⟩
  | _ :: _, [], h => by cases h
  | [], _ :: _, h => by cases h
  | u :: us, n :: ns, h => by
    cases h with
    | cons r t =>
      obtain ⟨tk, rfl⟩ := r
      obtain ⟨as, q⟩ := reads_ints t
      exact ⟨_, ReadsAll.cons (Reads.int n tk) q⟩
theorem alike_ints (ns : List Int) : PySem.W.AlikeAll (ns.map .int) := by
  refine ⟨fun x hx y hy => ?_, fun x hx => ?_⟩
  · obtain ⟨a, _, rfl⟩ := List.mem_map.mp hx
    obtain ⟨b, _, rfl⟩ := List.mem_map.mp hy
    rfl
  · obtain ⟨a, _, rfl⟩ := List.mem_map.mp hx
    intro z; cases z
theorem depth_ints : ∀ ns : List Int, PyData.depthAll (ns.map .int) = 0
  | [] => rfl
  | n :: r => by simp [PyData.depthAll, PyData.depth, depth_ints r]
theorem call_maxT (hc : X.calm = true) (hu : X.A.units + 65 < cLine) : CallR X (.builtin "max") (fun vs H Q => ∃ (a : Addr) (x : Int) (r : List Int), vs = [.ref a] ∧ SqT X.K H a ((x :: r).map V.int) ∧ Q (.int (r.foldl max x)) H) := by
  intro pins s σ H xs us Q I rv h
  obtain ⟨a, x, r, rfl, hs, q⟩ := h
  obtain ⟨its, vv, ht, hz⟩ := I.tuple hs
  rw [Vals.ref1 rv]
  obtain ⟨as, rr⟩ := reads_ints (h := s.heap) vv
  refine PySem.W.max_tuple_data (x := .int x) (xs := r.map .int) (I.ok.hd hc) (show s.heap.IsTuple a its.toArray from ht) (by simpa using rr) (alike_ints (x :: r)) (by show _ + PyData.depthAll ((x :: r).map .int) < _; rw [depth_ints]; omega) fun i v h' tk bs e1 e2 k => ?_
  rw [PySem.W.maxD_ints] at e2
  cases e2 with
  | int _ t => exact ⟨.int _, H, I.kept (t' := tk) k, ⟨t, rfl⟩, q⟩
theorem call_minT (hc : X.calm = true) (hu : X.A.units + 65 < cLine) : CallR X (.builtin "min") (fun vs H Q => ∃ (a : Addr) (x : Int) (r : List Int), vs = [.ref a] ∧ SqT X.K H a ((x :: r).map V.int) ∧ Q (.int (r.foldl min x)) H) := by
  intro pins s σ H xs us Q I rv h
  obtain ⟨a, x, r, rfl, hs, q⟩ := h
  obtain ⟨its, vv, ht, hz⟩ := I.tuple hs
  rw [Vals.ref1 rv]
  obtain ⟨as, rr⟩ := reads_ints (h := s.heap) vv
  refine PySem.W.min_tuple_data (x := .int x) (xs := r.map .int) (I.ok.hd hc) (show s.heap.IsTuple a its.toArray from ht) (by simpa using rr) (alike_ints (x :: r)) (by show _ + PyData.depthAll ((x :: r).map .int) < _; rw [depth_ints]; omega) fun i v h' tk bs e1 e2 k => ?_
  rw [PySem.W.minD_ints] at e2
  cases e2 with
  | int _ t => exact ⟨.int _, H, I.kept (t' := tk) k, ⟨t, rfl⟩, q⟩
theorem maxI_fold : ∀ (x : Int) (r : List Int), maxI x r = r.foldl max x
  | _, [] => rfl
  | x, y :: r => by
    unfold maxI
    rw [List.foldl_cons, maxI_fold]
    congr 1
    rw [Int.max_def]; split <;> split <;> omega
theorem minI_fold : ∀ (x : Int) (r : List Int), minI x r = r.foldl min x
  | _, [] => rfl
  | x, y :: r => by
    unfold minI
    rw [List.foldl_cons, minI_fold]
    congr 1
    rw [Int.min_def]; split <;> split <;> omega
theorem cs_max (hc : X.calm = true) (hu : X.A.units + 65 < cLine) : CallSnd X (.builtin "max") (dBlt .max) := by
  refine call1 (((cr_max hc).or (call_maxT hc hu)).or (cr_maxD hc hu)) (one_none (by decide)) fun A H v d res h e => ?_
  have hd : ∃ ds, (d = .list ds ∨ d = .tuple ds) ∧ mxR (allInts ds) ds = some res := by
    cases d <;> simp only [dBlt, reduceCtorEq] at e
    · exact ⟨_, .inl rfl, e⟩
    · exact ⟨_, .inr rfl, e⟩
  obtain ⟨ds, hd, e⟩ := hd
  cases e1 : allInts ds with
  | some ns =>
    rw [e1] at e
    cases ns with
    | nil => cases e
    | cons x r =>
      cases e
      rcases hd with rfl | rfl
      · obtain ⟨a, vs, rfl, h1, h2, h3⟩ := h.list
        obtain ⟨rfl, _⟩ := rep_of_ints h3 e1
        exact ⟨_, rfl, fun Q k => .inl (.inl ⟨a, x :: r, rfl, SqL.of h1, by simp, fun m m1 m2 => by rw [max_uniq m1 m2]; exact k _ .int⟩)⟩
      · obtain ⟨a, vs, rfl, _, h1, h2, h3⟩ := h.tup
        obtain ⟨rfl, _⟩ := rep_of_ints h3 e1
        exact ⟨_, rfl, fun Q k => .inl (.inr ⟨a, x, r, rfl, SqT.of h1, by rw [← maxI_fold]; exact k _ .int⟩)⟩
  | none =>
    rw [e1] at e
    cases ds with
    | nil => cases e
    | cons x r =>
      simp only [mxR] at e
      split at e
      · rename_i ok
        cases e
        have : ∃ a vs, v = .ref a ∧ (SqL X.K H a vs ∨ SqT X.K H a vs) ∧ vs.length ≤ sizeLine ∧ RepAll A H vs (x :: r) := RepW.seq (by rcases hd with rfl | rfl; exact .inl h; exact .inr h)
        obtain ⟨a, vs, rfl, h1, h2, h3⟩ := this
        refine ⟨_, rfl, fun Q k => .inr ⟨a, vs, x, r, rfl, h1, h3.dp (mmOk_noDct ok), ok, fun i w e2 e3 => k w ?_⟩⟩
        obtain ⟨d', e4, h4⟩ := h3.getV i e2
        rw [e3] at e4
        cases e4
        exact h4
      · cases e
theorem cs_min (hc : X.calm = true) (hu : X.A.units + 65 < cLine) : CallSnd X (.builtin "min") (dBlt .min) := by
  refine call1 (((cr_min hc).or (call_minT hc hu)).or (cr_minD hc hu)) (one_none (by decide)) fun A H v d res h e => ?_
  have hd : ∃ ds, (d = .list ds ∨ d = .tuple ds) ∧ mnR (allInts ds) ds = some res := by
    cases d <;> simp only [dBlt, reduceCtorEq] at e
    · exact ⟨_, .inl rfl, e⟩
    · exact ⟨_, .inr rfl, e⟩
  obtain ⟨ds, hd, e⟩ := hd
  cases e1 : allInts ds with
  | some ns =>
    rw [e1] at e
    cases ns with
    | nil => cases e
    | cons x r =>
      cases e
      rcases hd with rfl | rfl
      · obtain ⟨a, vs, rfl, h1, h2, h3⟩ := h.list
        obtain ⟨rfl, _⟩ := rep_of_ints h3 e1
        exact ⟨_, rfl, fun Q k => .inl (.inl ⟨a, x :: r, rfl, SqL.of h1, by simp, fun m m1 m2 => by rw [min_uniq m1 m2]; exact k _ .int⟩)⟩
      · obtain ⟨a, vs, rfl, _, h1, h2, h3⟩ := h.tup
        obtain ⟨rfl, _⟩ := rep_of_ints h3 e1
        exact ⟨_, rfl, fun Q k => .inl (.inr ⟨a, x, r, rfl, SqT.of h1, by rw [← minI_fold]; exact k _ .int⟩)⟩
  | none =>
    rw [e1] at e
    cases ds with
    | nil => cases e
    | cons x r =>
      simp only [mnR] at e
      split at e
      · rename_i ok
        cases e
        have : ∃ a vs, v = .ref a ∧ (SqL X.K H a vs ∨ SqT X.K H a vs) ∧ vs.length ≤ sizeLine ∧ RepAll A H vs (x :: r) := RepW.seq (by rcases hd with rfl | rfl; exact .inl h; exact .inr h)
        obtain ⟨a, vs, rfl, h1, h2, h3⟩ := this
        refine ⟨_, rfl, fun Q k => .inr ⟨a, vs, x, r, rfl, h1, h3.dp (mmOk_noDct ok), ok, fun i w e2 e3 => k w ?_⟩⟩
        obtain ⟨d', e4, h4⟩ := h3.getV i e2
        rw [e3] at e4
        cases e4
        exact h4
      · cases e
/-- a builtin of two ints -/
theorem call2 {f} {b : Blt} {r : List V → Hp → VK → Prop} (g : Int → Int → Int) (hc : CallR X f r) (hb : ∀ ds res, dBlt b ds = some res → ∃ i j, ds = [.int i, .int j] ∧ res = .fr (.int (g i j)))
    (h : ∀ i j H Q, Q (.int (g i j)) H → r [.int i, .int j] H Q) : CallSnd X f (dBlt b) := by
  refine ⟨r, hc, fun A H σ ρ vs ds res ft hv e Q k => ?_⟩
  obtain ⟨i, j, rfl, rfl⟩ := hb ds res e
  obtain ⟨v, w, rfl, h1, h2⟩ := hv.two
  cases h1.int
  cases h2.int
  exact h i j H Q (k A H _ (Stp.refl ft) .int)
theorem cs_max2 (hc : X.calm = true) : CallSnd X (.builtin "max") (dBlt .max2) := by
  refine call2 (fun i j => if j > i then j else i) (call_max2 hc) (fun ds res e => ?_) fun i j H Q k => ⟨i, j, rfl, k⟩
  unfold dBlt at e
  split at e <;> simp_all
  exact ⟨_, _, ⟨rfl, rfl⟩, e.symm⟩
theorem cs_min2 (hc : X.calm = true) : CallSnd X (.builtin "min") (dBlt .min2) := by
  refine call2 (fun i j => if j < i then j else i) (call_min2 hc) (fun ds res e => ?_) fun i j H Q k => ⟨i, j, rfl, k⟩
  unfold dBlt at e
  split at e <;> simp_all
  exact ⟨_, _, ⟨rfl, rfl⟩, e.symm⟩
theorem cs_gcd : CallSnd X (.builtin "math.gcd") (dBlt .gcd) := by
  refine call2 (fun a b => (Nat.gcd a.natAbs b.natAbs : Nat)) cr_gcd (fun ds res e => ?_) fun i j H Q k => ⟨i, j, rfl, k⟩
  unfold dBlt at e
  split at e <;> simp_all
  exact ⟨_, _, ⟨rfl, rfl⟩, e.symm⟩
theorem cs_any (hc : X.calm = true) : CallSnd X (.builtin "any") (dBlt .any) := by
  refine call1 (cr_any hc) (one_none (by decide)) fun A H v d res h e => ?_
  cases d <;> simp only [dBlt, reduceCtorEq] at e
  rename_i ds
  cases e1 : allBools ds with
  | none => rw [e1] at e; cases e
  | some ns =>
    rw [e1] at e
    cases e
    obtain ⟨a, vs, rfl, h1, h2, h3⟩ := h.list
    obtain ⟨rfl, _⟩ := rep_of_bools h3 e1
    exact ⟨_, rfl, fun Q k => ⟨a, ns, rfl, SqL.of h1, k _ .bool⟩⟩
theorem cs_all (hc : X.calm = true) : CallSnd X (.builtin "all") (dBlt .all) := by
  refine call1 (cr_all hc) (one_none (by decide)) fun A H v d res h e => ?_
  cases d <;> simp only [dBlt, reduceCtorEq] at e
  rename_i ds
  cases e1 : allBools ds with
  | none => rw [e1] at e; cases e
  | some ns =>
    rw [e1] at e
    cases e
    obtain ⟨a, vs, rfl, h1, h2, h3⟩ := h.list
    obtain ⟨rfl, _⟩ := rep_of_bools h3 e1
    exact ⟨_, rfl, fun Q k => ⟨a, ns, rfl, SqL.of h1, k _ .bool⟩⟩
theorem insI_perm (x : Int) : ∀ r : List Int, (insI x r).Perm (x :: r)
  | [] => .refl _
  | y :: r => by
    unfold insI
    split
    · exact .refl _
    · exact ((insI_perm x r).cons y).trans (.swap x y r)
theorem sortI_perm : ∀ r : List Int, (sortI r).Perm r
  | [] => .refl _
  | x :: r => (insI_perm x _).trans ((sortI_perm r).cons x)
theorem insI_sorted (x : Int) : ∀ r : List Int, r.Pairwise (· ≤ ·) → (insI x r).Pairwise (· ≤ ·)
  | [], _ => by simp [insI]
  | y :: r, h => by
    unfold insI
    obtain ⟨h1, h2⟩ := List.pairwise_cons.mp h
    split
    · rename_i hz
      refine List.pairwise_cons.mpr ⟨fun a ha => ?_, h⟩
      rcases List.mem_cons.mp ha with rfl | ha
      · exact hz
      · exact Int.le_trans hz (h1 a ha)
    · refine List.pairwise_cons.mpr ⟨fun a ha => ?_, insI_sorted x r h2⟩
      rcases List.mem_cons.mp ((insI_perm x r).mem_iff.mp ha) with rfl | ha
      · omega
      · exact h1 a ha
theorem sortI_sorted : ∀ r : List Int, (sortI r).Pairwise (· ≤ ·)
  | [] => .nil
  | x :: r => insI_sorted x _ (sortI_sorted r)
theorem sort_uniq {l m : List Int} (p : l.Perm m) (h1 : l.Pairwise (· ≤ ·)) (h2 : m.Pairwise (· ≤ ·)) : l = m :=
  p.eq_of_pairwise (fun a b _ _ h3 h4 => Int.le_antisymm h3 h4) h1 h2
theorem rep_zip {A : Addr → Prop} {H : Hp} : ∀ {vs : List V} {ds : List D}, RepAll A H vs ds → ∀ p ∈ vs.zip ds, Rep A H p.1 p.2
  | [], [], _, p, h => by simp at h
  | _ :: _, _ :: _, .cons r rr, p, h => by
    simp only [List.zip_cons_cons, List.mem_cons] at h
    rcases h with rfl | h
    · exact r
    · exact rep_zip rr p h
theorem rep_unzip {A : Addr → Prop} {H : Hp} : ∀ {ps : List (V × D)}, (∀ p ∈ ps, Rep A H p.1 p.2) → RepAll A H (ps.map Prod.fst) (ps.map Prod.snd)
  | [], _ => .nil
  | p :: ps, h => .cons (h p (by simp)) (rep_unzip fun q hq => h q (by simp [hq]))
theorem cs_sorted (hu : X.A.units + 65 < cLine) : CallSnd X (.builtin "sorted") (dBlt .sorted) := by
  refine ⟨_, cr_sortedA.or ((cr_sortD hu).or cr_sortS), fun A H σ ρ vs ds res ft hv e Q k => ?_⟩
  have : ∃ es, ((ds = [.list es] ∧ srtR (allInts es) es = some res) ∨ (ds = [.tuple es] ∧ ∃ ns, allInts es = some ns ∧ res = .nw ((sortI ns).map .int))) := by
    unfold dBlt at e
    split at e <;> simp_all
    all_goals
      rename_i es
      obtain ⟨ns, h1, h2⟩ := e
      exact ⟨ns, h1, h2.symm⟩
  obtain ⟨es, hd⟩ := this
  have hints : ∀ ns, allInts es = some ns → res = .nw ((sortI ns).map .int) → (ds = [.list es] ∨ ds = [.tuple es]) → (rSortedA X.K vs H Q ∨ rSortD X.K vs H Q ∨ rSortS X.K vs H Q) := by
    intro ns e1 e3 hd'
    subst e3
    have : ∃ v, vs = [v] ∧ (RepW A H v (.list es) ∨ RepW A H v (.tuple es)) := by
      rcases hd' with z | z
      · rw [z] at hv; obtain ⟨v, e5, h⟩ := hv.one; exact ⟨v, e5, .inl h⟩
      · rw [z] at hv; obtain ⟨v, e5, h⟩ := hv.one; exact ⟨v, e5, .inr h⟩
    obtain ⟨v, rfl, h⟩ := this
    obtain ⟨a, ws, rfl, h1, h2, h3⟩ := RepW.seq h (K := X.K)
    obtain ⟨rfl, _⟩ := rep_of_ints h3 e1
    refine .inl ⟨a, ns, rfl, h1, fun ns' p hp hs hn => ?_⟩
    have e2 : ns' = sortI ns := sort_uniq (hp.trans (sortI_perm ns).symm) hs (sortI_sorted ns)
    subst e2
    exact k A _ _ (Stp.grow ft (upd_grow hn)) (res_new ft hn (by rw [List.length_map, (sortI_perm ns).length_eq]; simpa using h2) (rep_ints _))
  rcases hd with ⟨rfl, e2⟩ | ⟨rfl, ns, e1, e2⟩
  · cases e1 : allInts es with
    | some ns =>
      rw [e1] at e2
      cases e2
      exact hints ns e1 rfl (.inl rfl)
    | none =>
      rw [e1] at e2
      simp only [srtR, sortG] at e2
      split at e2
      · rename_i ok
        cases e2
        obtain ⟨v, rfl, h⟩ := hv.one
        obtain ⟨a, ws, rfl, h1, h2, h3⟩ := h.list
        refine .inr (.inl ⟨a, ws, es, rfl, SqL.of h1, h3.dp (sortOk_noDct ok), ok, fun ps p hp e3 hn => ?_⟩)
        have hr : RepAll A H (ps.map Prod.fst) (sortD es) := by
          rw [← e3]
          exact rep_unzip fun q hq => rep_zip h3 q (hp.mem_iff.mp hq)
        refine k A _ _ (Stp.grow ft (upd_grow hn)) (res_new ft hn ?_ hr)
        rw [List.length_map, hp.length_eq, List.length_zip]
        exact Nat.le_trans (Nat.min_le_left _ _) h2
      · split at e2
        · rename_i hlt
          cases e2
          obtain ⟨v, rfl, h⟩ := hv.one
          obtain ⟨a, ws, rfl, h1, h2, h3⟩ := h.list
          exact .inr (.inr ⟨a, ws, rfl, SqL.of h1, by rw [h3.length]; exact hlt, fun p hn => k A _ _ (Stp.grow ft (upd_grow hn)) (res_new ft hn h2 h3)⟩)
        · cases e2
  · exact hints ns e1 e2 (.inr rfl)
theorem cs_list : CallSnd X (.type "list") (dBlt .list) := by
  refine ⟨_, call_list_of, fun A H σ ρ vs ds res ft hv e Q k => ?_⟩
  have : ∃ es, (ds = [.list es] ∨ ds = [.tuple es]) ∧ res = .nw es := by
    unfold dBlt at e
    split at e <;> simp_all
  obtain ⟨es, hd, rfl⟩ := this
  have : ∃ v, vs = [v] ∧ (RepW A H v (.list es) ∨ RepW A H v (.tuple es)) := by
    rcases hd with rfl | rfl
    · obtain ⟨v, rfl, h⟩ := hv.one; exact ⟨v, rfl, .inl h⟩
    · obtain ⟨v, rfl, h⟩ := hv.one; exact ⟨v, rfl, .inr h⟩
  obtain ⟨v, rfl, h⟩ := this
  obtain ⟨a, ws, rfl, h1, h2, h3⟩ := RepW.seq h (K := X.K)
  exact ⟨a, ws, rfl, h1, fun p hn => k A _ _ (Stp.grow ft (upd_grow hn)) (res_new ft hn h2 h3)⟩
theorem cs_tuple : CallSnd X (.type "tuple") (dBlt .tuple) := by
  refine ⟨_, call_tuple_of, fun A H σ ρ vs ds res ft hv e Q k => ?_⟩
  have : ∃ es, (ds = [.list es] ∨ ds = [.tuple es]) ∧ res = .fr (.tuple es) := by
    unfold dBlt at e
    split at e <;> simp_all
  obtain ⟨es, hd, rfl⟩ := this
  rcases hd with rfl | rfl
  · obtain ⟨v, rfl, h⟩ := hv.one
    obtain ⟨a, ws, rfl, h1, h2, h3⟩ := h.list
    exact ⟨a, ws, rfl, .inl ⟨SqL.of h1, fun p hn => k _ _ _ (Stp.frz ft hn) (rep_newT hn h2 h3)⟩⟩
  · obtain ⟨v, rfl, h⟩ := hv.one
    obtain ⟨a, ws, rfl, h0, h1, h2, h3⟩ := h.tup
    exact ⟨a, ws, rfl, .inr ⟨SqT.of h1, k A H _ (Stp.refl ft) (.tup h0 h1 h2 h3)⟩⟩
/-- len: it also measures the script -/
theorem sndR_len {v d r A H} {K : PySem.W.Frag} (hk : TheK.K = K) (h : RepR A H v d) (e : dLen d = some r) : ∃ n : Int, r = .int n ∧ ∀ (Q : VK), Q (.int n) H →
    ((∃ p ys, [v] = [.ref p] ∧ (SqL K H p ys ∨ SqT K H p ys) ∧ Q (.int ys.length) H) ∨ ∃ z, [v] = [V.str z] ∧ z.length ≤ sizeLine ∧ Q (.int z.length) H) := by
  cases d <;> simp only [dLen, reduceCtorEq] at e
  · split at e
    · rename_i z hz
      cases e
      cases (h.w (fun _ z => by cases z)).str
      exact ⟨_, rfl, fun Q k => .inr ⟨_, rfl, hz, k⟩⟩
    · cases e
  · cases e
    obtain ⟨a, vs, rfl, h1, h2, h3⟩ := h.list
    exact ⟨_, rfl, fun Q k => .inl ⟨a, vs, rfl, .inl (by rw [← hk]; exact h1), by rw [h3.length]; exact k⟩⟩
  · cases e
    obtain ⟨a, vs, rfl, _, h1, h2, h3⟩ := (h.w (fun _ z => by cases z)).tup
    exact ⟨_, rfl, fun Q k => .inl ⟨a, vs, rfl, .inr (SqT.of h1), by rw [h3.length]; exact k⟩⟩
end
end Ev

set_option maxRecDepth 100000
/-! Ev7: len, isinstance, changes of a list, calls. -/
namespace Ev
open PySem L2
variable [TheK]
section
variable {X : Cx} {N : List Str} {q : Sc} {F : FT}
def fLen (fa : Env → Option (Opd × Env)) (ρ : Env) : Option (Res × Env) := match fa ρ with
    | none => none
    | some (oa, ρ1) => match oa.getR ρ1 with
      | some d => (dLen d).map fun r => (.fr r, ρ1)
      | none => none
theorem snd_len (C : CtxOk X N q F) {e p pos fa} (hg : glB q.sc (Str.ofString "len") = true) (hn : notStar e = true) (ha : SndO X e fa) : SndE X (.Call (.Name (Str.ofString "len") p) [e] [] pos) (fLen fa) := by
  obtain ⟨ta, pa, qa⟩ := ha
  refine ⟨_, pe_callB (call_len_seq.or call_len_str) (gl_of C hg) (C.bl "len" (by decide)) PySem.boot_len (pa_cons pa pa_nil (star_cons hn)) (by decide) (by decide) (star_cons hn) rfl, fun A H σ ρ r ρ' ft e Q k => ?_⟩
  unfold fLen at e
  split at e
  · cases e
  · rename_i oa ρ1 e1
    split at e
    · rename_i d e2
      cases e3 : dLen d with
      | none => rw [e3] at e; cases e
      | some n =>
        rw [e3] at e
        cases e
        refine qa A H σ ρ oa ρ' ft e1 _ fun A1 H1 v1 s1 k1 => ?_
        obtain ⟨m, rfl, q⟩ := sndR_len C.kk (Opd.okR s1.fit k1 e2) e3
        exact q Q (k A1 H1 _ s1 .int)
    · cases e

def tyName : Ty → String
  | .int => "int"
  | .bool => "bool"
  | .str => "str"
  | .tuple => "tuple"
  | .list => "list"
theorem boot_ty (t : Ty) : bootBuiltins (Str.ofString (tyName t)) = some (.type (tyName t)) := by cases t <;> decide +kernel
def fIsi (t : Ty) (fa : Env → Option (Opd × Env)) (ρ : Env) : Option (Res × Env) := match fa ρ with
    | none => none
    | some (oa, ρ1) => (oa.get ρ1).map fun d => (.fr (.bool (tyIs t d)), ρ1)
theorem boot_isi : bootBuiltins (Str.ofString "isinstance") = some (.builtin "isinstance") := by decide +kernel
/-- .. also of a locked dict with tuple keys -/
inductive TyF (K : PySem.W.Frag) (H : Hp) : V → Value → Prop where
  | x {v t} (h : TyX K H v t) : TyF K H v t
  | d {a : Addr} {o : Obj} {kvs : List (List Key × V)} (e : H a = some (.frz o (.dT kvs))) : TyF K H (.ref a) (.type "dict")
def rIsiF (K : PySem.W.Frag) : List V → Hp → VK → Prop := fun xs H Q => ∃ (x c : V) (t u : Value) (b : Bool), xs = [x, c] ∧ ClsV c u ∧ TyF K H x t ∧ PySem.W.kitOne K t u = some b ∧ Q (.bl b) H
theorem call_isiF {X : Cx} : CallR X (.builtin "isinstance") (rIsiF X.K) := by
  intro pins s σ H xs us Q I r h
  obtain ⟨x, c, t, u, b, rfl, k, ty, e, q⟩ := h
  cases ty with
  | x ty => exact call_isi pins s σ H _ us Q I r ⟨x, c, t, u, b, rfl, k, ty, e, q⟩
  | d ea =>
    rename_i a o kvs
    cases r with
    | cons r1 r =>
      cases r with
      | cons r2 r =>
        cases r
        have e2 := k.eq r2
        subst e2
        cases (show _ = Value.ref a from r1)
        obtain ⟨hg, _, _, xs', _, o', es, ep, h1, h2, _⟩ := (show ObjOk X.prog X.w H s.heap a (.frz o (.dT kvs)) from I.hok a _ ea)
        exact PySem.W.kia_one PySem.W.kitx_dict I.kIn ⟨o', h1, h2.1⟩ e (fun z => nomatch z) fun tk => ⟨.bl b, H, I.tok tk, rfl, q⟩
theorem ty_ok {A H v d} {K : PySem.W.Frag} (h : RepW A H v d) (t : Ty) : ∃ n, TyF K H v (.type n) ∧ PySem.W.kitOne K (.type n) (.type (tyName t)) = some (tyIs t d) := by
  have go : ∀ n, TyX K H v (.type n) → kitB n (tyName t) = some (tyIs t d) → ∃ n, TyF K H v (.type n) ∧ PySem.W.kitOne K (.type n) (.type (tyName t)) = some (tyIs t d) := fun n h1 h2 => ⟨n, .x h1, kit_ty h2⟩
  rcases h with h | ⟨a, vs, ds, rfl, rfl, h1, h2, h3⟩
  · cases h with
    | none => exact go "NoneType" (.base .non) (by cases t <;> first | (show _ = some true; decide +kernel) | (show _ = some false; decide +kernel))
    | bool => exact go "bool" (.base (.bl _)) (by cases t <;> first | (show _ = some true; decide +kernel) | (show _ = some false; decide +kernel))
    | int => exact go "int" (.base (.int _)) (by cases t <;> first | (show _ = some true; decide +kernel) | (show _ = some false; decide +kernel))
    | str => exact go "str" (.base (.str _)) (by cases t <;> first | (show _ = some true; decide +kernel) | (show _ = some false; decide +kernel))
    | lst _ h1 => exact go "list" (.base (.lst h1)) (by cases t <;> first | (show _ = some true; decide +kernel) | (show _ = some false; decide +kernel))
    | dct _ h1 => exact ⟨"dict", .d h1, kit_ty (by cases t <;> first | (show _ = some true; decide +kernel) | (show _ = some false; decide +kernel))⟩
    | tup _ h1 => exact go "tuple" (.base (.tup h1)) (by cases t <;> first | (show _ = some true; decide +kernel) | (show _ = some false; decide +kernel))
  · exact go "list" (.base (.lst h1)) (by cases t <;> first | (show _ = some true; decide +kernel) | (show _ = some false; decide +kernel))
theorem snd_isi (C : CtxOk X N q F) {e p p2 pos fa} (t : Ty) (hg : glB q.sc (Str.ofString "isinstance") = true) (hg2 : glB q.sc (Str.ofString (tyName t)) = true) (hn : notStar e = true) (ha : SndO X e fa) :
    SndE X (.Call (.Name (Str.ofString "isinstance") p) [e, .Name (Str.ofString (tyName t)) p2] [] pos) (fIsi t fa) := by
  obtain ⟨ta, pa, qa⟩ := ha
  have hb : tyName t ∈ bltNames := by cases t <;> decide
  have p2' : PE X (.Name (Str.ofString (tyName t)) p2) (tC (.ty (tyName t))) :=
    pe_bltn (gl_of C hg2) (C.bl _ hb) (boot_ty t) rfl (by cases t <;> decide) (by cases t <;> decide)
  refine ⟨_, pe_callB call_isiF (gl_of C hg) (C.bl "isinstance" (by decide)) boot_isi (pa_cons pa (pa_cons p2' pa_nil (star_cons rfl)) (star_cons hn)) (by decide) (by decide) (star_cons hn) (star_any rfl), fun A H σ ρ r ρ' ft e Q k => ?_⟩
  unfold fIsi at e
  split at e
  · cases e
  · rename_i oa ρ1 e1
    cases e2 : oa.get ρ1 with
    | none => rw [e2] at e; cases e
    | some d =>
      rw [e2] at e
      cases e
      refine qa A H σ ρ oa ρ' ft e1 _ fun A1 H1 v1 s1 k1 => ?_
      obtain ⟨n, h1, h2⟩ := ty_ok (K := X.K) (Opd.ok s1.fit k1 e2) t
      exact ⟨v1, .ty (tyName t), .type n, .type (tyName t), tyIs t d, rfl, .ty _, h1, h2, k A1 H1 _ s1 .bool⟩

/-! ### a list is changed -/
theorem Fit.mut_nofrz {A H σ ρ} (f : Fit A H σ ρ) {a} (h : Mut σ ρ a) (o : Obj) (u : HO) (e0 : H a = some (.frz o u)) : False := by
  obtain ⟨i, s, e1, e2, e3⟩ := h
  have q := f.slot i s _ e1 e3
  cases s <;> simp [mutS] at e2 <;> obtain ⟨b, vs, e, h, _⟩ := q <;> cases e <;> rw [h] at e0 <;> cases e0
def withL : Slot → List D → Slot
  | .own _, ds => .own ds
  | .mu _, ds => .mu ds
  | s, _ => s
theorem stp_upd {A H σ} {ρ : Env} {i : Nat} {s : Slot} {a : Addr} {vs : List V} {ds : List D} (f : Fit A H σ ρ) (hs : ρ[i]? = some s) (hm0 : mutL s = true) (ha : σ[i]? = some (some (.ref a))) (hl : vs.length ≤ sizeLine) (r : RepAll A H vs ds) :
    Stp A H σ ρ A (upd H a (.lst vs)) σ (ρ.set i (withL s ds)) := by
  have hm : mutS s = true := mutL_S hm0
  have m : Mut σ ρ a := ⟨i, s, hs, hm, ha⟩
  have na : ¬ A a := fun z => f.nomut z m
  have k : Keep A H (upd H a (.lst vs)) := fun b o hb e => by
    have : b ≠ a := fun z => na (z ▸ hb)
    rw [upd_ne this]; exact e
  have lv : live s = true := by cases s <;> first | rfl | (cases hm; done)
  have mt : ∀ b, Mut σ (ρ.set i (withL s ds)) b → Mut σ ρ b := fun b ⟨j, t, h1, h2, h3⟩ => by
    rcases get_set h1 with ⟨rfl, rfl⟩ | ⟨_, h1⟩
    · exact ⟨i, s, hs, hm, h3⟩
    · exact ⟨j, t, h1, h2, h3⟩
  obtain ⟨oa, hoa⟩ := f.mut_at m
  have dps : ∀ (j : Nat) k2 d2, (ρ.set i (withL s ds))[j]? = some (Slot.dp k2 d2) → ρ[j]? = some (.dp k2 d2) ∧ σ[j]? = σ[j]? := fun j k2 d2 h => by
    rcases get_set h with ⟨_, h⟩ | ⟨_, h⟩
    · cases s <;> first | (cases hm0; done) | (cases h; done)
    · exact ⟨h, rfl⟩
  have kl : ∀ b o, Prv H σ ρ b → H b = some o → (upd H a (.lst vs)) b = some o := fun b o hp e => by
    have : b ≠ a := fun z => f.mut_prv m (z ▸ hp)
    rw [upd_ne this]; exact e
  refine ⟨fun _ h => h, fun b o h n _ => ?_, fun b h => ?_, fun b m => .inl (mt b m), fun j es h => ⟨rfl, ?_⟩, fun b hb => .inl hb, fun j es h o => ?_, fun b hb => .inr (.inl (f.prv_back dps k kl b hb)), ⟨by rw [List.length_set]; exact f.len, fun j t ov h1 h2 => ?_, fun j l t u b hjl h1 h2 h3 h4 h5 h6 => ?_, fun b hb => ?_, f.prv_go dps k kl fun j t b h1 h2 h3 => ?_⟩⟩
  · have : b ≠ a := fun z => n (z ▸ m)
    rw [upd_ne this]; exact h
  · by_cases e : b = a
    · subst e; rw [upd_same] at h; cases h
    · rw [upd_ne e] at h; exact h
  · by_cases hj : i = j
    · subst hj; rw [hs] at h; cases h; exact ⟨ds, set_get hs⟩
    · exact ⟨es, by rw [List.getElem?_set_ne hj]; exact h⟩
  · rcases get_set h with ⟨rfl, h8⟩ | ⟨_, h⟩
    · subst h8; cases s <;> first | (cases hm; done) | (cases o; done)
    · exact ⟨h, rfl⟩
  · rcases get_set h1 with ⟨rfl, rfl⟩ | ⟨hj, h1⟩
    · rw [ha] at h2; cases h2
      cases s <;> first | (cases hm; done) | (cases hm0; done) | exact ⟨a, vs, rfl, upd_same, hl, RepAll.mono (fun _ z => z) k r, na⟩
    · have ok := f.slot j t _ h1 h2
      refine ok.go (fun _ z => z) k (fun b o hb z e => ?_) (fun b lt z => by subst z; exact ok.nofz lt) (fun b o u e => ?_) (fun k2 d2 w b o ez z l e => by subst ez z; exact kl b o ⟨j, k2, d2, w, h1, h2, l⟩ e) (fun k2 d2 w b ez z l => by subst ez z; exact (f.lr h1 h2 l).1)
      · subst z
        have : b ≠ a := fun z => by subst z; exact f.apart i j s t _ hj hs h1 lv hb ha h2
        rw [upd_ne this]; exact e
      · have : b ≠ a := fun z => by
          subst z
          exact f.mut_nofrz m _ _ e
        rw [upd_ne this]; exact e
  · rcases get_set h1 with ⟨rfl, rfl⟩ | ⟨n1, h1⟩
    · rcases get_set h2 with ⟨rfl, rfl⟩ | ⟨_, h2⟩
      · exact hjl rfl
      · exact f.apart i l s u b hjl hs h2 lv h4 h5 h6
    · rcases get_set h2 with ⟨rfl, rfl⟩ | ⟨_, h2⟩
      · exact f.apart j i t s b hjl h1 hs h3 (liveB_of lv) h5 h6
      · exact f.apart j l t u b hjl h1 h2 h3 h4 h5 h6
  · obtain ⟨o, e⟩ := f.trk b hb
    exact ⟨o, k b o hb e⟩
  · rcases get_set h1 with ⟨rfl, rfl⟩ | ⟨_, h1⟩
    · exact .inl ⟨i, s, hs, liveB_of lv, h3⟩
    · exact .inl ⟨j, t, h1, h2, h3⟩
/-- the list of a slot that may be changed -/
theorem Fit.mutl {A H σ} {ρ : Env} {i : Nat} {s : Slot} (f : Fit A H σ ρ) (hs : ρ[i]? = some s) (hm : mutL s = true) : ∃ a vs ds, σ[i]? = some (some (.ref a)) ∧ s = withL s ds ∧ s.d? = some (.list ds) ∧ H a = some (.lst vs) ∧ vs.length ≤ sizeLine ∧ RepAll A H vs ds := by
  obtain ⟨ov, e1, q⟩ := f.at hs
  cases s with
  | own ds => obtain ⟨a, vs, rfl, q1, q2, q3, q4⟩ := q; exact ⟨a, vs, ds, e1, rfl, rfl, q1, q2, q3⟩
  | mu ds => obtain ⟨a, vs, rfl, q1, q2, q3, q4⟩ := q; exact ⟨a, vs, ds, e1, rfl, rfl, q1, q2, q3⟩
  | _ => cases hm
def cthName : Cth → String
  | .append => "append"
  | .pop => "pop"
  | .popAt => "pop"
  | .insert => "insert"
  | .extend => "extend"
  | .remove => "remove"
  | .reverse => "reverse"
/-- a method that changes a list, by values -/
def ChgSnd (X : Cx) (id : String) (m : Cth) : Prop := ∃ r : V → List V → Hp → VK → Prop, MtR X id r ∧
  ∀ A H a vs xs ws ds p, H a = some (.lst vs) → vs.length ≤ sizeLine → RepAll A H vs xs → RepAll A H ws ds → dChg m xs ds = some p →
    ∀ Q : VK, (∀ vs' w, vs'.length ≤ sizeLine → RepAll A H vs' p.1 → Rep A H w p.2 → Q w (upd H a (.lst vs'))) → r (.ref a) ws H Q
def fChg (m : Cth) (i : Nat) (fs : Env → Option (List D × Env)) (ρ : Env) : Option (Res × Env) := match rd ρ i with
    | some (.list _) => match fs ρ with
      | none => none
      | some (ds, ρ1) => match ρ1[i]? with
        | some (.own xs) => (dChg m xs ds).map fun p => (.fr p.2, ρ1.set i (.own p.1))
        | some (.mu xs) => (dChg m xs ds).map fun p => (.fr p.2, ρ1.set i (.mu p.1))
        | _ => none
    | _ => none
theorem chg_core {t : TA} {fs r A H σ ρ res ρ'} {m : Cth} {i : Nat} {Q : VK} {K : PySem.W.Frag} (qs : ∀ A H σ ρ r ρ', Fit A H σ ρ → fs ρ = some (r, ρ') → ∀ Q : List V → Hp → Prop, (∀ A' H' vs, Stp A H σ ρ A' H' σ ρ' → RepAll A' H' vs r → Q vs H') → t σ H Q)
    (hc : ∀ A H a vs xs ws ds p, H a = some (.lst vs) → vs.length ≤ sizeLine → RepAll A H vs xs → RepAll A H ws ds → dChg m xs ds = some p →
      ∀ Q : VK, (∀ vs' w, vs'.length ≤ sizeLine → RepAll A H vs' p.1 → Rep A H w p.2 → Q w (upd H a (.lst vs'))) → r (.ref a) ws H Q)
    (hi : i < σ.length) (ft : Fit A H σ ρ) (e : fChg m i fs ρ = some (res, ρ')) (k : ∀ A' H' v, Stp A H σ ρ A' H' σ ρ' → ResOk A' H H' σ ρ' v res → Q v H') : tBM K "list" r (tVar i) t σ H Q := by
  unfold fChg at e
  split at e
  · rename_i ds0 e0
    have hov : ∃ v, σ[i]? = some (some v) := by
      simp only [rd] at e0
      split at e0
      · rename_i s hs
        obtain ⟨ov, e1, q⟩ := ft.at hs
        cases s <;> simp only [Slot.d?, reduceCtorEq] at e0
        · obtain ⟨w, rfl, _⟩ := q; exact ⟨_, e1⟩
        all_goals (obtain ⟨a, vs, rfl, _⟩ := q; exact ⟨_, e1⟩)
      · cases e0
    obtain ⟨v, hv⟩ := hov
    obtain ⟨a, vs, rfl, h1, h2, h3⟩ := (rd_ok ft hv e0).list
    refine ⟨_, hv, .inl ⟨rfl, _, SqL.of h1⟩, ?_⟩
    split at e
    · cases e
    · rename_i ds ρ1 e1
      refine qs A H σ ρ ds ρ1 ft e1 _ fun A1 H1 ws s1 k1 => ?_
      have go : ∀ s xs, ρ1[i]? = some s → mutL s = true → s.d? = some (.list xs) → (dChg m xs ds).map (fun p => (Res.fr p.2, ρ1.set i (withL s p.1))) = some (res, ρ') → r (.ref a) ws H1 Q := fun s xs hs hm hd e => by
        cases e4 : dChg m xs ds with
        | none => rw [e4] at e; cases e
        | some p =>
          rw [e4] at e
          cases e
          obtain ⟨a', vs', ds', q1, q2, q3, q4, q5, q6⟩ := s1.fit.mutl hs hm
          rw [hv] at q1; cases q1
          rw [hd] at q3; cases q3
          refine hc A1 H1 a vs' _ ws ds p q4 q5 q6 k1 e4 Q fun vs2 w z1 z2 z3 => ?_
          have s2 := stp_upd s1.fit hs hm hv z1 z2
          exact k A1 _ w (s1.trans s2) (Rep.mono (fun _ z => z) (s2.keep s1.fit) z3)
      split at e
      · rename_i xs hs
        exact go _ xs hs rfl rfl e
      · rename_i xs hs
        exact go _ xs hs rfl rfl e
      · cases e
  · cases e
end
end Ev

set_option maxRecDepth 100000
/-! Ev8: methods that change a list; calls of defs. -/
namespace Ev
open PySem L2
variable [TheK]
section
variable {X : Cx} {N : List Str} {q : Sc} {F : FT}
theorem RepAll.nil_v {A H ws} (h : RepAll A H ws []) : ws = [] := by cases h; rfl
theorem RepAll.one_v {A H ws d} (h : RepAll A H ws [d]) : ∃ w, ws = [w] ∧ Rep A H w d := by
  cases h with | cons h1 h2 => cases h2; exact ⟨_, rfl, h1⟩
theorem chg_append : ChgSnd X "list.append" .append := by
  refine ⟨_, mt_append, fun A H a vs xs ws ds p ha hl r rd e Q k => ?_⟩
  match ds, e with
  | [d], e =>
    simp only [dChg] at e
    split at e
    · rename_i hz
      cases e
      obtain ⟨w, rfl, hw⟩ := rd.one_v
      rw [← r.length] at hz
      exact ⟨a, vs, w, rfl, rfl, ha, hz, k _ .non (by rw [List.length_append, List.length_singleton]; exact hz) (r.append (.one hw)) .none⟩
    · cases e
  | [], e => cases e
  | _ :: _ :: _, e => simp [dChg] at e
theorem chg_reverse : ChgSnd X "list.reverse" .reverse := by
  refine ⟨_, mt_reverse, fun A H a vs xs ws ds p ha hl r rd e Q k => ?_⟩
  match ds, e with
  | [], e =>
    cases e
    cases rd.nil_v
    exact ⟨a, vs, rfl, rfl, ha, k _ .non (by rw [List.length_reverse]; exact hl) r.reverse .none⟩
  | _ :: _, e => simp [dChg] at e
theorem chg_pop : ChgSnd X "list.pop" .pop := by
  refine ⟨_, mt_pop, fun A H a vs xs ws ds p ha hl r rd e Q k => ?_⟩
  match ds, e with
  | [], e =>
    simp only [dChg] at e
    split at e
    · cases e
    · rename_i z hz
      cases e
      cases rd.nil_v
      rw [List.getLast?_eq_getElem?] at hz
      obtain ⟨w, h1, h2⟩ := r.get _ hz
      rw [← r.length] at h1
      exact ⟨a, vs, w, rfl, rfl, ha, h1, k _ w (by rw [List.length_dropLast]; omega) r.dropLast h2⟩
  | _ :: _, e => simp [dChg] at e
theorem chg_popAt : ChgSnd X "list.pop" .popAt := by
  refine ⟨_, mt_popAt, fun A H a vs xs ws ds p ha hl r rd e Q k => ?_⟩
  match ds, e with
  | [.int i], e =>
    simp only [dChg] at e
    cases e1 : ixN xs.length i with
    | none => rw [e1] at e; cases e
    | some j =>
      rw [e1] at e
      cases e2 : xs[j]? with
      | none => simp [e2] at e
      | some z =>
        simp only [e2, Option.bind_some, Option.map_some, Option.some.injEq] at e
        cases e
        obtain ⟨w0, rfl, hw⟩ := rd.one_v
        cases hw
        obtain ⟨w, h1, h2⟩ := r.get _ e2
        rw [← r.length] at e1
        obtain ⟨q1, q2, q3, q4⟩ := ixN_seq e1
        have hz : (sizeLine : Int) ≤ 2 ^ 62 := by decide
        refine ⟨a, vs, i, j, w, rfl, rfl, ha, by omega, by omega, q1, h1, k _ w (Nat.le_trans (List.length_eraseIdx_le _ _) hl) (r.erase j) h2⟩
  | [], e => cases e
  | [.none], e => simp [dChg] at e
  | [.bool _], e => simp [dChg] at e
  | [.str _], e => simp [dChg] at e
  | [.list _], e => simp [dChg] at e
  | [.tuple _], e => simp [dChg] at e
  | [.dict _], e => simp [dChg] at e
  | _ :: _ :: _, e => simp [dChg] at e
theorem chg_insert : ChgSnd X "list.insert" .insert := by
  refine ⟨_, mt_insert, fun A H a vs xs ws ds p ha hl r rd e Q k => ?_⟩
  have hd : ∃ i d, ds = [.int i, d] := by
    unfold dChg at e
    split at e <;> simp_all
  obtain ⟨i, d, rfl⟩ := hd
  simp only [dChg] at e
  split at e
  · rename_i hz
    cases e
    cases rd with
    | cons h1 h2 =>
      cases h1
      obtain ⟨w, rfl, hw⟩ := h2.one_v
      have hz3 := hz.2.2
      rw [← r.length] at hz3
      refine ⟨a, vs, i, w, rfl, rfl, ha, hz3, hz.1, hz.2.1, k _ .non ?_ ((r.take _).append (.one hw) |>.append (r.drop _)) .none⟩
      simp only [List.length_append, List.length_take, List.length_drop, List.length_singleton]
      omega
  · cases e
theorem chg_extend : ChgSnd X "list.extend" .extend := by
  refine ⟨_, mt_extend, fun A H a vs xs ws ds p ha hl r rd e Q k => ?_⟩
  have hd : ∃ ys, ds = [.list ys] := by
    unfold dChg at e
    split at e <;> simp_all
  obtain ⟨ys, rfl⟩ := hd
  simp only [dChg] at e
  split at e
  · rename_i hz
    cases e
    obtain ⟨w, rfl, hw⟩ := rd.one_v
    cases hw with
    | @lst b zs _ g1 g2 g3 g4 =>
      have hz' : vs.length + zs.length ≤ sizeLine := by rw [r.length, g4.length]; exact hz
      exact ⟨a, b, vs, zs, rfl, rfl, ha, g2, hz', k _ .non (by rw [List.length_append]; exact hz') (r.append g4) .none⟩
  · cases e
/-- x.remove(d), data of any depth -/
def rRemD (K : PySem.W.Frag) : V → List V → Hp → VK → Prop := fun x xs H Q => ∃ (l : Addr) (y : V) (d : D) (vs : List V) (ds : List D) (j : Nat), x = .ref l ∧ xs = [y] ∧ H l = some (.lst vs) ∧ Dp K H (.ref l) (.list ds) ∧ DpAll K H vs ds ∧ Dp K H y d ∧
  SeqAt.shaped (.list ds) = true ∧ SeqAt.shaped d = true ∧ indexD d ds = some j ∧ Q .non (upd H l (.lst (vs.eraseIdx j)))
theorem indexD_find (d : D) : ∀ ds : List D, indexD d ds = SeqAt.dataPlace ds d
  | [] => rfl
  | x :: r => by
    unfold indexD SeqAt.dataPlace
    rw [List.findIdx?_cons, indexD_find d r]
    rfl
theorem vals_erase : ∀ {vs : List V} {us : List Value} (j : Nat), Vals vs us → Vals (vs.eraseIdx j) (us.eraseIdx j)
  | _, _, _, .nil => by simp; exact .nil
  | _, _, 0, .cons _ h => h
  | _, _, j + 1, .cons r h => .cons r (vals_erase j h)
theorem mt_removeD (hu : X.A.units + 65 < cLine) : MtM X "list.remove" (rRemD X.K) := by
  intro pins s σ H x xs v us Q I rx rxs h
  obtain ⟨l, y, d, vs, ds, j, rfl, rfl, hH, hl, hv, hy, sl, sd, hj, q⟩ := h
  cases rx
  obtain ⟨u, rfl, ru⟩ := rxs.one
  obtain ⟨z, its, n, r, hlen, e⟩ := I.lstM hH
  obtain ⟨bs, r1⟩ := Dp.reads I d y u hy ru
  obtain ⟨as, r2⟩ := Dp.readsAll I ds _ its hv r
  have c1 : PyData.canLay0 (.list ds) = true := SeqAt.canLay_of_shaped sl
  have c2 := SeqAt.canLay_of_shaped sd
  have p1 := PyData.plain_of_canLay0 _ c1
  have p2 := PyData.plain_of_canLay0 _ c2
  refine SeqAt.remove_list_data (vs := its.toArray) ⟨_, e, rfl, n, rfl⟩ (by simpa using r2) r1 (by simpa [PyData.plain] using p1) p2 (PyProof.Rows.room_in_shaped sd hu) (by rw [← indexD_find]; exact hj) (by rw [List.size_toArray, ← hlen]; exact z) ?_
  refine ⟨.non, _, I.lset (its' := its.eraseIdx j) (t' := s.toks) hH e ?_ (vals_erase j r) ?_, rfl, q⟩
  · show its.toArray.eraseIdxIfInBounds j = (its.eraseIdx j).toArray
    rw [List.eraseIdxIfInBounds_toArray]
  · exact Nat.le_trans (List.length_eraseIdx_le _ _) z
theorem chg_remove (hu : X.A.units + 65 < cLine) : ChgSnd X "list.remove" .remove := by
  refine ⟨_, mt_removeD hu, fun A H a vs xs ws ds p ha hl r rd e Q k => ?_⟩
  have hd : ∃ d, ds = [d] := by
    unfold dChg at e
    split at e <;> simp_all
  obtain ⟨d, rfl⟩ := hd
  simp only [dChg] at e
  split at e
  · rename_i hz
    rw [Bool.and_eq_true] at hz
    cases e1 : indexD d xs with
    | none => rw [e1] at e; cases e
    | some j =>
      rw [e1] at e
      cases e
      obtain ⟨w, rfl, hw⟩ := rd.one_v
      have n1 : noDcts xs = true := by have := shaped_noDct hz.2; rw [noDct] at this; exact this
      exact ⟨a, w, d, vs, xs, j, rfl, rfl, ha, .lst (SqL.of ha) (r.dp n1), r.dp n1, hw.dp (shaped_noDct hz.1), hz.2, hz.1, e1, k _ .non (Nat.le_trans (List.length_eraseIdx_le _ _) hl) (r.erase j) .none⟩
  · cases e
theorem few_ok {es : List Expr} {env : PySem.Env} {pos : Pos} (h : es.all notStar = true) (hl : es.length < 29) : ((backTo pos (starEach es env)).all (fun x => !x.1) && (backToKw pos (keywordEach [] env)).all (fun x => x.1.isSome)
      && decide (es.length + ([] : List Keyword).length + (if ([] : List Keyword).isEmpty then 0 else 1) < 30)) = true := by
  have h1 : (backTo pos (starEach es env)).all (fun x => !x.1) = true := by
    have := star_any (env := env) (pos := pos) h
    rw [List.all_eq_not_any_not]
    simpa using this
  rw [h1]
  simp [keywordEach, backToKw]
  omega
/-- x.m(e, ..) -/
theorem snd_chg (C : CtxOk X N q F) {m : Cth} {id : String} {i : Nat} {x : Str} {e es px apos cpos fs} (hc : ChgSnd X id m) (slot : PySem.Slot "list" (Str.ofString (cthName m)) id) (hty : typeOf (.builtin id) = pure (.type "method_descriptor"))
    (hx : nameB N q i x = true) (hi : i < N.length) (st : (e :: es).all notStar = true) (hf : (e :: es).length < 29) (hl : (apos.endLine == cpos.line) = true) (hs : SndA X (e :: es) fs) :
    SndE X (.Call (.Attribute (.Name x px) (Str.ofString (cthName m)) apos) (e :: es) [] cpos) (fChg m i fs) := by
  obtain ⟨r, pr, qr⟩ := hc
  obtain ⟨ts, ps, qs⟩ := hs
  have st' := st
  rw [List.all_cons, Bool.and_eq_true] at st'
  refine ⟨_, pe_bm PySem.F.plainAttrs_list slot hty pr (pe_name C hx) ps rfl (few_ok st hf) hl (star_cons st'.1) (star_any st'.2), fun A H σ ρ r ρ' ft e Q k => ?_⟩
  refine chg_core qs qr ?_ ft e k
  unfold fChg rd at e
  split at e
  · rename_i e0
    split at e0
    · rename_i s hs
      rw [ft.len]
      exact (List.getElem?_eq_some_iff.mp hs).1
    · cases e0
  · cases e
theorem snd_chg0 (C : CtxOk X N q F) {m : Cth} {id : String} {i : Nat} {x : Str} {px apos cpos} (hc : ChgSnd X id m) (slot : PySem.Slot "list" (Str.ofString (cthName m)) id) (hty : typeOf (.builtin id) = pure (.type "method_descriptor"))
    (hx : nameB N q i x = true) (hl : (apos.endLine == cpos.line) = true) :
    SndE X (.Call (.Attribute (.Name x px) (Str.ofString (cthName m)) apos) [] [] cpos) (fChg m i (fun ρ => some ([], ρ))) := by
  obtain ⟨r, pr, qr⟩ := hc
  refine ⟨_, pe_bm0 PySem.F.plainAttrs_list slot hty pr (pe_name C hx) rfl hl, fun A H σ ρ r ρ' ft e Q k => ?_⟩
  have hi : i < σ.length := by
    unfold fChg rd at e
    split at e
    · rename_i e0
      split at e0
      · rename_i s hs
        rw [ft.len]
        exact (List.getElem?_eq_some_iff.mp hs).1
      · cases e0
    · cases e
  have h := chg_core (K := X.K) (t := tNil) (fun A H σ ρ r ρ' ft e Q k => by cases e; exact k A H [] (Stp.refl ft) .nil) qr hi ft e k
  obtain ⟨v, h1, h2, h3⟩ := h
  exact ⟨v, h1, h2, h3⟩

/-! ### calls -/
theorem args_at {A H σ} {ρ : Env} : ∀ {ks os ss vs}, argsOf ρ ks os = some ss → OpdsOk A H σ vs os → vs.length = ks.length ∧ ss.length = ks.length ∧ os.length = ks.length ∧
    ∀ (n : Nat) s, ss[n]? = some s → ∃ k o v, ks[n]? = some k ∧ os[n]? = some o ∧ vs[n]? = some v ∧ argOf ρ k o = some s ∧ OpdOk A H σ v o
  | [], [], ss, [], e, _ => by cases e; exact ⟨rfl, rfl, rfl, fun n s h => by simp at h⟩
  | [], [], ss, _ :: _, e, h => h.elim
  | _ :: _, [], _, _, e, _ => by simp [argsOf] at e
  | [], _ :: _, _, _, e, _ => by simp [argsOf] at e
  | _ :: _, _ :: _, _, [], _, h => h.elim
  | k :: ks, o :: os, ss, v :: vs, e, ⟨h1, h2⟩ => by
    unfold argsOf at e
    split at e
    · cases e
    · rename_i s0 e1
      split at e
      · cases e
      · rename_i ss0 e2
        cases e
        obtain ⟨l1, l2, l3, g⟩ := args_at e2 h2
        refine ⟨by simp [l1], by simp [l2], by simp [l3], fun n s hn => ?_⟩
        cases n with
        | zero => simp at hn; subst hn; exact ⟨k, o, v, rfl, rfl, rfl, e1, h1⟩
        | succ n => obtain ⟨k', o', v', a1, a2, a3, a4, a5⟩ := g n s (by simpa using hn); exact ⟨k', o', v', by simpa using a1, by simpa using a2, by simpa using a3, a4, a5⟩
theorem arg_live {ρ : Env} {k o s} (h : argOf ρ k o = some s) (l : live s = true) : k = .M ∧ ∃ i t, o = .sl i ∧ ρ[i]? = some t ∧ mutS t = true := by
  unfold argOf at h
  split at h
  · cases h; cases l
  · split at h <;> first | (cases h; done) | (cases h; cases l; done)
  · cases h; cases l
  · cases h
  · cases h
  · split at h
    · cases h; exact ⟨rfl, _, _, rfl, by assumption, rfl⟩
    · cases h; exact ⟨rfl, _, _, rfl, by assumption, rfl⟩
    · cases h
theorem arg_liveB {ρ : Env} {k o s} (h : argOf ρ k o = some s) (l : liveB s = true) : ∃ i t, o = .sl i ∧ ρ[i]? = some t ∧ liveB t = true := by
  unfold argOf at h
  split at h
  · cases h; cases l
  · split at h
    · cases h; cases l
    all_goals first | (cases h; done) | (cases h; cases l; done) | (cases h; exact ⟨_, _, rfl, by assumption, rfl⟩)
  · cases h; cases l
  · cases h
  · cases h
  · split at h
    · cases h; exact ⟨_, _, rfl, by assumption, rfl⟩
    · cases h; exact ⟨_, _, rfl, by assumption, rfl⟩
    · cases h
theorem arg_ok {A H σ v} {ρ : Env} {k o s} (f : Fit A H σ ρ) (h : argOf ρ k o = some s) (ok : OpdOk A H σ v o) : SlotOk A H (some v) s := by
  unfold argOf at h
  split at h
  · cases h; exact ⟨v, rfl, ok⟩
  · rename_i i
    split at h
    · rename_i d e; cases h; exact f.slot i _ _ e ok
    · rename_i ds e; cases h; obtain ⟨a, vs, q1, q2, q3, q4, _⟩ := f.slot i _ _ e ok; exact ⟨a, vs, q1, q2, q3, q4⟩
    · rename_i ds e; cases h; obtain ⟨a, vs, q1, q2, q3, q4, _⟩ := f.slot i _ _ e ok; exact ⟨a, vs, q1, q2, q3, q4⟩
    · rename_i ds e; cases h; exact f.slot i _ _ e ok
    · rename_i ds e; cases h; obtain ⟨a, vs, q1, q2, q3, q4, _⟩ := f.slot i _ _ e ok; exact ⟨a, vs, q1, q2, q3, q4⟩
    · rename_i ds e; cases h; exact f.slot i _ _ e ok
    · cases h
  · cases h; exact ⟨v, rfl, ok⟩
  · cases h
  · cases h
  · rename_i i
    split at h
    · rename_i ds e; cases h; exact f.slot i (.own ds) _ e ok
    · rename_i ds e; cases h; exact f.slot i _ _ e ok
    · cases h
theorem pair_ne {ks : List PK} {os : List Opd} (h : apartB ks os = true) {n m i j : Nat} {k k' : PK} (nm : n ≠ m) (a1 : ks[n]? = some k) (a2 : os[n]? = some (Opd.sl i)) (b1 : ks[m]? = some k') (b2 : os[m]? = some (Opd.sl j)) (hk : k = PK.M) : i ≠ j := by
  unfold apartB at h
  rw [decide_eq_true_eq, List.pairwise_iff_getElem] at h
  have z1 : (ks.zip os)[n]? = some (k, .sl i) := by rw [List.getElem?_zip_eq_some]; exact ⟨a1, a2⟩
  have z2 : (ks.zip os)[m]? = some (k', .sl j) := by rw [List.getElem?_zip_eq_some]; exact ⟨b1, b2⟩
  obtain ⟨l1, y1⟩ := List.getElem?_eq_some_iff.mp z1
  obtain ⟨l2, y2⟩ := List.getElem?_eq_some_iff.mp z2
  rcases Nat.lt_or_gt_of_ne nm with lt | lt
  · have := h n m l1 l2 lt
    rw [y1, y2] at this
    simp [okPair, hk] at this
    exact this
  · have := h m n l2 l1 lt
    rw [y1, y2] at this
    simp [okPair, hk] at this
    exact fun z => this z.symm
theorem arg_nodp {ρ : Env} {k o s} (h : argOf ρ k o = some s) (kk : DK) (d : D) : s ≠ .dp kk d := by
  intro z
  subst z
  unfold argOf at h
  split at h
  · cases h
  · split at h <;> cases h
  · cases h
  · cases h
  · cases h
  · split at h <;> cases h
theorem args_fit {A H σ vs} {ρ : Env} {ks os ss} (f : Fit A H σ ρ) (e : argsOf ρ ks os = some ss) (ok : OpdsOk A H σ vs os) (ap : apartB ks os = true) : Fit A H (vs.map some) ss := by
  obtain ⟨l1, l2, l3, g⟩ := args_at e ok
  have gv : ∀ (n : Nat) s, ss[n]? = some s → ∃ k o v, ks[n]? = some k ∧ os[n]? = some o ∧ (vs.map some)[n]? = some (some v) ∧ argOf ρ k o = some s ∧ OpdOk A H σ v o := fun n s hn => by
    obtain ⟨k, o, v, a1, a2, a3, a4, a5⟩ := g n s hn
    exact ⟨k, o, v, a1, a2, by rw [List.getElem?_map, a3]; rfl, a4, a5⟩
  refine ⟨by rw [List.length_map, l1, l2], fun n s ov h1 h2 => ?_, fun n m s t a nm h1 h2 h3 h4 h5 h6 => ?_, f.trk, fun n kk d v a h1 _ _ => by
    obtain ⟨k, o, v, a1, a2, a3, a4, a5⟩ := gv n _ h1
    exact absurd rfl (arg_nodp a4 kk d)⟩
  · obtain ⟨k, o, v, a1, a2, a3, a4, a5⟩ := gv n s h1
    rw [a3] at h2; cases h2
    exact arg_ok f a4 a5
  · obtain ⟨k, o, v, a1, a2, a3, a4, a5⟩ := gv n s h1
    obtain ⟨k', o', v', b1, b2, b3, b4, b5⟩ := gv m t h2
    rw [a3] at h5; cases h5
    rw [b3] at h6; cases h6
    obtain ⟨hk, i, si, rfl, c1, c2⟩ := arg_live a4 h3
    obtain ⟨j, sj, rfl, d1, d2⟩ := arg_liveB b4 h4
    have ij := pair_ne ap nm a1 a2 b1 b2 hk
    exact f.apart i j si sj a ij c1 d1 (by cases si <;> first | rfl | (cases c2; done)) d2 a5 b5
theorem muts_at : ∀ {ks : List PK} {os : List Opd} {n i : Nat}, (muts ks os)[n]? = some i → ∃ m : Nat, ks[m]? = some PK.M ∧ os[m]? = some (Opd.sl i)
  | [], _, n, i, h => by simp [muts] at h
  | k :: ks, [], n, i, h => by cases k <;> simp [muts] at h
  | k :: ks, o :: os, n, i, h => by
    have go : (muts ks os)[n]? = some i ∨ (∃ n', n = n' + 1 ∧ (muts ks os)[n']? = some i) ∨ (n = 0 ∧ k = .M ∧ o = .sl i) := by
      cases k <;> cases o <;> first
        | exact .inl h
        | (cases n with
           | zero => simp [muts] at h; subst h; exact .inr (.inr ⟨rfl, rfl, rfl⟩)
           | succ n => exact .inr (.inl ⟨n, rfl, by simpa [muts] using h⟩))
    rcases go with h | ⟨n', _, h⟩ | ⟨_, rfl, rfl⟩
    · obtain ⟨m, a, b⟩ := muts_at h; exact ⟨m + 1, by simpa using a, by simpa using b⟩
    · obtain ⟨m, a, b⟩ := muts_at h; exact ⟨m + 1, by simpa using a, by simpa using b⟩
    · exact ⟨0, rfl, rfl⟩
theorem muts_nodup : ∀ {ks os}, apartB ks os = true → (muts ks os).Nodup
  | [], _, _ => by simp [muts]
  | k :: ks, [], _ => by cases k <;> simp [muts]
  | k :: ks, o :: os, h => by
    have h' : apartB ks os = true := by
      unfold apartB at *
      rw [decide_eq_true_eq] at *
      rw [List.zip_cons_cons] at h
      exact (List.pairwise_cons.mp h).2
    have ih := muts_nodup h'
    cases k <;> cases o <;> first
      | exact ih
      | (rename_i i
         show (i :: muts ks os).Nodup
         refine List.nodup_cons.mpr ⟨fun hm => ?_, ih⟩
         obtain ⟨n, hn⟩ := List.getElem?_of_mem hm
         obtain ⟨m, a, b⟩ := muts_at hn
         exact pair_ne (n := 0) (m := m + 1) h (by omega) rfl rfl (by simpa using a) (by simpa using b) rfl rfl)
theorem outs_at : ∀ {is outs} {ρ ρ' : Env}, outsIn is outs ρ = some ρ' → is.Nodup → ρ'.length = ρ.length ∧ (∀ j, j ∉ is → ρ'[j]? = ρ[j]?) ∧
    ∀ (n i : Nat), is[n]? = some i → ∃ s ds, ρ[i]? = some s ∧ mutL s = true ∧ outs[n]? = some ds ∧ ρ'[i]? = some (withL s ds)
  | [], [], ρ, ρ', e, _ => by cases e; exact ⟨rfl, fun _ _ => rfl, fun n i h => by simp at h⟩
  | [], _ :: _, _, _, e, _ => by simp [outsIn] at e
  | _ :: _, [], _, _, e, _ => by simp [outsIn] at e
  | i :: is, ds :: outs, ρ, ρ', e, nd => by
    obtain ⟨n1, n2⟩ := List.nodup_cons.mp nd
    have go : ∀ s, ρ[i]? = some s → mutL s = true → outsIn is outs (ρ.set i (withL s ds)) = some ρ' → ρ'.length = ρ.length ∧ (∀ j, j ∉ i :: is → ρ'[j]? = ρ[j]?) ∧
        ∀ (n j : Nat), (i :: is)[n]? = some j → ∃ s es, ρ[j]? = some s ∧ mutL s = true ∧ (ds :: outs)[n]? = some es ∧ ρ'[j]? = some (withL s es) := fun s hs hm e => by
      obtain ⟨a1, a2, a3⟩ := outs_at e n2
      refine ⟨by rw [a1, List.length_set], fun j hj => ?_, fun n j hn => ?_⟩
      · rw [a2 j (fun z => hj (List.mem_cons_of_mem _ z)), List.getElem?_set_ne (fun z => hj (by rw [z]; exact List.mem_cons_self))]
      · cases n with
        | zero => simp at hn; subst hn; exact ⟨s, ds, hs, hm, rfl, by rw [a2 i n1]; exact set_get hs⟩
        | succ n =>
          have hn' : is[n]? = some j := by simpa using hn
          have ji : i ≠ j := fun z => n1 (by rw [z]; exact List.mem_of_getElem? hn')
          obtain ⟨t, es, b1, b2, b3, b4⟩ := a3 n j hn'
          rw [List.getElem?_set_ne ji] at b1
          exact ⟨t, es, b1, b2, by simpa using b3, b4⟩
    unfold outsIn at e
    split at e
    · rename_i xs hs; exact go _ hs rfl e
    · rename_i xs hs; exact go _ hs rfl e
    · cases e
theorem args_tail {ρ : Env} {k ks o os ss} (h : argsOf ρ (k :: ks) (o :: os) = some ss) : ∃ s ss', argOf ρ k o = some s ∧ argsOf ρ ks os = some ss' := by
  unfold argsOf at h
  split at h
  · cases h
  · rename_i s e1
    split at h
    · cases h
    · rename_i ss' e2
      exact ⟨s, ss', e1, e2⟩
theorem outsOk_at {A H A0 H0 σ} {ρ : Env} : ∀ {ks os vs outs ss}, argsOf ρ ks os = some ss → OutsOk A H ks vs outs → OpdsOk A0 H0 σ vs os → ∀ (n i : Nat), (muts ks os)[n]? = some i →
    ∃ a ws ds, σ[i]? = some (some (.ref a)) ∧ outs[n]? = some ds ∧ H a = some (.lst ws) ∧ ws.length ≤ sizeLine ∧ RepAll A H ws ds ∧ ¬ A a
  | [], os, vs, outs, _, _, _, _, n, i, h => by simp [muts] at h
  | k :: ks, [], vs, outs, _, _, _, _, n, i, h => by cases k <;> simp [muts] at h
  | k :: ks, o :: os, [], outs, _, _, _, h, _, _, _ => h.elim
  | .B :: ks, o :: os, v :: vs, outs, _, e, q, ⟨_, h2⟩, n, i, h => by
    obtain ⟨_, _, _, e2⟩ := args_tail e
    exact outsOk_at (ks := ks) e2 q h2 n i (by cases o <;> exact h)
  | .I :: ks, o :: os, v :: vs, outs, _, e, q, ⟨_, h2⟩, n, i, h => by
    obtain ⟨_, _, _, e2⟩ := args_tail e
    exact outsOk_at (ks := ks) e2 q h2 n i (by cases o <;> exact h)
  | .M :: ks, o :: os, v :: vs, [], _, _, q, _, n, i, h => q.elim
  | .M :: ks, .v d :: os, v :: vs, ds :: outs, _, e, _, _, n, i, h => by
    obtain ⟨_, _, e1, _⟩ := args_tail e
    cases e1
  | .M :: ks, .sl j :: os, v :: vs, ds :: outs, _, e, ⟨q1, q2⟩, ⟨h1, h2⟩, n, i, h => by
    obtain ⟨_, _, _, e2⟩ := args_tail e
    cases n with
    | zero =>
      simp [muts] at h; subst h
      obtain ⟨a, ws, rfl, z1, z2, z3, z4⟩ := q1
      exact ⟨a, ws, ds, h1, rfl, z1, z2, z3, z4⟩
    | succ n =>
      obtain ⟨a, ws, es, z0, z1, z2⟩ := outsOk_at e2 q2 h2 n i (by simpa [muts] using h)
      exact ⟨a, ws, es, z0, by simpa using z1, z2⟩
theorem muts_of : ∀ {ks : List PK} {os : List Opd} {m i : Nat}, ks[m]? = some PK.M → os[m]? = some (Opd.sl i) → i ∈ muts ks os
  | [], _, m, i, h, _ => by simp at h
  | k :: ks, [], m, i, _, h => by simp at h
  | k :: ks, o :: os, 0, i, h1, h2 => by
    simp at h1 h2; subst h1 h2
    exact List.mem_cons_self
  | k :: ks, o :: os, m + 1, i, h1, h2 => by
    have := muts_of (ks := ks) (os := os) (m := m) (by simpa using h1) (by simpa using h2)
    cases k <;> cases o <;> first | exact this | exact List.mem_cons_of_mem _ this
/-- behind a call -/
theorem call_stp {A H σ vs A' H' ρ2} {ρ : Env} {ks os ss outs} (f : Fit A H σ ρ) (e : argsOf ρ ks os = some ss) (ok : OpdsOk A H σ vs os) (ap : apartB ks os = true) (eo : outsIn (muts ks os) outs ρ = some ρ2)
    (e1 : ∀ a, A a → A' a) (e2 : ∀ a o, H a = some o → ¬ Mut (vs.map some) ss a → H' a = some o) (e3 : ∀ a, H' a = none → H a = none) (e4 : ∀ a, A' a → A a ∨ H a = none ∨ ∃ vs, H a = some (HO.tup vs)) (e5 : ∀ a, A' a → ∃ o, H' a = some o) (e6 : OutsOk A' H' ks vs outs) :
    Stp A H σ ρ A' H' σ ρ2 ∧ (∀ (i : Nat) (t : Slot), ρ2[i]? = some t → ∃ s, ρ[i]? = some s ∧ liveB t = liveB s) ∧ ∀ a, Prv H' σ ρ2 a → Prv H σ ρ a := by
  obtain ⟨l1, l2, l3, g⟩ := args_at e ok
  have ok0 := ok
  have nd := muts_nodup ap
  obtain ⟨o1, o2, o3⟩ := outs_at eo nd
  have ko := outsOk_at e e6 ok
  -- what is Mut among the arguments
  have mutA : ∀ a, Mut (vs.map some) ss a → ∃ i, i ∈ muts ks os ∧ σ[i]? = some (some (.ref a)) := fun a ⟨n, s, h1, h2, h3⟩ => by
    obtain ⟨k, o, v, a1, a2, a3, a4, a5⟩ := g n s h1
    obtain ⟨rfl, i, t, rfl, b1, b2⟩ := arg_live a4 (by cases s <;> first | rfl | (cases h2; done))
    rw [List.getElem?_map, a3] at h3
    cases h3
    exact ⟨i, muts_of a1 a2, a5⟩
  have mutM : ∀ a i, i ∈ muts ks os → σ[i]? = some (some (.ref a)) → Mut σ ρ a := fun a i hi hs => by
    obtain ⟨n, hn⟩ := List.getElem?_of_mem hi
    obtain ⟨s, ds, b1, b2, _⟩ := o3 n i hn
    exact ⟨i, s, b1, mutL_S b2, hs⟩
  -- each slot behind
  have back : ∀ (i : Nat) (t : Slot), ρ2[i]? = some t → (i ∉ muts ks os ∧ ρ[i]? = some t) ∨ ∃ n s ds, (muts ks os)[n]? = some i ∧ ρ[i]? = some s ∧ mutL s = true ∧ outs[n]? = some ds ∧ t = withL s ds := fun i t h => by
    by_cases hi : i ∈ muts ks os
    · obtain ⟨n, hn⟩ := List.getElem?_of_mem hi
      obtain ⟨s, ds, b1, b2, b3, b4⟩ := o3 n i hn
      rw [b4] at h; cases h
      exact .inr ⟨n, s, ds, hn, b1, b2, b3, rfl⟩
    · rw [o2 i hi] at h; exact .inl ⟨hi, h⟩
  have kinds : ∀ (i : Nat) (t : Slot), ρ2[i]? = some t → ∃ s, ρ[i]? = some s ∧ liveB t = liveB s ∧ live t = live s ∧ mutS t = mutS s := fun i t h => by
    rcases back i t h with ⟨_, h⟩ | ⟨n, s, ds, _, h9, hm, _, rfl⟩
    · exact ⟨t, h, rfl, rfl, rfl⟩
    · exact ⟨s, h9, by cases s <;> rfl, by cases s <;> rfl, by cases s <;> rfl⟩
  have frame : ∀ a o, H a = some o → ¬ Mut σ ρ a → H' a = some o := fun a o h n => e2 a o h fun m => by
    obtain ⟨i, hi, hs⟩ := mutA a m
    exact n (mutM a i hi hs)
  have keep : Keep A H H' := fun a o ha h => frame a o h (f.nomut ha)
  have sub : ∀ a, Mut σ ρ2 a → Mut σ ρ a := fun a ⟨i, t, h1, h2, h3⟩ => by
    obtain ⟨s, q1, _, _, q2⟩ := kinds i t h1
    exact ⟨i, s, q1, by rw [← q2]; exact h2, h3⟩
  have dps : ∀ (j : Nat) k2 d2, ρ2[j]? = some (Slot.dp k2 d2) → ρ[j]? = some (.dp k2 d2) ∧ σ[j]? = σ[j]? := fun j k2 d2 h => by
    rcases back j _ h with ⟨_, h⟩ | ⟨n, s, ds, _, h9, hm, _, z⟩
    · exact ⟨h, rfl⟩
    · cases s <;> first | (cases hm; done) | (cases z; done)
  have kl : ∀ b o, Prv H σ ρ b → H b = some o → H' b = some o := fun b o hp h => frame b o h fun m => f.mut_prv m hp
  have pb := f.prv_back dps keep kl
  refine ⟨⟨e1, fun a o h n _ => frame a o h n, e3, fun a m => .inl (sub a m), fun i ds h => ⟨rfl, ?_⟩, fun a h => (e4 a h).elim .inl fun z => z.elim (fun z => .inr (.inl z)) fun z => .inr (.inr (.inr (.inr (.inr z)))), fun i ds h o => ?_, fun b hb => .inr (.inl (pb b hb)), ⟨by rw [o1]; exact f.len, fun i t ov h1 h2 => ?_, fun i j s t a ij h1 h2 h3 h4 h5 h6 => ?_, e5, f.prv_go dps keep kl fun j t b h1 h2 h3 => (let ⟨s, q1, q2, _⟩ := kinds j t h1; .inl ⟨j, s, q1, by rw [← q2]; exact h2, h3⟩)⟩⟩, fun i t h => let ⟨s, q1, q2, _⟩ := kinds i t h; ⟨s, q1, q2⟩, pb⟩
  · by_cases hi : i ∈ muts ks os
    · obtain ⟨n, hn⟩ := List.getElem?_of_mem hi
      obtain ⟨s, es, b1, b2, b3, b4⟩ := o3 n i hn
      rw [h] at b1; cases b1
      exact ⟨es, b4⟩
    · exact ⟨ds, by rw [o2 i hi]; exact h⟩
  · rcases back i _ h with ⟨_, h⟩ | ⟨n, s, es, _, h, hm, _, z⟩
    · exact ⟨h, rfl⟩
    · subst z; cases s <;> first | (cases hm; done) | (cases o; done)
  · rcases back i t h1 with ⟨hi, h⟩ | ⟨n, s, ds, hn, h, hm, hd, rfl⟩
    · have ok := f.slot i t ov h h2
      refine ok.go e1 keep (fun a o lb z w => ?_) (fun a lt z hb => ?_) (fun a o u w => e2 a _ w fun m => (by
        exact (args_fit f e ok0 ap).mut_nofrz m _ _ w)) (fun k2 d2 w b o ez z l e => by subst ez z; exact kl b o ⟨i, k2, d2, w, h, h2, l⟩ e) (fun k2 d2 w b ez z l hb => by
        subst ez z
        obtain ⟨z1, vs, z2⟩ := f.lr h h2 l
        rcases e4 b hb with z | z | ⟨us, z⟩
        · exact z1 z
        · rw [z] at z2; cases z2
        · rw [z] at z2; cases z2)
      · subst z
        refine e2 a o w fun m => ?_
        obtain ⟨j, hj, hs⟩ := mutA a m
        obtain ⟨n, hn⟩ := List.getElem?_of_mem hj
        obtain ⟨s, es, b1, b2, _⟩ := o3 n j hn
        exact f.apart j i s t a (fun z => hi (z ▸ hj)) b1 h (by cases s <;> first | rfl | (cases b2; done)) lb hs h2
      · subst z
        rcases e4 a hb with z | z | ⟨us, z⟩
        · exact ok.nofz lt z
        · exact f.noref z i t h (liveB_of lt) h2
        · exact ok.notup lt z
    · obtain ⟨a, ws, es, z0, z1, z2, z3, z4, z5⟩ := ko n i hn
      rw [hd] at z1; cases z1
      rw [h2] at z0; cases z0
      cases s <;> first | (cases hm; done) | exact ⟨a, ws, rfl, z2, z3, z4, z5⟩
  · obtain ⟨s', q1, q2, q3, _⟩ := kinds i s h1
    obtain ⟨t', r1, r2, _⟩ := kinds j t h2
    exact f.apart i j s' t' a ij q1 r1 (by rw [← q3]; exact h3) (by rw [← r2]; exact h4) h5 h6

def fCall (g : Option (List PK × Fn)) (fs : List PK → Env → Option (List Opd × Env)) (ρ : Env) : Option (Res × Env) := match g with
    | none => none
    | some (ks, fn) => match fs ks ρ with
      | none => none
      | some (os, ρ1) => if apartB ks os = false then none else
        match argsOf ρ1 ks os with
        | none => none
        | some ss => match fn ss with
          | none => none
          | some (r, outs) => match outsIn (muts ks os) outs ρ1 with
            | none => none
            | some ρ2 => some (r, ρ2)
theorem call_fin {A H σ vs} {ρ : Env} {ks fn os ss r outs ρ2} (f : Fit A H σ ρ) (ok : OpdsOk A H σ vs os) (ap : apartB ks os = true) (e : argsOf ρ ks os = some ss) (ef : fn ss = some (r, outs)) (eo : outsIn (muts ks os) outs ρ = some ρ2)
    (Q : VK) (E : XK) (k : ∀ A' H' v, Stp A H σ ρ A' H' σ ρ2 → ResOk A' H H' σ ρ2 v r → Q v H') : spOf ks fn vs H Q E := by
  obtain ⟨l1, _⟩ := args_at e ok
  refine ⟨l1, A, ss, r, outs, args_fit f e ok ap, ef, fun A' H' v e1 e2 e3 e4 e5 e6 e7 => ?_⟩
  obtain ⟨s, kd, pb⟩ := call_stp f e ok ap eo e1 e2 e3 e4 e5 e7
  refine k A' H' v s ?_
  cases r with
  | fr d => exact e6
  | nw ds =>
    obtain ⟨a, ws, q1, q2, q3, q4, q5, q6⟩ := e6
    refine ⟨a, ws, q1, q2, q3, q4, q5, q6, fun i t h1 h2 => ?_, fun z => f.noprv_none q6 (pb a z)⟩
    obtain ⟨t', z1, z2⟩ := kd i t h1
    exact f.noref q6 i t' z1 (by rw [← z2]; exact h2)
theorem fcall_inv {g fs ρ r ρ'} (e : fCall g fs ρ = some (r, ρ')) : ∃ ks fn os ρ1 ss outs, g = some (ks, fn) ∧ fs ks ρ = some (os, ρ1) ∧ apartB ks os = true ∧ argsOf ρ1 ks os = some ss ∧ fn ss = some (r, outs) ∧ outsIn (muts ks os) outs ρ1 = some ρ' := by
  unfold fCall at e
  split at e
  · cases e
  · rename_i ks fn
    split at e
    · cases e
    · rename_i os ρ1 e2
      split at e
      · cases e
      · rename_i e3
        split at e
        · cases e
        · rename_i ss e4
          split at e
          · cases e
          · rename_i r' outs e5
            split at e
            · cases e
            · rename_i ρ2 e6
              cases e
              exact ⟨ks, fn, os, ρ1, ss, outs, rfl, e2, by simpa using e3, e4, e5, e6⟩
theorem snd_call (C : CtxOk X N q F) {f : String} {e es p pos} {fs : List PK → Env → Option (List Opd × Env)} (hg : glB q.sc (Str.ofString f) = true) (hd : (Str.ofString f == ("__debug__" : Str)) = false) (st : (e :: es).all notStar = true) (hs : ∀ ks, SndP X (e :: es) (fs ks)) :
    SndE X (.Call (.Name (Str.ofString f) p) (e :: es) [] pos) (fCall (F f) fs) := by
  rw [List.all_cons, Bool.and_eq_true] at st
  cases hf : F f with
  | none =>
    obtain ⟨t, p, _⟩ := hs []
    refine ⟨fun _ _ _ => False, ⟨fun _ _ _ _ _ _ h => h.elim⟩, fun A H σ ρ r ρ' ft e Q k => ?_⟩
    cases e
  | some g =>
    obtain ⟨ks, fn⟩ := g
    obtain ⟨ts, ps, qs⟩ := hs ks
    obtain ⟨fa, fd, prs, lv, m1, m2, m3, m4, m5⟩ := C.fns f ks fn hf
    refine ⟨_, pe_call m5 m4 (gl_of C hg) m1 m2 m3 .nil pass0 ps hd (star_cons st.1) (star_any st.2), fun A H σ ρ r ρ' ft e Q k => ?_⟩
    obtain ⟨ks', fn', os, ρ1, ss, outs, z1, z2, z3, z4, z5, z6⟩ := fcall_inv e
    cases z1
    refine qs A H σ ρ os ρ1 ft z2 _ fun A1 H1 vs s1 k1 => ?_
    rw [List.append_nil]
    exact call_fin s1.fit k1 z3 z4 z5 z6 Q E0 fun A2 H2 v s2 k2 => k A2 H2 v (s1.trans s2) (k2.start s1.dom)
theorem snd_call0 (C : CtxOk X N q F) {f : String} {p pos} {fs : List PK → Env → Option (List Opd × Env)} (hg : glB q.sc (Str.ofString f) = true) (hd : (Str.ofString f == ("__debug__" : Str)) = false) (hs : ∀ ks ρ os ρ', fs ks ρ = some (os, ρ') → os = [] ∧ ρ' = ρ) :
    SndE X (.Call (.Name (Str.ofString f) p) [] [] pos) (fCall (F f) fs) := by
  cases hf : F f with
  | none =>
    refine ⟨fun _ _ _ => False, ⟨fun _ _ _ _ _ _ h => h.elim⟩, fun A H σ ρ r ρ' ft e Q k => ?_⟩
    cases e
  | some g =>
    obtain ⟨ks, fn⟩ := g
    obtain ⟨fa, fd, prs, lv, m1, m2, m3, m4, m5⟩ := C.fns f ks fn hf
    refine ⟨_, pe_call0 m5 m4 (gl_of C hg) m1 m2 m3 .nil pass0 hd, fun A H σ ρ r ρ' ft e Q k => ?_⟩
    obtain ⟨ks', fn', os, ρ1, ss, outs, z1, z2, z3, z4, z5, z6⟩ := fcall_inv e
    cases z1
    obtain ⟨rfl, rfl⟩ := hs _ _ _ _ z2
    show spOf ks fn ([] ++ []) H Q E0
    exact call_fin (vs := []) (os := []) ft trivial z3 z4 z5 z6 Q E0 fun A2 H2 v s2 k2 => k A2 H2 v s2 k2
end
end Ev

set_option maxRecDepth 100000
/-! EvK: a call of flat answer, whose arguments are looked at without being frozen. -/
namespace Ev
open PySem L2
variable [TheK]
/-- whatever stands in the heap -/
def Any (H : Hp) (a : Addr) : Prop := ∃ o, H a = some o
theorem Any.grow {H H' : Hp} (k : ∀ a o, H a = some o → H' a = some o) : ∀ a, Any H a → Any H' a := fun a ⟨o, e⟩ => ⟨o, k a o e⟩
theorem Rep.any {H H' : Hp} {v d} (k : ∀ a o, H a = some o → H' a = some o) (h : Rep (Any H) H v d) : Rep (Any H') H' v d := Rep.mono (Any.grow k) (fun a o _ e => k a o e) h
theorem RepAll.any {H H' : Hp} {v d} (k : ∀ a o, H a = some o → H' a = some o) (h : RepAll (Any H) H v d) : RepAll (Any H') H' v d := RepAll.mono (Any.grow k) (fun a o _ e => k a o e) h
theorem RepW.anyRep {A : Addr → Prop} {H : Hp} {v d} (t : ∀ a, A a → Any H a) (h : RepW A H v d) : Rep (Any H) H v d := by
  rcases h with h | ⟨a, vs, ds, rfl, rfl, h1, h2, h3⟩
  · exact Rep.mono t (fun _ _ _ e => e) h
  · exact .lst ⟨_, h1⟩ h1 h2 (RepAll.mono t (fun _ _ _ e => e) h3)
section
variable {X : Cx} {N : List Str} {q : Sc} {F : FT}
def SndK (X : Cx) (e : Expr) (f : Env → Option D) : Prop := ∃ t : TE, PE X e t ∧
  ∀ A H σ ρ d, Fit A H σ ρ → f ρ = some d → ∀ Q : VK, (∀ H' v, (∀ a o, H a = some o → H' a = some o) → (∀ a, H' a = none → H a = none) → Rep (Any H') H' v d → Q v H') → t σ H Q
def SndKs (X : Cx) (es : List Expr) (f : Env → Option (List D)) : Prop := ∃ t : TA, PA X es t ∧
  ∀ A H σ ρ ds, Fit A H σ ρ → f ρ = some ds → ∀ Q : List V → Hp → Prop, (∀ H' vs, (∀ a o, H a = some o → H' a = some o) → (∀ a, H' a = none → H a = none) → RepAll (Any H') H' vs ds → Q vs H') → t σ H Q
theorem sndK_var (C : CtxOk X N q F) {i x pos} (h : nameB N q i x = true) : SndK X (.Name x pos) (fun ρ => pk ρ (.var i)) := by
  refine ⟨_, pe_name C h, fun A H σ ρ d ft e Q k => ?_⟩
  simp only [pk] at e
  have hov : ∃ v, σ[i]? = some (some v) := by
    simp only [rd] at e
    split at e
    · rename_i s hs
      obtain ⟨ov, e1, q⟩ := ft.at hs
      cases s <;> simp only [Slot.d?, reduceCtorEq] at e
      · obtain ⟨w, rfl, _⟩ := q; exact ⟨_, e1⟩
      all_goals (obtain ⟨a, vs, rfl, _⟩ := q; exact ⟨_, e1⟩)
    · cases e
  obtain ⟨v, hv⟩ := hov
  exact ⟨v, hv, k H v (fun _ _ h => h) (fun _ h => h) ((rd_ok ft hv e).anyRep ft.trk)⟩
theorem sndK_int {n k1 pos} : SndK X (.Constant (.int n) k1 pos) (fun ρ => pk ρ (.int n)) := by
  refine ⟨_, pe_int, fun A H σ ρ d ft e Q k => ?_⟩
  simp only [pk, Option.some.injEq] at e
  subst e
  exact k H _ (fun _ _ h => h) (fun _ h => h) .int
theorem sndK_tup {es : List Expr} {k2 pos} {ie : Es} (hs : SndKs X es (fun ρ => pks ρ ie)) : SndK X (.Tuple es k2 pos) (fun ρ => pk ρ (.tup ie)) := by
  obtain ⟨ts, ps, qs⟩ := hs
  refine ⟨_, pe_tup ps, fun A H σ ρ d ft e Q k => ?_⟩
  simp only [pk] at e
  split at e
  · rename_i ds e1
    split at e
    · rename_i hz
      cases e
      refine qs A H σ ρ ds ft e1 _ fun H1 vs k1 k1' k2 => ?_
      rw [← k2.length] at hz
      refine ⟨hz, fun p hp => ?_⟩
      have g := upd_grow (o := .tup vs) hp
      refine k _ _ (fun a o h => g a o (k1 a o h)) (fun a h => k1' a ?_) (.tup ⟨_, upd_same⟩ upd_same hz (k2.any g))
      cases e2 : H1 a with
      | none => rfl
      | some o => rw [g a o e2] at h; cases h
    · cases e
  · cases e
theorem sndKs_nil : SndKs X [] (fun ρ => pks ρ .nil) := ⟨_, pa_nil, fun A H σ ρ ds ft e Q k => by
  simp only [pks, Option.some.injEq] at e
  subst e
  exact k H [] (fun _ _ h => h) (fun _ h => h) .nil⟩
theorem sndKs_cons {e : Expr} {es : List Expr} {ie : E} {ies : Es} (hn : notStar e = true) (he : SndK X e (fun ρ => pk ρ ie)) (hs : SndKs X es (fun ρ => pks ρ ies)) : SndKs X (e :: es) (fun ρ => pks ρ (.cons ie ies)) := by
  obtain ⟨t, p, q⟩ := he
  obtain ⟨ts, ps, qs⟩ := hs
  refine ⟨_, pa_cons p ps (star_cons hn), fun A H σ ρ ds ft e Q k => ?_⟩
  simp only [pks] at e
  split at e
  · rename_i d e1
    split at e
    · rename_i ds' e2
      cases e
      refine q A H σ ρ d ft e1 _ fun H1 v k1 k1' k2 => ?_
      refine qs A H1 σ ρ ds' (ft.grow k1) e2 _ fun H2 vs k3 k3' k4 => ?_
      exact k H2 _ (fun a o h => k3 a o (k1 a o h)) (fun a h => k1' a (k3' a h)) (.cons (k2.any k3) k4)
    · cases e
  · cases e
theorem rep_flat {A A' : Addr → Prop} {H H' : Hp} {v d} (h : Rep A H v d) (f : isFlat d = true) : Rep A' H' v d := by
  cases h <;> first | (cases f; done) | constructor
theorem fit_any {H : Hp} : ∀ {vs : List V} {ds : List D}, RepAll (Any H) H vs ds → Fit (Any H) H (vs.map some) (ds.map .fz) := by
  intro vs ds h
  refine ⟨by rw [List.length_map, List.length_map, h.length], fun i s ov h1 h2 => ?_, fun i j s t a hij h1 h2 h3 => ?_, fun a h => h, fun i kk d v a h1 _ _ => by
    rw [List.getElem?_map] at h1
    cases e1 : ds[i]? with
    | none => rw [e1] at h1; cases h1
    | some d => rw [e1] at h1; cases h1⟩
  · rw [List.getElem?_map] at h1 h2
    cases e1 : ds[i]? with
    | none => rw [e1] at h1; cases h1
    | some d =>
      rw [e1] at h1
      cases h1
      obtain ⟨v, e2, r⟩ := h.get i e1
      rw [e2] at h2
      cases h2
      exact ⟨v, rfl, r⟩
  · rw [List.getElem?_map] at h1
    cases e1 : ds[i]? with
    | none => rw [e1] at h1; cases h1
    | some d => rw [e1] at h1; cases h1; cases h3
def fPcall (g : Option (List PK × Fn)) (fs : Env → Option (List D)) (ρ : Env) : Option (Res × Env) := match g with
    | none => none
    | some (ks, fn) => match fs ρ with
      | none => none
      | some ds => if (ks.all notM && decide (ds.length = ks.length)) = true then flatO ρ (fn (ds.map .fz)) else none
theorem nomut_fz {σ : St} {ds : List D} {a : Addr} : ¬ Mut σ (ds.map .fz) a := by
  rintro ⟨i, s, h1, h2, _⟩
  rw [List.getElem?_map] at h1
  cases e1 : ds[i]? with
  | none => rw [e1] at h1; cases h1
  | some d => rw [e1] at h1; cases h1; cases h2
theorem snd_pcall (C : CtxOk X N q F) {f : String} {e es p pos} {fs : Env → Option (List D)} (hg : glB q.sc (Str.ofString f) = true) (hd : (Str.ofString f == ("__debug__" : Str)) = false) (st : (e :: es).all notStar = true) (hs : SndKs X (e :: es) fs) :
    SndE X (.Call (.Name (Str.ofString f) p) (e :: es) [] pos) (fPcall (F f) fs) := by
  rw [List.all_cons, Bool.and_eq_true] at st
  cases hf : F f with
  | none => exact ⟨fun _ _ _ => False, ⟨fun _ _ _ _ _ _ h => h.elim⟩, fun A H σ ρ r ρ' ft e Q k => by cases e⟩
  | some g =>
    obtain ⟨ks, fn⟩ := g
    obtain ⟨ts, ps, qs⟩ := hs
    obtain ⟨fa, fd, prs, lv, m1, m2, m3, m4, m5⟩ := C.fns f ks fn hf
    refine ⟨_, pe_call m5 m4 (gl_of C hg) m1 m2 m3 .nil pass0 ps hd (star_cons st.1) (star_any st.2), fun A H σ ρ r ρ' ft e Q k => ?_⟩
    simp only [fPcall] at e
    split at e
    · cases e
    · rename_i ds e1
      split at e
      · rename_i hz
        rw [Bool.and_eq_true, decide_eq_true_eq] at hz
        cases e2 : fn (ds.map .fz) with
        | none => rw [e2] at e; cases e
        | some ro =>
          obtain ⟨res, outs⟩ := ro
          rw [e2] at e
          cases res with
          | nw _ => cases e
          | fr d =>
            cases outs with
            | cons _ _ => cases e
            | nil =>
              simp only [flatO] at e
              split at e
              · rename_i hfl
                cases e
                refine qs A H σ ρ ds ft e1 _ fun H1 vs g1 g1' r1 => ?_
                rw [List.append_nil]
                show spOf ks fn vs H1 Q E0
                refine ⟨by rw [r1.length]; exact hz.2, Any H1, ds.map .fz, .fr d, [], fit_any r1, e2, fun A' H' v a1 a2 a3 a4 a5 a6 a7 => ?_⟩
                have gr : ∀ a o, H a = some o → H' a = some o := fun a o h => a2 a o (g1 a o h) nomut_fz
                exact k A H' v (Stp.grow ft gr) (rep_flat a6 hfl)
              · cases e
      · cases e
mutual
def chkPk (N : List Str) (q : Sc) : E → Expr → Bool
  | .var i, ex => (match ex with
    | .Name x _ => nameB N q i x
    | _ => false)
  | .int n, ex => (match ex with
    | .Constant (.int m) _ _ => decide (m = n)
    | _ => false)
  | .tup es, ex => (match ex with
    | .Tuple xs _ _ => xs.all notStar && chkPks N q es xs
    | _ => false)
  | _, _ => false
def chkPks (N : List Str) (q : Sc) : Es → List Expr → Bool
  | .nil, es => (match es with
    | [] => true
    | _ => false)
  | .cons e es, xs => (match xs with
    | x :: r => chkPk N q e x && chkPks N q es r
    | _ => false)
end
mutual
theorem snd_pk : ∀ (e : E) {X : Cx} {q : Sc} {ex : Expr}, CtxOk X N q F → chkPk N q e ex = true → SndK X ex (fun ρ => pk ρ e)
  | .var i, X, q, ex, C, h => by
    unfold chkPk at h
    split at h
    · exact sndK_var C h
    · cases h
  | .int n, X, q, ex, C, h => by
    unfold chkPk at h
    split at h
    · simp only [decide_eq_true_eq] at h
      subst h
      exact sndK_int
    · cases h
  | .tup es, X, q, ex, C, h => by
    unfold chkPk at h
    split at h
    · rw [Bool.and_eq_true] at h
      exact sndK_tup (snd_pks es C h.2 h.1)
    · cases h
  | .bl _, _, _, _, _, h => by unfold chkPk at h; cases h
  | .non, _, _, _, _, h => by unfold chkPk at h; cases h
  | .str _, _, _, _, _, h => by unfold chkPk at h; cases h
  | .bin .., _, _, _, _, h => by unfold chkPk at h; cases h
  | .neg .., _, _, _, _, h => by unfold chkPk at h; cases h
  | .no .., _, _, _, _, h => by unfold chkPk at h; cases h
  | .cmp .., _, _, _, _, h => by unfold chkPk at h; cases h
  | .cmp2 .., _, _, _, _, h => by unfold chkPk at h; cases h
  | .and .., _, _, _, _, h => by unfold chkPk at h; cases h
  | .or .., _, _, _, _, h => by unfold chkPk at h; cases h
  | .ite .., _, _, _, _, h => by unfold chkPk at h; cases h
  | .idx .., _, _, _, _, h => by unfold chkPk at h; cases h
  | .slc .., _, _, _, _, h => by unfold chkPk at h; cases h
  | .rvs .., _, _, _, _, h => by unfold chkPk at h; cases h
  | .dix .., _, _, _, _, h => by unfold chkPk at h; cases h
  | .dlen .., _, _, _, _, h => by unfold chkPk at h; cases h
  | .dget .., _, _, _, _, h => by unfold chkPk at h; cases h
  | .din .., _, _, _, _, h => by unfold chkPk at h; cases h
  | .tlit .., _, _, _, _, h => by unfold chkPk at h; cases h
  | .tget .., _, _, _, _, h => by unfold chkPk at h; cases h
  | .tcomp .., _, _, _, _, h => by unfold chkPk at h; cases h
  | .sitm .., _, _, _, _, h => by unfold chkPk at h; cases h
  | .tm .., _, _, _, _, h => by unfold chkPk at h; cases h
  | .repl .., _, _, _, _, h => by unfold chkPk at h; cases h
  | .lst .., _, _, _, _, h => by unfold chkPk at h; cases h
  | .comp .., _, _, _, _, h => by unfold chkPk at h; cases h
  | .comp2 .., _, _, _, _, h => by unfold chkPk at h; cases h
  | .setc .., _, _, _, _, h => by unfold chkPk at h; cases h
  | .call .., _, _, _, _, h => by unfold chkPk at h; cases h
  | .pcall .., _, _, _, _, h => by unfold chkPk at h; cases h
  | .blt .., _, _, _, _, h => by unfold chkPk at h; cases h
  | .isi .., _, _, _, _, h => by unfold chkPk at h; cases h
  | .len .., _, _, _, _, h => by unfold chkPk at h; cases h
  | .rngs .., _, _, _, _, h => by unfold chkPk at h; cases h
  | .meth .., _, _, _, _, h => by unfold chkPk at h; cases h
  | .chg .., _, _, _, _, h => by unfold chkPk at h; cases h
theorem snd_pks : ∀ (es : Es) {X : Cx} {q : Sc} {xs : List Expr}, CtxOk X N q F → chkPks N q es xs = true → xs.all notStar = true → SndKs X xs (fun ρ => pks ρ es)
  | .nil, X, q, xs, C, h, _ => by
    unfold chkPks at h
    split at h
    · exact sndKs_nil
    · cases h
  | .cons e es, X, q, xs, C, h, st => by
    unfold chkPks at h
    split at h
    · rw [Bool.and_eq_true] at h
      rw [List.all_cons, Bool.and_eq_true] at st
      exact sndKs_cons st.1 (snd_pk e C h.1) (snd_pks es C h.2 st.2)
    · cases h
end
end
end Ev

set_option maxRecDepth 100000
/-! Ev9: what is walked; comprehensions. -/
namespace Ev
open PySem L2
variable [TheK]

/-! ### slots lent, slots wiped -/
theorem lendL_len : ∀ (ls : List Nat) (ρ : Env), (lendL ls ρ).length = ρ.length
  | [], ρ => rfl
  | i :: r, ρ => by
    unfold lendL
    split
    · rw [lendL_len, List.length_set]
    · exact lendL_len r ρ
/-- all of ls are lists of one's own -/
def Owns (ρ : Env) (ls : List Nat) : Prop := ∀ i ∈ ls, ∃ ds, ρ[i]? = some (.own ds)
theorem lendL_at : ∀ (ls : List Nat) (ρ : Env) (j : Nat), (lendL ls ρ)[j]? = (match ρ[j]? with | some (.own ds) => if j ∈ ls then some (.lent ds) else some (.own ds) | x => x)
  | [], ρ, j => by
    unfold lendL
    cases h : ρ[j]? with
    | none => rfl
    | some s => cases s <;> simp
  | i :: r, ρ, j => by
    unfold lendL
    split
    · rename_i ds hs
      rw [lendL_at r]
      by_cases e : i = j
      · subst e
        rw [set_get hs, hs]
        simp
      · rw [List.getElem?_set_ne e]
        cases h : ρ[j]? with
        | none => rfl
        | some s => cases s <;> simp [Ne.symm e]
    · rename_i hn
      rw [lendL_at r]
      cases h : ρ[j]? with
      | none => rfl
      | some s =>
        cases s <;> first
          | rfl
          | (have e : j ≠ i := fun e => by subst e; exact absurd h (hn _)
             simp [e])
theorem unlend_at : ∀ (ls : List Nat) (ρ : Env) (j : Nat), (unlend ls ρ)[j]? = (match ρ[j]? with | some (.lent ds) => if j ∈ ls then some (.own ds) else some (.lent ds) | x => x)
  | [], ρ, j => by
    unfold unlend
    cases h : ρ[j]? with
    | none => rfl
    | some s => cases s <;> simp
  | i :: r, ρ, j => by
    unfold unlend
    split
    · rename_i ds hs
      rw [unlend_at r]
      by_cases e : i = j
      · subst e
        rw [set_get hs, hs]
        simp
      · rw [List.getElem?_set_ne e]
        cases h : ρ[j]? with
        | none => rfl
        | some s => cases s <;> simp [Ne.symm e]
    · rename_i hn
      rw [unlend_at r]
      cases h : ρ[j]? with
      | none => rfl
      | some s =>
        cases s <;> first
          | rfl
          | (have e : j ≠ i := fun e => by subst e; exact absurd h (hn _)
             simp [e])
theorem unlend_len : ∀ (ls : List Nat) (ρ : Env), (unlend ls ρ).length = ρ.length
  | [], ρ => rfl
  | i :: r, ρ => by
    unfold unlend
    split
    · rw [unlend_len, List.length_set]
    · exact unlend_len r ρ
/-- a slot behind lending: the same but for own, lent -/
theorem lend_inv {ls : List Nat} {ρ : Env} {j : Nat} {s : Slot} (h : (lendL ls ρ)[j]? = some s) : (ρ[j]? = some s ∧ (∀ ds, s = .own ds → j ∉ ls)) ∨ ∃ ds, s = .lent ds ∧ ρ[j]? = some (.own ds) ∧ j ∈ ls := by
  rw [lendL_at] at h
  split at h
  · rename_i ds hs
    split at h
    · rename_i hj; cases h; exact .inr ⟨ds, rfl, hs, hj⟩
    · rename_i hj; cases h; exact .inl ⟨hs, fun _ _ => hj⟩
  · rename_i hn
    exact .inl ⟨h, fun ds e => by subst e; exact absurd h (hn ds)⟩
theorem unlend_inv {ls : List Nat} {ρ : Env} {j : Nat} {s : Slot} (h : (unlend ls ρ)[j]? = some s) : (ρ[j]? = some s ∧ (∀ ds, s = .lent ds → j ∉ ls)) ∨ ∃ ds, s = .own ds ∧ ρ[j]? = some (.lent ds) ∧ j ∈ ls := by
  rw [unlend_at] at h
  split at h
  · rename_i ds hs
    split at h
    · rename_i hj; cases h; exact .inr ⟨ds, rfl, hs, hj⟩
    · rename_i hj; cases h; exact .inl ⟨hs, fun _ _ => hj⟩
  · rename_i hn
    exact .inl ⟨h, fun ds e => by subst e; exact absurd h (hn ds)⟩
theorem Fit.lend {A H σ} {ρ : Env} (f : Fit A H σ ρ) (ls : List Nat) : Fit A H σ (lendL ls ρ) := by
  refine ⟨by rw [lendL_len]; exact f.len, fun i s ov h1 h2 => ?_, fun i j s t a ij h1 h2 h3 h4 h5 h6 => ?_, f.trk, f.prv_go (fun i kk d h => by
    rcases lend_inv h with ⟨h, _⟩ | ⟨ds, z, _, _⟩
    · exact ⟨h, rfl⟩
    · cases z) (fun _ _ _ z => z) (fun _ _ _ z => z) fun j s a h1 h2 h3 => (by
    rcases lend_inv h1 with ⟨h, _⟩ | ⟨ds, rfl, h, _⟩
    · exact .inl ⟨j, s, h, h2, h3⟩
    · exact .inl ⟨j, _, h, rfl, h3⟩)⟩
  · rcases lend_inv h1 with ⟨h, _⟩ | ⟨ds, rfl, h, _⟩
    · exact f.slot i s ov h h2
    · exact f.slot i (.own ds) ov h h2
  · have g1 : ∃ s', ρ[i]? = some s' ∧ live s' = true := by
      rcases lend_inv h1 with ⟨h, _⟩ | ⟨ds, rfl, h, _⟩
      · exact ⟨s, h, h3⟩
      · exact ⟨_, h, rfl⟩
    have g2 : ∃ t', ρ[j]? = some t' ∧ liveB t' = true := by
      rcases lend_inv h2 with ⟨h, _⟩ | ⟨ds, rfl, h, _⟩
      · exact ⟨t, h, h4⟩
      · exact ⟨_, h, rfl⟩
    obtain ⟨s', q1, q2⟩ := g1
    obtain ⟨t', r1, r2⟩ := g2
    exact f.apart i j s' t' a ij q1 r1 q2 r2 h5 h6
theorem Fit.unlend {A H σ} {ρ : Env} (f : Fit A H σ ρ) (ls : List Nat) : Fit A H σ (unlend ls ρ) := by
  refine ⟨by rw [unlend_len]; exact f.len, fun i s ov h1 h2 => ?_, fun i j s t a ij h1 h2 h3 h4 h5 h6 => ?_, f.trk, f.prv_go (fun i kk d h => by
    rcases unlend_inv h with ⟨h, _⟩ | ⟨ds, z, _, _⟩
    · exact ⟨h, rfl⟩
    · cases z) (fun _ _ _ z => z) (fun _ _ _ z => z) fun j s a h1 h2 h3 => (by
    rcases unlend_inv h1 with ⟨h, _⟩ | ⟨ds, rfl, h, _⟩
    · exact .inl ⟨j, s, h, h2, h3⟩
    · exact .inl ⟨j, _, h, rfl, h3⟩)⟩
  · rcases unlend_inv h1 with ⟨h, _⟩ | ⟨ds, rfl, h, _⟩
    · exact f.slot i s ov h h2
    · exact f.slot i (.lent ds) ov h h2
  · have g1 : ∃ s', ρ[i]? = some s' ∧ live s' = true := by
      rcases unlend_inv h1 with ⟨h, _⟩ | ⟨ds, rfl, h, _⟩
      · exact ⟨s, h, h3⟩
      · exact ⟨_, h, rfl⟩
    have g2 : ∃ t', ρ[j]? = some t' ∧ liveB t' = true := by
      rcases unlend_inv h2 with ⟨h, _⟩ | ⟨ds, rfl, h, _⟩
      · exact ⟨t, h, h4⟩
      · exact ⟨_, h, rfl⟩
    obtain ⟨s', q1, q2⟩ := g1
    obtain ⟨t', r1, r2⟩ := g2
    exact f.apart i j s' t' a ij q1 r1 q2 r2 h5 h6
theorem mut_lend {σ} {ρ : Env} {ls a} (m : Mut σ (lendL ls ρ) a) : Mut σ ρ a := by
  obtain ⟨i, s, h1, h2, h3⟩ := m
  rcases lend_inv h1 with ⟨h, _⟩ | ⟨ds, rfl, h, _⟩
  · exact ⟨i, s, h, h2, h3⟩
  · cases h2
theorem prv_lend {H σ} {ρ : Env} {ls a} : Prv H σ (lendL ls ρ) a ↔ Prv H σ ρ a := by
  constructor
  · rintro ⟨i, k, d, v, h1, h2, l⟩
    rcases lend_inv h1 with ⟨h, _⟩ | ⟨ds, z, _, _⟩
    · exact ⟨i, k, d, v, h, h2, l⟩
    · cases z
  · rintro ⟨i, k, d, v, h1, h2, l⟩
    exact ⟨i, k, d, v, by rw [lendL_at, h1], h2, l⟩
theorem prv_unlend {H σ} {ρ : Env} {ls a} (h : Prv H σ (unlend ls ρ) a) : Prv H σ ρ a := by
  obtain ⟨i, k, d, v, h1, h2, l⟩ := h
  rcases unlend_inv h1 with ⟨h, _⟩ | ⟨ds, z, _, _⟩
  · exact ⟨i, k, d, v, h, h2, l⟩
  · cases z
/-- a loop's way, with the lists it walks lent meanwhile -/
theorem Stp.unlend {A H σ ρ A' H' σ' ρ' ls} (ow : Owns ρ ls) (s : Stp A H σ (lendL ls ρ) A' H' σ' ρ') : Stp A H σ ρ A' H' σ' (unlend ls ρ') where
  ext := s.ext
  frame := fun a o h n n2 => s.frame a o h (fun m => n (mut_lend m)) fun m => n2 (prv_lend.mp m)
  dom := s.dom
  prv := fun a h => by
    rcases s.prv a (prv_unlend h) with m | m | m
    · exact .inl (mut_lend m)
    · exact .inr (.inl (prv_lend.mp m))
    · exact .inr (.inr m)
  sub := fun a ⟨i, t, h1, h2, h3⟩ => by
    rcases unlend_inv h1 with ⟨h, _⟩ | ⟨ds, rfl, h, hi⟩
    · rcases s.sub a ⟨i, t, h, h2, h3⟩ with m | m | m
      · exact .inl (mut_lend m)
      · exact .inr (.inl (prv_lend.mp m))
      · exact .inr (.inr m)
    · obtain ⟨e1, e2⟩ := s.lents i _ h rfl
      obtain ⟨es, q⟩ := ow i hi
      exact .inl ⟨i, _, q, rfl, by rw [← e2]; exact h3⟩
  mus := fun i ds h => by
    have : (lendL ls ρ)[i]? = some (.mu ds) := by rw [lendL_at, h]
    obtain ⟨e1, ds', e2⟩ := s.mus i ds this
    exact ⟨e1, ds', by rw [unlend_at, e2]⟩
  news := fun a h => by
    rcases s.news a h with q | q | q | q | ⟨i, ds, q1, q2⟩ | q
    · exact .inl q
    · exact .inr (.inl q)
    · exact .inr (.inr (.inl (mut_lend q)))
    · exact .inr (.inr (.inr (.inl (prv_lend.mp q))))
    · rcases lend_inv q1 with ⟨z, _⟩ | ⟨es, z1, z2, _⟩
      · exact .inr (.inr (.inr (.inr (.inl ⟨i, ds, z, q2⟩))))
      · exact .inr (.inr (.inl ⟨i, _, z2, rfl, q2⟩))
    · exact .inr (.inr (.inr (.inr (.inr q))))
  lents := fun i t h o => by
    rcases unlend_inv h with ⟨z, z2⟩ | ⟨ds, rfl, _, _⟩
    · obtain ⟨e1, e2⟩ := s.lents i t z o
      refine ⟨?_, e2⟩
      rcases lend_inv e1 with ⟨y, _⟩ | ⟨ds, y1, _, y3⟩
      · exact y
      · exact absurd y3 (z2 ds y1)
    · cases o
  fit := s.fit.unlend ls

/-! ### what is walked -/
/-- J walks ds, whatever happens to the rest, as long as the objects at G stay -/
def IterOk (A : Addr → Prop) (H : Hp) (G : Addr → Prop) (J : It) (ds : List D) : Prop :=
  (∀ a, G a → ∃ o, H a = some o) ∧ ∀ (A' : Addr → Prop) (H' : Hp), (∀ a, A a → A' a) → Keep A H H' → (∀ a o, G a → H a = some o → H' a = some o) → ∀ i : Nat,
    (i < ds.length → J.go i H') ∧ (ds.length ≤ i → J.stop i H') ∧
    ∀ x H'' d, ds[i]? = some d → J.yld i H' x H'' → (H'' = H' ∧ Rep A' H' x d) ∨ ∃ p o, ∃ B : Addr → Prop, H' p = none ∧ H'' = upd H' p o ∧ (∀ b, B b → ∃ vs, H' b = some (HO.tup vs)) ∧ Rep (fun b => (A' b ∨ b = p) ∨ B b) H'' x d
/-- frozen, or held by a slot -/
def Held (A : Addr → Prop) (σ : St) (ρ : Env) (a : Addr) : Prop := A a ∨ ∃ (j : Nat) (s : Slot), ρ[j]? = some s ∧ liveB s = true ∧ σ[j]? = some (some (.ref a))
theorem Fit.held_noprv {A H σ} {ρ : Env} {a : Addr} (f : Fit A H σ ρ) (h : Held A σ ρ a) : ¬ Prv H σ ρ a := by
  rcases h with h | ⟨j, s, h1, h2, h3⟩
  · exact f.noprv h
  · rintro ⟨i, k, d, v, e1, e2, l⟩
    exact (f.prv i k d v a e1 e2 l).1 j s h1 h2 h3
def SndI (X : Cx) (tg iter : Expr) (f : Env → Option (List D × Env × List Nat)) : Prop := ∃ wi : TI, PI X tg iter wi ∧
  ∀ A H σ ρ ds ρ0 ls, Fit A H σ ρ → f ρ = some (ds, ρ0, ls) → ∀ R : It → Hp → Prop,
    (∀ A' H' J G, Stp A H σ ρ A' H' σ ρ0 → IterOk A' H' G J ds → (∀ a, G a → ¬ Mut σ (lendL ls ρ0) a ∧ Held A' σ ρ0 a) → ds.length ≤ sizeLine → Owns ρ0 ls → R J H') → wi σ H R
section
variable {X : Cx} {N : List Str} {q : Sc} {F : FT} {tg : Expr}
/-- over a list or a tuple -/
def iSeq (K : PySem.W.Frag) (tl : TE) : TI := fun σ H R => tl σ H fun x H1 => (∃ a, x = .ref a ∧ (∃ xs, SqL K H1 a xs) ∧ R (Itl K a) H1) ∨ ∃ a, x = .ref a ∧ (∃ xs, SqT K H1 a xs) ∧ R (Itt K a) H1
theorem pi_seq {l : Expr} {tl : TE} (hl : PE X l tl) : PI X tg l (iSeq X.K tl) := by
  refine ⟨fun pins s σ H R I h => ?_⟩
  refine thn (hl.run pins s σ H _ I h) fun v s1 ⟨x, H1, I1, r1, q1⟩ => ?_
  rcases q1 with ⟨a, e, ⟨xs, hq⟩, q⟩ | ⟨a, e, ⟨xs, hq⟩, q⟩
  · subst e
    cases r1
    obtain ⟨its, rv, p, hz⟩ := I1.list hq
    refine wpAny_pyIter_list p.isList ?_
    refine ⟨s1.heap.objs.size, [s1.heap.objs.size], _, _, H1, rfl, I1.kept (t' := s1.toks) fun b o e => Heap.get?_push_of_some _ e, turn_list a _, ⟨_, Heap.get?_push_size _ rfl, rfl, rfl⟩, fun b hb => ?_, q⟩
    have e : b = s1.heap.objs.size := by simpa using hb
    subst e
    exact I1.fpOk (Nat.le_refl _) (I1.hok.fresh (Nat.le_refl _))
  · subst e
    cases r1
    obtain ⟨its, rv, p, hz⟩ := I1.tuple hq
    refine wpAny_pyIter_tuple (show s1.heap.IsTuple a its.toArray from p) ?_
    refine ⟨s1.heap.objs.size, [s1.heap.objs.size], _, _, H1, rfl, I1.kept (t' := s1.toks) fun b o e => Heap.get?_push_of_some _ e, turn_tuple a _, ⟨_, Heap.get?_push_size _ rfl, rfl, rfl⟩, fun b hb => ?_, q⟩
    have e : b = s1.heap.objs.size := by simpa using hb
    subst e
    exact I1.fpOk (Nat.le_refl _) (I1.hok.fresh (Nat.le_refl _))
def fSeq (fa : Env → Option (Opd × Env)) (ρ : Env) : Option (List D × Env × List Nat) := match fa ρ with
    | none => none
    | some (oa, ρ1) => if noMu oa ρ1 = false then none else match (oa.get ρ1).bind seqOf with
      | none => none
      | some ds => some (ds, ρ1, lends oa ρ1)
theorem owns_lends (o : Opd) (ρ : Env) : Owns ρ (lends o ρ) := by
  intro i hi
  unfold lends at hi
  split at hi
  · cases hi
  · split at hi
    · rename_i ds h; simp at hi; subst hi; exact ⟨ds, h⟩
    · cases hi
/-- an operand's own object is not changed while it is lent -/
theorem opd_safe {A H σ} {ρ : Env} {a : Addr} {o : Opd} (f : Fit A H σ ρ) (h : OpdOk A H σ (.ref a) o) (d : D) (hd : o.get ρ = some d) {ls} (hl : ∀ i ∈ lends o ρ, i ∈ ls) (nm : noMu o ρ = true) : ¬ Mut σ (lendL ls ρ) a := by
  rintro ⟨i, s, h1, h2, h3⟩
  have g : ∃ s0, ρ[i]? = some s0 ∧ mutS s0 = true ∧ (∀ ds, s0 = .own ds → i ∉ ls) := by
    rcases lend_inv h1 with ⟨z, n⟩ | ⟨ds, rfl, _, _⟩
    · exact ⟨s, z, h2, n⟩
    · cases h2
  obtain ⟨s0, z, hm, n⟩ := g
  have lv : live s0 = true := by cases s0 <;> first | rfl | (cases hm; done)
  cases o with
  | v d' =>
    have rep : Rep A H (.ref a) d' := h
    have ha : A a := by cases rep <;> assumption
    exact (f.slot i s0 _ z h3).nofz lv ha
  | sl j =>
    have hj : σ[j]? = some (some (.ref a)) := h
    by_cases e : i = j
    · subst e
      cases s0 with
      | own ds => exact n ds rfl (hl i (by simp [lends, z]))
      | mu ds => simp [noMu, z] at nm
      | dct kvs => simp [Opd.get, rd, z, Slot.d?] at hd
      | dtt kvs => simp [Opd.get, rd, z, Slot.d?] at hd
      | _ => cases hm
    · -- another slot: of what kind?
      simp only [Opd.get, rd] at hd
      have : ∃ t : Slot, ρ[j]? = some t := by
        split at hd
        · rename_i t ht; exact ⟨t, ht⟩
        · cases hd
      obtain ⟨t, ht⟩ := this
      by_cases lb : liveB t = true
      · exact f.apart i j s0 t a e z ht lv lb h3 hj
      · have q := f.slot j t _ ht hj
        cases t with
        | un => rw [ht] at hd; cases hd
        | fz d' =>
          obtain ⟨w, e1, rep⟩ := q
          cases e1
          have ha : A a := by cases rep <;> assumption
          exact (f.slot i s0 _ z h3).nofz lv ha
        | ro ds => rw [ht] at hd; cases hd
        | dp _ _ => rw [ht] at hd; cases hd
        | _ => exact absurd rfl lb
theorem opd_held {A H σ} {ρ : Env} {a : Addr} {o : Opd} (f : Fit A H σ ρ) (h : OpdOk A H σ (.ref a) o) (d : D) (hd : o.get ρ = some d) : Held A σ ρ a := by
  cases o with
  | v d' =>
    have rep : Rep A H (.ref a) d' := h
    exact .inl (by cases rep <;> assumption)
  | sl j =>
    have hj : σ[j]? = some (some (.ref a)) := h
    simp only [Opd.get, rd] at hd
    have : ∃ t : Slot, ρ[j]? = some t := by
      split at hd
      · rename_i t ht; exact ⟨t, ht⟩
      · cases hd
    obtain ⟨t, ht⟩ := this
    by_cases lb : liveB t = true
    · exact .inr ⟨j, t, ht, lb, hj⟩
    · have q := f.slot j t _ ht hj
      cases t with
      | un => rw [ht] at hd; cases hd
      | fz d' =>
        obtain ⟨w, e1, rep⟩ := q
        cases e1
        exact .inl (by cases rep <;> assumption)
      | ro ds => rw [ht] at hd; cases hd
      | dp _ _ => rw [ht] at hd; cases hd
      | _ => exact absurd rfl lb
theorem opd_safe2 {A H σ} {ρ : Env} {a : Addr} {o : Opd} (f : Fit A H σ ρ) (h : OpdOk A H σ (.ref a) o) (d : D) (hd : o.get ρ = some d) {ls} (hl : ∀ i ∈ lends o ρ, i ∈ ls) (nm : noMu o ρ = true) : ¬ Mut σ (lendL ls ρ) a ∧ Held A σ ρ a :=
  ⟨opd_safe f h d hd hl nm, opd_held f h d hd⟩
theorem rep_ref {A H v d} (h : RepR A H v d) (n : isFlat d = false) : ∃ a, v = .ref a := by
  rcases h with h | ⟨a, vs, ds, rfl, _⟩
  · cases h <;> first | (cases n; done) | exact ⟨_, rfl⟩
  · exact ⟨a, rfl⟩

theorem lend_own {ls : List Nat} {ρ : Env} (h : Owns ρ ls) : True := trivial
theorem iter_seqL {A H ds a vs} {K : PySem.W.Frag} (hr : H a = some (.lst vs)) (r : RepAll A H vs ds) : IterOk A H (fun b => b = a) (Itl K a) ds := by
  refine ⟨fun b e => ?_, fun A' H' e k kg i => ?_⟩
  · subst e
    exact ⟨_, hr⟩
  · have hr' : Rd H' a (.lst vs) := .inl (kg a _ rfl hr)
    have r' := RepAll.mono e k r
    refine ⟨fun hi => ?_, fun hi => ⟨vs, .inl hr', by rw [r.length]; exact hi⟩, fun x H'' d hd y => ?_⟩
    · obtain ⟨v, h1, _⟩ := r'.get i (List.getElem?_eq_getElem hi)
      exact ⟨vs, v, .inl hr', h1⟩
    · obtain ⟨rfl, y⟩ := y
      obtain ⟨v, h1, h2⟩ := r'.get i hd
      rw [y vs (.inl hr')] at h1
      cases h1
      exact .inl ⟨rfl, h2⟩
theorem iter_seqT {A H ds a vs} {K : PySem.W.Frag} (hr : H a = some (.tup vs)) (r : RepAll A H vs ds) : IterOk A H (fun b => b = a) (Itt K a) ds := by
  refine ⟨fun b e => ?_, fun A' H' e k kg i => ?_⟩
  · subst e
    exact ⟨_, hr⟩
  · have hr' : SqT K H' a vs := SqT.of (kg a _ rfl hr)
    have r' := RepAll.mono e k r
    refine ⟨fun hi => ?_, fun hi => ⟨vs, hr', by rw [r.length]; exact hi⟩, fun x H'' d hd y => ?_⟩
    · obtain ⟨v, h1, _⟩ := r'.get i (List.getElem?_eq_getElem hi)
      exact ⟨vs, v, hr', h1⟩
    · obtain ⟨rfl, y⟩ := y
      obtain ⟨v, h1, h2⟩ := r'.get i hd
      rw [y vs hr'] at h1
      cases h1
      exact .inl ⟨rfl, h2⟩
theorem sndI_seq {e fa} (ha : SndO X e fa) : SndI X tg e (fSeq fa) := by
  obtain ⟨ta, pa, qa⟩ := ha
  refine ⟨_, pi_seq pa, fun A H σ ρ ds ρ0 ls ft e R k => ?_⟩
  unfold fSeq at e
  split at e
  · cases e
  · rename_i oa ρ1 e1
    split at e
    · cases e
    · rename_i nm
      split at e
      · cases e
      · rename_i ds' e2
        cases e
        refine qa A H σ ρ oa ρ0 ft e1 _ fun A1 H1 v1 s1 k1 => ?_
        cases e3 : oa.get ρ0 with
        | none => rw [e3] at e2; cases e2
        | some d =>
          rw [e3] at e2
          have w := Opd.ok s1.fit k1 e3
          have nm' : noMu oa ρ0 = true := by simpa using nm
          cases d <;> simp only [Option.bind_some, seqOf, reduceCtorEq, Option.some.injEq] at e2
          · subst e2
            obtain ⟨a, vs, rfl, h1, h2, h3⟩ := w.list
            have sf := opd_safe2 s1.fit k1 _ e3 (ls := lends oa ρ0) (fun i h => h) nm'
            exact .inl ⟨a, rfl, ⟨vs, SqL.of h1⟩, k A1 H1 _ _ s1 (iter_seqL h1 h3) (fun b e => by subst e; exact sf) (by rw [← h3.length]; exact h2) (owns_lends _ _)⟩
          · subst e2
            obtain ⟨a, vs, rfl, h0, h1, h2, h3⟩ := w.tup
            have sf := opd_safe2 s1.fit k1 _ e3 (ls := lends oa ρ0) (fun i h => h) nm'
            exact .inr ⟨a, rfl, ⟨vs, SqT.of h1⟩, k A1 H1 _ _ s1 (iter_seqT h1 h3) (fun b e => by subst e; exact sf) (by rw [← h3.length]; exact h2) (owns_lends _ _)⟩
theorem rngD_len (a b : Int) : (rngD a b).length = (b - a).toNat := by unfold rngD; rw [List.length_map, List.length_range]
theorem rngD_get {a b : Int} {i : Nat} {d : D} (h : (rngD a b)[i]? = some d) : d = .int (a + i) := by
  unfold rngD at h
  rw [List.getElem?_map] at h
  cases e : (List.range (b - a).toNat)[i]? with
  | none => rw [e] at h; cases h
  | some j =>
    rw [e] at h
    cases h
    obtain ⟨hl, hj⟩ := List.getElem?_eq_some_iff.mp e
    rw [List.getElem_range] at hj
    subst hj
    rfl
theorem iter_rng {A H} (a b : Int) : IterOk A H (fun _ => False) (Itr a (b - a).toNat) (rngD a b) := by
  refine ⟨fun _ h => h.elim, fun A' H' e k kg i => ⟨fun h => ?_, fun h => ?_, fun x H'' d hd y => ?_⟩⟩
  · rw [rngD_len] at h; exact h
  · rw [rngD_len] at h; exact h
  · obtain ⟨rfl, rfl⟩ := y
    cases rngD_get hd
    exact .inl ⟨rfl, .int⟩
def fRng1 (fa : Env → Option (Res × Env)) (ρ : Env) : Option (List D × Env × List Nat) := match fa ρ with
    | some (.fr (.int i), ρ1) => if -(2 ^ 62) ≤ i ∧ i ≤ (sizeLine : Int) then some (rngD 0 i, ρ1, []) else none
    | _ => none
theorem owns_nil {ρ : Env} : Owns ρ [] := fun _ h => by cases h
theorem sndI_rng1 (C : CtxOk X N q F) {e p pos fa} (hg : glB q.sc (Str.ofString "range") = true) (hn : notStar e = true) (ha : SndE X e fa) : SndI X tg (.Call (.Name (Str.ofString "range") p) [e] [] pos) (fRng1 fa) := by
  obtain ⟨ta, pa, qa⟩ := ha
  refine ⟨_, pi_range1 (gl_of C hg) (C.bl "range" (by decide)) (pa_cons pa pa_nil (star_cons hn)) (star_cons hn), fun A H σ ρ ds ρ0 ls ft e R k => ?_⟩
  unfold fRng1 at e
  split at e
  · rename_i i ρ1 e1
    split at e
    · rename_i hz
      cases e
      refine qa A H σ ρ _ ρ0 ft e1 _ fun A1 H1 v1 s1 k1 => ?_
      cases k1
      have hs : (sizeLine : Int) < 2 ^ 62 := by decide
      refine ⟨i, rfl, hz.1, by omega, ?_⟩
      have := k A1 H1 _ _ s1 (iter_rng 0 i) (fun _ h => h.elim) (by rw [rngD_len]; omega) owns_nil
      simpa using this
    · cases e
  · cases e
theorem rngR_get {a b : Int} {i : Nat} {d : D} (h : (rngD a b).reverse[i]? = some d) : i < (b - a).toNat ∧ d = .int (a + (((b - a).toNat : Nat) : Int) - 1 + (i : Nat) * (-1)) := by
  have hi := (List.getElem?_eq_some_iff.mp h).1
  rw [List.length_reverse, rngD_len] at hi
  rw [List.getElem?_reverse (by rw [rngD_len]; exact hi), rngD_len] at h
  refine ⟨hi, ?_⟩
  rw [rngD_get h]
  congr 1
  omega
theorem iter_rngR {A H} (a b : Int) : IterOk A H (fun _ => False) (Itc (a + (((b - a).toNat : Nat) : Int) - 1) (-1) (b - a).toNat) (rngD a b).reverse := by
  refine ⟨fun _ h => h.elim, fun A' H' e k kg i => ⟨fun h => ?_, fun h => ?_, fun x H'' d hd y => ?_⟩⟩
  · rw [List.length_reverse, rngD_len] at h; exact h
  · rw [List.length_reverse, rngD_len] at h; exact h
  · obtain ⟨rfl, rfl⟩ := y
    obtain ⟨_, rfl⟩ := rngR_get hd
    exact .inl ⟨rfl, .int⟩
theorem dwnD_len (a b : Int) : (dwnD a b).length = (a - b).toNat := by unfold dwnD; rw [List.length_map, List.length_range]
theorem dwnD_get {a b : Int} {i : Nat} {d : D} (h : (dwnD a b)[i]? = some d) : d = .int (a + (i : Nat) * (-1)) := by
  unfold dwnD at h
  rw [List.getElem?_map] at h
  cases e : (List.range (a - b).toNat)[i]? with
  | none => rw [e] at h; cases h
  | some j =>
    rw [e] at h
    cases h
    obtain ⟨hl, hj⟩ := List.getElem?_eq_some_iff.mp e
    rw [List.getElem_range] at hj
    subst hj
    show PyData.int _ = PyData.int _
    congr 1
    rw [Int.mul_neg, Int.mul_one]
    rfl
theorem iter_dwn {A H} (a b : Int) : IterOk A H (fun _ => False) (Itc a (-1) (a - b).toNat) (dwnD a b) := by
  refine ⟨fun _ h => h.elim, fun A' H' e k kg i => ⟨fun h => ?_, fun h => ?_, fun x H'' d hd y => ?_⟩⟩
  · rw [dwnD_len] at h; exact h
  · rw [dwnD_len] at h; exact h
  · obtain ⟨rfl, rfl⟩ := y
    cases dwnD_get hd
    exact .inl ⟨rfl, .int⟩
def fRrng1 (fa : Env → Option (Res × Env)) (ρ : Env) : Option (List D × Env × List Nat) := match fa ρ with
    | some (.fr (.int i), ρ1) => if -(2 ^ 62) ≤ i ∧ i ≤ (sizeLine : Int) then some ((rngD 0 i).reverse, ρ1, []) else none
    | _ => none
theorem sndI_rrng1 (C : CtxOk X N q F) {e p pos p' pos' fa} (hg' : glB q.sc (Str.ofString "reversed") = true) (hg : glB q.sc (Str.ofString "range") = true) (hn : notStar e = true) (ha : SndE X e fa) :
    SndI X tg (.Call (.Name (Str.ofString "reversed") p') [.Call (.Name (Str.ofString "range") p) [e] [] pos] [] pos') (fRrng1 fa) := by
  obtain ⟨ta, pa, qa⟩ := ha
  refine ⟨_, pi_revR (gl_of C hg') (C.bl "reversed" (by decide)) (prg_1 (gl_of C hg) (C.bl "range" (by decide)) pa (star_cons hn)), fun A H σ ρ ds ρ0 ls ft e R k => ?_⟩
  unfold fRrng1 at e
  split at e
  · rename_i i ρ1 e1
    split at e
    · rename_i hz
      cases e
      refine qa A H σ ρ _ ρ0 ft e1 _ fun A1 H1 v1 s1 k1 => ?_
      cases k1
      have hs : (sizeLine : Int) < 2 ^ 62 := by decide
      refine ⟨i, rfl, by omega, by omega, hz.1, by omega, ?_⟩
      exact k A1 H1 _ _ s1 (iter_rngR 0 i) (fun _ h => h.elim) (by rw [List.length_reverse, rngD_len]; omega) owns_nil
    · cases e
  · cases e
def fRrng2 (fa fb : Env → Option (Res × Env)) (ρ : Env) : Option (List D × Env × List Nat) := match fa ρ with
    | some (.fr (.int i), ρ1) => match fb ρ1 with
      | some (.fr (.int j), ρ2) => if -(2 ^ 62) ≤ i ∧ i < 2 ^ 62 ∧ j < 2 ^ 62 ∧ -(2 ^ 62) ≤ j ∧ j - i ≤ (sizeLine : Int) then some ((rngD i j).reverse, ρ2, []) else none
      | _ => none
    | _ => none
theorem sndI_rrng2 (C : CtxOk X N q F) {e e' p pos p' pos' fa fb} (hg' : glB q.sc (Str.ofString "reversed") = true) (hg : glB q.sc (Str.ofString "range") = true) (hn : notStar e = true) (hn' : notStar e' = true) (ha : SndE X e fa) (hb : SndE X e' fb) :
    SndI X tg (.Call (.Name (Str.ofString "reversed") p') [.Call (.Name (Str.ofString "range") p) [e, e'] [] pos] [] pos') (fRrng2 fa fb) := by
  obtain ⟨ta, pa, qa⟩ := ha
  obtain ⟨tb, pb, qb⟩ := hb
  refine ⟨_, pi_revR (gl_of C hg') (C.bl "reversed" (by decide)) (prg_2 (gl_of C hg) (C.bl "range" (by decide)) pa pb (star_cons hn) (star_cons hn') (by rw [star_cons hn']; rfl)), fun A H σ ρ ds ρ0 ls ft e R k => ?_⟩
  unfold fRrng2 at e
  split at e
  · rename_i i ρ1 e1
    split at e
    · rename_i j ρ2 e2
      split at e
      · rename_i hz
        cases e
        refine qa A H σ ρ _ ρ1 ft e1 _ fun A1 H1 v1 s1 k1 => ?_
        cases k1
        refine qb A1 H1 σ ρ1 _ ρ0 s1.fit e2 _ fun A2 H2 v2 s2 k2 => ?_
        cases k2
        refine ⟨i, j, rfl, rfl, hz.1, hz.2.1, hz.2.2.2.1, hz.2.2.1, ?_⟩
        exact k A2 H2 _ _ (s1.trans s2) (iter_rngR i j) (fun _ h => h.elim) (by rw [List.length_reverse, rngD_len]; omega) owns_nil
      · cases e
    · cases e
  · cases e
def fDwn (fa fb : Env → Option (Res × Env)) (ρ : Env) : Option (List D × Env × List Nat) := match fa ρ with
    | some (.fr (.int i), ρ1) => match fb ρ1 with
      | some (.fr (.int j), ρ2) => if -(2 ^ 62) ≤ i ∧ i < 2 ^ 62 ∧ j < 2 ^ 62 ∧ -(2 ^ 62) ≤ j ∧ i - j ≤ (sizeLine : Int) then some (dwnD i j, ρ2, []) else none
      | _ => none
    | _ => none
theorem sndI_dwn (C : CtxOk X N q F) {e e' p pos k1 p1 p2 fa fb} (hg : glB q.sc (Str.ofString "range") = true) (hn : notStar e = true) (hn' : notStar e' = true) (ha : SndE X e fa) (hb : SndE X e' fb) :
    SndI X tg (.Call (.Name (Str.ofString "range") p) [e, e', .UnaryOp .USub (.Constant (.int 1) k1 p1) p2] [] pos) (fDwn fa fb) := by
  obtain ⟨ta, pa, qa⟩ := ha
  obtain ⟨tb, pb, qb⟩ := hb
  have hn3 : notStar (.UnaryOp .USub (.Constant (.int 1) k1 p1) p2) = true := rfl
  refine ⟨_, pi_range3 (gl_of C hg) (C.bl "range" (by decide)) (pa_cons pa (pa_cons pb (pa_cons (pe_un un_neg pe_int) pa_nil (star_cons hn3)) (star_cons hn')) (star_cons hn)) (star_cons hn) (by rw [star_cons hn', star_cons hn3]; rfl), fun A H σ ρ ds ρ0 ls ft e R k => ?_⟩
  unfold fDwn at e
  split at e
  · rename_i i ρ1 e1
    split at e
    · rename_i j ρ2 e2
      split at e
      · rename_i hz
        cases e
        refine qa A H σ ρ _ ρ1 ft e1 _ fun A1 H1 v1 s1 k1 => ?_
        cases k1
        refine qb A1 H1 σ ρ1 _ ρ0 s1.fit e2 _ fun A2 H2 v2 s2 k2 => ?_
        cases k2
        refine ⟨1, rfl, i, j, -1, (i - j).toNat, rfl, RgC.neg hz.1 hz.2.1 hz.2.2.2.1 hz.2.2.1, ?_⟩
        exact k A2 H2 _ _ (s1.trans s2) (iter_dwn i j) (fun _ h => h.elim) (by rw [dwnD_len]; omega) owns_nil
      · cases e
    · cases e
  · cases e
def fRng2 (fa fb : Env → Option (Res × Env)) (ρ : Env) : Option (List D × Env × List Nat) := match fa ρ with
    | some (.fr (.int i), ρ1) => match fb ρ1 with
      | some (.fr (.int j), ρ2) => if -(2 ^ 62) ≤ i ∧ i < 2 ^ 62 ∧ j < 2 ^ 62 ∧ -(2 ^ 62) ≤ j ∧ j - i ≤ (sizeLine : Int) then some (rngD i j, ρ2, []) else none
      | _ => none
    | _ => none
theorem sndI_rng2 (C : CtxOk X N q F) {e e' p pos fa fb} (hg : glB q.sc (Str.ofString "range") = true) (hn : notStar e = true) (hn' : notStar e' = true) (ha : SndE X e fa) (hb : SndE X e' fb) : SndI X tg (.Call (.Name (Str.ofString "range") p) [e, e'] [] pos) (fRng2 fa fb) := by
  obtain ⟨ta, pa, qa⟩ := ha
  obtain ⟨tb, pb, qb⟩ := hb
  refine ⟨_, pi_range2 (gl_of C hg) (C.bl "range" (by decide)) (pa_cons pa (pa_cons pb pa_nil (star_cons hn')) (star_cons hn)) (by rw [star_cons hn, star_cons hn']; rfl) (star_cons hn'), fun A H σ ρ ds ρ0 ls ft e R k => ?_⟩
  unfold fRng2 at e
  split at e
  · rename_i i ρ1 e1
    split at e
    · rename_i j ρ2 e2
      split at e
      · rename_i hz
        cases e
        refine qa A H σ ρ _ ρ1 ft e1 _ fun A1 H1 v1 s1 k1 => ?_
        cases k1
        refine qb A1 H1 σ ρ1 _ ρ0 s1.fit e2 _ fun A2 H2 v2 s2 k2 => ?_
        cases k2
        refine ⟨i, j, rfl, ⟨hz.1, hz.2.1, hz.2.2.2.1, hz.2.2.1⟩, ?_⟩
        exact k A2 H2 _ _ (s1.trans s2) (iter_rng i j) (fun _ h => h.elim) (by rw [rngD_len]; omega) owns_nil
      · cases e
    · cases e
  · cases e
end
/-! ### zip, enumerate, reversed -/
theorem upd_keep {A : Addr → Prop} {H : Hp} {p : Addr} {o : HO} (h : H p = none) : Keep A H (upd H p o) := fun a o' _ e => by
  have : a ≠ p := fun z => by subst z; rw [h] at e; cases e
  rw [upd_ne this]; exact e
theorem rep_pair {A H x y dx dy} {p : Addr} (h : H p = none) (h1 : Rep A H x dx) (h2 : Rep A H y dy) : Rep (fun b => A b ∨ b = p) (upd H p (.tup [x, y])) (.ref p) (.tuple [dx, dy]) :=
  .tup (.inr rfl) (by simp [upd]) (by show 2 ≤ sizeLine; decide) (.cons (h1.mono (fun _ h => .inl h) (upd_keep h)) (.cons (h2.mono (fun _ h => .inl h) (upd_keep h)) .nil))
theorem pairD_get {xs ys : List D} {i : Nat} {d : D} (h : (pairD xs ys)[i]? = some d) : ∃ a b, xs[i]? = some a ∧ ys[i]? = some b ∧ d = .tuple [a, b] := by
  unfold pairD at h
  rw [List.getElem?_map] at h
  cases e : (xs.zip ys)[i]? with
  | none => rw [e] at h; cases h
  | some p =>
    rw [e] at h
    cases h
    rw [List.getElem?_zip_eq_some] at e
    exact ⟨_, _, e.1, e.2, rfl⟩
theorem pairD_len (xs ys : List D) : (pairD xs ys).length = min xs.length ys.length := by simp [pairD]
theorem enumD_len (xs : List D) : (enumD xs).length = xs.length := by simp [enumD]
theorem enumD_get {xs : List D} {i : Nat} {d : D} (h : (enumD xs)[i]? = some d) : ∃ a, xs[i]? = some a ∧ d = .tuple [.int (i : Nat), a] := by
  unfold enumD at h
  rw [List.getElem?_map, List.getElem?_zipIdx] at h
  cases e : xs[i]? with
  | none => rw [e] at h; cases h
  | some p => rw [e] at h; cases h; exact ⟨p, rfl, by simp⟩
theorem iter_zipL {A H a b vs ws xs ys} {K : PySem.W.Frag} (ha : H a = some (.lst vs)) (hb : H b = some (.lst ws)) (r1 : RepAll A H vs xs) (r2 : RepAll A H ws ys) :
    IterOk A H (fun c => c = a ∨ c = b) (Itz K a b) (pairD xs ys) := by
  refine ⟨fun c e => ?_, fun A' H' e k kg i => ?_⟩
  · rcases e with rfl | rfl
    · exact ⟨_, ha⟩
    · exact ⟨_, hb⟩
  · have ga : SqL K H' a vs := SqL.of (kg a _ (.inl rfl) ha)
    have gb : SqL K H' b ws := SqL.of (kg b _ (.inr rfl) hb)
    have r1' := RepAll.mono e k r1
    have r2' := RepAll.mono e k r2
    refine ⟨fun hi => ?_, fun hi => ⟨vs, ws, ga, gb, by rw [pairD_len] at hi; rw [r1.length, r2.length]; omega⟩, fun x H'' d hd y => ?_⟩
    · obtain ⟨dx, dy, h1, h2, _⟩ := pairD_get (List.getElem?_eq_getElem hi)
      obtain ⟨v, h3, _⟩ := r1'.get i h1
      obtain ⟨w, h4, _⟩ := r2'.get i h2
      exact ⟨vs, ws, v, w, ga, gb, h3, h4⟩
    · obtain ⟨T, x0, y0, rfl, hT, rfl, hx, hy⟩ := y
      obtain ⟨dx, dy, h1, h2, rfl⟩ := pairD_get hd
      obtain ⟨v, h3, h3'⟩ := r1'.get i h1
      obtain ⟨w, h4, h4'⟩ := r2'.get i h2
      rw [hx vs ga] at h3; cases h3
      rw [hy ws gb] at h4; cases h4
      exact .inr ⟨T, _, fun _ => False, hT, rfl, fun _ z => z.elim, Rep.mono (fun _ => .inl) (fun _ _ _ e => e) (rep_pair hT h3' h4')⟩
theorem iter_zipT {A H a b vs ws xs ys} {K : PySem.W.Frag} (ha : H a = some (.tup vs)) (hb : H b = some (.tup ws)) (r1 : RepAll A H vs xs) (r2 : RepAll A H ws ys) :
    IterOk A H (fun c => c = a ∨ c = b) (RZ.ItzT K a b) (pairD xs ys) := by
  refine ⟨fun c e => ?_, fun A' H' e k kg i => ?_⟩
  · rcases e with rfl | rfl
    · exact ⟨_, ha⟩
    · exact ⟨_, hb⟩
  · have ga : SqT K H' a vs := SqT.of (kg a _ (.inl rfl) ha)
    have gb : SqT K H' b ws := SqT.of (kg b _ (.inr rfl) hb)
    have r1' := RepAll.mono e k r1
    have r2' := RepAll.mono e k r2
    refine ⟨fun hi => ?_, fun hi => ⟨vs, ws, ga, gb, by rw [pairD_len] at hi; rw [r1.length, r2.length]; omega⟩, fun x H'' d hd y => ?_⟩
    · obtain ⟨dx, dy, h1, h2, _⟩ := pairD_get (List.getElem?_eq_getElem hi)
      obtain ⟨v, h3, _⟩ := r1'.get i h1
      obtain ⟨w, h4, _⟩ := r2'.get i h2
      exact ⟨vs, ws, v, w, ga, gb, h3, h4⟩
    · obtain ⟨T, x0, y0, rfl, hT, rfl, hx, hy⟩ := y
      obtain ⟨dx, dy, h1, h2, rfl⟩ := pairD_get hd
      obtain ⟨v, h3, h3'⟩ := r1'.get i h1
      obtain ⟨w, h4, h4'⟩ := r2'.get i h2
      rw [hx vs ga] at h3; cases h3
      rw [hy ws gb] at h4; cases h4
      exact .inr ⟨T, _, fun _ => False, hT, rfl, fun _ z => z.elim, Rep.mono (fun _ => .inl) (fun _ _ _ e => e) (rep_pair hT h3' h4')⟩
theorem iter_enumL {A H a vs xs} {K : PySem.W.Frag} (ha : H a = some (.lst vs)) (r1 : RepAll A H vs xs) : IterOk A H (fun c => c = a) (Ite K a) (enumD xs) := by
  refine ⟨fun c e => ?_, fun A' H' e k kg i => ?_⟩
  · subst e; exact ⟨_, ha⟩
  · have ga : SqL K H' a vs := SqL.of (kg a _ rfl ha)
    have r1' := RepAll.mono e k r1
    refine ⟨fun hi => ?_, fun hi => ⟨vs, ga, by rw [enumD_len] at hi; rw [r1.length]; exact hi⟩, fun x H'' d hd y => ?_⟩
    · obtain ⟨dx, h1, _⟩ := enumD_get (List.getElem?_eq_getElem hi)
      obtain ⟨v, h3, _⟩ := r1'.get i h1
      exact ⟨vs, v, ga, h3⟩
    · obtain ⟨T, x0, rfl, hT, rfl, hx⟩ := y
      obtain ⟨dx, h1, rfl⟩ := enumD_get hd
      obtain ⟨v, h3, h3'⟩ := r1'.get i h1
      rw [hx vs ga] at h3; cases h3
      exact .inr ⟨T, _, fun _ => False, hT, rfl, fun _ z => z.elim, Rep.mono (fun _ => .inl) (fun _ _ _ e => e) (rep_pair hT .int h3')⟩
theorem iter_revL {A H a vs xs} {K : PySem.W.Frag} (ha : H a = some (.lst vs)) (r1 : RepAll A H vs xs) : IterOk A H (fun c => c = a) (Itv K a vs.length) xs.reverse := by
  refine ⟨fun c e => ?_, fun A' H' e k kg i => ?_⟩
  · subst e; exact ⟨_, ha⟩
  · have ga : SqL K H' a vs := SqL.of (kg a _ rfl ha)
    have r1' := RepAll.mono e k r1
    have r2' := r1'.reverse
    have hl := r1.length
    refine ⟨fun hi => ?_, fun hi => ?_, fun x H'' d hd y => ?_⟩
    · rw [List.length_reverse, ← hl] at hi
      obtain ⟨v, h3, _⟩ := r1'.get (vs.length - 1 - i) (List.getElem?_eq_getElem (by omega))
      exact ⟨hi, vs, v, ga, h3⟩
    · rw [List.length_reverse, ← hl] at hi; exact hi
    · obtain ⟨rfl, hx⟩ := y
      have hi : i < xs.length := by
        have := (List.getElem?_eq_some_iff.mp hd).1
        rwa [List.length_reverse] at this
      rw [List.getElem?_reverse hi, ← hl] at hd
      obtain ⟨v, h3, h3'⟩ := r1'.get _ hd
      rw [hx vs ga] at h3; cases h3
      exact .inl ⟨rfl, h3'⟩
theorem iter_revT {A H a vs xs} {K : PySem.W.Frag} (ha : H a = some (.tup vs)) (r1 : RepAll A H vs xs) : IterOk A H (fun c => c = a) (RT.ItvT K a vs.length) xs.reverse := by
  refine ⟨fun c e => ?_, fun A' H' e k kg i => ?_⟩
  · subst e; exact ⟨_, ha⟩
  · have ga : SqT K H' a vs := SqT.of (kg a _ rfl ha)
    have r1' := RepAll.mono e k r1
    have hl := r1.length
    refine ⟨fun hi => ?_, fun hi => ?_, fun x H'' d hd y => ?_⟩
    · rw [List.length_reverse, ← hl] at hi
      obtain ⟨v, h3, _⟩ := r1'.get (vs.length - 1 - i) (List.getElem?_eq_getElem (by omega))
      exact ⟨hi, vs, v, ga, h3⟩
    · rw [List.length_reverse, ← hl] at hi; exact hi
    · obtain ⟨rfl, hx⟩ := y
      have hi : i < xs.length := by
        have := (List.getElem?_eq_some_iff.mp hd).1
        rwa [List.length_reverse] at this
      rw [List.getElem?_reverse hi, ← hl] at hd
      obtain ⟨v, h3, h3'⟩ := r1'.get _ hd
      rw [hx vs ga] at h3; cases h3
      exact .inl ⟨rfl, h3'⟩
def fEnm (fa : Env → Option (Opd × Env)) (ρ : Env) : Option (List D × Env × List Nat) := match fa ρ with
    | none => none
    | some (oa, ρ1) => if noMu oa ρ1 = false then none else match (oa.get ρ1).bind seqOf with
      | some ds => some (enumD ds, ρ1, lends oa ρ1)
      | none => none
def fRev (fa : Env → Option (Opd × Env)) (ρ : Env) : Option (List D × Env × List Nat) := match fa ρ with
    | none => none
    | some (oa, ρ1) => if noMu oa ρ1 = false then none else match (oa.get ρ1).bind seqOf with
      | none => none
      | some ds => some (ds.reverse, ρ1, lends oa ρ1)
def fZip (fa fb : Env → Option (Opd × Env)) (ρ : Env) : Option (List D × Env × List Nat) := match fa ρ with
    | none => none
    | some (oa, ρ1) => match fb ρ1 with
      | none => none
      | some (ob, ρ2) => if noMu oa ρ2 = false then none else if noMu ob ρ2 = false then none else match oa.get ρ2 with
        | some (.list xs) => (match ob.get ρ2 with
          | some (.list ys) => some (pairD xs ys, ρ2, lends oa ρ2 ++ lends ob ρ2)
          | _ => none)
        | some (.tuple xs) => (match ob.get ρ2 with
          | some (.tuple ys) => some (pairD xs ys, ρ2, lends oa ρ2 ++ lends ob ρ2)
          | _ => none)
        | _ => none
section
variable {X : Cx} {N : List Str} {q : Sc} {F : FT} {elts : List Expr} {kk : Nat} {tpos : Pos}
theorem iter_enumT {A H a vs xs} {K : PySem.W.Frag} (ha : H a = some (.tup vs)) (r1 : RepAll A H vs xs) : IterOk A H (fun c => c = a) (IteT K a) (enumD xs) := by
  refine ⟨fun b e => by subst e; exact ⟨_, ha⟩, fun A' H' e k kg i => ?_⟩
  have ga : SqT K H' a vs := SqT.of (kg a _ rfl ha)
  have r1' := RepAll.mono e k r1
  have hl := r1.length
  refine ⟨fun hi => ?_, fun hi => ?_, fun x H'' d hd y => ?_⟩
  · rw [enumD_len] at hi
    obtain ⟨v, h3, _⟩ := r1'.get i (List.getElem?_eq_getElem hi)
    exact ⟨vs, v, ga, h3⟩
  · rw [enumD_len] at hi
    exact ⟨vs, ga, by rw [hl]; exact hi⟩
  · obtain ⟨T, w, rfl, hn, rfl, hx⟩ := y
    obtain ⟨dx, e1, rfl⟩ := enumD_get hd
    obtain ⟨v, h3, h3'⟩ := r1'.get i e1
    rw [hx vs ga] at h3; cases h3
    exact .inr ⟨T, _, fun _ => False, hn, rfl, fun _ z => z.elim, Rep.mono (fun _ => .inl) (fun _ _ _ e => e) (rep_pair hn .int h3')⟩
theorem sndI_enm (C : CtxOk X N q F) {e p pos fa} (hg : glB q.sc (Str.ofString "enumerate") = true) (hn : notStar e = true) (ha : SndO X e fa) : SndI X (.Tuple elts kk tpos) (.Call (.Name (Str.ofString "enumerate") p) [e] [] pos) (fEnm fa) := by
  obtain ⟨ta, pa, qa⟩ := ha
  refine ⟨_, pi_enumA (gl_of C hg) (C.bl "enumerate" (by decide)) (pa_cons pa pa_nil (star_cons hn)) (star_cons hn), fun A H σ ρ ds ρ0 ls ft e R k => ?_⟩
  unfold fEnm at e
  split at e
  · cases e
  · rename_i oa ρ1 e1
    split at e
    · cases e
    · rename_i nm
      split at e
      · rename_i ds' e2
        cases e
        refine qa A H σ ρ oa ρ0 ft e1 _ fun A1 H1 v1 s1 k1 => ?_
        cases e3 : oa.get ρ0 with
        | none => rw [e3] at e2; cases e2
        | some d =>
          rw [e3] at e2
          have w := Opd.ok s1.fit k1 e3
          have nm' : noMu oa ρ0 = true := by simpa using nm
          cases d <;> simp only [Option.bind_some, seqOf, reduceCtorEq, Option.some.injEq] at e2
          · subst e2
            obtain ⟨a, vs, rfl, h1, h2, h3⟩ := w.list
            have sf := opd_safe2 s1.fit k1 _ e3 (ls := lends oa ρ0) (fun i h => h) nm'
            exact ⟨a, vs, rfl, .inl ⟨SqL.of h1, k A1 H1 _ _ s1 (iter_enumL h1 h3) (fun b e => by subst e; exact sf) (by rw [enumD_len, ← h3.length]; exact h2) (owns_lends _ _)⟩⟩
          · subst e2
            obtain ⟨a, vs, rfl, h0, h1, h2, h3⟩ := w.tup
            have sf := opd_safe2 s1.fit k1 _ e3 (ls := lends oa ρ0) (fun i h => h) nm'
            exact ⟨a, vs, rfl, .inr ⟨SqT.of h1, k A1 H1 _ _ s1 (iter_enumT h1 h3) (fun b e => by subst e; exact sf) (by rw [enumD_len, ← h3.length]; exact h2) (owns_lends _ _)⟩⟩
      · cases e
theorem sndI_rev (C : CtxOk X N q F) {tg e p pos fa} (hg : glB q.sc (Str.ofString "reversed") = true) (hn : notStar e = true) (ha : SndO X e fa) : SndI X tg (.Call (.Name (Str.ofString "reversed") p) [e] [] pos) (fRev fa) := by
  obtain ⟨ta, pa, qa⟩ := ha
  refine ⟨_, RT.pi_revA (gl_of C hg) (C.bl "reversed" (by decide)) pa (star_cons hn), fun A H σ ρ ds ρ0 ls ft e R k => ?_⟩
  unfold fRev at e
  split at e
  · cases e
  · rename_i oa ρ1 e1
    split at e
    · cases e
    · rename_i nm
      split at e
      · cases e
      · rename_i ds' e2
        cases e
        refine qa A H σ ρ oa ρ0 ft e1 _ fun A1 H1 v1 s1 k1 => ?_
        cases e3 : oa.get ρ0 with
        | none => rw [e3] at e2; cases e2
        | some d =>
          rw [e3] at e2
          have w := Opd.ok s1.fit k1 e3
          have nm' : noMu oa ρ0 = true := by simpa using nm
          cases d <;> simp only [Option.bind_some, seqOf, reduceCtorEq, Option.some.injEq] at e2
          · subst e2
            obtain ⟨a, vs, rfl, h1, h2, h3⟩ := w.list
            have sf := opd_safe2 s1.fit k1 _ e3 (ls := lends oa ρ0) (fun i h => h) nm'
            exact ⟨a, vs, rfl, .inl ⟨SqL.of h1, k A1 H1 _ _ s1 (iter_revL h1 h3) (fun b e => by subst e; exact sf) (by rw [List.length_reverse, ← h3.length]; exact h2) (owns_lends _ _)⟩⟩
          · subst e2
            obtain ⟨a, vs, rfl, h0, h1, h2, h3⟩ := w.tup
            have sf := opd_safe2 s1.fit k1 _ e3 (ls := lends oa ρ0) (fun i h => h) nm'
            exact ⟨a, vs, rfl, .inr ⟨SqT.of h1, k A1 H1 _ _ s1 (iter_revT h1 h3) (fun b e => by subst e; exact sf) (by rw [List.length_reverse, ← h3.length]; exact h2) (owns_lends _ _)⟩⟩
theorem owns_app {ρ : Env} {a b : List Nat} (h1 : Owns ρ a) (h2 : Owns ρ b) : Owns ρ (a ++ b) := fun i hi => (List.mem_append.mp hi).elim (h1 i) (h2 i)
theorem sndI_zip (C : CtxOk X N q F) {e e2 p pos fa fb} (hg : glB q.sc (Str.ofString "zip") = true) (hn : notStar e = true) (hn2 : notStar e2 = true) (ha : SndO X e fa) (hb : SndO X e2 fb) : SndI X (.Tuple elts kk tpos) (.Call (.Name (Str.ofString "zip") p) [e, e2] [] pos) (fZip fa fb) := by
  obtain ⟨ta, pa, qa⟩ := ha
  obtain ⟨tb, pb, qb⟩ := hb
  refine ⟨_, RZ.pi_zipA (gl_of C hg) (C.bl "zip" (by decide)) (pa_cons pa (pa_cons pb pa_nil (star_cons hn2)) (star_cons hn)) (star_cons hn) (by rw [star_cons hn2]; rfl), fun A H σ ρ ds ρ0 ls ft e R k => ?_⟩
  unfold fZip at e
  split at e
  · cases e
  · rename_i oa ρ1 e1
    split at e
    · cases e
    · rename_i ob ρ2 e2
      split at e
      · cases e
      · rename_i nm
        split at e
        · cases e
        · rename_i nn
          have nm' : noMu oa ρ2 = true := by simpa using nm
          have nn' : noMu ob ρ2 = true := by simpa using nn
          split at e
          · rename_i xs g1
            split at e
            · rename_i ys g2
              cases e
              refine qa A H σ ρ oa ρ1 ft e1 _ fun A1 H1 v1 s1 k1 => qb A1 H1 σ ρ1 ob ρ0 s1.fit e2 _ fun A2 H2 v2 s2 k2 => ?_
              have k1' := k1.mono s2.ext (s2.keep s1.fit)
              obtain ⟨a, vs, rfl, h1, h2, h3⟩ := (Opd.ok s2.fit k1' g1).list
              obtain ⟨b, ws, rfl, h4, h5, h6⟩ := (Opd.ok s2.fit k2 g2).list
              have sf := opd_safe2 s2.fit k1' _ g1 (ls := lends oa ρ0 ++ lends ob ρ0) (fun i h => List.mem_append.mpr (.inl h)) nm'
              have sg := opd_safe2 s2.fit k2 _ g2 (ls := lends oa ρ0 ++ lends ob ρ0) (fun i h => List.mem_append.mpr (.inr h)) nn'
              refine ⟨a, b, vs, ws, rfl, .inl ⟨SqL.of h1, SqL.of h4, k A2 H2 _ _ (s1.trans s2) (iter_zipL h1 h4 h3 h6) (fun c e => ?_) (by rw [pairD_len, ← h3.length]; omega) (owns_app (owns_lends _ _) (owns_lends _ _))⟩⟩
              rcases e with rfl | rfl
              · exact sf
              · exact sg
            · cases e
          · rename_i xs g1
            split at e
            · rename_i ys g2
              cases e
              refine qa A H σ ρ oa ρ1 ft e1 _ fun A1 H1 v1 s1 k1 => qb A1 H1 σ ρ1 ob ρ0 s1.fit e2 _ fun A2 H2 v2 s2 k2 => ?_
              have k1' := k1.mono s2.ext (s2.keep s1.fit)
              obtain ⟨a, vs, rfl, h0, h1, h2, h3⟩ := (Opd.ok s2.fit k1' g1).tup
              obtain ⟨b, ws, rfl, h0', h4, h5, h6⟩ := (Opd.ok s2.fit k2 g2).tup
              have sf := opd_safe2 s2.fit k1' _ g1 (ls := lends oa ρ0 ++ lends ob ρ0) (fun i h => List.mem_append.mpr (.inl h)) nm'
              have sg := opd_safe2 s2.fit k2 _ g2 (ls := lends oa ρ0 ++ lends ob ρ0) (fun i h => List.mem_append.mpr (.inr h)) nn'
              refine ⟨a, b, vs, ws, rfl, .inr ⟨SqT.of h1, SqT.of h4, k A2 H2 _ _ (s1.trans s2) (iter_zipT h1 h4 h3 h6) (fun c e => ?_) (by rw [pairD_len, ← h3.length]; omega) (owns_app (owns_lends _ _) (owns_lends _ _))⟩⟩
              rcases e with rfl | rfl
              · exact sf
              · exact sg
            · cases e
          · cases e
end
end Ev

set_option maxRecDepth 100000
/-! Ev10: targets; comprehensions. -/
namespace Ev
open PySem L2
variable [TheK]

/-! ### names are stored -/
theorem put_inv {i s ρ ρ'} (h : put i s ρ = some ρ') : ∃ t, ρ[i]? = some t ∧ (∀ ds, t ≠ .mu ds) ∧ ρ' = ρ.set i s := by
  unfold put at h
  split at h
  · cases h
  · rename_i t n ht
    cases h
    exact ⟨t, ht, fun ds e => n ds (by rw [e]), rfl⟩
  · cases h
theorem set_dp {σ : St} {ρ : Env} {i : Nat} {s : Slot} {v} (nd : ∀ k d, s ≠ .dp k d) : ∀ (j : Nat) k d, (ρ.set i s)[j]? = some (.dp k d) → ρ[j]? = some (.dp k d) ∧ (σ.set i v)[j]? = σ[j]? := fun j k d h => by
  rcases get_set h with ⟨_, z⟩ | ⟨e, z⟩
  · exact absurd z.symm (nd k d)
  · exact ⟨z, List.getElem?_set_ne e⟩
theorem stp_fz {A H σ v d} {ρ : Env} {i : Nat} {t : Slot} (f : Fit A H σ ρ) (ht : ρ[i]? = some t) (nm : ∀ ds, t ≠ .mu ds) (r : Rep A H v d) : Stp A H σ ρ A H (σ.set i (some v)) (ρ.set i (.fz d)) := by
  have other : ∀ (j : Nat) (s : Slot), (ρ.set i (.fz d))[j]? = some s → (i = j ∧ s = .fz d) ∨ (i ≠ j ∧ ρ[j]? = some s ∧ (σ.set i (some v))[j]? = σ[j]?) := fun j s h => by
    rcases get_set h with ⟨e, z⟩ | ⟨e, z⟩
    · exact .inl ⟨e, z⟩
    · exact .inr ⟨e, z, List.getElem?_set_ne e⟩
  refine ⟨fun _ h => h, fun _ _ h _ _ => h, fun _ h => h, fun a ⟨j, s, h1, h2, h3⟩ => ?_, fun j ds h => ?_, fun _ h => .inl h, fun j s h o => ?_, fun a h => .inr (.inl (f.prv_back (set_dp (fun _ _ e => by cases e)) (fun _ _ _ h => h) (fun _ _ _ h => h) a h)), ⟨by rw [List.length_set, List.length_set]; exact f.len, fun j s ov h1 h2 => ?_, fun j l s u a jl h1 h2 h3 h4 h5 h6 => ?_, f.trk, f.prv_go (set_dp (fun _ _ e => by cases e)) (fun _ _ _ h => h) (fun _ _ _ h => h) fun j s a h1 h2 h3 => ?_⟩⟩
  · rcases other j s h1 with ⟨_, rfl⟩ | ⟨_, z, e⟩
    · cases h2
    · rw [e] at h3; exact .inl ⟨j, s, z, h2, h3⟩
  · have ij : i ≠ j := fun e => by subst e; rw [ht] at h; cases h; exact nm ds rfl
    exact ⟨List.getElem?_set_ne ij, ds, by rw [List.getElem?_set_ne ij]; exact h⟩
  · rcases other j s h with ⟨_, rfl⟩ | ⟨_, z, e⟩
    · cases o
    · exact ⟨z, e⟩
  · rcases other j s h1 with ⟨rfl, rfl⟩ | ⟨_, z, e⟩
    · have : (σ.set i (some v))[i]? = some (some v) := List.getElem?_set_self (by rw [f.len]; exact (List.getElem?_eq_some_iff.mp ht).1)
      rw [this] at h2; cases h2
      exact ⟨v, rfl, r⟩
    · rw [e] at h2; exact f.slot j s ov z h2
  · rcases other j s h1 with ⟨_, rfl⟩ | ⟨_, z, e⟩
    · cases h3
    · rcases other l u h2 with ⟨_, rfl⟩ | ⟨_, z', e'⟩
      · cases h4
      · rw [e] at h5; rw [e'] at h6
        exact f.apart j l s u a jl z z' h3 h4 h5 h6
  · rcases other j s h1 with ⟨_, rfl⟩ | ⟨_, z, e⟩
    · cases h2
    · rw [e] at h3; exact .inl ⟨j, s, z, h2, h3⟩
/-- a new list gets a name -/
theorem stp_own {A0 H0 σ0 ρ0 A H σ v ds} {ρ : Env} {i : Nat} {t : Slot} (s : Stp A0 H0 σ0 ρ0 A H σ ρ) (ht : ρ[i]? = some t) (nm : ∀ es, t ≠ .mu es) (h0 : ∀ es, ρ0[i]? = some (.mu es) → False) (r : ResOk A H0 H σ ρ v (.nw ds)) : Stp A0 H0 σ0 ρ0 A H (σ.set i (some v)) (ρ.set i (.own ds)) := by
  obtain ⟨p, vs, rfl, r1, r2, r3, r4, r5, r6, r7⟩ := r
  have other : ∀ (j : Nat) (s : Slot), (ρ.set i (.own ds))[j]? = some s → (i = j ∧ s = .own ds ∧ (σ.set i (some (.ref p)))[j]? = some (some (.ref p))) ∨ (i ≠ j ∧ ρ[j]? = some s ∧ (σ.set i (some (.ref p)))[j]? = σ[j]?) := fun j u h => by
    rcases get_set h with ⟨e, z⟩ | ⟨e, z⟩
    · subst e
      exact .inl ⟨rfl, z, List.getElem?_set_self (by rw [s.fit.len]; exact (List.getElem?_eq_some_iff.mp ht).1)⟩
    · exact .inr ⟨e, z, List.getElem?_set_ne e⟩
  refine ⟨s.ext, s.frame, s.dom, fun a ⟨j, u, h1, h2, h3⟩ => ?_, fun j es h => ?_, s.news, fun j u h o => ?_, fun a h => s.prv a (s.fit.prv_back (set_dp (fun _ _ e => by cases e)) (fun _ _ _ h => h) (fun _ _ _ h => h) a h), ⟨by rw [List.length_set, List.length_set]; exact s.fit.len, fun j u ov h1 h2 => ?_, fun j l u w a jl h1 h2 h3 h4 h5 h6 => ?_, s.fit.trk, ?_⟩⟩
  · rcases other j u h1 with ⟨_, rfl, e⟩ | ⟨_, z, e⟩
    · rw [e] at h3; cases h3; exact .inr (.inr r5)
    · rw [e] at h3; exact s.sub a ⟨j, u, z, h2, h3⟩
  · have ij : i ≠ j := fun e => by subst e; exact h0 es h
    obtain ⟨e1, es', e2⟩ := s.mus j es h
    exact ⟨by rw [List.getElem?_set_ne ij]; exact e1, es', by rw [List.getElem?_set_ne ij]; exact e2⟩
  · rcases other j u h with ⟨_, rfl, _⟩ | ⟨_, z, e⟩
    · cases o
    · rw [e]; exact s.lents j u z o
  · rcases other j u h1 with ⟨rfl, rfl, e⟩ | ⟨_, z, e⟩
    · rw [e] at h2; cases h2; exact ⟨p, vs, rfl, r1, r2, r3, r4⟩
    · rw [e] at h2; exact s.fit.slot j u ov z h2
  · rcases other j u h1 with ⟨rfl, rfl, e⟩ | ⟨_, z, e⟩
    · rw [e] at h5; cases h5
      rcases other l w h2 with ⟨rfl, _, _⟩ | ⟨_, z', e'⟩
      · exact jl rfl
      · rw [e'] at h6; exact r6 l w z' h4 h6
    · rcases other l w h2 with ⟨rfl, rfl, e'⟩ | ⟨_, z', e'⟩
      · rw [e'] at h6; cases h6
        rw [e] at h5; exact r6 j u z (liveB_of h3) h5
      · rw [e] at h5; rw [e'] at h6
        exact s.fit.apart j l u w a jl z z' h3 h4 h5 h6
  · intro j k d v a h1 h2 l
    obtain ⟨z, e⟩ := set_dp (σ := σ) (v := some (.ref p)) (fun _ _ e => by cases e) j k d h1
    rw [e] at h2
    obtain ⟨q1, q2⟩ := s.fit.prv j k d v a z h2 l
    refine ⟨fun l' w e1 e2 e3 => ?_, fun l' k' d' v' hj e1 e2 => ?_⟩
    · rcases other l' w e1 with ⟨rfl, rfl, e'⟩ | ⟨_, z', e'⟩
      · rw [e'] at e3; cases e3
        exact r7 ⟨j, k, d, v, z, h2, l⟩
      · rw [e'] at e3; exact q1 l' w z' e2 e3
    · obtain ⟨z', e'⟩ := set_dp (σ := σ) (v := some (.ref p)) (fun _ _ e => by cases e) l' k' d' e1
      rw [e'] at e2
      exact q2 l' k' d' v' hj z' e2

mutual
def tslots : T → List Nat
  | .name i => [i]
  | .tup ts => tsslots ts
def tsslots : Ts → List Nat
  | .nil => []
  | .cons t ts => tslots t ++ tsslots ts
end
def OnlyAt (vs : List Nat) (σ σ' : St) : Prop := σ'.length = σ.length ∧ ∀ i, i ∉ vs → σ'[i]? = σ[i]?
theorem OnlyAt.trans {vs σ σ1 σ2} (a : OnlyAt vs σ σ1) (b : OnlyAt vs σ1 σ2) : OnlyAt vs σ σ2 := ⟨b.1.trans a.1, fun i h => (b.2 i h).trans (a.2 i h)⟩
theorem OnlyAt.mono {vs ws σ σ'} (a : OnlyAt vs σ σ') (h : ∀ i ∈ vs, i ∈ ws) : OnlyAt ws σ σ' := ⟨a.1, fun i n => a.2 i fun z => n (h i z)⟩
theorem wipe_at : ∀ (vs : List Nat) (σ : St) (i : Nat), (wipe σ vs)[i]? = if i ∈ vs then (if i < σ.length then some none else none) else σ[i]?
  | [], σ, i => by simp [wipe]
  | v :: r, σ, i => by
    unfold wipe
    by_cases e : v = i
    · subst e
      by_cases hl : v < σ.length
      · rw [List.getElem?_set_self (by rw [wipe_length]; exact hl)]; simp [hl]
      · rw [List.getElem?_eq_none (by rw [List.length_set, wipe_length]; omega)]; simp [hl]
    · rw [List.getElem?_set_ne e, wipe_at r]
      simp [Ne.symm e]
theorem wipe_only {vs σ σ'} (h : OnlyAt vs σ σ') : wipe σ' vs = wipe σ vs := by
  apply List.ext_getElem?
  intro i
  rw [wipe_at, wipe_at]
  split
  · rw [h.1]
  · rename_i n; exact h.2 i n
theorem wipe_wipe {vs σ} : wipe (wipe σ vs) vs = wipe σ vs := by
  apply List.ext_getElem?
  intro i
  rw [wipe_at, wipe_at, wipe_length]
  split <;> rfl
def SndG (X : Cx) (tg : Expr) (t : T) : Prop := ∃ g : TG, PG X tg g ∧
  ∀ A H σ ρ v d ρ', Fit A H σ ρ → Rep A H v d → asgT t d ρ = some ρ' → ∀ Q : St → Hp → Prop, (∀ σ', Stp A H σ ρ A H σ' ρ' → OnlyAt (tslots t) σ σ' → Q σ' H) → g v σ H Q
def SndGs (X : Cx) (tgs : List Expr) (ts : Ts) : Prop := ∃ g : TGs, PGs X tgs g ∧
  ∀ A H σ ρ vs ds ρ', Fit A H σ ρ → RepAll A H vs ds → asgTs ts ds ρ = some ρ' → ∀ Q : St → Hp → Prop, (∀ σ', Stp A H σ ρ A H σ' ρ' → OnlyAt (tsslots ts) σ σ' → Q σ' H) → g vs σ H Q
def locB (q : Sc) (x : Str) : Bool := match q.sc.names.lookup x with
  | some .local => true
  | some .cell => q.fs x
  | _ => false
section
variable {X : Cx} {N : List Str} {q : Sc} {F : FT}
theorem loc_of (C : CtxOk X N q F) {x} (h : locB q x = true) : Loc X.env.scope x ∧ (X.fn x = true ∨ X.env.scope.names.lookup x = some .local) := by
  unfold locB at h
  rw [C.sc, C.fn]
  split at h
  · exact ⟨.inl (by assumption), .inr (by assumption)⟩
  · exact ⟨.inr (by assumption), .inl h⟩
  · cases h
theorem only_set {σ : St} {i : Nat} {v} : OnlyAt [i] σ (σ.set i v) := ⟨List.length_set, fun j h => List.getElem?_set_ne (fun e => h (by simp [e]))⟩
theorem sndG_name (C : CtxOk X N q F) {i x pos} (hN : N[i]? = some x) (hl : locB q x = true) : SndG X (.Name x pos) (.name i) := by
  obtain ⟨h1, h2⟩ := loc_of C hl
  refine ⟨_, pg_name C.nd (by rw [C.N]; exact hN) h1 h2, fun A H σ ρ v d ρ' ft r e Q k => ?_⟩
  simp only [asgT] at e
  obtain ⟨t, ht, nm, rfl⟩ := put_inv e
  exact k _ (stp_fz ft ht nm r) only_set
theorem sndGs_nil : SndGs X [] .nil := by
  refine ⟨_, pgs_nil, fun A H σ ρ vs ds ρ' ft r e Q k => ?_⟩
  cases r with
  | nil => simp only [asgTs] at e; cases e; exact ⟨rfl, k σ (Stp.refl ft) ⟨rfl, fun _ _ => rfl⟩⟩
  | cons _ _ => simp only [asgTs] at e; cases e
theorem assign_cons {e : Expr} {es : List Expr} {env : PySem.Env} (h : notStar e = true) : assignEach (e :: es) env = (false, assign e env) :: assignEach es env := by
  cases e <;> first | rfl | cases h
theorem sndGs_cons {e es t ts} (hn : notStar e = true) (h : SndG X e t) (hs : SndGs X es ts) : SndGs X (e :: es) (.cons t ts) := by
  obtain ⟨g, pg, qg⟩ := h
  obtain ⟨gs, pgs, qgs⟩ := hs
  refine ⟨_, pgs_cons pg pgs (by rw [assign_cons hn]; rfl), fun A H σ ρ vs ds ρ' ft r e Q k => ?_⟩
  cases r with
  | nil => simp only [asgTs] at e; cases e
  | cons r1 r2 =>
    simp only [asgTs] at e
    split at e
    · rename_i ρ1 e1
      refine ⟨_, _, rfl, qg A H σ ρ _ _ ρ1 ft r1 e1 _ fun σ1 s1 o1 => ?_⟩
      refine qgs A H σ1 ρ1 _ _ ρ' s1.fit r2 e _ fun σ2 s2 o2 => ?_
      exact k σ2 (s1.trans s2) ((o1.mono fun i h => List.mem_append_left _ h).trans (o2.mono fun i h => List.mem_append_right _ h))
    · cases e
theorem assign_len {es : List Expr} {env : PySem.Env} : (assignEach es env).length = es.length := by
  induction es with
  | nil => rfl
  | cons e r ih => cases e <;> simp [assignEach, ih]
theorem assign_nostar {es : List Expr} {env : PySem.Env} (h : es.all notStar = true) : (assignEach es env).findIdx? (·.1) = none := by
  induction es with
  | nil => rfl
  | cons e r ih =>
    rw [List.all_cons, Bool.and_eq_true] at h
    rw [assign_cons h.1, List.findIdx?_cons]
    simp [ih h.2]
theorem asgTs_len : ∀ {ts ds ρ ρ'}, asgTs ts ds ρ = some ρ' → ∀ {tgs}, SndGs X tgs ts → True := fun _ _ _ => trivial
def tsLen : Ts → Nat
  | .nil => 0
  | .cons _ ts => tsLen ts + 1
theorem asgTs_tsLen : ∀ {ts ds ρ ρ'}, asgTs ts ds ρ = some ρ' → ds.length = tsLen ts
  | .nil, [], _, _, _ => rfl
  | .nil, _ :: _, _, _, e => by simp [asgTs] at e
  | .cons _ _, [], _, _, e => by simp [asgTs] at e
  | .cons t ts, d :: ds, ρ, ρ', e => by
    simp only [asgTs] at e
    split at e
    · simp [tsLen, asgTs_tsLen e]
    · cases e
theorem sndG_tup (C : CtxOk X N q F) {es k pos ts} (hl : es.length = tsLen ts) (st : es.all notStar = true) (h : SndGs X es ts) : SndG X (.Tuple es k pos) (.tup ts) := by
  obtain ⟨g, pg, qg⟩ := h
  refine ⟨_, pg_tup C.calm pg assign_len (assign_nostar st), fun A H σ ρ v d ρ' ft r e Q k => ?_⟩
  cases r with
  | tup h1 h2 h3 h4 =>
    simp only [asgT] at e
    exact ⟨_, _, rfl, SqT.of h2, by rw [h4.length, asgTs_tsLen e, hl], qg A H σ ρ _ _ ρ' ft h4 e Q fun σ' s o => k σ' s o⟩
  | _ => simp only [asgT] at e; cases e

/-! ### readings that hang on the evaluator alone -/
def tE (f : Env → Option (Res × Env)) : TE := fun σ H Q => ∃ A ρ r ρ', Fit A H σ ρ ∧ f ρ = some (r, ρ') ∧ ∀ A' H' v, Stp A H σ ρ A' H' σ ρ' → Rep A' H' v r.d → Q v H'
def tT (f : Env → Option (Bool × Env)) : TT := fun σ H Q => ∃ A ρ b ρ', Fit A H σ ρ ∧ f ρ = some (b, ρ') ∧ ∀ A' H', Stp A H σ ρ A' H' σ ρ' → Q b H'
def gT (t : T) : TG := fun v σ H Q => ∃ A ρ d ρ', Fit A H σ ρ ∧ Rep A H v d ∧ asgT t d ρ = some ρ' ∧ ∀ σ', Stp A H σ ρ A H σ' ρ' → OnlyAt (tslots t) σ σ' → Q σ' H
theorem SndE.pe {e f} (h : SndE X e f) : PE X e (tE f) := by
  obtain ⟨t, p, hq⟩ := h.d
  exact ⟨fun pins s σ H Q I ⟨A, ρ, r, ρ', ft, e, k⟩ => p.run pins s σ H Q I (hq A H σ ρ r ρ' ft e Q k)⟩
theorem SndG.pg {tg t} (h : SndG X tg t) : PG X tg (gT t) := by
  obtain ⟨g, p, hq⟩ := h
  exact ⟨fun pins s σ H v u Q I rv ⟨A, ρ, d, ρ', ft, r, e, k⟩ => p.run pins s σ H v u Q I rv (hq A H σ ρ v d ρ' ft r e Q k)⟩
/-- the tests of a comprehension -/
def SndC (X : Cx) (ifs : List Expr) (f : Env → Option (Bool × Env)) : Prop := ∃ t : TT, PTs X ifs t ∧
  ∀ A H σ ρ b ρ', Fit A H σ ρ → f ρ = some (b, ρ') → ∀ Q : Bool → Hp → Prop, (∀ A' H', Stp A H σ ρ A' H' σ ρ' → Q b H') → t σ H Q
theorem SndC.pts {ifs f} (h : SndC X ifs f) : PTs X ifs (tT f) := by
  obtain ⟨t, p, hq⟩ := h
  exact ⟨fun pins s σ H Q I ⟨A, ρ, b, ρ', ft, e, k⟩ => p.run pins s σ H Q I (hq A H σ ρ b ρ' ft e Q k)⟩
theorem sndC_nil : SndC X [] (fun ρ => some (true, ρ)) := ⟨_, pts_nil, fun A H σ ρ b ρ' ft e Q k => by cases e; exact k A H (Stp.refl ft)⟩
def fCond (fa : Env → Option (Res × Env)) (ρ : Env) : Option (Bool × Env) := match fa ρ with
    | some (.fr (.bool i), ρ1) => some (i, ρ1)
    | _ => none
theorem sndC_one {e f} (h : SndT X e f) : SndC X [e] (fCond f) := by
  obtain ⟨t, p, hq⟩ := h
  refine ⟨_, pts_one p, fun A H σ ρ b ρ' ft e Q k => ?_⟩
  unfold fCond at e
  split at e
  · rename_i i ρ1 e1
    cases e
    exact hq A H σ ρ b ρ' ft e1 Q k
  · cases e
end
end Ev

set_option maxRecDepth 100000
/-! Ev11: list comprehensions. -/
namespace Ev
open PySem L2
variable [TheK]

theorem wipeE_len : ∀ (vs : List Nat) (ρ : Env), (wipeE vs ρ).length = ρ.length
  | [], ρ => rfl
  | v :: r, ρ => by unfold wipeE; rw [List.length_set, wipeE_len r]
theorem wipeE_at : ∀ (vs : List Nat) (ρ : Env) (i : Nat), (wipeE vs ρ)[i]? = if i ∈ vs then (if i < ρ.length then some .un else none) else ρ[i]?
  | [], ρ, i => by simp [wipeE]
  | v :: r, ρ, i => by
    unfold wipeE
    by_cases e : v = i
    · subst e
      by_cases hl : v < ρ.length
      · rw [List.getElem?_set_self (by rw [wipeE_len]; exact hl)]; simp [hl]
      · rw [List.getElem?_eq_none (by rw [List.length_set, wipeE_len]; omega)]; simp [hl]
    · rw [List.getElem?_set_ne e, wipeE_at r]
      simp [Ne.symm e]
theorem backE_len : ∀ (vs : List Nat) (ρ0 ρ : Env), (backE vs ρ0 ρ).length = ρ.length
  | [], _, ρ => rfl
  | v :: r, ρ0, ρ => by
    unfold backE
    split
    · rw [List.length_set, backE_len r]
    · exact backE_len r ρ0 ρ
theorem backE_at : ∀ (vs : List Nat) (ρ0 ρ : Env) (i : Nat), ρ0.length = ρ.length → (backE vs ρ0 ρ)[i]? = if i ∈ vs then ρ0[i]? else ρ[i]?
  | [], ρ0, ρ, i, _ => by simp [backE]
  | v :: r, ρ0, ρ, i, hl => by
    unfold backE
    split
    · rename_i s hs
      by_cases e : v = i
      · subst e
        rw [List.getElem?_set_self (by rw [backE_len, ← hl]; exact (List.getElem?_eq_some_iff.mp hs).1)]
        simp [hs]
      · rw [List.getElem?_set_ne e, backE_at r ρ0 ρ i hl]
        simp [Ne.symm e]
    · rename_i hn
      rw [backE_at r ρ0 ρ i hl]
      by_cases e : i = v
      · subst e
        have h0 : ρ0[i]? = none := hn
        have h1 : ρ[i]? = none := List.getElem?_eq_none (by rw [← hl]; exact List.getElem?_eq_none_iff.mp h0)
        simp [h0, h1]
      · simp [e]
theorem wipeE_inv {vs ρ} {i : Nat} {s : Slot} (h : (wipeE vs ρ)[i]? = some s) : s = .un ∨ (i ∉ vs ∧ ρ[i]? = some s) := by
  rw [wipeE_at] at h
  split at h
  · split at h
    · cases h; exact .inl rfl
    · cases h
  · rename_i n; exact .inr ⟨n, h⟩
theorem wipe_dp {vs σ ρ} : ∀ (i : Nat) k d, (wipeE vs ρ)[i]? = some (.dp k d) → ρ[i]? = some (.dp k d) ∧ (wipe σ vs)[i]? = σ[i]? := fun i k d h => by
  rcases wipeE_inv h with e | ⟨n, h⟩
  · cases e
  · exact ⟨h, by rw [wipe_at, if_neg n]⟩
theorem wipe_at_not {vs σ} {i : Nat} (h : i ∉ vs) : (wipe σ vs)[i]? = σ[i]? := by rw [wipe_at, if_neg h]
theorem Stp.wipe {A H σ0 ρ0 A' H' σ ρ vs} (s : Stp A H σ0 ρ0 A' H' σ ρ) (nm : ∀ i ∈ vs, ∀ ds, ρ0[i]? = some (.mu ds) → False) : Stp A H σ0 ρ0 A' H' (wipe σ vs) (wipeE vs ρ) where
  ext := s.ext
  frame := s.frame
  dom := s.dom
  sub := fun a ⟨i, t, h1, h2, h3⟩ => by
    rcases wipeE_inv h1 with rfl | ⟨n, h⟩
    · cases h2
    · rw [wipe_at_not n] at h3; exact s.sub a ⟨i, t, h, h2, h3⟩
  mus := fun i ds h => by
    have n : i ∉ vs := fun z => nm i z ds h
    obtain ⟨e1, ds', e2⟩ := s.mus i ds h
    exact ⟨by rw [wipe_at_not n]; exact e1, ds', by rw [wipeE_at, if_neg n]; exact e2⟩
  news := s.news
  prv := fun a h => s.prv a (s.fit.prv_back wipe_dp (fun _ _ _ z => z) (fun _ _ _ z => z) a h)
  lents := fun i t h o => by
    rcases wipeE_inv h with rfl | ⟨n, h⟩
    · cases o
    · rw [wipe_at_not n]; exact s.lents i t h o
  fit := by
    refine ⟨by rw [wipe_length, wipeE_len]; exact s.fit.len, fun i t ov h1 h2 => ?_, fun i j t u a ij h1 h2 h3 h4 h5 h6 => ?_, s.fit.trk, s.fit.prv_go wipe_dp (fun _ _ _ z => z) (fun _ _ _ z => z) fun j t a h1 h2 h3 => ?_⟩
    · rcases wipeE_inv h1 with rfl | ⟨n, h⟩
      · trivial
      · rw [wipe_at_not n] at h2; exact s.fit.slot i t ov h h2
    · rcases wipeE_inv h1 with rfl | ⟨n, h⟩
      · cases h3
      · rcases wipeE_inv h2 with rfl | ⟨n', h'⟩
        · cases h4
        · rw [wipe_at_not n] at h5; rw [wipe_at_not n'] at h6
          exact s.fit.apart i j t u a ij h h' h3 h4 h5 h6
    · rcases wipeE_inv h1 with rfl | ⟨n, h⟩
      · cases h2
      · rw [wipe_at_not n] at h3; exact .inl ⟨j, t, h, h2, h3⟩
/-- the names of the block are what they were -/
theorem Stp.back {A H σ ρ0 A' H' ρ vs} (f : Fit A H σ ρ0) (s : Stp A H σ ρ0 A' H' (L2.wipe σ vs) ρ) (qt : ∀ i ∈ vs, ∃ t, ρ0[i]? = some t ∧ quietS t = true) : Stp A H σ ρ0 A' H' σ (backE vs ρ0 ρ) := by
  have hl : ρ0.length = ρ.length := by rw [← f.len, ← s.fit.len, wipe_length]
  have inv : ∀ (i : Nat) (t : Slot), (backE vs ρ0 ρ)[i]? = some t → (i ∈ vs ∧ ρ0[i]? = some t ∧ quietS t = true) ∨ (i ∉ vs ∧ ρ[i]? = some t) := fun i t h => by
    rw [backE_at vs ρ0 ρ i hl] at h
    split at h
    · rename_i hi
      obtain ⟨u, q1, q2⟩ := qt i hi
      rw [h] at q1; cases q1
      exact .inl ⟨hi, h, q2⟩
    · rename_i hi; exact .inr ⟨hi, h⟩
  have hd : ∀ (i : Nat) k d, (backE vs ρ0 ρ)[i]? = some (.dp k d) → ρ[i]? = some (.dp k d) ∧ σ[i]? = (L2.wipe σ vs)[i]? := fun i k d h => by
    rcases inv i _ h with ⟨_, _, z⟩ | ⟨n, z⟩
    · cases z
    · exact ⟨z, by rw [wipe_at_not n]⟩
  refine ⟨s.ext, s.frame, s.dom, fun a ⟨i, t, h1, h2, h3⟩ => ?_, fun i ds h => ?_, s.news, fun i t h o => ?_, fun a h => s.prv a (s.fit.prv_back hd (fun _ _ _ z => z) (fun _ _ _ z => z) a h), ⟨by rw [backE_len, ← hl]; exact f.len, fun i t ov h1 h2 => ?_, fun i j t u a ij h1 h2 h3 h4 h5 h6 => ?_, s.fit.trk, s.fit.prv_go hd (fun _ _ _ z => z) (fun _ _ _ z => z) fun j t a h1 h2 h3 => ?_⟩⟩
  · rcases inv i t h1 with ⟨_, _, z⟩ | ⟨n, z⟩
    · cases t <;> first | (cases h2; done) | (cases z; done)
    · exact s.sub a ⟨i, t, z, h2, by rw [wipe_at_not n]; exact h3⟩
  · have n : i ∉ vs := fun z => by
      obtain ⟨u, q1, q2⟩ := qt i z
      rw [h] at q1; cases q1; cases q2
    obtain ⟨_, ds', e2⟩ := s.mus i ds h
    exact ⟨rfl, ds', by rw [backE_at vs ρ0 ρ i hl, if_neg n]; exact e2⟩
  · rcases inv i t h with ⟨_, _, z⟩ | ⟨n, z⟩
    · cases t <;> first | (cases o; done) | (cases z; done)
    · exact ⟨(s.lents i t z o).1, rfl⟩
  · rcases inv i t h1 with ⟨_, z, z2⟩ | ⟨n, z⟩
    · exact (f.slot i t ov z h2).go s.ext (s.keep f) (fun a o lb => by cases t <;> first | (cases lb; done) | (cases z2; done)) (fun a lv => by cases t <;> first | (cases lv; done) | (cases z2; done)) (fun a o u e => s.frame a _ e (fun m => (f.mut_nofrz m _ _ e).elim) fun ⟨i', k', d', v', y1, y2, y3⟩ => by obtain ⟨_, ws, y4⟩ := f.lr y1 y2 y3; rw [e] at y4; cases y4) (fun kk d v a o e => by subst e; cases z2) (fun kk d v a e => by subst e; cases z2)
    · exact s.fit.slot i t ov z (by rw [wipe_at_not n]; exact h2)
  · rcases inv i t h1 with ⟨_, _, z⟩ | ⟨n, z⟩
    · cases t <;> first | (cases h3; done) | (cases z; done)
    · rcases inv j u h2 with ⟨_, _, z'⟩ | ⟨n', z'⟩
      · cases u <;> first | (cases h4; done) | (cases z'; done)
      · exact s.fit.apart i j t u a ij z z' h3 h4 (by rw [wipe_at_not n]; exact h5) (by rw [wipe_at_not n']; exact h6)
  · rcases inv j t h1 with ⟨_, _, z⟩ | ⟨n, z⟩
    · cases t <;> first | (cases h2; done) | (cases z; done)
    · exact .inl ⟨j, t, z, h2, by rw [wipe_at_not n]; exact h3⟩
/-- no slot holds the object at D -/
def NoRef (H : Hp) (σ : St) (ρ : Env) (D : Addr) : Prop := (∀ (j : Nat) (s : Slot), ρ[j]? = some s → liveB s = true → σ[j]? ≠ some (some (.ref D))) ∧ ¬ Prv H σ ρ D
theorem NoRef.new {A H σ ρ D} (f : Fit A H σ ρ) (h : H D = none) : NoRef H σ ρ D := ⟨fun j s h1 h2 => f.noref h j s h1 h2, f.noprv_none h⟩
theorem NoRef.nomut {H σ ρ D} (n : NoRef H σ ρ D) : ¬ Mut σ ρ D := fun ⟨i, s, h1, h2, h3⟩ => n.1 i s h1 (by cases s <;> first | rfl | (cases h2; done)) h3
theorem NoRef.wipe {A H σ ρ D} (f : Fit A H σ ρ) (n : NoRef H σ ρ D) (vs : List Nat) : NoRef H (L2.wipe σ vs) (wipeE vs ρ) D := ⟨fun j s h1 h2 h3 => by
    rcases wipeE_inv h1 with rfl | ⟨m, h⟩
    · cases h2
    · rw [wipe_at_not m] at h3; exact n.1 j s h h2 h3, fun h => n.2 (f.prv_back wipe_dp (fun _ _ _ z => z) (fun _ _ _ z => z) D h)⟩
theorem NoRef.stp {A H σ ρ A' H' σ' ρ' D o} (n : NoRef H σ ρ D) (s : Stp A H σ ρ A' H' σ' ρ') (h : H D = some o) : NoRef H' σ' ρ' D := ⟨fun j t h1 h2 h3 => by
    by_cases hm : mutS t = true
    · rcases s.sub D ⟨j, t, h1, hm, h3⟩ with q | q | q
      · exact n.nomut q
      · exact n.2 q
      · rw [h] at q; cases q
    · have ho : oldS t = true := by cases t <;> first | rfl | (cases h2; done) | exact absurd rfl hm
      obtain ⟨e1, e2⟩ := s.lents j t h1 ho
      exact n.1 j t e1 h2 (by rw [← e2]; exact h3), fun p => by
    rcases s.prv D p with q | q | q
    · exact n.nomut q
    · exact n.2 q
    · rw [h] at q; cases q⟩
theorem nofrz_stp {A H σ ρ A' H' σ' ρ' D o} (na : ¬ A D) (n : NoRef H σ ρ D) (s : Stp A H σ ρ A' H' σ' ρ') (h : H D = some o) (ht : ∀ vs, o ≠ .tup vs := by intro _ z; cases z) : ¬ A' D := fun z => by
  rcases s.news D z with q | q | q | q | ⟨i, ds, q1, q2⟩ | ⟨vs, q⟩
  · exact na q
  · rw [h] at q; cases q
  · exact n.nomut q
  · exact n.2 q
  · exact n.1 i _ q1 rfl q2
  · rw [h] at q; cases q; exact ht _ rfl
theorem keep_other {A : Addr → Prop} {H : Hp} {D : Addr} {g : Hp} (hg : ∀ a, a ≠ D → g a = H a) (na : ¬ A D) : Keep A H g := fun b u hb e => by
  have : b ≠ D := fun z => na (z ▸ hb)
  rw [hg b this]; exact e
theorem prv_other {H σ ρ D} {g : Hp} (hg : ∀ a, a ≠ D → g a = H a) (n : ¬ Prv H σ ρ D) : ∀ a o, Prv H σ ρ a → H a = some o → g a = some o := fun b u hb e => by
  have : b ≠ D := fun z => n (z ▸ hb)
  rw [hg b this]; exact e
theorem NoRef.go {A H σ ρ D} {g : Hp} (f : Fit A H σ ρ) (n : NoRef H σ ρ D) (hg : ∀ a, a ≠ D → g a = H a) (na : ¬ A D) : NoRef g σ ρ D :=
  ⟨n.1, fun h => n.2 (f.prv_back (fun _ _ _ z => ⟨z, rfl⟩) (keep_other hg na) (prv_other hg n.2) D h)⟩
theorem NoRef.go_back {A H σ ρ D} {g : Hp} (n : NoRef H σ ρ D) (f : Fit A H σ ρ) (hg : ∀ a, a ≠ D → g a = H a) (na : ¬ A D) : ∀ a, Prv g σ ρ a → Prv H σ ρ a :=
  f.prv_back (fun _ _ _ z => ⟨z, rfl⟩) (keep_other hg na) (prv_other hg n.2)
/-- an object that nobody of these holds is written, or goes -/
theorem Stp.oth {A H σ ρ A' H' σ' ρ' D} {g : Hp} (s : Stp A H σ ρ A' H' σ' ρ') (h0 : H D = none) (na : ¬ A' D) (n : NoRef H' σ' ρ' D) (hd : ∀ o u, H' D ≠ some (.frz o u)) (hg : ∀ a, a ≠ D → g a = H' a) : Stp A H σ ρ A' g σ' ρ' := by
  have k : Keep A' H' g := keep_other hg na
  refine ⟨s.ext, fun a u e m m2 => ?_, fun a e => ?_, s.sub, s.mus, s.news, s.lents, fun a h => s.prv a (s.fit.prv_back (fun _ _ _ z => ⟨z, rfl⟩) k (prv_other hg n.2) a h), ⟨s.fit.len, fun i t ov h1 h2 => ?_, s.fit.apart, fun a ha => let ⟨u, e⟩ := s.fit.trk a ha; ⟨u, k a u ha e⟩, s.fit.prv_go (fun _ _ _ z => ⟨z, rfl⟩) k (prv_other hg n.2) fun j t a h1 h2 h3 => .inl ⟨j, t, h1, h2, h3⟩⟩⟩
  · rw [hg a (ne_of_none e h0)]; exact s.frame a u e m m2
  · by_cases z : a = D
    · subst z; exact h0
    · rw [hg a z] at e; exact s.dom a e
  · exact (s.fit.slot i t ov h1 h2).go (fun _ z => z) k (fun a u lb e z => by
      subst e
      have : a ≠ D := fun y => by subst y; exact n.1 i t h1 lb h2
      rw [hg a this]; exact z) (fun a lv e => by subst e; exact (s.fit.slot i t _ h1 h2).nofz lv) (fun a o u e => (by
      have : a ≠ D := fun y => by subst y; exact hd o u e
      rw [hg a this]; exact e)) (fun kk d v a o e1 e2 l e3 => by
      subst e1 e2
      exact prv_other hg n.2 a o ⟨i, kk, d, v, h1, h2, l⟩ e3) (fun kk d v a e1 e2 l => by
      subst e1 e2
      exact (s.fit.lr h1 h2 l).1)
theorem Stp.other {A H σ ρ A' H' σ' ρ' D o} (s : Stp A H σ ρ A' H' σ' ρ') (h0 : H D = none) (na : ¬ A' D) (n : NoRef H' σ' ρ' D) (hd : ∀ o u, H' D ≠ some (.frz o u)) : Stp A H σ ρ A' (upd H' D o) σ' ρ' :=
  s.oth h0 na n hd fun a h => upd_ne h
theorem NoRef.upd {A H σ ρ D o} (f : Fit A H σ ρ) (n : NoRef H σ ρ D) (na : ¬ A D) : NoRef (L2.upd H D o) σ ρ D := n.go f (fun a h => upd_ne h) na
def stepC (t : T) (vs : List Nat) (fc : Env → Option (Bool × Env)) (fe : Env → Option (Res × Env)) (d : D) (ρ : Env) : Option (Option D × Env) := match asgT t d ρ with
        | none => none
        | some ρa => match fc ρa with
          | none => none
          | some (false, ρb) => some (none, wipeE vs ρb)
          | some (true, ρb) => match fe ρb with
            | none => none
            | some (r, ρc) => some (some r.d, wipeE vs ρc)
def fComp (t : T) (vs : List Nat) (fi : Env → Option (List D × Env × List Nat)) (fc : Env → Option (Bool × Env)) (fe : Env → Option (Res × Env)) (ρ : Env) : Option (Res × Env) := match fi ρ with
    | none => none
    | some (ds, ρ0, ls) => if (vs.all fun v => match (lendL ls ρ0)[v]? with | some s => quietS s | none => false) = false then none else
      match compL (stepC t vs fc fe) ds (wipeE vs (lendL ls ρ0)) with
      | none => none
      | some (r, ρ2) => some (.nw r, unlend ls (backE vs (lendL ls ρ0) ρ2))
theorem comp_core {wi : TI} {t : T} {vs : List Nat} {fi fc fe} (hts : ∀ i ∈ tslots t, i ∈ vs)
    (qi : ∀ A H σ ρ ds ρ0 ls, Fit A H σ ρ → fi ρ = some (ds, ρ0, ls) → ∀ R : L2.It → Hp → Prop,
      (∀ A' H' J G, Stp A H σ ρ A' H' σ ρ0 → IterOk A' H' G J ds → (∀ a, G a → ¬ Mut σ (lendL ls ρ0) a ∧ Held A' σ ρ0 a) → ds.length ≤ sizeLine → Owns ρ0 ls → R J H') → wi σ H R)
    {A H σ ρ r ρ'} (ft : Fit A H σ ρ) (e : fComp t vs fi fc fe ρ = some (r, ρ')) (Q : VK) (k : ∀ A' H' v, Stp A H σ ρ A' H' σ ρ' → ResOk A' H H' σ ρ' v r → Q v H') :
    tLc wi (gT t) (tT fc) (tE fe) vs σ H Q := by
  unfold fComp at e
  split at e
  · cases e
  · rename_i ds ρ0 ls e1
    split at e
    · cases e
    · rename_i hq
      split at e
      · cases e
      · rename_i rr ρ2 e2
        cases e
        have hq : ∀ i ∈ vs, ∃ s, (lendL ls ρ0)[i]? = some s ∧ quietS s = true := fun i hi => by
          have := (List.all_eq_true.mp (by simpa using hq : (vs.all fun v => match (lendL ls ρ0)[v]? with | some s => quietS s | none => false) = true)) i hi
          split at this
          · rename_i s hs; exact ⟨s, hs, this⟩
          · cases this
        have nm : ∀ i ∈ vs, ∀ es, (lendL ls ρ0)[i]? = some (.mu es) → False := fun i hi es h => by
          obtain ⟨s, z1, z2⟩ := hq i hi
          rw [h] at z1; cases z1; cases z2
        refine qi A H σ ρ ds ρ0 ls ft e1 _ fun A1 H1 J G s1 io gm lens ow => ?_
        have f1 := s1.fit.lend ls
        obtain ⟨gt, gw⟩ := io
        intro D hD
        have nD : ¬ A1 D := f1.nofrz hD
        have rD : NoRef H1 σ (lendL ls ρ0) D := .new f1 hD
        have b0 : Stp A1 H1 σ (lendL ls ρ0) A1 H1 (L2.wipe σ vs) (wipeE vs (lendL ls ρ0)) := (Stp.refl f1).wipe nm
        have rD0 : NoRef H1 (L2.wipe σ vs) (wipeE vs (lendL ls ρ0)) D := rD.wipe f1 vs
        refine ⟨fun i m Hc => m = ds.length - i ∧ i ≤ ds.length ∧ ∃ (Ac : Addr → Prop) (ρb : Env) (vacc : List V) (dacc rest : List Ev.D), Stp A1 H1 σ (lendL ls ρ0) Ac Hc (L2.wipe σ vs) ρb ∧ Hc D = some (.lst vacc) ∧ vacc.length ≤ i ∧ RepAll Ac Hc vacc dacc ∧ ¬ Ac D ∧
          NoRef Hc (L2.wipe σ vs) ρb D ∧ compL (stepC t vs fc fe) (ds.drop i) ρb = some (rest, ρ2) ∧ dacc ++ rest = rr,
          ⟨ds.length, rfl, Nat.zero_le _, A1, _, [], [], rr, b0.other hD nD rD0 (fun o u z => by rw [hD] at z; cases z), upd_same, Nat.le_refl _, .nil, nD, rD0.upd b0.fit nD, e2, rfl⟩, ?_⟩
        rintro i m Hc ⟨rfl, hi, Ac, ρb, vacc, dacc, rest, sb, hDc, hl, ra, nDc, rDc, ec, er⟩
        have kc : Keep A1 H1 Hc := sb.keep f1
        have gk : ∀ a o, G a → H1 a = some o → Hc a = some o := fun a o hg z => sb.frame a o z (gm a hg).1 fun m => s1.fit.held_noprv (gm a hg).2 (prv_lend.mp m)
        obtain ⟨g1, g2, g3⟩ := gw Ac Hc sb.ext kc gk i
        by_cases hlt : i < ds.length
        · refine .inr ⟨g1 hlt, ?_⟩
          rw [List.drop_eq_getElem_cons hlt] at ec
          simp only [compL] at ec
          split at ec
          · cases ec
          · rename_i o ρ3 e3
            split at ec
            · cases ec
            · rename_i r2 ρ4 e4
              cases ec
              -- what the turn is to reach
              refine ⟨fun Hn => ∃ (An : Addr → Prop) (vn : List V) (dn : List Ev.D), Stp A1 H1 σ (lendL ls ρ0) An Hn (L2.wipe σ vs) ρ3 ∧ Hn D = some (.lst vn) ∧ vn.length ≤ i + 1 ∧ RepAll An Hn vn dn ∧ ¬ An D ∧ NoRef Hn (L2.wipe σ vs) ρ3 D ∧ dn ++ r2 = rr, fun Hn hn => ?_, fun x H' y => ?_⟩
              · obtain ⟨An, vn, dn, z1, z2, z3, z4, z5, z6, z7⟩ := hn
                exact ⟨ds.length - (i + 1), by omega, rfl, hlt, An, ρ3, vn, dn, r2, z1, z2, z3, z4, z5, z6, e4, z7⟩
              · -- the item
                have item : ∃ A', Stp Ac Hc (L2.wipe σ vs) ρb A' H' (L2.wipe σ vs) ρb ∧ Rep A' H' x ds[i] := by
                  rcases g3 x H' ds[i] (List.getElem?_eq_getElem hlt) y with ⟨rfl, rx⟩ | ⟨p, o', B, hp, rfl, hB, rx⟩
                  · exact ⟨Ac, Stp.refl sb.fit, rx⟩
                  · exact ⟨_, Stp.frzB sb.fit hp hB, rx⟩
                obtain ⟨A', si, rx⟩ := item
                unfold stepC at e3
                split at e3
                · cases e3
                · rename_i ρa ea
                  refine ⟨A', ρb, ds[i], ρa, si.fit, rx, ea, fun σ' sa oa => ?_⟩
                  have wv : L2.wipe σ' vs = L2.wipe σ vs := by rw [wipe_only (oa.mono hts), wipe_wipe]
                  refine ⟨wv, ?_⟩
                  split at e3
                  · cases e3
                  · rename_i ρb' ec'
                    cases e3
                    refine ⟨A', ρa, false, ρb', sa.fit, ec', fun A2 H2 s2 => ?_⟩
                    show if false = true then _ else _
                    rw [if_neg Bool.false_ne_true]
                    have tot := (si.trans sa).trans s2
                    have all := (sb.trans tot).wipe nm
                    rw [wv] at all
                    have rn := rDc.stp tot hDc
                    refine ⟨A2, vacc, dacc, all, tot.frame D _ hDc rDc.nomut rDc.2, Nat.le_succ_of_le hl, RepAll.mono tot.ext (tot.keep sb.fit) ra, nofrz_stp nDc rDc tot hDc, by rw [← wv]; exact rn.wipe tot.fit vs, er⟩
                  · rename_i ρb' ec'
                    split at e3
                    · cases e3
                    · rename_i re ρc ee
                      cases e3
                      refine ⟨A', ρa, true, ρb', sa.fit, ec', fun A2 H2 s2 => ?_⟩
                      show if true = true then _ else _
                      rw [if_pos rfl]
                      refine ⟨A2, ρb', re, ρc, s2.fit, ee, fun A3 H3 y3 s3 r3 => ?_⟩
                      have tot := ((si.trans sa).trans s2).trans s3
                      have all := (sb.trans tot).wipe nm
                      rw [wv] at all
                      have rn := rDc.stp tot hDc
                      have hD3 := tot.frame D _ hDc rDc.nomut rDc.2
                      have na3 := nofrz_stp nDc rDc tot hDc
                      have rn3 : NoRef H3 (L2.wipe σ vs) (wipeE vs ρc) D := by rw [← wv]; exact rn.wipe tot.fit vs
                      have kD : Keep A3 H3 (upd H3 D (.lst (vacc ++ [y3]))) := fun b u hb e => by
                        have : b ≠ D := fun z => na3 (z ▸ hb)
                        rw [upd_ne this]; exact e
                      refine ⟨vacc, hD3, by omega, A3, vacc ++ [y3], dacc ++ [re.d], all.other hD na3 rn3 (fun o u z => by rw [hD3] at z; cases z), upd_same, by rw [List.length_append, List.length_singleton]; omega, ?_, na3, rn3.upd all.fit na3, by rw [List.append_assoc]; exact er⟩
                      exact RepAll.mono (fun _ z => z) kD ((RepAll.mono tot.ext (tot.keep sb.fit) ra).append (.one r3))
        · have ie : i = ds.length := by omega
          subst ie
          refine .inl ⟨g2 (Nat.le_refl _), ?_⟩
          rw [List.drop_length] at ec
          simp only [compL] at ec
          cases ec
          rw [List.append_nil] at er
          subst er
          have sk := Stp.back f1 sb hq
          have su := Stp.unlend ow sk
          refine k Ac Hc _ (s1.trans su) ⟨D, vacc, rfl, hDc, by omega, ra, nDc, s1.dom D hD, fun j s h1 h2 => ?_, fun h => rDc.2 (sb.fit.prv_back (fun j k d h => ?_) (fun _ _ _ z => z) (fun _ _ _ z => z) D (prv_unlend h))⟩
          · have hl2 : (lendL ls ρ0).length = ρ2.length := by rw [← f1.len, ← sb.fit.len, wipe_length]
            have bk : ∀ (u : Slot), (backE vs (lendL ls ρ0) ρ2)[j]? = some u → liveB u = true → σ[j]? ≠ some (some (.ref D)) := fun u hu lu h3 => by
              rw [backE_at vs _ _ j hl2] at hu
              split at hu
              · rename_i hj
                obtain ⟨u', z1, z2⟩ := hq j hj
                rw [hu] at z1; cases z1
                cases u <;> first | (cases lu; done) | (cases z2; done)
              · rename_i hj
                exact rDc.1 j u hu lu (by rw [wipe_at_not hj]; exact h3)
            rcases unlend_inv h1 with ⟨z, _⟩ | ⟨es, rfl, z, _⟩
            · exact bk s z h2
            · exact bk _ z rfl
          · have hl2 : (lendL ls ρ0).length = ρ2.length := by rw [← f1.len, ← sb.fit.len, wipe_length]
            rw [backE_at vs _ _ j hl2] at h
            split at h
            · rename_i hj
              obtain ⟨u', z1, z2⟩ := hq j hj
              rw [h] at z1; cases z1; cases z2
            · rename_i hj
              exact ⟨h, by rw [wipe_at_not hj]⟩
def fSetc (srt : Bool) (t : T) (vs : List Nat) (fi : Env → Option (List D × Env × List Nat)) (fc : Env → Option (Bool × Env)) (fe : Env → Option (Res × Env)) (ρ : Env) : Option (Res × Env) := match fi ρ with
    | none => none
    | some (ds, ρ0, ls) => if (vs.all fun v => match (lendL ls ρ0)[v]? with | some s => quietS s | none => false) = false then none else
      match compL (stepC t vs fc fe) ds (wipeE vs (lendL ls ρ0)) with
      | none => none
      | some (r, ρ2) => (setR srt r).map fun x => (x, unlend ls (backE vs (lendL ls ρ0) ρ2))
theorem fSetc_eq {srt t vs fi fc fe ρ} : fSetc srt t vs fi fc fe ρ = match fComp t vs fi fc fe ρ with
    | some (.nw r, ρ1) => (setR srt r).map fun x => (x, ρ1)
    | _ => none := by
  unfold fSetc fComp
  cases h1 : fi ρ with
  | none => rfl
  | some p =>
    obtain ⟨ds, ρ0, ls⟩ := p
    simp only
    by_cases hq : (vs.all fun v => match (lendL ls ρ0)[v]? with | some s => quietS s | none => false) = false
    · rw [if_pos hq, if_pos hq]
    · rw [if_neg hq, if_neg hq]
      cases h2 : compL (stepC t vs fc fe) ds (wipeE vs (lendL ls ρ0)) with
      | none => rfl
      | some q => rfl
/-! ### two clauses -/
def tI (f : Env → Option (List D × Env × List Nat)) : TI := fun σ H R => ∃ A ρ ds ρ0 ls, Fit A H σ ρ ∧ f ρ = some (ds, ρ0, ls) ∧
  ∀ A' H' J G, Stp A H σ ρ A' H' σ ρ0 → IterOk A' H' G J ds → (∀ a, G a → ¬ Mut σ (lendL ls ρ0) a ∧ Held A' σ ρ0 a) → ds.length ≤ sizeLine → Owns ρ0 ls → R J H'
theorem SndI.pi {X : Cx} {tg iter : Expr} {f} (h : SndI X tg iter f) : PI X tg iter (tI f) := by
  obtain ⟨wi, p, hq⟩ := h
  exact ⟨fun pins s σ H R I ⟨A, ρ, ds, ρ0, ls, ft, e, k⟩ => p.run pins s σ H R I (hq A H σ ρ ds ρ0 ls ft e R k)⟩
/-- the heap without an address -/
def del (H : Hp) (D : Addr) : Hp := fun a => if a = D then none else H a
theorem del_ne {H : Hp} {D a : Addr} (h : a ≠ D) : del H D a = H a := if_neg h
theorem del_at (H : Hp) (D : Addr) : del H D D = none := if_pos rfl
theorem upd_del {H : Hp} {D : Addr} {o : HO} (h : H D = some o) : upd (del H D) D o = H := by
  funext a
  by_cases e : a = D
  · subst e; rw [upd_same, h]
  · rw [upd_ne e, del_ne e]
theorem Stp.del {A H σ ρ A' H' σ' ρ' D} (s : Stp A H σ ρ A' H' σ' ρ') (h0 : H D = none) (na : ¬ A' D) (n : NoRef H' σ' ρ' D) (hd : ∀ o u, H' D ≠ some (.frz o u)) : Stp A H σ ρ A' (del H' D) σ' ρ' :=
  s.oth h0 na n hd fun a h => del_ne h
theorem IterOk.del {A : Addr → Prop} {H : Hp} {G : Addr → Prop} {J : L2.It} {ds : List D} {D : Addr} (io : IterOk A H G J ds) (na : ¬ A D) (ng : ¬ G D) : IterOk A (Ev.del H D) G J ds := by
  obtain ⟨g1, g2⟩ := io
  refine ⟨fun a ha => ?_, fun A' H' e k kg i => g2 A' H' e (fun b u hb z => ?_) (fun a o ha z => ?_) i⟩
  · obtain ⟨o, z⟩ := g1 a ha
    have : a ≠ D := fun y => ng (y ▸ ha)
    exact ⟨o, by rw [del_ne this]; exact z⟩
  · have : b ≠ D := fun y => na (y ▸ hb)
    exact k b u hb (by rw [del_ne this]; exact z)
  · have : a ≠ D := fun y => ng (y ▸ ha)
    exact kg a o ha (by rw [del_ne this]; exact z)
/-- the turns of a comprehension's last clause, from a list that is begun -/
theorem loop_core {t : T} {vs : List Nat} {fc fe} (hts : ∀ i ∈ tslots t, i ∈ vs) {A1 : Addr → Prop} {H1 : Hp} {σ : St} {ρ1 : Env} {G : Addr → Prop} {J : L2.It} {ds : List Ev.D} {D : Addr} {vacc0 : List V} {dacc0 r : List Ev.D} {ρ2 : Env} {Fin : Hp → Prop}
    (f1 : Fit A1 H1 σ ρ1) (hq : ∀ i ∈ vs, ∃ s, ρ1[i]? = some s ∧ quietS s = true) (io : IterOk A1 H1 G J ds) (gm : ∀ a, G a → ¬ Mut σ ρ1 a ∧ ¬ Prv H1 σ ρ1 a)
    (hD : H1 D = none) (nD : ¬ A1 D) (rD : NoRef H1 σ ρ1 D) (ra0 : RepAll A1 (upd H1 D (.lst vacc0)) vacc0 dacc0) (e2 : compL (stepC t vs fc fe) ds (wipeE vs ρ1) = some (r, ρ2)) (hz : (dacc0 ++ r).length ≤ sizeLine)
    (K : ∀ Ac Hc vacc, Stp A1 H1 σ ρ1 Ac Hc (L2.wipe σ vs) ρ2 → Hc D = some (.lst vacc) → RepAll Ac Hc vacc (dacc0 ++ r) → ¬ Ac D → NoRef Hc (L2.wipe σ vs) ρ2 D → Fin Hc) :
    ∃ W : Nat → Nat → Hp → Prop, (∃ m, W 0 m (upd H1 D (.lst vacc0))) ∧ ∀ i m H, W i m H →
      (J.stop i H ∧ Fin H) ∨ (J.go i H ∧ ∃ Nx : Hp → Prop, (∀ H', Nx H' → ∃ m', m' < m ∧ W (i + 1) m' H') ∧ ∀ x H', J.yld i H x H' → gT t x (L2.wipe σ vs) H' fun σ2 H2 => L2.wipe σ2 vs = L2.wipe σ vs ∧ tT fc σ2 H2 fun b H3 =>
        if b = true then tE fe σ2 H3 fun y H4 => ∃ acc, H4 D = some (.lst acc) ∧ acc.length < sizeLine ∧ Nx (upd H4 D (.lst (acc ++ [y]))) else Nx H3) := by
  have nm : ∀ i ∈ vs, ∀ es, ρ1[i]? = some (.mu es) → False := fun i hi es h => by
    obtain ⟨s, z1, z2⟩ := hq i hi
    rw [h] at z1; cases z1; cases z2
  obtain ⟨gt, gw⟩ := io
  have b0 : Stp A1 H1 σ ρ1 A1 H1 (L2.wipe σ vs) (wipeE vs ρ1) := (Stp.refl f1).wipe nm
  have rD0 : NoRef H1 (L2.wipe σ vs) (wipeE vs ρ1) D := rD.wipe f1 vs
  refine ⟨fun i m Hc => m = ds.length - i ∧ i ≤ ds.length ∧ ∃ (Ac : Addr → Prop) (ρb : Env) (vacc : List V) (dacc rest : List Ev.D), Stp A1 H1 σ ρ1 Ac Hc (L2.wipe σ vs) ρb ∧ Hc D = some (.lst vacc) ∧ RepAll Ac Hc vacc dacc ∧ ¬ Ac D ∧
    NoRef Hc (L2.wipe σ vs) ρb D ∧ compL (stepC t vs fc fe) (ds.drop i) ρb = some (rest, ρ2) ∧ dacc ++ rest = dacc0 ++ r,
    ⟨ds.length, rfl, Nat.zero_le _, A1, _, vacc0, dacc0, r, b0.other hD nD rD0 (fun o u z => by rw [hD] at z; cases z), upd_same, ra0, nD, rD0.upd b0.fit nD, e2, rfl⟩, ?_⟩
  rintro i m Hc ⟨rfl, hi, Ac, ρb, vacc, dacc, rest, sb, hDc, ra, nDc, rDc, ec, er⟩
  have kc : Keep A1 H1 Hc := sb.keep f1
  have gk : ∀ a o, G a → H1 a = some o → Hc a = some o := fun a o hg z => sb.frame a o z (gm a hg).1 (gm a hg).2
  obtain ⟨g1, g2, g3⟩ := gw Ac Hc sb.ext kc gk i
  by_cases hlt : i < ds.length
  · refine .inr ⟨g1 hlt, ?_⟩
    rw [List.drop_eq_getElem_cons hlt] at ec
    simp only [compL] at ec
    split at ec
    · cases ec
    · rename_i o ρ3 e3
      split at ec
      · cases ec
      · rename_i r2 ρ4 e4
        cases ec
        refine ⟨fun Hn => ∃ (An : Addr → Prop) (vn : List V) (dn : List Ev.D), Stp A1 H1 σ ρ1 An Hn (L2.wipe σ vs) ρ3 ∧ Hn D = some (.lst vn) ∧ RepAll An Hn vn dn ∧ ¬ An D ∧ NoRef Hn (L2.wipe σ vs) ρ3 D ∧ dn ++ r2 = dacc0 ++ r, fun Hn hn => ?_, fun x H' y => ?_⟩
        · obtain ⟨An, vn, dn, z1, z2, z4, z5, z6, z7⟩ := hn
          exact ⟨ds.length - (i + 1), by omega, rfl, hlt, An, ρ3, vn, dn, r2, z1, z2, z4, z5, z6, e4, z7⟩
        · have item : ∃ A', Stp Ac Hc (L2.wipe σ vs) ρb A' H' (L2.wipe σ vs) ρb ∧ Rep A' H' x ds[i] := by
            rcases g3 x H' ds[i] (List.getElem?_eq_getElem hlt) y with ⟨rfl, rx⟩ | ⟨p, o', B, hp, rfl, hB, rx⟩
            · exact ⟨Ac, Stp.refl sb.fit, rx⟩
            · exact ⟨_, Stp.frzB sb.fit hp hB, rx⟩
          obtain ⟨A', si, rx⟩ := item
          unfold stepC at e3
          split at e3
          · cases e3
          · rename_i ρa ea
            refine ⟨A', ρb, ds[i], ρa, si.fit, rx, ea, fun σ' sa oa => ?_⟩
            have wv : L2.wipe σ' vs = L2.wipe σ vs := by rw [wipe_only (oa.mono hts), wipe_wipe]
            refine ⟨wv, ?_⟩
            split at e3
            · cases e3
            · rename_i ρb' ec'
              cases e3
              refine ⟨A', ρa, false, ρb', sa.fit, ec', fun A2 H2 s2 => ?_⟩
              show if false = true then _ else _
              rw [if_neg Bool.false_ne_true]
              have tot := (si.trans sa).trans s2
              have all := (sb.trans tot).wipe nm
              rw [wv] at all
              have rn := rDc.stp tot hDc
              refine ⟨A2, vacc, dacc, all, tot.frame D _ hDc rDc.nomut rDc.2, RepAll.mono tot.ext (tot.keep sb.fit) ra, nofrz_stp nDc rDc tot hDc, by rw [← wv]; exact rn.wipe tot.fit vs, er⟩
            · rename_i ρb' ec'
              split at e3
              · cases e3
              · rename_i re ρc ee
                cases e3
                refine ⟨A', ρa, true, ρb', sa.fit, ec', fun A2 H2 s2 => ?_⟩
                show if true = true then _ else _
                rw [if_pos rfl]
                refine ⟨A2, ρb', re, ρc, s2.fit, ee, fun A3 H3 y3 s3 r3 => ?_⟩
                have tot := ((si.trans sa).trans s2).trans s3
                have all := (sb.trans tot).wipe nm
                rw [wv] at all
                have rn := rDc.stp tot hDc
                have hD3 := tot.frame D _ hDc rDc.nomut rDc.2
                have na3 := nofrz_stp nDc rDc tot hDc
                have rn3 : NoRef H3 (L2.wipe σ vs) (wipeE vs ρc) D := by rw [← wv]; exact rn.wipe tot.fit vs
                have kD : Keep A3 H3 (upd H3 D (.lst (vacc ++ [y3]))) := fun b u hb e => by
                  have : b ≠ D := fun z => na3 (z ▸ hb)
                  rw [upd_ne this]; exact e
                have hlen : vacc.length < sizeLine := by
                  rw [ra.length]
                  have := congrArg List.length er
                  simp only [List.length_append, List.length_cons] at this hz
                  omega
                refine ⟨vacc, hD3, hlen, A3, vacc ++ [y3], dacc ++ [re.d], all.other hD na3 rn3 (fun o u z => by rw [hD3] at z; cases z), upd_same, ?_, na3, rn3.upd all.fit na3, by rw [List.append_assoc]; exact er⟩
                exact RepAll.mono (fun _ z => z) kD ((RepAll.mono tot.ext (tot.keep sb.fit) ra).append (.one r3))
  · have ie : i = ds.length := by omega
    subst ie
    refine .inl ⟨g2 (Nat.le_refl _), ?_⟩
    rw [List.drop_length] at ec
    simp only [compL] at ec
    cases ec
    rw [List.append_nil] at er
    subst er
    exact K Ac Hc vacc sb hDc ra nDc rDc
def step2 (t : T) (vs : List Nat) (fc0 : Env → Option (Bool × Env)) (fi1 : Env → Option (List D × Env × List Nat)) (t1 : T) (vs1 : List Nat) (fc : Env → Option (Bool × Env)) (fe : Env → Option (Res × Env)) (d : D) (ρ : Env) : Option (List D × Env) := match asgT t d ρ with
        | none => none
        | some ρa => match fc0 ρa with
          | none => none
          | some (false, ρb) => some ([], wipeE vs ρb)
          | some (true, ρb) => match fi1 ρb with
            | some (ds1, ρ1, []) => if (vs1.all fun v => match ρ1[v]? with | some s => quietS s | none => false) = false then none else
              match compL (stepC t1 vs1 fc fe) ds1 (wipeE vs1 ρ1) with
              | none => none
              | some (r, ρ2) => some (r, wipeE vs ρ2)
            | _ => none
def fComp2 (t : T) (vs : List Nat) (fi : Env → Option (List D × Env × List Nat)) (fc0 : Env → Option (Bool × Env)) (fi1 : Env → Option (List D × Env × List Nat)) (t1 : T) (vs1 : List Nat) (fc : Env → Option (Bool × Env)) (fe : Env → Option (Res × Env)) (ρ : Env) : Option (Res × Env) := match fi ρ with
    | none => none
    | some (ds, ρ0, ls) => if (vs.all fun v => match (lendL ls ρ0)[v]? with | some s => quietS s | none => false) = false then none else
      match compL2 (step2 t vs fc0 fi1 t1 vs1 fc fe) ds (wipeE vs (lendL ls ρ0)) with
      | none => none
      | some (r, ρ2) => if r.length ≤ sizeLine then some (.nw r, unlend ls (backE vs (lendL ls ρ0) ρ2)) else none
theorem wipe_in {vs vs1 : List Nat} (h : ∀ i ∈ vs1, i ∈ vs) (σ : St) : L2.wipe (L2.wipe σ vs1) vs = L2.wipe σ vs := by
  apply List.ext_getElem?
  intro i
  simp only [wipe_at, wipe_length]
  by_cases hi : i ∈ vs
  · simp [hi]
  · have : i ∉ vs1 := fun z => hi (h i z)
    simp [hi, this]
theorem comp2_core {wi : TI} {t t1 : T} {vs vs1 : List Nat} {fi fc0 fi1 fc fe} (hts : ∀ i ∈ tslots t, i ∈ vs) (hts1 : ∀ i ∈ tslots t1, i ∈ vs1) (hvs : ∀ i ∈ vs1, i ∈ vs)
    (qi : ∀ A H σ ρ ds ρ0 ls, Fit A H σ ρ → fi ρ = some (ds, ρ0, ls) → ∀ R : L2.It → Hp → Prop,
      (∀ A' H' J G, Stp A H σ ρ A' H' σ ρ0 → IterOk A' H' G J ds → (∀ a, G a → ¬ Mut σ (lendL ls ρ0) a ∧ Held A' σ ρ0 a) → ds.length ≤ sizeLine → Owns ρ0 ls → R J H') → wi σ H R)
    {A H σ ρ r ρ'} (ft : Fit A H σ ρ) (e : fComp2 t vs fi fc0 fi1 t1 vs1 fc fe ρ = some (r, ρ')) (Q : VK) (k : ∀ A' H' v, Stp A H σ ρ A' H' σ ρ' → ResOk A' H H' σ ρ' v r → Q v H') :
    tLc2 wi (gT t) (tT fc0) (tI fi1) (gT t1) (tT fc) (tE fe) vs vs1 σ H Q := by
  unfold fComp2 at e
  split at e
  · cases e
  · rename_i ds ρ0 ls e1
    split at e
    · cases e
    · rename_i hq
      split at e
      · cases e
      · rename_i rr ρ2 e2
        split at e
        · rename_i hz
          cases e
          have hq : ∀ i ∈ vs, ∃ s, (lendL ls ρ0)[i]? = some s ∧ quietS s = true := fun i hi => by
            have := (List.all_eq_true.mp (by simpa using hq : (vs.all fun v => match (lendL ls ρ0)[v]? with | some s => quietS s | none => false) = true)) i hi
            split at this
            · rename_i s hs; exact ⟨s, hs, this⟩
            · cases this
          have nm : ∀ i ∈ vs, ∀ es, (lendL ls ρ0)[i]? = some (.mu es) → False := fun i hi es h => by
            obtain ⟨s, z1, z2⟩ := hq i hi
            rw [h] at z1; cases z1; cases z2
          refine qi A H σ ρ ds ρ0 ls ft e1 _ fun A1 H1 J G s1 io gm lens ow => ?_
          have f1 := s1.fit.lend ls
          obtain ⟨gt, gw⟩ := io
          intro D hD
          have nD : ¬ A1 D := f1.nofrz hD
          have rD : NoRef H1 σ (lendL ls ρ0) D := .new f1 hD
          have b0 : Stp A1 H1 σ (lendL ls ρ0) A1 H1 (L2.wipe σ vs) (wipeE vs (lendL ls ρ0)) := (Stp.refl f1).wipe nm
          have rD0 : NoRef H1 (L2.wipe σ vs) (wipeE vs (lendL ls ρ0)) D := rD.wipe f1 vs
          refine ⟨fun i m Hc => m = ds.length - i ∧ i ≤ ds.length ∧ ∃ (Ac : Addr → Prop) (ρb : Env) (vacc : List V) (dacc rest : List Ev.D), Stp A1 H1 σ (lendL ls ρ0) Ac Hc (L2.wipe σ vs) ρb ∧ Hc D = some (.lst vacc) ∧ RepAll Ac Hc vacc dacc ∧ ¬ Ac D ∧
            NoRef Hc (L2.wipe σ vs) ρb D ∧ compL2 (step2 t vs fc0 fi1 t1 vs1 fc fe) (ds.drop i) ρb = some (rest, ρ2) ∧ dacc ++ rest = rr,
            ⟨ds.length, rfl, Nat.zero_le _, A1, _, [], [], rr, b0.other hD nD rD0 (fun o u z => by rw [hD] at z; cases z), upd_same, .nil, nD, rD0.upd b0.fit nD, e2, rfl⟩, ?_⟩
          rintro i m Hc ⟨rfl, hi, Ac, ρb, vacc, dacc, rest, sb, hDc, ra, nDc, rDc, ec, er⟩
          have kc : Keep A1 H1 Hc := sb.keep f1
          have gk : ∀ a o, G a → H1 a = some o → Hc a = some o := fun a o hg z => sb.frame a o z (gm a hg).1 fun m => s1.fit.held_noprv (gm a hg).2 (prv_lend.mp m)
          obtain ⟨g1, g2, g3⟩ := gw Ac Hc sb.ext kc gk i
          by_cases hlt : i < ds.length
          · refine .inr ⟨g1 hlt, ?_⟩
            rw [List.drop_eq_getElem_cons hlt] at ec
            simp only [compL2] at ec
            split at ec
            · cases ec
            · rename_i o ρ3 e3
              split at ec
              · cases ec
              · rename_i r2 ρ4 e4
                cases ec
                refine ⟨fun Hn => ∃ (An : Addr → Prop) (vn : List V) (dn : List Ev.D), Stp A1 H1 σ (lendL ls ρ0) An Hn (L2.wipe σ vs) ρ3 ∧ Hn D = some (.lst vn) ∧ RepAll An Hn vn dn ∧ ¬ An D ∧ NoRef Hn (L2.wipe σ vs) ρ3 D ∧ dn ++ r2 = rr, fun Hn hn => ?_, fun x H' y => ?_⟩
                · obtain ⟨An, vn, dn, z1, z2, z4, z5, z6, z7⟩ := hn
                  exact ⟨ds.length - (i + 1), by omega, rfl, hlt, An, ρ3, vn, dn, r2, z1, z2, z4, z5, z6, e4, z7⟩
                · have item : ∃ A', Stp Ac Hc (L2.wipe σ vs) ρb A' H' (L2.wipe σ vs) ρb ∧ Rep A' H' x ds[i] := by
                    rcases g3 x H' ds[i] (List.getElem?_eq_getElem hlt) y with ⟨rfl, rx⟩ | ⟨p, o', B, hp, rfl, hB, rx⟩
                    · exact ⟨Ac, Stp.refl sb.fit, rx⟩
                    · exact ⟨_, Stp.frzB sb.fit hp hB, rx⟩
                  obtain ⟨A', si, rx⟩ := item
                  unfold step2 at e3
                  split at e3
                  · cases e3
                  · rename_i ρa ea
                    refine ⟨A', ρb, ds[i], ρa, si.fit, rx, ea, fun σ' sa oa => ?_⟩
                    have wv : L2.wipe σ' vs = L2.wipe σ vs := by rw [wipe_only (oa.mono hts), wipe_wipe]
                    refine ⟨wv, ?_⟩
                    split at e3
                    · cases e3
                    · rename_i ρb' ec'
                      cases e3
                      refine ⟨A', ρa, false, ρb', sa.fit, ec', fun A2 H2 s2 => ?_⟩
                      show if false = true then _ else _
                      rw [if_neg Bool.false_ne_true]
                      have tot := (si.trans sa).trans s2
                      have all := (sb.trans tot).wipe nm
                      rw [wv] at all
                      have rn := rDc.stp tot hDc
                      refine ⟨A2, vacc, dacc, all, tot.frame D _ hDc rDc.nomut rDc.2, RepAll.mono tot.ext (tot.keep sb.fit) ra, nofrz_stp nDc rDc tot hDc, by rw [← wv]; exact rn.wipe tot.fit vs, er⟩
                    · rename_i ρb' ec'
                      split at e3
                      · rename_i ds1 ρ1 ei
                        split at e3
                        · cases e3
                        · rename_i hq1
                          split at e3
                          · cases e3
                          · rename_i r1 ρ2' ee
                            cases e3
                            have hq1 : ∀ i ∈ vs1, ∃ s, ρ1[i]? = some s ∧ quietS s = true := fun i hi => by
                              have := (List.all_eq_true.mp (by simpa using hq1 : (vs1.all fun v => match ρ1[v]? with | some s => quietS s | none => false) = true)) i hi
                              split at this
                              · rename_i s hs; exact ⟨s, hs, this⟩
                              · cases this
                            refine ⟨A', ρa, true, ρb', sa.fit, ec', fun A2 H2 s2 => ?_⟩
                            show if true = true then _ else _
                            rw [if_pos rfl]
                            refine ⟨A2, ρb', ds1, ρ1, [], s2.fit, ei, fun A3 H3 J1 G1 s3 io1 gm1 len1 ow1 => ?_⟩
                            have tot := ((si.trans sa).trans s2).trans s3
                            have rn := rDc.stp tot hDc
                            have hD3 := tot.frame D _ hDc rDc.nomut rDc.2
                            have na3 := nofrz_stp nDc rDc tot hDc
                            have sd := (sb.trans tot).del hD na3 rn (fun o u z => by rw [hD3] at z; cases z)
                            have ng : ¬ G1 D := fun z => by
                              rcases (gm1 D z).2 with h | ⟨j, s, h1, h2, h3⟩
                              · exact na3 h
                              · exact rn.1 j s h1 h2 h3
                            have lc := loop_core (t := t1) (vs := vs1) (fc := fc) (fe := fe) hts1 (D := D) (vacc0 := vacc) (dacc0 := dacc) (r := o) (ρ2 := ρ2')
                              (Fin := fun Hn => ∃ (An : Addr → Prop) (vn : List V) (dn : List Ev.D), Stp A1 H1 σ (lendL ls ρ0) An Hn (L2.wipe σ vs) (wipeE vs ρ2') ∧ Hn D = some (.lst vn) ∧ RepAll An Hn vn dn ∧ ¬ An D ∧ NoRef Hn (L2.wipe σ vs) (wipeE vs ρ2') D ∧ dn ++ r2 = rr)
                              sd.fit hq1 (io1.del na3 ng) (fun a ha => ⟨(gm1 a ha).1, fun z => s3.fit.held_noprv (gm1 a ha).2 (rn.go_back s3.fit (fun a h => del_ne h) na3 a z)⟩) (del_at _ _) na3 (rn.go s3.fit (fun a h => del_ne h) na3) (by rw [upd_del hD3]; exact RepAll.mono tot.ext (tot.keep sb.fit) ra) ee
                              (by
                                have := congrArg List.length er
                                simp only [List.length_append] at this ⊢
                                omega)
                              (fun Ac' Hc' vacc' sK hDK raK naK rnK => by
                                have all := (sd.trans sK).wipe nm
                                rw [wipe_in hvs, wv] at all
                                refine ⟨Ac', vacc', dacc ++ o, all, hDK, raK, naK, by rw [← wv, ← wipe_in hvs]; exact rnK.wipe sK.fit vs, by rw [List.append_assoc]; exact er⟩)
                            rw [upd_del hD3] at lc
                            exact lc
                      · cases e3
          · have ie : i = ds.length := by omega
            subst ie
            refine .inl ⟨g2 (Nat.le_refl _), ?_⟩
            rw [List.drop_length] at ec
            simp only [compL2] at ec
            cases ec
            rw [List.append_nil] at er
            subst er
            have sk := Stp.back f1 sb hq
            have su := Stp.unlend ow sk
            refine k Ac Hc _ (s1.trans su) ⟨D, vacc, rfl, hDc, by rw [ra.length]; exact hz, ra, nDc, s1.dom D hD, fun j s h1 h2 => ?_, fun h => rDc.2 (sb.fit.prv_back (fun j k d h => ?_) (fun _ _ _ z => z) (fun _ _ _ z => z) D (prv_unlend h))⟩
            · have hl2 : (lendL ls ρ0).length = ρ2.length := by rw [← f1.len, ← sb.fit.len, wipe_length]
              have bk : ∀ (u : Slot), (backE vs (lendL ls ρ0) ρ2)[j]? = some u → liveB u = true → σ[j]? ≠ some (some (.ref D)) := fun u hu lu h3 => by
                rw [backE_at vs _ _ j hl2] at hu
                split at hu
                · rename_i hj
                  obtain ⟨u', z1, z2⟩ := hq j hj
                  rw [hu] at z1; cases z1
                  cases u <;> first | (cases lu; done) | (cases z2; done)
                · rename_i hj
                  exact rDc.1 j u hu lu (by rw [wipe_at_not hj]; exact h3)
              rcases unlend_inv h1 with ⟨z, _⟩ | ⟨es, rfl, z, _⟩
              · exact bk s z h2
              · exact bk _ z rfl
            · have hl2 : (lendL ls ρ0).length = ρ2.length := by rw [← f1.len, ← sb.fit.len, wipe_length]
              rw [backE_at vs _ _ j hl2] at h
              split at h
              · rename_i hj
                obtain ⟨u', z1, z2⟩ := hq j hj
                rw [h] at z1; cases z1; cases z2
              · rename_i hj
                exact ⟨h, by rw [wipe_at_not hj]⟩
        · cases e
end Ev

set_option maxRecDepth 100000
/-! Ev12: statements. -/
namespace Ev
open PySem L2
variable [TheK]

def RtOk (A : Addr → Prop) (Hs H : Hp) (σ : St) (ρ : Env) (v : V) : Res → Prop
  | .fr d => Rep A H v d
  | .nw ds => ∃ a vs, v = .ref a ∧ H a = some (.lst vs) ∧ vs.length ≤ sizeLine ∧ RepAll A H vs ds ∧ ¬ A a ∧ (Hs a = none ∨ ∃ i : Nat, ρ[i]? = some (.own ds) ∧ σ[i]? = some (some (.ref a)))
theorem RtOk.start {A Hs Hs' H σ ρ v r} (h : RtOk A Hs H σ ρ v r) (d : ∀ a, Hs a = none → Hs' a = none) : RtOk A Hs' H σ ρ v r := by
  cases r with
  | fr _ => exact h
  | nw _ => obtain ⟨a, vs, h1, h2, h3, h4, h5, h6⟩ := h; exact ⟨a, vs, h1, h2, h3, h4, h5, h6.imp (d a) id⟩
/-- what is wanted behind a statement that ends so -/
def Kont (A : Addr → Prop) (H : Hp) (σ : St) (ρ : Env) (Dn : Ends) (ρ' : Env) : Out → Prop
  | .next => ∀ A' H' σ', Stp A H σ ρ A' H' σ' ρ' → Dn.nx σ' H'
  | .brk => ∀ A' H' σ', Stp A H σ ρ A' H' σ' ρ' → Dn.bk σ' H'
  | .cont => ∀ A' H' σ', Stp A H σ ρ A' H' σ' ρ' → Dn.ct σ' H'
  | .ret r => ∀ A' H' σ' v, Stp A H σ ρ A' H' σ' ρ' → RtOk A' H H' σ' ρ' v r → Dn.rt v H'
theorem Kont.after {A H σ ρ Dn ρ' o A1 H1 σ1 ρ1} (s : Stp A H σ ρ A1 H1 σ1 ρ1) (k : Kont A H σ ρ Dn ρ' o) : Kont A1 H1 σ1 ρ1 Dn ρ' o := by
  cases o with
  | next => exact fun A' H' σ' s' => k A' H' σ' (s.trans s')
  | brk => exact fun A' H' σ' s' => k A' H' σ' (s.trans s')
  | cont => exact fun A' H' σ' s' => k A' H' σ' (s.trans s')
  | ret r => exact fun A' H' σ' v s' r' => k A' H' σ' v (s.trans s') (r'.start s.dom)
def SndS (X : Cx) (st : Stmt) (f : Env → Option (Out × Env)) : Prop := ∃ t : TS, PS X st t ∧
  ∀ A H σ ρ o ρ', Fit A H σ ρ → f ρ = some (o, ρ') → ∀ Dn : Ends, Kont A H σ ρ Dn ρ' o → t Dn σ H
def SndSs (X : Cx) (st : List Stmt) (f : Env → Option (Out × Env)) : Prop := ∃ t : TS, PSs X st t ∧
  ∀ A H σ ρ o ρ', Fit A H σ ρ → f ρ = some (o, ρ') → ∀ Dn : Ends, Kont A H σ ρ Dn ρ' o → t Dn σ H
section
variable {X : Cx} {N : List Str} {q : Sc} {F : FT}
theorem sndSs_nil : SndSs X [] (fun ρ => some (.next, ρ)) := ⟨_, pss_nil, fun A H σ ρ o ρ' ft e Dn k => by cases e; exact k A H σ (Stp.refl ft)⟩
def fSeqS (fa fb : Env → Option (Out × Env)) (ρ : Env) : Option (Out × Env) := match fa ρ with
    | some (.next, ρ1) => fb ρ1
    | x => x
theorem sndSs_cons {st rest fa fb} (ha : SndS X st fa) (hb : SndSs X rest fb) : SndSs X (st :: rest) (fSeqS fa fb) := by
  obtain ⟨ta, pa, qa⟩ := ha
  obtain ⟨tb, pb, qb⟩ := hb
  refine ⟨_, pss_cons pa pb, fun A H σ ρ o ρ' ft e Dn k => ?_⟩
  unfold fSeqS at e
  split at e
  · rename_i ρ1 e1
    refine qa A H σ ρ .next ρ1 ft e1 _ fun A1 H1 σ1 s1 => ?_
    exact qb A1 H1 σ1 ρ1 o ρ' s1.fit e Dn (k.after s1)
  · rename_i n
    refine qa A H σ ρ o ρ' ft e _ ?_
    cases o with
    | next => exact absurd e (n ρ')
    | brk => exact k
    | cont => exact k
    | ret r => exact k
theorem snd_pass {pos} : SndS X (.Pass pos) (fun ρ => some (.next, ρ)) := ⟨_, ps_pass, fun A H σ ρ o ρ' ft e Dn k => by cases e; exact k A H σ (Stp.refl ft)⟩
theorem snd_brk {pos} : SndS X (.Break pos) (fun ρ => some (.brk, ρ)) := ⟨_, ps_break, fun A H σ ρ o ρ' ft e Dn k => by cases e; exact k A H σ (Stp.refl ft)⟩
theorem snd_cont {pos} : SndS X (.Continue pos) (fun ρ => some (.cont, ρ)) := ⟨_, ps_continue, fun A H σ ρ o ρ' ft e Dn k => by cases e; exact k A H σ (Stp.refl ft)⟩
theorem snd_retN {pos} : SndS X (.Return none pos) (fun ρ => some (.ret (.fr .none), ρ)) := ⟨_, ps_retN, fun A H σ ρ o ρ' ft e Dn k => by cases e; exact k A H σ .non (Stp.refl ft) .none⟩
def fDrop (fa : Env → Option (Res × Env)) (ρ : Env) : Option (Out × Env) := (fa ρ).map fun p => (.next, p.2)
def isComp : Expr → Bool
  | .ListComp .. | .SetComp .. | .DictComp .. => true
  | _ => false
theorem swaps_no {e : Expr} {t l env} (h : isComp e = false) : swapsWith e t l env = pure false := by
  cases e <;> first | rfl | cases h
theorem snd_ex {e pos fa} (hc : isComp e = false) (ha : SndE X e fa) : SndS X (.Expr e pos) (fDrop fa) := by
  obtain ⟨t, p, hq⟩ := ha.d
  refine ⟨_, ps_expr p (swaps_no hc), fun A H σ ρ o ρ' ft e Dn k => ?_⟩
  unfold fDrop at e
  cases e1 : fa ρ with
  | none => rw [e1] at e; cases e
  | some r =>
    rw [e1] at e
    cases e
    exact hq A H σ ρ r.1 r.2 ft e1 _ fun A' H' v s _ => k A' H' σ s
def fRet (fa : Env → Option (Res × Env)) (ρ : Env) : Option (Out × Env) := (fa ρ).map fun p => (.ret p.1, p.2)
theorem snd_ret {e pos fa} (ha : SndE X e fa) : SndS X (.Return (some e) pos) (fRet fa) := by
  obtain ⟨t, p, hq⟩ := ha
  refine ⟨_, ps_ret p, fun A H σ ρ o ρ' ft e Dn k => ?_⟩
  unfold fRet at e
  cases e1 : fa ρ with
  | none => rw [e1] at e; cases e
  | some r =>
    rw [e1] at e
    cases e
    refine hq A H σ ρ r.1 r.2 ft e1 _ fun A' H' v s ok => k A' H' σ v s ?_
    generalize r.1 = r1 at ok
    cases r1 with
    | fr d => exact ok
    | nw ds => obtain ⟨a, vs, h1, h2, h3, h4, h5, h6, _⟩ := ok; exact ⟨a, vs, h1, h2, h3, h4, h5, .inl h6⟩
/-- a dict of one's own is frozen where it stands -/
theorem stp_dfz {A H σ} {ρ : Env} {i : Nat} {kvs : List (List Int × D)} (f : Fit A H σ ρ) (hs : ρ[i]? = some (.dtt kvs)) :
    ∃ a ws, σ[i]? = some (some (.ref a)) ∧ H a = some (.dT ws) ∧ ∀ od, Stp A H σ ρ (fun b => A b ∨ b = a) (upd H a (.frz od (.dT ws))) σ (ρ.set i (.fz (dictD kvs))) ∧ Rep (fun b => A b ∨ b = a) (upd H a (.frz od (.dT ws))) (.ref a) (dictD kvs) := by
  obtain ⟨ov, e1, a, ws, rfl, q1, q2, q3, q4⟩ := f.at hs
  refine ⟨a, ws, e1, q1, fun od => ?_⟩
  have m : Mut σ ρ a := ⟨i, _, hs, rfl, e1⟩
  have e : ∀ b, A b → A b ∨ b = a := fun _ h => .inl h
  have k : Keep A H (upd H a (.frz od (.dT ws))) := fun b o hb z => by
    have : b ≠ a := fun y => q4 (y ▸ hb)
    rw [upd_ne this]; exact z
  have rep : Rep (fun b => A b ∨ b = a) (upd H a (.frz od (.dT ws))) (.ref a) (dictD kvs) := .dct (.inr rfl) upd_same q2 q3.1 (RepAll.mono e k q3.2)
  refine ⟨?_, rep⟩
  have mt : ∀ b, Mut σ (ρ.set i (.fz (dictD kvs))) b → Mut σ ρ b := fun b ⟨j, t, h1, h2, h3⟩ => by
    rcases get_set h1 with ⟨_, rfl⟩ | ⟨_, h1⟩
    · cases h2
    · exact ⟨j, t, h1, h2, h3⟩
  have hd : ∀ (j : Nat) kk d, (ρ.set i (.fz (dictD kvs)))[j]? = some (.dp kk d) → ρ[j]? = some (.dp kk d) ∧ σ[j]? = σ[j]? := fun j kk d h => by
    rcases get_set h with ⟨_, z⟩ | ⟨_, z⟩
    · cases z
    · exact ⟨z, rfl⟩
  have kl : ∀ b o, Prv H σ ρ b → H b = some o → (upd H a (.frz od (.dT ws))) b = some o := fun b o hb z => by
    have : b ≠ a := fun y => f.mut_prv m (y ▸ hb)
    rw [upd_ne this]; exact z
  refine ⟨e, fun b o h n _ => ?_, fun b h => ?_, fun b m => .inl (mt b m), fun j es h => ⟨rfl, ?_⟩, fun b hb => ?_, fun j es h o => ?_, fun b h => .inr (.inl (f.prv_back hd k kl b h)), ⟨by rw [List.length_set]; exact f.len, fun j t ov h1 h2 => ?_, fun j l t u b hjl h1 h2 h3 h4 h5 h6 => ?_, fun b hb => ?_, f.prv_go hd k kl fun j t b h1 h2 h3 => ?_⟩⟩
  · have : b ≠ a := fun z => n (z ▸ m)
    rw [upd_ne this]; exact h
  · by_cases z : b = a
    · subst z; rw [upd_same] at h; cases h
    · rw [upd_ne z] at h; exact h
  · by_cases hj : i = j
    · subst hj; rw [hs] at h; cases h
    · exact ⟨es, by rw [List.getElem?_set_ne hj]; exact h⟩
  · rcases hb with hb | rfl
    · exact .inl hb
    · exact .inr (.inr (.inl m))
  · rcases get_set h with ⟨_, h⟩ | ⟨_, h⟩
    · subst h; cases o
    · exact ⟨h, rfl⟩
  · rcases get_set h1 with ⟨rfl, rfl⟩ | ⟨hj, h1⟩
    · rw [e1] at h2; cases h2; exact ⟨_, rfl, rep⟩
    · have ok := f.slot j t _ h1 h2
      refine ok.go e k (fun b o lb z y => ?_) (fun b lt z hb => ?_) (fun b o u y => ?_) (fun kk d v b o z1 z2 l y => by subst z1 z2; exact kl b o ⟨j, kk, d, v, h1, h2, l⟩ y) (fun kk d v b z1 z2 l hb => ?_)
      · subst z
        have : b ≠ a := fun z => by subst z; exact f.apart i j _ t _ hj hs h1 rfl lb e1 h2
        rw [upd_ne this]; exact y
      · subst z
        rcases hb with hb | rfl
        · exact ok.nofz lt hb
        · exact f.apart i j _ t _ hj hs h1 rfl (liveB_of lt) e1 h2
      · have : b ≠ a := fun z => by subst z; exact f.mut_nofrz m _ _ y
        rw [upd_ne this]; exact y
      · subst z1 z2
        rcases hb with hb | rfl
        · exact (f.lr h1 h2 l).1 hb
        · exact (f.prv j kk d v b h1 h2 l).1 i _ hs rfl e1
  · rcases get_set h1 with ⟨rfl, rfl⟩ | ⟨_, h1⟩
    · cases h3
    · rcases get_set h2 with ⟨rfl, rfl⟩ | ⟨_, h2⟩
      · cases h4
      · exact f.apart j l t u b hjl h1 h2 h3 h4 h5 h6
  · rcases hb with hb | rfl
    · obtain ⟨o, y⟩ := f.trk b hb
      exact ⟨o, k b o hb y⟩
    · exact ⟨_, upd_same⟩
  · rcases get_set h1 with ⟨_, rfl⟩ | ⟨_, h1⟩
    · cases h2
    · exact .inl ⟨j, t, h1, h2, h3⟩
def fRetV (i : Nat) (ρ : Env) : Option (Out × Env) := match ρ[i]? with
    | some (.fz d) => some (.ret (.fr d), ρ)
    | some (.own ds) => some (.ret (.nw ds), ρ)
    | some (.dtt kvs) => some (.ret (.fr (dictD kvs)), ρ.set i (.fz (dictD kvs)))
    | some (.dp .tree d) => some (.ret (.fr d), ρ.set i (.fz d))
    | some (.dp .prv d) => some (.ret (.fr d), ρ.set i (.fz d))
    | _ => none
theorem snd_retV (C : CtxOk X N q F) {i x px pos} (h : nameB N q i x = true) : SndS X (.Return (some (.Name x px)) pos) (fRetV i) := by
  refine ⟨_, ps_ret (pe_fzO (pe_name C h)), fun A H σ ρ o ρ' ft e Dn k => ?_⟩
  unfold fRetV at e
  split at e
  · rename_i d hs
    cases e
    obtain ⟨ov, e1, w, rfl, r⟩ := ft.at hs
    exact ⟨w, e1, .inl (k A H σ w (Stp.refl ft) r)⟩
  · rename_i ds hs
    cases e
    obtain ⟨ov, e1, a, vs, rfl, q1, q2, q3, q4⟩ := ft.at hs
    exact ⟨_, e1, .inl (k A H σ _ (Stp.refl ft) ⟨a, vs, rfl, q1, q2, q3, q4, .inr ⟨i, hs, e1⟩⟩)⟩
  · rename_i kvs hs
    cases e
    obtain ⟨a, ws, e1, q1, q⟩ := stp_dfz ft hs
    refine ⟨_, e1, .inr ⟨a, _, rfl, q1, True.intro, fun od => ?_⟩⟩
    obtain ⟨s, r⟩ := q od
    exact k _ _ σ _ s r
  · rename_i d hs
    cases e
    obtain ⟨v, e1, s, r⟩ := stp_freezeD ft hs (by decide)
    exact ⟨v, e1, .inl (k _ H σ v s r)⟩
  · rename_i d hs
    cases e
    obtain ⟨v, e1, s, r⟩ := stp_freezeD ft hs (by decide)
    exact ⟨v, e1, .inl (k _ H σ v s r)⟩
  · cases e
def fIfS (fc : Env → Option (Res × Env)) (fa fb : Env → Option (Out × Env)) (ρ : Env) : Option (Out × Env) := match fc ρ with
    | some (.fr (.bool true), ρ1) => fa ρ1
    | some (.fr (.bool false), ρ1) => fb ρ1
    | _ => none
theorem snd_ife {c a b pos fc fa fb} (hc : SndT X c fc) (ha : SndSs X a fa) (hb : SndSs X b fb) : SndS X (.If c a b pos) (fIfS fc fa fb) := by
  obtain ⟨tc, pc, qc⟩ := hc
  obtain ⟨ta, pa, qa⟩ := ha
  obtain ⟨tb, pb, qb⟩ := hb
  refine ⟨_, ps_if pc pa pb, fun A H σ ρ o ρ' ft e Dn k => ?_⟩
  unfold fIfS at e
  split at e
  · rename_i ρ1 e1
    refine qc A H σ ρ _ ρ1 ft e1 _ fun A1 H1 s1 => ?_
    show if true = true then _ else _
    rw [if_pos rfl]
    exact qa A1 H1 σ ρ1 o ρ' s1.fit e Dn (k.after s1)
  · rename_i ρ1 e1
    refine qc A H σ ρ _ ρ1 ft e1 _ fun A1 H1 s1 => ?_
    show if false = true then _ else _
    rw [if_neg Bool.false_ne_true]
    exact qb A1 H1 σ ρ1 o ρ' s1.fit e Dn (k.after s1)
  · cases e

/-! ### names are set -/
def fAsg (t : T) (fa : Env → Option (Res × Env)) (ρ : Env) : Option (Out × Env) := match fa ρ with
    | none => none
    | some (r, ρ1) => (asgR t r ρ1).map fun ρ2 => (.next, ρ2)
theorem set_stp {A H σ ρ A1 H1 v r ρ1 i ρ'} (ft : Fit A H σ ρ) (s : Stp A H σ ρ A1 H1 σ ρ1) (ok : ResOk A1 H H1 σ ρ1 v r) (e : put i (slotOf r) ρ1 = some ρ') : Stp A H σ ρ A1 H1 (σ.set i (some v)) ρ' := by
  obtain ⟨t, ht, nm, rfl⟩ := put_inv e
  cases r with
  | fr d => exact s.trans (stp_fz s.fit ht nm ok)
  | nw ds =>
    refine stp_own s ht nm (fun es h => ?_) ok
    obtain ⟨_, ds', e2⟩ := s.mus i es h
    rw [ht] at e2; cases e2
    exact nm _ rfl
theorem snd_asgN (C : CtxOk X N q F) {i x px e pos fa} (hN : N[i]? = some x) (hl : locB q x = true) (hs : swapsWith e (some (.Name x px)) pos.line X.env = pure false) (ha : SndE X e fa) : SndS X (.Assign [.Name x px] e pos) (fAsg (.name i) fa) := by
  obtain ⟨t, p, hq⟩ := ha
  obtain ⟨h1, h2⟩ := loc_of C hl
  refine ⟨_, ps_set C.nd (by rw [C.N]; exact hN) h1 p hs h2, fun A H σ ρ o ρ' ft e Dn k => ?_⟩
  unfold fAsg at e
  split at e
  · cases e
  · rename_i r ρ1 e1
    simp only [asgR] at e
    cases e2 : put i (slotOf r) ρ1 with
    | none => rw [e2] at e; cases e
    | some ρ2 =>
      rw [e2] at e
      cases e
      exact hq A H σ ρ r ρ1 ft e1 _ fun A1 H1 v s1 ok => k A1 H1 _ (set_stp ft s1 ok e2)
theorem snd_asgT {tg e pos t fa} (ht : ∀ i, t ≠ .name i) (hs : swapsWithSole [tg] e pos.line X.env = pure false) (hw : swappedStores [tg] e X.env = pure none) (h1 : (assignEach [tg] X.env).map (·.2) = [assign tg X.env])
    (hg : SndG X tg t) (ha : SndE X e fa) : SndS X (.Assign [tg] e pos) (fAsg t fa) := by
  obtain ⟨te, pe, qe⟩ := ha.d
  obtain ⟨g, pg, qg⟩ := hg
  refine ⟨_, ps_asg pe pg hs hw h1, fun A H σ ρ o ρ' ft e Dn k => ?_⟩
  unfold fAsg at e
  split at e
  · cases e
  · rename_i r ρ1 e1
    have e' : (asgT t r.d ρ1).map (fun ρ2 => (Out.next, ρ2)) = some (o, ρ') := by
      cases t with
      | name i => exact absurd rfl (ht i)
      | tup ts => exact e
    cases e2 : asgT t r.d ρ1 with
    | none => rw [e2] at e'; cases e'
    | some ρ2 =>
      rw [e2] at e'
      cases e'
      refine qe A H σ ρ r ρ1 ft e1 _ fun A1 H1 v s1 r1 => ?_
      exact qg A1 H1 σ ρ1 v r.d _ s1.fit r1 e2 _ fun σ' s2 _ => k A1 H1 σ' (s1.trans s2)
def fPar (i j : Nat) (fs : Env → Option (List D × Env)) (ρ : Env) : Option (Out × Env) := match fs ρ with
    | some ([da, db], ρ2) => match put i (.fz da) ρ2 with
        | none => none
        | some ρ3 => (put j (.fz db) ρ3).map fun ρ4 => (.next, ρ4)
    | _ => none
theorem snd_par (C : CtxOk X N q F) {i j : Nat} {x y : Str} {a b : Expr} {px py pt pos : Pos} {kt k2 pt2 fs} (hi : N[i]? = some x) (hj : N[j]? = some y) (hij : i ≠ j) (hx : q.sc.names.lookup x = some .local) (hy : q.sc.names.lookup y = some .local)
    (hw : swappedStores [.Tuple [.Name x px, .Name y py] kt pt] (.Tuple [a, b] k2 pt2) X.env = pure (some [x, y])) (hs : SndA X [a, b] fs) :
    SndS X (.Assign [.Tuple [.Name x px, .Name y py] kt pt] (.Tuple [a, b] k2 pt2) pos) (fPar i j fs) := by
  obtain ⟨ts, ps, qs⟩ := hs
  refine ⟨_, ps_par C.calm C.nd (by rw [C.N]; exact hi) (by rw [C.N]; exact hj) hij (by rw [C.sc]; exact hx) (by rw [C.sc]; exact hy) ps hw, fun A H σ ρ o ρ' ft e Dn k => ?_⟩
  unfold fPar at e
  split at e
  · rename_i da db ρ2 e1
    split at e
    · cases e
    · rename_i ρ3 e2
      cases e3 : put j (.fz db) ρ3 with
      | none => rw [e3] at e; cases e
      | some ρ4 =>
        rw [e3] at e
        cases e
        refine qs A H σ ρ _ ρ2 ft e1 _ fun A1 H1 vs s1 r => ?_
        cases r with
        | cons r1 r2 =>
          cases r2 with
          | cons r2 r3 =>
            cases r3
            obtain ⟨t, ht, nm, rfl⟩ := put_inv e2
            obtain ⟨t', ht', nm', rfl⟩ := put_inv e3
            have s2 := stp_fz s1.fit ht nm r1
            exact ⟨_, _, rfl, k A1 H1 _ ((s1.trans s2).trans (stp_fz s2.fit ht' nm' (Rep.mono s2.ext (s2.keep s1.fit) r2)))⟩
  · cases e
/-- name op= e, of ints -/
def augOp (o : Bop) : Bool := match o with
  | .add | .sub | .mul => true
  | _ => false
theorem snd_iop (o : Bop) (h : augOp o = true) : ∃ r : R2, OpR X (inplaceOp (bop o)) r ∧ ∀ i j d, dBin o (.int i) (.int j) = some (.fr (.int d)) → ∀ H Q, Q (.int d) H → r (.int i) (.int j) H Q := by
  cases o <;> first | (cases h; done) | skip
  · refine ⟨_, iop_add, fun i j d e H Q k => ⟨i, j, rfl, rfl, ?_⟩⟩
    simp only [dBin] at e; cases e; exact k
  · refine ⟨_, iop_sub, fun i j d e H Q k => ⟨i, j, rfl, rfl, ?_⟩⟩
    simp only [dBin] at e; cases e; exact k
  · refine ⟨rI (fun i j => CMul i j ∨ CMulW i j) fun i j => .int (i * j), ?_, fun i j d e H Q k => ?_⟩
    · intro pins s σ H x y v u Q I rx ry h
      obtain ⟨i, j, rfl, rfl, c, q⟩ := h
      obtain ⟨t, rfl⟩ := rx
      obtain ⟨t', rfl⟩ := ry
      exact PyProof.Rows.imul_int ⟨.int _, H, I.tok _, ⟨_, rfl⟩, q⟩ (c.elim CMul.ok CMulW.ok)
    · simp only [dBin] at e
      split at e
      · rename_i hz; cases e; exact ⟨i, j, rfl, rfl, hz, k⟩
      · cases e
def fAug (o : Bop) (i : Nat) (fa : Env → Option (Res × Env)) (ρ : Env) : Option (Out × Env) := match ρ[i]? with
    | some (.fz (.int x)) => match fa ρ with
      | some (.fr (.int y), ρ1) => match dBin o (.int x) (.int y) with
        | some (.fr (.int z)) => (put i (.fz (.int z)) ρ1).map fun ρ2 => (.next, ρ2)
        | _ => none
      | _ => none
    | _ => none
theorem snd_aug (C : CtxOk X N q F) {o : Bop} {i : Nat} {x : Str} {px e pos fa} (ho : augOp o = true) (hN : N[i]? = some x) (hl : locB q x = true) (ha : SndE X e fa) : SndS X (.AugAssign (.Name x px) (bop o) e pos) (fAug o i fa) := by
  obtain ⟨t, p, hq⟩ := ha
  obtain ⟨h1, h2⟩ := loc_of C hl
  obtain ⟨r, pr, qr⟩ := snd_iop (X := X) o ho
  refine ⟨_, ps_aug C.nd (by rw [C.N]; exact hN) h1 p pr h2, fun A H σ ρ o' ρ' ft e Dn k => ?_⟩
  unfold fAug at e
  split at e
  · rename_i z hs
    obtain ⟨ov, e1, w, rfl, rw⟩ := ft.at hs
    cases rw
    refine ⟨_, e1, ?_⟩
    split at e
    · rename_i y ρ1 e2
      split at e
      · rename_i u e3
        cases e4 : put i (.fz (.int u)) ρ1 with
        | none => rw [e4] at e; cases e
        | some ρ2 =>
          rw [e4] at e
          cases e
          refine hq A H σ ρ _ ρ1 ft e2 _ fun A1 H1 v s1 ok => ?_
          cases ok
          refine qr z y u e3 H1 _ ?_
          obtain ⟨t, ht, nm, rfl⟩ := put_inv e4
          exact k A1 H1 _ (s1.trans (stp_fz s1.fit ht nm .int))
      · cases e
    · cases e
  · cases e

/-! ### an item is set -/
theorem Kont.nx {A H σ ρ Dn ρ' A1 H1 σ1} (k : Kont A H σ ρ Dn ρ' .next) (s : Stp A H σ ρ A1 H1 σ1 ρ') : Dn.nx σ1 H1 := k A1 H1 σ1 s
def fSetIx (i : Nat) (fi fa : Env → Option (Res × Env)) (ρ : Env) : Option (Out × Env) := match fa ρ with
    | none => none
    | some (r, ρ1) => match rd ρ1 i with
      | some (.list _) => match fi ρ1 with
        | some (.fr (.int k), ρ2) => match ρ2[i]? with
          | some (.own xs) => (ixN xs.length k).map fun j => (.next, ρ2.set i (.own (xs.set j r.d)))
          | some (.mu xs) => (ixN xs.length k).map fun j => (.next, ρ2.set i (.mu (xs.set j r.d)))
          | _ => none
        | _ => none
      | _ => none
/-- the address of a slot whose list is read -/
theorem rd_at {A H σ} {ρ : Env} {i : Nat} {ds} (f : Fit A H σ ρ) (h : rd ρ i = some (.list ds)) : ∃ a vs, σ[i]? = some (some (.ref a)) ∧ H a = some (.lst vs) ∧ vs.length ≤ sizeLine ∧ RepAll A H vs ds := by
  have hv : ∃ v, σ[i]? = some (some v) := by
    have h' := h
    simp only [rd] at h'
    split at h'
    · rename_i s hs
      obtain ⟨ov, e1, q⟩ := f.at hs
      cases s <;> simp only [Slot.d?, reduceCtorEq] at h'
      · obtain ⟨w, rfl, _⟩ := q; exact ⟨_, e1⟩
      all_goals (obtain ⟨a, vs, rfl, _⟩ := q; exact ⟨_, e1⟩)
    · cases h'
  obtain ⟨v, hv⟩ := hv
  obtain ⟨a, vs, rfl, h1, h2, h3⟩ := (rd_ok f hv h).list
  exact ⟨a, vs, hv, h1, h2, h3⟩
theorem list_len_set {A H vs ds} (h : RepAll A H vs ds) {n : Nat} {v : V} (hl : vs.length ≤ sizeLine) : (vs.set n v).length ≤ sizeLine := by rw [List.length_set]; exact hl
theorem snd_setIx (C : CtxOk X N q F) {i : Nat} {x : Str} {px ix e spos pos fi fa} (h : nameB N q i x = true)
    (hs : swapsWithSole [.Subscript (.Name x px) ix spos] e pos.line X.env = pure false) (hw : swappedStores [.Subscript (.Name x px) ix spos] e X.env = pure none)
    (hx : ∀ v, assign (.Subscript (.Name x px) ix spos) X.env v = (do
      let ov ← holding [v] (eval (.Name x px) X.env)
      let iv ← holding [v, ov] (eval ix X.env)
      standAt spos
      holding [v, ov, iv] (setItem ov iv v)
      release [v, ov, iv] [])) (hi : SndE X ix fi) (ha : SndE X e fa) : SndS X (.Assign [.Subscript (.Name x px) ix spos] e pos) (fSetIx i fi fa) := by
  obtain ⟨te, pe, qe⟩ := ha.d
  obtain ⟨ti, pi, qi⟩ := hi
  refine ⟨_, ps_asg pe (pg_sub (pe_name C h) pi set_list hx) hs hw rfl, fun A H σ ρ o ρ' ft e Dn k => ?_⟩
  unfold fSetIx at e
  split at e
  · cases e
  · rename_i r ρ1 e1
    split at e
    · rename_i ds0 e0
      split at e
      · rename_i kk ρ2 e2
        refine qe A H σ ρ r ρ1 ft e1 _ fun A1 H1 v s1 r1 => ?_
        obtain ⟨a, vs0, hv, _, _, _⟩ := rd_at s1.fit e0
        refine ⟨_, hv, qi A1 H1 σ ρ1 _ ρ2 s1.fit e2 _ fun A2 H2 w s2 ok => ?_⟩
        cases ok
        have go : ∀ s xs, ρ2[i]? = some s → mutL s = true → s.d? = some (.list xs) → (ixN xs.length kk).map (fun j => (Out.next, ρ2.set i (withL s (xs.set j r.d)))) = some (o, ρ') → rSetL (.ref a) (.int kk) v H2 fun H3 => Dn.nx σ H3 := fun s xs hs hm hd e => by
          cases e3 : ixN xs.length kk with
          | none => rw [e3] at e; cases e
          | some j =>
            rw [e3] at e
            cases e
            obtain ⟨a', vs', ds', q1, q2, q3, q4, q5, q6⟩ := s2.fit.mutl hs hm
            rw [hv] at q1; cases q1
            rw [hd] at q3; cases q3
            have r2 := Rep.mono s2.ext (s2.keep s1.fit) r1
            refine ⟨a, vs', kk, j, rfl, rfl, q4, by rw [q6.length]; exact e3, ?_⟩
            exact k.nx ((s1.trans s2).trans (stp_upd s2.fit hs hm hv (list_len_set q6 q5) (RepAll.set r2 j q6)))
        split at e
        · rename_i xs hs; exact go _ xs hs rfl rfl e
        · rename_i xs hs; exact go _ xs hs rfl rfl e
        · cases e
      · cases e
    · cases e
/-- o[i], by values, of a list -/
theorem get_list : PGet X (rIxL X.K) := by
  intro pins s σ H o i ov iv Q I ro ri h
  obtain ⟨p, xs, k, z, rfl, rfl, hq, he, q⟩ := h
  cases ro
  obtain ⟨t, rfl⟩ := ri
  obtain ⟨its, r, pl, hz⟩ := I.list hq
  obtain ⟨j, h1, h2, h3, h4, h5⟩ := atI_get he
  obtain ⟨w, ew, rw'⟩ := r.get h2
  have hl := r.length
  have hn := line63
  have fin : EP X pins σ Q w s := ⟨z, H, I, rw', q⟩
  by_cases h0 : 0 ≤ k
  · have hj : k.toNat = j := by
      rw [seqIndex_of h0 h5] at h1
      exact Option.some.inj h1
    exact wpAny_getItem_list pl.isList h0 (by omega) (by rw [hj]; simpa using ew) fin
  · have hj : (k + (its.toArray.size : Int)).toNat = j := by
      rw [seqIndex_neg (by omega) h4] at h1
      rw [List.size_toArray, ← hl]
      exact Option.some.inj h1
    exact wpAny_getItem_list_neg pl.isList (by omega) (by rw [List.size_toArray] <;> omega) (by omega) (by rw [hj]; simpa using ew) fin
def fAugIx (o : Bop) (i : Nat) (fi fa : Env → Option (Res × Env)) (ρ : Env) : Option (Out × Env) := match rd ρ i with
    | some (.list _) => match fi ρ with
      | some (.fr (.int k), ρ1) => match (match rd ρ1 i with | some (.list us) => atI us k | _ => none) with
        | some (.int x) => match fa ρ1 with
          | some (.fr (.int y), ρ2) => match dBin o (.int x) (.int y) with
            | some (.fr (.int z)) => match ρ2[i]? with
              | some (.own xs) => (ixN xs.length k).map fun j => (.next, ρ2.set i (.own (xs.set j (.int z))))
              | some (.mu xs) => (ixN xs.length k).map fun j => (.next, ρ2.set i (.mu (xs.set j (.int z))))
              | _ => none
            | _ => none
          | _ => none
        | _ => none
      | _ => none
    | _ => none
theorem snd_augIx (C : CtxOk X N q F) {o : Bop} {i : Nat} {x : Str} {px ix e spos pos fi fa} (ho : augOp o = true) (h : nameB N q i x = true)
    (hx : ∀ ov iv new, augStore ix ov iv new = (do holding [new, ov, iv] (setItem ov iv new); release [new, ov, iv] []; pure .next)) (hi : SndE X ix fi) (ha : SndE X e fa) :
    SndS X (.AugAssign (.Subscript (.Name x px) ix spos) (bop o) e pos) (fAugIx o i fi fa) := by
  obtain ⟨te, pe, qe⟩ := ha
  obtain ⟨ti, pi, qi⟩ := hi
  obtain ⟨r, pr, qr⟩ := snd_iop (X := X) o ho
  refine ⟨_, ps_augS (pe_name C h) pi get_list pe pr set_list hx, fun A H σ ρ o' ρ' ft e Dn k => ?_⟩
  unfold fAugIx at e
  split at e
  · rename_i ds0 e0
    obtain ⟨a, vs0, hv, _, _, _⟩ := rd_at ft e0
    split at e
    · rename_i kk ρ1 e1
      refine ⟨_, hv, qi A H σ ρ _ ρ1 ft e1 _ fun A1 H1 w s1 ok => ?_⟩
      cases ok
      split at e
      · rename_i xo ex
        split at ex
        · rename_i ds er
          obtain ⟨a', vs, hv', z1, z2, z3⟩ := rd_at s1.fit er
          rw [hv] at hv'; cases hv'
          obtain ⟨u, u1, u2⟩ := at_rep z3 ex
          cases u2
          refine ⟨a, vs, kk, _, rfl, rfl, SqL.of z1, u1, ?_⟩
          split at e
          · rename_i y ρ2 e2
            refine qe A1 H1 σ ρ1 _ ρ2 s1.fit e2 _ fun A2 H2 w2 s2 ok2 => ?_
            cases ok2
            split at e
            · rename_i zz e3
              refine qr xo y zz e3 H2 _ ?_
              have go : ∀ s xs, ρ2[i]? = some s → mutL s = true → s.d? = some (.list xs) → (ixN xs.length kk).map (fun j => (Out.next, ρ2.set i (withL s (xs.set j (.int zz))))) = some (o', ρ') → rSetL (.ref a) (.int kk) (.int zz) H2 fun H3 => Dn.nx σ H3 := fun s xs hs hm hd e => by
                cases e3 : ixN xs.length kk with
                | none => rw [e3] at e; cases e
                | some j =>
                  rw [e3] at e
                  cases e
                  obtain ⟨a', vs', ds', q1, q2, q3, q4, q5, q6⟩ := s2.fit.mutl hs hm
                  rw [hv] at q1; cases q1
                  rw [hd] at q3; cases q3
                  refine ⟨a, vs', kk, j, rfl, rfl, q4, by rw [q6.length]; exact e3, ?_⟩
                  exact k.nx ((s1.trans s2).trans (stp_upd s2.fit hs hm hv (list_len_set q6 q5) (RepAll.set .int j q6)))
              split at e
              · rename_i xs hs; exact go _ xs hs rfl rfl e
              · rename_i xs hs; exact go _ xs hs rfl rfl e
              · cases e
            · cases e
          · cases e
        · cases ex
      · cases e
    · cases e
  · cases e
end
end Ev

set_option maxRecDepth 100000
/-! Ev13: loops; a block's context. -/
namespace Ev
open PySem L2
variable [TheK]
section
variable {X : Cx} {N : List Str} {q : Sc} {F : FT}
theorem passes (C : CtxOk X N q F) : PassesOwn (model X.prog X.w) X.A X.env X.xe := by rw [C.nox]; exact PassesOwn.never
theorem whileL_out {c b} : ∀ {n} {ρ : Env} {o ρ'}, whileL c b n ρ = some (o, ρ') → o = .next ∨ ∃ r, o = .ret r
  | 0, _, _, _, e => by cases e
  | n + 1, ρ, o, ρ', e => by
    unfold whileL at e
    split at e
    · cases e; exact .inl rfl
    · split at e
      · cases e
      · exact whileL_out e
      · exact whileL_out e
      · cases e; exact .inl rfl
      · cases e; exact .inr ⟨_, rfl⟩
    · cases e
theorem snd_whl (C : CtxOk X N q F) {c b pos fc fb} (n : Nat) (hc : SndT X c fc) (hb : SndSs X b fb) : SndS X (.While c b [] pos) (whileL fc fb n) := by
  obtain ⟨tc, pc, qc⟩ := hc
  obtain ⟨tb, pb, qb⟩ := hb
  refine ⟨_, ps_while (passes C) pc pb, fun A H σ ρ o ρ' ft e Dn k => ?_⟩
  refine ⟨fun m σ H => ∃ A ρ, Fit A H σ ρ ∧ whileL fc fb m ρ = some (o, ρ') ∧ Kont A H σ ρ Dn ρ' o, ⟨n, A, ρ, ft, e, k⟩, ?_⟩
  rintro m σ H ⟨A, ρ, ft, e, k⟩
  cases m with
  | zero => cases e
  | succ m =>
    unfold whileL at e
    split at e
    · rename_i ρ1 e1
      cases e
      refine qc A H σ ρ _ ρ' ft e1 _ fun A1 H1 s1 => ?_
      show if false = true then _ else _
      rw [if_neg Bool.false_ne_true]
      exact k A1 H1 σ s1
    · rename_i ρ1 e1
      refine qc A H σ ρ _ ρ1 ft e1 _ fun A1 H1 s1 => ?_
      show if true = true then _ else _
      rw [if_pos rfl]
      refine ⟨fun σ' H' => ∃ A ρ, Fit A H' σ' ρ ∧ whileL fc fb m ρ = some (o, ρ') ∧ Kont A H' σ' ρ Dn ρ' o, fun σ' H' h => ⟨m, Nat.lt_succ_self m, h⟩, ?_⟩
      split at e
      · cases e
      · rename_i ρ2 e2
        exact qb A1 H1 σ ρ1 .next ρ2 s1.fit e2 _ fun A2 H2 σ2 s2 => ⟨A2, ρ2, s2.fit, e, k.after (s1.trans s2)⟩
      · rename_i ρ2 e2
        exact qb A1 H1 σ ρ1 .cont ρ2 s1.fit e2 _ fun A2 H2 σ2 s2 => ⟨A2, ρ2, s2.fit, e, k.after (s1.trans s2)⟩
      · rename_i ρ2 e2
        cases e
        exact qb A1 H1 σ ρ1 .brk _ s1.fit e2 _ fun A2 H2 σ2 s2 => k A2 H2 σ2 (s1.trans s2)
      · rename_i r ρ2 e2
        cases e
        exact qb A1 H1 σ ρ1 (.ret r) _ s1.fit e2 _ fun A2 H2 σ2 v s2 r2 => k A2 H2 σ2 v (s1.trans s2) (r2.start s1.dom)
    · cases e
def stepF (t : T) (fb : Env → Option (Out × Env)) (d : D) (ρ : Env) : Option (Out × Env) := match asgT t d ρ with
        | none => none
        | some ρa => fb ρa
def fFor (t : T) (fi : Env → Option (List D × Env × List Nat)) (fb : Env → Option (Out × Env)) (ρ : Env) : Option (Out × Env) := match fi ρ with
    | none => none
    | some (ds, ρ1, ls) => match forL (stepF t fb) ds (lendL ls ρ1) with
      | none => none
      | some (o, ρ2) => some (o, unlend ls ρ2)
theorem notSet_ok {iter : Expr} {env x} (h : (match iter with | .Set .. => false | _ => true) = true) : foldedSetIterable iter env x = pure x := by
  cases iter <;> first | rfl | cases h
theorem snd_for (C : CtxOk X N q F) {tg iter b pos t fi fb} (hs : (match iter with | .Set .. => false | _ => true) = true) (hi : SndI X tg iter fi) (hg : SndG X tg t) (hb : SndSs X b fb) : SndS X (.For tg iter b [] pos) (fFor t fi fb) := by
  obtain ⟨wi, pi, qi⟩ := hi
  obtain ⟨g, pg, qg⟩ := hg
  obtain ⟨tb, pb, qb⟩ := hb
  refine ⟨_, ps_for (passes C) C.calm pi pg pb fun x => notSet_ok hs, fun A H σ ρ o ρ' ft e Dn k => ?_⟩
  unfold fFor at e
  split at e
  · cases e
  · rename_i ds ρ0 ls e1
    split at e
    · cases e
    · rename_i o' ρe e2
      cases e
      refine qi A H σ ρ ds ρ0 ls ft e1 _ fun A1 H1 J G s1 io gm lens ow => ?_
      have f1 := s1.fit.lend ls
      obtain ⟨gt, gw⟩ := io
      -- what is wanted, behind the loop with its lists lent
      have kl : Kont A1 H1 σ (lendL ls ρ0) Dn ρe o := by
        cases o with
        | next => exact fun A' H' σ' s' => k A' H' σ' (s1.trans (s'.unlend ow))
        | brk => exact fun A' H' σ' s' => k A' H' σ' (s1.trans (s'.unlend ow))
        | cont => exact fun A' H' σ' s' => k A' H' σ' (s1.trans (s'.unlend ow))
        | ret r =>
          refine fun A' H' σ' v s' r' => k A' H' σ' v (s1.trans (s'.unlend ow)) ?_
          cases r with
          | fr d => exact r'
          | nw es =>
            obtain ⟨a, vs, h1, h2, h3, h4, h5, h6⟩ := r'
            refine ⟨a, vs, h1, h2, h3, h4, h5, h6.imp (s1.dom a) fun ⟨i, z1, z2⟩ => ⟨i, ?_, z2⟩⟩
            rw [unlend_at, z1]
      refine ⟨fun i m σc Hc => m = ds.length - i ∧ i ≤ ds.length ∧ ∃ Ac ρc, Stp A1 H1 σ (lendL ls ρ0) Ac Hc σc ρc ∧ forL (stepF t fb) (ds.drop i) ρc = some (o, ρe), ⟨ds.length, rfl, Nat.zero_le _, A1, _, Stp.refl f1, e2⟩, ?_⟩
      rintro i m σc Hc ⟨rfl, hi, Ac, ρc, sb, ec⟩
      have kc : Keep A1 H1 Hc := sb.keep f1
      have gk : ∀ a o, G a → H1 a = some o → Hc a = some o := fun a o hg z => sb.frame a o z (gm a hg).1 fun m => s1.fit.held_noprv (gm a hg).2 (prv_lend.mp m)
      obtain ⟨g1, g2, g3⟩ := gw Ac Hc sb.ext kc gk i
      by_cases hlt : i < ds.length
      · refine .inr ⟨g1 hlt, ?_⟩
        rw [List.drop_eq_getElem_cons hlt] at ec
        refine ⟨fun σn Hn => ∃ An ρn, Stp A1 H1 σ (lendL ls ρ0) An Hn σn ρn ∧ forL (stepF t fb) (ds.drop (i + 1)) ρn = some (o, ρe), fun σn Hn ⟨An, ρn, z1, z2⟩ => ⟨ds.length - (i + 1), by omega, rfl, hlt, An, ρn, z1, z2⟩, fun x H' y => ?_⟩
        have item : ∃ A', Stp Ac Hc σc ρc A' H' σc ρc ∧ Rep A' H' x ds[i] := by
          rcases g3 x H' ds[i] (List.getElem?_eq_getElem hlt) y with ⟨rfl, rx⟩ | ⟨p, o', B, hp, rfl, hB, rx⟩
          · exact ⟨Ac, Stp.refl sb.fit, rx⟩
          · exact ⟨_, Stp.frzB sb.fit hp hB, rx⟩
        obtain ⟨A', si, rx⟩ := item
        simp only [forL] at ec
        have ec' := ec
        unfold stepF at ec
        split at ec
        · cases ec
        all_goals (rename_i e3; split at e3)
        all_goals first | (cases e3; done) | skip
        · rename_i ρ2 _x ρa ea
          refine qg A' H' σc ρc x ds[i] ρa si.fit rx ea _ fun σ2 sa _ => ?_
          exact qb A' H' σ2 ρa .next ρ2 sa.fit e3 _ fun A3 H3 σ3 s3 => ⟨A3, ρ2, (sb.trans ((si.trans sa).trans s3)), ec⟩
        · rename_i ρ2 _x ρa ea
          refine qg A' H' σc ρc x ds[i] ρa si.fit rx ea _ fun σ2 sa _ => ?_
          exact qb A' H' σ2 ρa .cont ρ2 sa.fit e3 _ fun A3 H3 σ3 s3 => ⟨A3, ρ2, (sb.trans ((si.trans sa).trans s3)), ec⟩
        · rename_i ρ2 _x ρa ea
          cases ec
          refine qg A' H' σc ρc x ds[i] ρa si.fit rx ea _ fun σ2 sa _ => ?_
          exact qb A' H' σ2 ρa .brk _ sa.fit e3 _ fun A3 H3 σ3 s3 => kl A3 H3 σ3 (sb.trans ((si.trans sa).trans s3))
        · rename_i r ρ2 _x ρa ea
          cases ec
          refine qg A' H' σc ρc x ds[i] ρa si.fit rx ea _ fun σ2 sa _ => ?_
          exact qb A' H' σ2 ρa (.ret r) _ sa.fit e3 _ fun A3 H3 σ3 v s3 r3 => kl A3 H3 σ3 v (sb.trans ((si.trans sa).trans s3)) (r3.start ((sb.trans (si.trans sa))).dom)
      · have ie : i = ds.length := by omega
        subst ie
        rw [List.drop_length] at ec
        simp only [forL] at ec
        cases ec
        exact .inl ⟨g2 (Nat.le_refl _), kl Ac Hc σc sb⟩

/-! ### a comprehension's block -/
def blkSc (q : Sc) (scope : Scope) : Sc := ⟨relS scope q.sc, fun x => scope.names.lookup x == some .cell, q.gcd⟩
theorem CtxOk.blk (C : CtxOk X N q F) (s : Shared) (H : Hp) (scope : Scope) (c : Addr) (cl : List (Str × Addr)) (fp : List Addr) (hk : scope.kind = .function) : CtxOk (X.blk s H scope (compEnvC scope cl c X.env) fp) N (blkSc q scope) F where
  N := C.N
  nd := C.nd
  sc := by show relS scope X.env.scope = relS scope q.sc; rw [C.sc]
  fn := rfl
  calm := C.calm
  nox := rfl
  bl := C.bl
  un := C.un
  kk := C.kk
  kd := hk
  gc := C.gc
  fns := C.fns
end
end Ev

set_option maxRecDepth 100000
set_option maxHeartbeats 2000000
/-! EvS: sets of whole numbers, made by a comprehension, measured or sorted at once. The road of HandS.SetBool (truth values), gone with whole numbers. -/
namespace Ev
open PySem PySem.Spec PyProof.Rows L2
section
variable {X : Cx}
def ins (S : Int → Bool) (k : Int) : Int → Bool := fun j => S j || decide (j = k)
def gro (S : Int → Bool) (n : Nat) (k : Int) : Nat := if S k = true then n else n + 1
theorem add_set {pins : List (Addr × Obj)} {σ : L2.St} {H : Hp} {s : Shared} {E : Value → Shared → Prop} {D : Addr} {S : Int → Bool} {n : Nat} {k : Int} {tk : Tok} {Q : Value → Shared → Prop} (I : Inv X pins σ H s) (hD : H D = some (SetO X.w D S n)) (room : n + 1 < scanBound)
    (h : ∀ s', Inv X pins σ (upd H D (SetO X.w D (ins S k) (gro S n k))) s' → Q .none s') : wpAny (model X.prog X.w) X.A (call (.builtin "set.add") [.ref D, .int k tk]) Q E s := by
  refine setR_add (setO_get I hD) room fun h' sb new => h _ ?_
  have he : ∃ u, h'.get? D = some u := by
    obtain ⟨o, _, _, _, ho, _⟩ := new
    exact ⟨o, ho⟩
  exact I.write (e := D) (t' := s.toks + 1) (by rw [hD]; trivial) (.inl rfl) (fun b u hb hu => (sb.2 b hb).trans hu) he (setO_new new)
/-- the empty set at D -/
def set0 (w : World) (D : Addr) : HO := SetO w D (fun _ => false) 0
/-- {elt for tg in iter if ..}, elt a whole number -/
def tScI (w : World) (wi : TI) (g : TG) (tt : TT) (te : TE) (vs : List Nat) : TE := fun σ H Q => wi σ H fun J H1 => ∀ D, H1 D = none → ∃ W : Nat → Nat → Hp → Prop, (∃ m, W 0 m (upd H1 D (set0 w D))) ∧ ∀ i m H, W i m H →
  (J.stop i H ∧ Q (.ref D) H) ∨ (J.go i H ∧ ∃ Nx : Hp → Prop, (∀ H', Nx H' → ∃ m', m' < m ∧ W (i + 1) m' H') ∧ ∀ x H', J.yld i H x H' → g x (wipe σ vs) H' fun σ2 H2 => wipe σ2 vs = wipe σ vs ∧ tt σ2 H2 fun b H3 =>
    if b = true then te σ2 H3 fun y H4 => ∃ (k : Int) (S : Int → Bool) (n : Nat), y = .int k ∧ H4 D = some (SetO w D S n) ∧ n + 1 < scanBound ∧ Nx (upd H4 D (SetO w D (ins S k) (gro S n k))) else Nx H3)
theorem setc_core {pins : List (Addr × Obj)} {s : Shared} {σ : L2.St} {H : Hp} {Q : VK} {elt tg iter : Expr} {ifs : List Expr} {scope : Scope} {own : List (PySem.Str × Nat)} {pos pos' : Pos} {wi : TI} {g : TG} {tt : TT} {te : TE} {Qf : Value → Shared → Prop}
    (hc : X.calm = true) (hN : X.N.Nodup) (I : Inv X pins σ H s) (hi : PI X tg iter wi) (ok : BlkOk X.N X.env.scope scope own)
    (hg : ∀ (s : Shared) (H : Hp) (C : Addr) (cl : List (PySem.Str × Addr)) (fp : List Addr), PG (X.blk s H scope (compEnvC scope cl C X.env) fp) tg g) (ht : ∀ (s : Shared) (H : Hp) (C : Addr) (cl : List (PySem.Str × Addr)) (fp : List Addr), PTs (X.blk s H scope (compEnvC scope cl C X.env) fp) ifs tt)
    (he : ∀ (s : Shared) (H : Hp) (C : Addr) (cl : List (PySem.Str × Addr)) (fp : List Addr), PE (X.blk s H scope (compEnvC scope cl C X.env) fp) elt te) (hs : ∀ x, foldedSetIterable iter X.env x = pure x)
    (h : tScI X.w wi g tt te (own.map (·.2)) σ H Q)
    (fin : ∀ D C s' m H', Inv X pins σ H' s' → Q (.ref D) H' → s'.heap.Ns C m → FpOk X pins H' C → compPost (model X.prog X.w) X.A X.xe none Qf (.ref D) C (.ok .next) s') :
    wpAny (model X.prog X.w) X.A (comprehension (.SetComp elt [⟨tg, iter, ifs, 0⟩] scope pos) scope X.env pos' (newSet (.type "set")) false (eval iter X.env) none) Qf X.xe s := by
  have caught : ∀ y ∈ scope.names, y.2 = .free → ∃ c, X.env.cells.lookup y.1 = some c := fun y hy e => (ok.free y hy e).elim (fun k => I.ok.has _ (.inl k)) fun k => I.ok.has _ (.inr k)
  refine wpAny_comprehension_free (use := none) rfl hs (closure_ok caught) ok.kind (fun y hy e => by rw [ok.uniq y hy, e])
    (thn (hi.run pins s σ H _ I h) fun xv s1 hx => thn hx fun itv s2 h2 => ?_)
  obtain ⟨it, fp, tn, J, H2, rfl, I2, T, st2, f2, q⟩ := h2
  refine PpSet.newSet_ok (newEnv_comp ?_)
  generalize hD : s2.heap.objs.size = D
  obtain ⟨W, ⟨m0, w0⟩, turn⟩ := q D (I2.hok.fresh (Nat.le_of_eq hD))
  -- the set is laid
  generalize hs3 : ({ s2 with heap := s2.heap.push { cls := .type "set", dict := none, data := .set #[] 0 (.fresh 0 0 (!X.w.params.followText "set-order")) } } : Shared) = s3
  have h3 : s3.heap = s2.heap.push { cls := .type "set", dict := none, data := .set #[] 0 (.fresh 0 0 (!X.w.params.followText "set-order")) } := by rw [← hs3]
  have I3 : Inv X pins σ (upd H2 D (set0 X.w D)) s3 := by
    rw [← hs3]
    refine I2.laid (t' := s2.toks) (fun b o e => Heap.get?_push_of_some _ e) (Nat.le_of_eq hD) ?_
    rw [← hD]
    exact setO_new (setR_fresh X.w)
  have f3 : ∀ b ∈ fp, FpOk X pins (upd H2 D (set0 X.w D)) b ∧ b < s3.heap.objs.size := fun b hb => by
    obtain ⟨o, e, _⟩ := T.obj _ _ st2 b hb
    have hlt := Heap.lt_size e
    refine ⟨⟨?_, (f2 b hb).2⟩, by rw [h3, Heap.size_push]; exact Nat.lt_succ_of_lt hlt⟩
    rw [upd_ne (by rw [← hD]; exact Nat.ne_of_lt hlt)]
    exact (f2 b hb).1
  have st3 : tn 0 s3.heap := T.keep _ _ _ st2 fun b _ o e => by rw [h3]; exact Heap.get?_push_of_some _ e
  have I4 := block_start I3 ok hN f3
  have pg := hg s3 (upd H2 D (set0 X.w D)) s3.heap.objs.size (cellsFrom (s3.heap.objs.size + 1) scope.names (cloFrom X.env.cells scope.names [])) fp
  have pt := ht s3 (upd H2 D (set0 X.w D)) s3.heap.objs.size (cellsFrom (s3.heap.objs.size + 1) scope.names (cloFrom X.env.cells scope.names [])) fp
  have pe := he s3 (upd H2 D (set0 X.w D)) s3.heap.objs.size (cellsFrom (s3.heap.objs.size + 1) scope.names (cloFrom X.env.cells scope.names [])) fp
  have nfp : ∀ b ∈ fp, (upd H2 D (set0 X.w D)) b = none := fun b hb => (f3 b hb).1.1
  show codeAny _ _ (.compStart (.SetComp elt [⟨tg, iter, ifs, 0⟩] scope pos) 0 (.ref it) (.ref D) (compEnvC scope (cellsFrom (s3.heap.objs.size + 1) scope.names (cloFrom X.env.cells scope.names [])) s3.heap.objs.size X.env)) (compPost (model X.prog X.w) X.A X.xe none Qf (.ref D) s3.heap.objs.size) { s3 with heap := pushCells (s3.heap.push { cls := .type "dict", data := .dict #[] }) scope.names }
  generalize hce : compEnvC scope (cellsFrom (s3.heap.objs.size + 1) scope.names (cloFrom X.env.cells scope.names [])) s3.heap.objs.size X.env = ce at I4 pg pt pe ⊢
  have cL : ce.locals = s3.heap.objs.size := by subst hce; rfl
  generalize hH3 : upd H2 D (set0 X.w D) = H3 at I3 I4 pg pt pe w0 nfp f3
  generalize hs4 : ({ s3 with heap := pushCells (s3.heap.push { cls := .type "dict", data := .dict #[] }) scope.names } : Shared) = s4 at I4 ⊢
  have st4 : tn 0 s4.heap := T.keep _ _ _ st3 fun b _ o e => by rw [← hs4]; exact pushCells_keeps _ _ _ _ (Heap.get?_push_of_some _ e)
  have stat : ∀ {σ' : L2.St} {H' : Hp} {s' : Shared}, Inv (X.blk s3 H3 scope ce fp) [] σ' H' s' → (∀ b ∈ fp, H' b = none) → ∀ b ∈ fp, FpOk (X.blk s3 H3 scope ce fp) [] H' b := fun {σ' H' s'} I' hn b hb =>
    ⟨hn b hb, (I'.ok.exf b hb).1, I'.ok.exfs b hb, .inl hb, fun x c e => (I'.ok.exf b hb).2 x c e, fun p hp => absurd (show p ∈ ([] : List (Addr × Obj)) ++ [] from hp) (by simp)⟩
  have loop : codeAny (model X.prog X.w) X.A (.compLoop (.SetComp elt [⟨tg, iter, ifs, 0⟩] scope pos) 0 (.ref it) (.ref D) ce) (compPost (model X.prog X.w) X.A X.xe none Qf (.ref D) s3.heap.objs.size) s4 := by
    refine PpSet.compLoopS_any (fun n s' => ∃ i H', Inv (X.blk s3 H3 scope ce fp) [] (wipe σ (own.map (·.2))) H' s' ∧ tn i s'.heap ∧ (∀ b ∈ fp, H' b = none) ∧ W i n H') ?_ m0 ⟨0, H3, I4, st4, nfp, w0⟩
    rintro n s5 ⟨i, H5, I5, st5, n5, w5⟩
    rcases turn i n H5 w5 with ⟨stop, qq⟩ | ⟨go, Nx, hNx, step⟩
    · refine thnF (T.done (X.blk s3 H3 scope ce fp) rfl rfl rfl hc i [] s5 _ H5 (fun _ _ => False) I5 (stat I5 n5) st5 stop) fun r s6 ⟨hr, I6⟩ => ?_
      subst hr
      have I7 : Inv X pins σ H5 s6 := I3.call' (ch := fp) I6.os I6.base I6.hok I6.bare fun b hb => ⟨(f3 b hb).1.2.2.2.1, (f3 b hb).1.2.1, (f3 b hb).1.2.2.2.2.1, (f3 b hb).1.2.2.2.2.2⟩
      have nC : H5 s3.heap.objs.size = none := by
        have z : H5 ce.locals = none := I6.free
        rwa [cL] at z
      obtain ⟨m, hn, _⟩ := I6.loc
      have hn : s6.heap.Ns ce.locals m := hn
      rw [cL] at hn
      exact fin D s3.heap.objs.size s6 m H5 I7 qq hn (I3.fpOk (Nat.le_refl _) nC)
    · refine thnF (T.item (X.blk s3 H3 scope ce fp) rfl rfl rfl hc i [] s5 _ H5 (fun _ _ => False) I5 (stat I5 n5) st5 go) fun r s6 ⟨u, hr, h6⟩ => ?_
      subst hr
      refine thnF h6 fun _ s7 ⟨x, H7, I7, r7, y7, st7, n7⟩ => ?_
      have I7' := I7.pinned (stat I7 n7) (T.obj _ _ st7)
      refine thnF (pg.run _ s7 _ H7 x u _ I7' r7 (step x H7 y7)) fun _ s8 ⟨σ8, H8, I8, hw8, q8⟩ => ?_
      refine thnF (pt.run _ s8 σ8 H8 _ I8 q8) fun b s9 ⟨H9, I9, q9⟩ => ?_
      have close : ∀ {s' : Shared} {H' : Hp}, Inv (X.blk s3 H3 scope ce fp) ([] ++ pinsAt fp s7.heap) σ8 H' s' → Nx H' → ∃ m, m < n ∧ ∃ i H', Inv (X.blk s3 H3 scope ce fp) [] (wipe σ (own.map (·.2))) H' s' ∧ tn i s'.heap ∧ (∀ b ∈ fp, H' b = none) ∧ W i m H' := fun {s' H'} I' nx => by
        obtain ⟨m', hm, w'⟩ := hNx H' nx
        have pin' : ∀ b ∈ fp, ∀ o, s7.heap.get? b = some o → s'.heap.get? b = some o ∧ H' b = none := fun b hb o e =>
          let z := I'.pin (b, o) (List.mem_append_right _ (List.mem_append_right _ (mem_pinsAt hb e)))
          ⟨z.1, z.2.1⟩
        refine ⟨m', hm, i + 1, H', (I'.unpinned (pins := [])).weak (by rw [← hw8, wipe_length]) (fun j v e => ?_), T.keep _ _ _ st7 fun b hb o e => (pin' b hb o e).1, fun b hb => ?_, w'⟩
        · rw [← hw8] at e
          exact (wipe_some e).1
        · obtain ⟨o, e, _⟩ := T.obj _ _ st7 b hb
          exact (pin' b hb o e).2
      cases b with
      | false =>
        simp only [Bool.false_eq_true, if_false] at q9 ⊢
        exact close I9 q9
      | true =>
        simp only [if_true] at q9 ⊢
        refine thnF (pe.run _ s9 σ8 H9 _ I9 q9) fun z s10 ⟨yv, H10, I10, r10, kz, S0, n0, ey, hD10, hz10, nx⟩ => ?_
        subst ey
        obtain ⟨tk, rfl⟩ : ∃ tk, z = Value.int kz tk := r10
        exact add_set (X := X.blk s3 H3 scope ce fp) I10 hD10 hz10 fun s11 I11 => close I11 nx
  exact PpSet.codeAny_compStart_set loop (T.self X.A 0 _ _ _ st4 loop)
theorem pe_setc {elt tg iter : Expr} {ifs : List Expr} {scope : Scope} {own : List (PySem.Str × Nat)} {pos : Pos} {wi : TI} {g : TG} {tt : TT} {te : TE} (hc : X.calm = true) (hN : X.N.Nodup) (hi : PI X tg iter wi) (ok : BlkOk X.N X.env.scope scope own)
    (hg : ∀ (s : Shared) (H : Hp) (C : Addr) (cl : List (PySem.Str × Addr)) (fp : List Addr), PG (X.blk s H scope (compEnvC scope cl C X.env) fp) tg g) (ht : ∀ (s : Shared) (H : Hp) (C : Addr) (cl : List (PySem.Str × Addr)) (fp : List Addr), PTs (X.blk s H scope (compEnvC scope cl C X.env) fp) ifs tt)
    (he : ∀ (s : Shared) (H : Hp) (C : Addr) (cl : List (PySem.Str × Addr)) (fp : List Addr), PE (X.blk s H scope (compEnvC scope cl C X.env) fp) elt te) (hs : ∀ x, foldedSetIterable iter X.env x = pure x) :
    PE X (.SetComp elt [⟨tg, iter, ifs, 0⟩] scope pos) (tScI X.w wi g tt te (own.map (·.2))) := by
  refine ⟨fun pins s σ H Q I h => ?_⟩
  rw [PpSet.eval_SetComp]
  refine setc_core hc hN I hi ok hg ht he hs h fun D C s' m H' I' q hn f => ⟨m, hn, fun h'' sb => ?_⟩
  obtain ⟨f0, f1, f2, f3, f4, f5⟩ := f
  exact ⟨.ref D, H', I'.turned (t' := s'.toks) (fun b o hb e => (sb.2 b hb).trans e) f0 f1 f3 f4 f5, rfl, q⟩
/-- len of a set of whole numbers -/
theorem cr_lenSet : CallR X (.builtin "len") (fun vs H Q => ∃ (a : Addr) (S : Int → Bool) (n : Nat), vs = [V.ref a] ∧ H a = some (SetO X.w a S n) ∧ Q (.int n) H) := by
  intro pins s σ H vs us Q I r h
  obtain ⟨a, S, n, rfl, ha, q⟩ := h
  have R := setO_get I ha
  rw [Vals.ref1 r]
  obtain ⟨o, es, ep, t, ho, hex, hd, _, _, _, hb, hf, hn, _, _⟩ := R
  have hsb : (scanBound : Nat) = 4096 := rfl
  refine call_len_set ho hex hd hf (by omega) ⟨.int n, H, (I.tok _).tok _, ⟨_, by rw [← hn]⟩, q⟩
end
theorem dd_mem : ∀ (l : List Int) (x : Int), x ∈ dd l ↔ x ∈ l
  | [], x => by simp [dd]
  | y :: r, x => by
    unfold dd
    by_cases h : y ∈ r
    · rw [if_pos h, dd_mem r]
      simp only [List.mem_cons]
      constructor
      · exact .inr
      · rintro (rfl | h'); exact h; exact h'
    · rw [if_neg h]
      simp [dd_mem r]
theorem dd_nodup : ∀ l : List Int, (dd l).Nodup
  | [] => by simp [dd]
  | y :: r => by
    unfold dd
    by_cases h : y ∈ r
    · rw [if_pos h]; exact dd_nodup r
    · rw [if_neg h]; exact List.nodup_cons.mpr ⟨fun z => h ((dd_mem r y).mp z), dd_nodup r⟩
theorem dd_le : ∀ l : List Int, (dd l).length ≤ l.length
  | [] => by simp [dd]
  | y :: r => by
    have := dd_le r
    unfold dd
    by_cases h : y ∈ r
    · rw [if_pos h, List.length_cons]; omega
    · rw [if_neg h, List.length_cons, List.length_cons]; omega
def memB (l : List Int) : Int → Bool := fun j => decide (j ∈ l)
theorem ins_mem (l : List Int) (k : Int) : ins (memB l) k = memB (l ++ [k]) := by
  funext j
  unfold ins memB
  rw [Bool.eq_iff_iff]
  simp
theorem gro_dd (l : List Int) (k : Int) : gro (memB l) (dd l).length k = (dd (l ++ [k])).length := by
  unfold gro memB
  by_cases h : k ∈ l
  · rw [if_pos (by simpa using h)]
    apply List.Perm.length_eq
    rw [List.perm_ext_iff_of_nodup (dd_nodup _) (dd_nodup _)]
    intro a
    rw [dd_mem, dd_mem]
    simp only [List.mem_append, List.mem_singleton]
    constructor
    · exact .inl
    · rintro (h' | rfl); exact h'; exact h
  · rw [if_neg (by simpa using h)]
    have : (k :: dd l).Perm (dd (l ++ [k])) := by
      rw [List.perm_ext_iff_of_nodup (List.nodup_cons.mpr ⟨fun z => h ((dd_mem l k).mp z), dd_nodup l⟩) (dd_nodup _)]
      intro a
      rw [List.mem_cons, dd_mem, dd_mem]
      simp only [List.mem_append, List.mem_singleton]
      constructor
      · rintro (rfl | h'); exact .inr rfl; exact .inl h'
      · rintro (h' | rfl); exact .inr h'; exact .inl rfl
    simpa using this.length_eq
variable [TheK]
theorem set_core {w : World} {wi : TI} {t : T} {vs : List Nat} {fi fc fe} (hts : ∀ i ∈ tslots t, i ∈ vs)
    (qi : ∀ A H σ ρ ds ρ0 ls, Fit A H σ ρ → fi ρ = some (ds, ρ0, ls) → ∀ R : L2.It → Hp → Prop,
      (∀ A' H' J G, Stp A H σ ρ A' H' σ ρ0 → IterOk A' H' G J ds → (∀ a, G a → ¬ Mut σ (lendL ls ρ0) a ∧ Held A' σ ρ0 a) → ds.length ≤ sizeLine → Owns ρ0 ls → R J H') → wi σ H R)
    {A H σ ρ ns ρ'} (ft : Fit A H σ ρ) (e : fComp t vs fi fc fe ρ = some (.nw (ns.map .int), ρ')) (hz : ns.length < 4095) (Q : VK) (k : ∀ A' H' p, Stp A H σ ρ A' H' σ ρ' → H' p = some (SetO w p (memB ns) (dd ns).length) → Q (.ref p) H') :
    tScI w wi (gT t) (tT fc) (tE fe) vs σ H Q := by
  have hsb : (scanBound : Nat) = 4096 := rfl
  unfold fComp at e
  split at e
  · cases e
  · rename_i ds ρ0 ls e1
    split at e
    · cases e
    · rename_i hq
      split at e
      · cases e
      · rename_i rr ρ2 e2
        cases e
        have hq : ∀ i ∈ vs, ∃ s, (lendL ls ρ0)[i]? = some s ∧ quietS s = true := fun i hi => by
          have := (List.all_eq_true.mp ((Bool.not_eq_false _).mp hq)) i hi
          split at this
          · rename_i s hs; exact ⟨s, hs, this⟩
          · cases this
        have nm : ∀ i ∈ vs, ∀ es, (lendL ls ρ0)[i]? = some (.mu es) → False := fun i hi es h => by
          obtain ⟨s, z1, z2⟩ := hq i hi
          rw [h] at z1; cases z1; cases z2
        refine qi A H σ ρ ds ρ0 ls ft e1 _ fun A1 H1 J G s1 io gm lens ow => ?_
        have f1 := s1.fit.lend ls
        obtain ⟨gt, gw⟩ := io
        intro D hD
        have nD : ¬ A1 D := f1.nofrz hD
        have rD : NoRef H1 σ (lendL ls ρ0) D := .new f1 hD
        have b0 : Stp A1 H1 σ (lendL ls ρ0) A1 H1 (L2.wipe σ vs) (wipeE vs (lendL ls ρ0)) := (Stp.refl f1).wipe nm
        have rD0 : NoRef H1 (L2.wipe σ vs) (wipeE vs (lendL ls ρ0)) D := rD.wipe f1 vs
        refine ⟨fun i m Hc => m = ds.length - i ∧ i ≤ ds.length ∧ ∃ (Ac : Addr → Prop) (ρb : Env) (acc : List Int) (rest : List Ev.D), Stp A1 H1 σ (lendL ls ρ0) Ac Hc (L2.wipe σ vs) ρb ∧ Hc D = some (SetO w D (memB acc) (dd acc).length) ∧ ¬ Ac D ∧
          NoRef Hc (L2.wipe σ vs) ρb D ∧ compL (stepC t vs fc fe) (ds.drop i) ρb = some (rest, ρ2) ∧ acc.map .int ++ rest = ns.map .int,
          ⟨ds.length, rfl, Nat.zero_le _, A1, _, [], ns.map .int, b0.other hD nD rD0 (fun o u z => by rw [hD] at z; cases z), upd_same, nD, rD0.upd b0.fit nD, e2, rfl⟩, ?_⟩
        rintro i m Hc ⟨rfl, hi, Ac, ρb, acc, rest, sb, hDc, nDc, rDc, ec, er⟩
        have kc : Keep A1 H1 Hc := sb.keep f1
        have gk : ∀ a o, G a → H1 a = some o → Hc a = some o := fun a o hg z => sb.frame a o z (gm a hg).1 fun m => s1.fit.held_noprv (gm a hg).2 (prv_lend.mp m)
        obtain ⟨g1, g2, g3⟩ := gw Ac Hc sb.ext kc gk i
        by_cases hlt : i < ds.length
        · refine .inr ⟨g1 hlt, ?_⟩
          rw [List.drop_eq_getElem_cons hlt] at ec
          simp only [compL] at ec
          split at ec
          · cases ec
          · rename_i o ρ3 e3
            split at ec
            · cases ec
            · rename_i r2 ρ4 e4
              cases ec
              refine ⟨fun Hn => ∃ (An : Addr → Prop) (an : List Int), Stp A1 H1 σ (lendL ls ρ0) An Hn (L2.wipe σ vs) ρ3 ∧ Hn D = some (SetO w D (memB an) (dd an).length) ∧ ¬ An D ∧ NoRef Hn (L2.wipe σ vs) ρ3 D ∧ an.map .int ++ r2 = ns.map .int, fun Hn hn => ?_, fun x H' y => ?_⟩
              · obtain ⟨An, an, z1, z2, z5, z6, z7⟩ := hn
                exact ⟨ds.length - (i + 1), by omega, rfl, hlt, An, ρ3, an, r2, z1, z2, z5, z6, e4, z7⟩
              · have item : ∃ A', Stp Ac Hc (L2.wipe σ vs) ρb A' H' (L2.wipe σ vs) ρb ∧ Rep A' H' x ds[i] := by
                  rcases g3 x H' ds[i] (List.getElem?_eq_getElem hlt) y with ⟨rfl, rx⟩ | ⟨p, o', B, hp, rfl, hB, rx⟩
                  · exact ⟨Ac, Stp.refl sb.fit, rx⟩
                  · exact ⟨_, Stp.frzB sb.fit hp hB, rx⟩
                obtain ⟨A', si, rx⟩ := item
                unfold stepC at e3
                split at e3
                · cases e3
                · rename_i ρa ea
                  refine ⟨A', ρb, ds[i], ρa, si.fit, rx, ea, fun σ' sa oa => ?_⟩
                  have wv : L2.wipe σ' vs = L2.wipe σ vs := by rw [wipe_only (oa.mono hts), wipe_wipe]
                  refine ⟨wv, ?_⟩
                  split at e3
                  · cases e3
                  · rename_i ρb' ec'
                    cases e3
                    refine ⟨A', ρa, false, ρb', sa.fit, ec', fun A2 H2 s2 => ?_⟩
                    show if false = true then _ else _
                    rw [if_neg Bool.false_ne_true]
                    have tot := (si.trans sa).trans s2
                    have all := (sb.trans tot).wipe nm
                    rw [wv] at all
                    have rn := rDc.stp tot hDc
                    refine ⟨A2, acc, all, tot.frame D _ hDc rDc.nomut rDc.2, nofrz_stp nDc rDc tot hDc, by rw [← wv]; exact rn.wipe tot.fit vs, er⟩
                  · rename_i ρb' ec'
                    split at e3
                    · cases e3
                    · rename_i re ρc ee
                      cases e3
                      refine ⟨A', ρa, true, ρb', sa.fit, ec', fun A2 H2 s2 => ?_⟩
                      show if true = true then _ else _
                      rw [if_pos rfl]
                      refine ⟨A2, ρb', re, ρc, s2.fit, ee, fun A3 H3 y3 s3 r3 => ?_⟩
                      have tot := ((si.trans sa).trans s2).trans s3
                      have all := (sb.trans tot).wipe nm
                      rw [wv] at all
                      have rn := rDc.stp tot hDc
                      have hD3 := tot.frame D _ hDc rDc.nomut rDc.2
                      have na3 := nofrz_stp nDc rDc tot hDc
                      have rn3 : NoRef H3 (L2.wipe σ vs) (wipeE vs ρc) D := by rw [← wv]; exact rn.wipe tot.fit vs
                      -- the item is a whole number
                      have hk : ∃ kz : Int, re.d = .int kz := by
                        have hm : re.d ∈ ns.map (PyData.int) := by rw [← er]; simp
                        obtain ⟨kz, _, e⟩ := List.mem_map.mp hm
                        exact ⟨kz, e.symm⟩
                      obtain ⟨kz, hk⟩ := hk
                      rw [hk] at r3 er
                      cases r3
                      have hlen : acc.length < ns.length := by
                        have := congrArg List.length er
                        simp only [List.length_append, List.length_map, List.length_cons] at this
                        omega
                      have hdd := dd_le acc
                      refine ⟨kz, memB acc, (dd acc).length, rfl, hD3, by omega, A3, acc ++ [kz], all.other hD na3 rn3 (fun o u z => by rw [hD3] at z; cases z), ?_, na3, rn3.upd all.fit na3, ?_⟩
                      · rw [upd_same, ins_mem, gro_dd]
                      · rw [List.map_append, List.append_assoc]; exact er
        · have ie : i = ds.length := by omega
          subst ie
          refine .inl ⟨g2 (Nat.le_refl _), ?_⟩
          rw [List.drop_length] at ec
          simp only [compL] at ec
          cases ec
          rw [List.append_nil] at er
          have ea : acc = ns := by
            have inj : ∀ a b : List Int, a.map PyData.int = b.map PyData.int → a = b := by
              intro a
              induction a with
              | nil => intro b h; cases b with | nil => rfl | cons _ _ => simp at h
              | cons x a ih =>
                intro b h
                cases b with
                | nil => simp at h
                | cons y b =>
                  simp only [List.map_cons, List.cons.injEq, PyData.int.injEq] at h
                  rw [h.1, ih b h.2]
            exact inj _ _ er
          subst ea
          exact k Ac Hc D (s1.trans (Stp.unlend ow (Stp.back f1 sb hq))) hDc
theorem ints_of_all : ∀ {rr : List Ev.D} {ns : List Int}, allInts rr = some ns → rr = ns.map .int
  | [], ns, h => by cases h; rfl
  | d :: l, ns, h => by
    cases d <;> simp only [allInts, reduceCtorEq] at h
    cases h' : allInts l with
    | none => rw [h'] at h; cases h
    | some ms => rw [h'] at h; cases h; rw [List.map_cons, ints_of_all h']
theorem fSetc_inv {srt t vs fi fc fe ρ r ρ'} (e : fSetc srt t vs fi fc fe ρ = some (r, ρ')) : ∃ ns : List Int, fComp t vs fi fc fe ρ = some (.nw (ns.map .int), ρ') ∧ ns.length < 4095 ∧ ((srt = true ∧ (dd ns).length < 64 ∧ r = .nw ((sortI (dd ns)).map .int)) ∨ (srt = false ∧ r = .fr (.int ((dd ns).length : Nat)))) := by
  rw [fSetc_eq] at e
  split at e
  · rename_i rr ρ1 h1
    cases hs : setR srt rr with
    | none => rw [hs] at e; cases e
    | some x =>
      rw [hs] at e
      cases e
      unfold setR at hs
      split at hs
      · cases hs
      · rename_i ns ha
        rw [ints_of_all ha] at h1
        split at hs
        · rename_i hz
          refine ⟨ns, h1, hz, ?_⟩
          cases srt with
          | true =>
            simp only at hs
            split at hs
            · rename_i h64; cases hs; exact .inl ⟨rfl, h64, rfl⟩
            · cases hs
          | false => simp only at hs; cases hs; exact .inr ⟨rfl, rfl⟩
        · cases hs
  · cases e
/-- len({..}), sorted({..}) -/
theorem snd_setc {X : Cx} {N : List Str} {q : Sc} {F : FT} (C : CtxOk X N q F) {srt : Bool} {tg iter elt : Expr} {ifs : List Expr} {scope : Scope} {pos p pc : Pos} {t : T} {vs : List Nat} {wi : TI} {fi fc fe} {own : List (Str × Nat)}
    (hg : glB q.sc (Str.ofString (if srt then "sorted" else "len")) = true) (hts : ∀ i ∈ tslots t, i ∈ vs) (hv : own.map (·.2) = vs)
    (qi : ∀ A H σ ρ ds ρ0 ls, Fit A H σ ρ → fi ρ = some (ds, ρ0, ls) → ∀ R : L2.It → Hp → Prop,
      (∀ A' H' J G, Stp A H σ ρ A' H' σ ρ0 → IterOk A' H' G J ds → (∀ a, G a → ¬ Mut σ (lendL ls ρ0) a ∧ Held A' σ ρ0 a) → ds.length ≤ sizeLine → Owns ρ0 ls → R J H') → wi σ H R)
    (pi : PI X tg iter wi) (bo : BlkOk X.N X.env.scope scope own)
    (pg : ∀ (s : Shared) (H : Hp) (a : Addr) (cl : List (Str × Addr)) (fp : List Addr), PG (X.blk s H scope (compEnvC scope cl a X.env) fp) tg (gT t))
    (pt : ∀ (s : Shared) (H : Hp) (a : Addr) (cl : List (Str × Addr)) (fp : List Addr), PTs (X.blk s H scope (compEnvC scope cl a X.env) fp) ifs (tT fc))
    (pe : ∀ (s : Shared) (H : Hp) (a : Addr) (cl : List (Str × Addr)) (fp : List Addr), PE (X.blk s H scope (compEnvC scope cl a X.env) fp) elt (tE fe))
    (hs : ∀ x, foldedSetIterable iter X.env x = pure x) :
    SndE X (.Call (.Name (Str.ofString (if srt then "sorted" else "len")) p) [.SetComp elt [⟨tg, iter, ifs, 0⟩] scope pc] [] pos) (fSetc srt t vs fi fc fe) := by
  have ps := pe_setc (pos := pc) C.calm C.nd pi bo pg pt pe hs
  rw [hv] at ps
  cases srt with
  | false =>
    refine ⟨_, pe_callB cr_lenSet (gl_of C hg) (C.bl "len" (by decide)) PySem.boot_len (pa_cons ps pa_nil (star_cons rfl)) (by decide) (by decide) (star_cons rfl) rfl, fun A H σ ρ r ρ' ft e Q k => ?_⟩
    obtain ⟨ns, e1, hz, ⟨h, _⟩ | ⟨_, rfl⟩⟩ := fSetc_inv e
    · cases h
    · delta tCB tCons tNil
      dsimp only
      refine set_core (w := X.w) hts qi ft e1 hz _ fun A' H' a s1 ha => ?_
      exact ⟨a, _, _, rfl, ha, k A' H' _ s1 .int⟩
  | true =>
    refine ⟨_, pe_callB (cr_sortedSet C.calm) (gl_of C hg) (C.bl "sorted" (by decide)) PyProof.Rows.boot_sorted (pa_cons ps pa_nil (star_cons rfl)) (by decide) (by decide) (star_cons rfl) rfl, fun A H σ ρ r ρ' ft e Q k => ?_⟩
    obtain ⟨ns, e1, hz, ⟨_, h64, rfl⟩ | ⟨h, _⟩⟩ := fSetc_inv e
    · delta tCB tCons tNil
      dsimp only
      refine set_core (w := X.w) hts qi ft e1 hz _ fun A' H' a s1 ha => ?_
      refine ⟨a, _, _, rfl, ha, h64, fun ns' p hs1 hs2 hl hp => ?_⟩
      have en : ns' = sortI (dd ns) := by
        refine sort_uniq ?_ (hs1.imp fun h => by omega) (sortI_sorted _)
        refine List.Perm.trans ?_ (sortI_perm (dd ns)).symm
        rw [List.perm_ext_iff_of_nodup (hs1.imp fun h => by omega) (dd_nodup ns)]
        intro x
        rw [hs2, dd_mem]
        simp [memB]
      subst en
      have hlen : ((sortI (dd ns)).map V.int).length ≤ sizeLine := by
        rw [List.length_map, hl]
        have : (64 : Nat) ≤ sizeLine := by decide
        omega
      exact k _ _ _ (s1.trans (Stp.grow s1.fit (upd_grow hp))) (ResOk.start (res_new s1.fit hp hlen (rep_ints _)) s1.dom)
    · cases h
end Ev

set_option maxRecDepth 100000
/-! EvD: a dict of one's own, by ints. -/
namespace Ev
open PySem L2
variable [TheK]
theorem kv_get {A H} : ∀ {ws : List (Key × V)} {kvs : List (Int × D)} (k : Int), KvRep A H ws kvs → (kvGet kvs k = none ∧ valV ws (.inl k) = none) ∨ ∃ d v, kvGet kvs k = some d ∧ valV ws (.inl k) = some v ∧ Rep A H v d
  | [], [], k, _ => .inl ⟨rfl, rfl⟩
  | [], _ :: _, _, h => by have := h.1; simp at this
  | _ :: _, [], _, h => by have := h.1; simp at this
  | (k1, v) :: ws, (k2, d) :: kvs, k, h => by
    obtain ⟨h1, h2⟩ := h
    simp only [List.map_cons, List.cons.injEq] at h1
    obtain ⟨rfl, h1⟩ := h1
    cases h2 with
    | cons r1 r2 =>
      by_cases e : k2 = k
      · subst e
        exact .inr ⟨d, v, by simp [kvGet], by rw [valV_pos rfl], r1⟩
      · have e' : ¬ ((Sum.inl k2 : Key) = Sum.inl k) := fun z => e (Sum.inl.inj z)
        rw [valV_neg (p := ((Sum.inl k2 : Key), v)) e']
        have : kvGet ((k2, d) :: kvs) k = kvGet kvs k := by simp [kvGet, List.find?_cons, e]
        rw [this]
        exact kv_get k ⟨h1, r2⟩
theorem kv_any {A H} : ∀ {ws : List (Key × V)} {kvs : List (Int × D)} (k : Int), KvRep A H ws kvs → (ws.any fun p => decide (p.1 = (Sum.inl k : Key))) = kvs.any fun p => decide (p.1 = k)
  | [], [], k, _ => rfl
  | [], _ :: _, _, h => by have := h.1; simp at this
  | _ :: _, [], _, h => by have := h.1; simp at this
  | (k1, v) :: ws, (k2, d) :: kvs, k, h => by
    obtain ⟨h1, h2⟩ := h
    simp only [List.map_cons, List.cons.injEq] at h1
    obtain ⟨rfl, h1⟩ := h1
    cases h2 with
    | cons r1 r2 =>
      rw [List.any_cons, List.any_cons, kv_any k ⟨h1, r2⟩]
      congr 1
      by_cases e : k2 = k <;> simp [e]
theorem kv_map {A H v d} (r : Rep A H v d) : ∀ {ws : List (Key × V)} {kvs : List (Int × D)} (k : Int), KvRep A H ws kvs → KvRep A H (ws.map fun p => if p.1 = (Sum.inl k : Key) then (p.1, v) else p) (kvs.map fun p => if p.1 = k then (p.1, d) else p)
  | [], [], k, _ => ⟨rfl, .nil⟩
  | [], _ :: _, _, h => by have := h.1; simp at this
  | _ :: _, [], _, h => by have := h.1; simp at this
  | (k1, w) :: ws, (k2, e) :: kvs, k, h => by
    obtain ⟨h1, h2⟩ := h
    simp only [List.map_cons, List.cons.injEq] at h1
    obtain ⟨rfl, h1⟩ := h1
    cases h2 with
    | cons r1 r2 =>
      obtain ⟨g1, g2⟩ := kv_map r k (ws := ws) (kvs := kvs) ⟨h1, r2⟩
      by_cases e : k2 = k
      · subst e
        refine ⟨?_, ?_⟩
        · simp only [List.map_cons, if_true, List.cons.injEq, true_and]; exact g1
        · simp only [List.map_cons, if_true]; exact .cons r g2
      · have e' : ¬ ((Sum.inl k2 : Key) = Sum.inl k) := fun z => e (Sum.inl.inj z)
        refine ⟨?_, ?_⟩
        · simp only [List.map_cons, if_neg e, if_neg e', List.cons.injEq, true_and]; exact g1
        · simp only [List.map_cons, if_neg e, if_neg e']; exact .cons r1 g2
theorem kv_put {A H v d} {ws : List (Key × V)} {kvs : List (Int × D)} (k : Int) (h : KvRep A H ws kvs) (r : Rep A H v d) : KvRep A H (putK ws (Sum.inl k) v) (kvPut kvs k d) := by
  unfold putK kvPut
  rw [kv_any k h]
  split
  · exact kv_map r k h
  · refine ⟨?_, ?_⟩
    · simp only [List.map_append, List.map_cons, List.map_nil]; rw [h.1]
    · simp only [List.map_append, List.map_cons, List.map_nil]; exact h.2.append (.cons r .nil)
theorem kv_len {A H ws kvs} (h : KvRep A H ws kvs) : ws.length = kvs.length := by
  have := congrArg List.length h.1
  simpa using this
theorem dct_at {A H σ} {ρ : Env} {i : Nat} {kvs} (f : Fit A H σ ρ) (h : ρ[i]? = some (.dct kvs)) : ∃ a ws, σ[i]? = some (some (.ref a)) ∧ H a = some (.dK ws) ∧ ws.length ≤ sizeLine ∧ KvRep A H ws kvs ∧ ¬ A a := by
  obtain ⟨ov, e1, a, ws, rfl, h1, h2, h3, h4⟩ := f.at h
  exact ⟨a, ws, e1, h1, h2, h3, h4⟩
theorem dctB_at {A H σ} {ρ : Env} {i : Nat} (f : Fit A H σ ρ) (h : dctB ρ i = true) : ∃ a, σ[i]? = some (some (.ref a)) := by
  unfold dctB at h
  split at h
  · rename_i kvs hs
    obtain ⟨a, ws, h1, _⟩ := dct_at f hs
    exact ⟨a, h1⟩
  · cases h
/-- a dict is changed -/
theorem stp_dct {A H σ} {ρ : Env} {i : Nat} {a : Addr} {kvs kvs' : List (Int × D)} {ws : List (Key × V)} (f : Fit A H σ ρ) (hs : ρ[i]? = some (.dct kvs)) (ha : σ[i]? = some (some (.ref a))) (hl : ws.length ≤ sizeLine) (r : KvRep A H ws kvs') :
    Stp A H σ ρ A (upd H a (.dK ws)) σ (ρ.set i (.dct kvs')) := by
  have m : Mut σ ρ a := ⟨i, _, hs, rfl, ha⟩
  have na : ¬ A a := fun z => f.nomut z m
  have k : Keep A H (upd H a (.dK ws)) := fun b o hb e => by
    have : b ≠ a := fun z => na (z ▸ hb)
    rw [upd_ne this]; exact e
  have mt : ∀ b, Mut σ (ρ.set i (.dct kvs')) b → Mut σ ρ b := fun b ⟨j, t, h1, h2, h3⟩ => by
    rcases get_set h1 with ⟨rfl, rfl⟩ | ⟨_, h1⟩
    · exact ⟨i, _, hs, rfl, h3⟩
    · exact ⟨j, t, h1, h2, h3⟩
  obtain ⟨oa, hoa⟩ := f.mut_at m
  have hd : ∀ (j : Nat) kk d, (ρ.set i (.dct kvs'))[j]? = some (.dp kk d) → ρ[j]? = some (.dp kk d) ∧ σ[j]? = σ[j]? := fun j kk d h => by
    rcases get_set h with ⟨_, z⟩ | ⟨_, z⟩
    · cases z
    · exact ⟨z, rfl⟩
  have kl : ∀ b o, Prv H σ ρ b → H b = some o → upd H a (.dK ws) b = some o := fun b o hb e => by
    have : b ≠ a := fun z => f.mut_prv m (z ▸ hb)
    rw [upd_ne this]; exact e
  refine ⟨fun _ h => h, fun b o h n _ => ?_, fun b h => ?_, fun b m => .inl (mt b m), fun j es h => ⟨rfl, ?_⟩, fun b hb => .inl hb, fun j es h o => ?_, fun b h => .inr (.inl (f.prv_back hd k kl b h)), ⟨by rw [List.length_set]; exact f.len, fun j t ov h1 h2 => ?_, fun j l t u b hjl h1 h2 h3 h4 h5 h6 => ?_, fun b hb => ?_, f.prv_go hd k kl fun j t b h1 h2 h3 => ?_⟩⟩
  · have : b ≠ a := fun z => n (z ▸ m)
    rw [upd_ne this]; exact h
  · by_cases e : b = a
    · subst e; rw [upd_same] at h; cases h
    · rw [upd_ne e] at h; exact h
  · by_cases hj : i = j
    · subst hj; rw [hs] at h; cases h
    · exact ⟨es, by rw [List.getElem?_set_ne hj]; exact h⟩
  · rcases get_set h with ⟨rfl, h8⟩ | ⟨_, h⟩
    · subst h8; cases o
    · exact ⟨h, rfl⟩
  · rcases get_set h1 with ⟨rfl, rfl⟩ | ⟨hj, h1⟩
    · rw [ha] at h2; cases h2
      exact ⟨a, ws, rfl, upd_same, hl, KvRep.mono (fun _ z => z) k r, na⟩
    · have ok := f.slot j t _ h1 h2
      refine ok.go (fun _ z => z) k (fun b o hb z e => ?_) (fun b lt z => by subst z; exact ok.nofz lt) (fun b o u e => ?_) (fun kk d v b o e1 e2 l e3 => by subst e1 e2; exact kl b o ⟨j, kk, d, v, h1, h2, l⟩ e3) (fun kk d v b e1 e2 l => by subst e1 e2; exact (f.lr h1 h2 l).1)
      · subst z
        have : b ≠ a := fun z => by subst z; exact f.apart i j _ t _ hj hs h1 rfl hb ha h2
        rw [upd_ne this]; exact e
      · have : b ≠ a := fun z => by
          subst z
          exact f.mut_nofrz m _ _ e
        rw [upd_ne this]; exact e
  · rcases get_set h1 with ⟨rfl, rfl⟩ | ⟨n1, h1⟩
    · rcases get_set h2 with ⟨rfl, rfl⟩ | ⟨_, h2⟩
      · exact hjl rfl
      · exact f.apart i l _ u b hjl hs h2 rfl h4 h5 h6
    · rcases get_set h2 with ⟨rfl, rfl⟩ | ⟨_, h2⟩
      · exact f.apart j i t _ b hjl h1 hs h3 rfl h5 h6
      · exact f.apart j l t u b hjl h1 h2 h3 h4 h5 h6
  · obtain ⟨o, e⟩ := f.trk b hb
    exact ⟨o, k b o hb e⟩
  · rcases get_set h1 with ⟨rfl, rfl⟩ | ⟨_, h1⟩
    · exact .inl ⟨i, _, hs, rfl, h3⟩
    · exact .inl ⟨j, t, h1, h2, h3⟩
/-- a new dict gets a name -/
theorem stp_dnew {A0 H0 σ0 ρ0 A H σ p ws kvs} {ρ : Env} {i : Nat} {t : Slot} (s : Stp A0 H0 σ0 ρ0 A H σ ρ) (ht : ρ[i]? = some t) (nm : ∀ es, t ≠ .mu es) (h0 : ∀ es, ρ0[i]? = some (.mu es) → False)
    (r1 : H p = some (.dK ws)) (r2 : ws.length ≤ sizeLine) (r3 : KvRep A H ws kvs) (r4 : ¬ A p) (r5 : H0 p = none) (r6 : NoRef H σ ρ p) : Stp A0 H0 σ0 ρ0 A H (σ.set i (some (.ref p))) (ρ.set i (.dct kvs)) := by
  have other : ∀ (j : Nat) (s : Slot), (ρ.set i (.dct kvs))[j]? = some s → (i = j ∧ s = .dct kvs ∧ (σ.set i (some (.ref p)))[j]? = some (some (.ref p))) ∨ (i ≠ j ∧ ρ[j]? = some s ∧ (σ.set i (some (.ref p)))[j]? = σ[j]?) := fun j u h => by
    rcases get_set h with ⟨e, z⟩ | ⟨e, z⟩
    · subst e
      exact .inl ⟨rfl, z, List.getElem?_set_self (by rw [s.fit.len]; exact (List.getElem?_eq_some_iff.mp ht).1)⟩
    · exact .inr ⟨e, z, List.getElem?_set_ne e⟩
  refine ⟨s.ext, s.frame, s.dom, fun a ⟨j, u, h1, h2, h3⟩ => ?_, fun j es h => ?_, s.news, fun j u h o => ?_, fun a h => s.prv a (s.fit.prv_back (set_dp (fun _ _ e => by cases e)) (fun _ _ _ h => h) (fun _ _ _ h => h) a h), ⟨by rw [List.length_set, List.length_set]; exact s.fit.len, fun j u ov h1 h2 => ?_, fun j l u w a jl h1 h2 h3 h4 h5 h6 => ?_, s.fit.trk, ?_⟩⟩
  · rcases other j u h1 with ⟨_, rfl, e⟩ | ⟨_, z, e⟩
    · rw [e] at h3; cases h3; exact .inr (.inr r5)
    · rw [e] at h3; exact s.sub a ⟨j, u, z, h2, h3⟩
  · have ij : i ≠ j := fun e => by subst e; exact h0 es h
    obtain ⟨e1, es', e2⟩ := s.mus j es h
    exact ⟨by rw [List.getElem?_set_ne ij]; exact e1, es', by rw [List.getElem?_set_ne ij]; exact e2⟩
  · rcases other j u h with ⟨_, rfl, _⟩ | ⟨_, z, e⟩
    · cases o
    · rw [e]; exact s.lents j u z o
  · rcases other j u h1 with ⟨rfl, rfl, e⟩ | ⟨_, z, e⟩
    · rw [e] at h2; cases h2; exact ⟨p, ws, rfl, r1, r2, r3, r4⟩
    · rw [e] at h2; exact s.fit.slot j u ov z h2
  · rcases other j u h1 with ⟨rfl, rfl, e⟩ | ⟨_, z, e⟩
    · rw [e] at h5; cases h5
      rcases other l w h2 with ⟨rfl, _, _⟩ | ⟨_, z', e'⟩
      · exact jl rfl
      · rw [e'] at h6; exact r6.1 l w z' h4 h6
    · rcases other l w h2 with ⟨rfl, rfl, e'⟩ | ⟨_, z', e'⟩
      · rw [e'] at h6; cases h6
        rw [e] at h5; exact r6.1 j u z (liveB_of h3) h5
      · rw [e] at h5; rw [e'] at h6
        exact s.fit.apart j l u w a jl z z' h3 h4 h5 h6
  · intro j k d v a h1 h2 l
    obtain ⟨z, e⟩ := set_dp (σ := σ) (v := some (.ref p)) (fun _ _ e => by cases e) j k d h1
    rw [e] at h2
    obtain ⟨q1, q2⟩ := s.fit.prv j k d v a z h2 l
    refine ⟨fun l' w e1 e2 e3 => ?_, fun l' k' d' v' hj e1 e2 => ?_⟩
    · rcases other l' w e1 with ⟨rfl, rfl, e'⟩ | ⟨_, z', e'⟩
      · rw [e'] at e3; cases e3
        exact r6.2 ⟨j, k, d, v, z, h2, l⟩
      · rw [e'] at e3; exact q1 l' w z' e2 e3
    · obtain ⟨z', e'⟩ := set_dp (σ := σ) (v := some (.ref p)) (fun _ _ e => by cases e) l' k' d' e1
      rw [e'] at e2
      exact q2 l' k' d' v' hj z' e2
section
variable {X : Cx} {N : List Str} {q : Sc} {F : FT}
def fDget (i : Nat) (fk : Env → Option (Res × Env)) (ρ : Env) : Option (Res × Env) := match dctB ρ i with
    | false => none
    | true => match fk ρ with
      | some (.fr (.int j), ρ1) => (dGetS ρ1 i j).map fun d => (.fr d, ρ1)
      | _ => none
theorem snd_dget (C : CtxOk X N q F) {i : Nat} {x : Str} {px k pos fk} (h : nameB N q i x = true) (hs : NoSl k) (hk : SndE X k fk) : SndE X (.Subscript (.Name x px) k pos) (fDget i fk) := by
  obtain ⟨t, p, hq⟩ := hk
  have hu := C.un
  refine ⟨_, pe_dget (by omega) (pe_name C h) p hs, fun A H σ ρ r ρ' ft e Q kk => ?_⟩
  unfold fDget at e
  split at e
  · cases e
  · rename_i hb
    obtain ⟨a, ha⟩ := dctB_at ft hb
    split at e
    · rename_i j ρ1 e1
      cases e2 : dGetS ρ1 i j with
      | none => rw [e2] at e; cases e
      | some d =>
        rw [e2] at e
        cases e
        refine ⟨_, ha, hq A H σ ρ _ ρ' ft e1 _ fun A1 H1 v s1 ok => ?_⟩
        cases ok
        unfold dGetS at e2
        split at e2
        · rename_i kvs hs1
          obtain ⟨a', ws, g1, g2, g3, g4, g5⟩ := dct_at s1.fit hs1
          rw [ha] at g1; cases g1
          rcases kv_get j g4 with ⟨z, _⟩ | ⟨d', w, z1, z2, z3⟩
          · rw [z] at e2; cases e2
          · rw [z1] at e2; cases e2
            refine ⟨a, w, rfl, ?_, kk A1 H1 w s1 z3⟩
            have := DGet.k (k := (Sum.inl j : Key)) g2
            rw [z2] at this
            exact this
        · cases e2
    · cases e
def fDin (neg : Bool) (i : Nat) (fk : Env → Option (Res × Env)) (ρ : Env) : Option (Res × Env) := match fk ρ with
    | some (.fr (.int j), ρ1) => (dInS ρ1 i j).map fun b => (.fr (.bool (neg != b)), ρ1)
    | _ => none
theorem din_core {A H σ ρ r ρ' neg i fk} {t : TE} (hq : ∀ A H σ ρ r ρ', Fit A H σ ρ → fk ρ = some (r, ρ') → ∀ Q : VK, (∀ A' H' v, Stp A H σ ρ A' H' σ ρ' → ResOk A' H H' σ ρ' v r → Q v H') → t σ H Q) (ft : Fit A H σ ρ) (e : fDin neg i fk ρ = some (r, ρ')) (Q : VK)
    (k : ∀ A' H' (a : Addr) (y : V) (o : Option V) (b : Bool), Stp A H σ ρ A' H' σ ρ' → σ[i]? = some (some (.ref a)) → DGet H' a y o → o.isSome = b → r = .fr (.bool (neg != b)) → Q y H') : t σ H Q := by
  unfold fDin at e
  split at e
  · rename_i j ρ1 e1
    cases e2 : dInS ρ1 i j with
    | none => rw [e2] at e; cases e
    | some b =>
      rw [e2] at e
      cases e
      refine hq A H σ ρ _ ρ' ft e1 _ fun A1 H1 v s1 ok => ?_
      cases ok
      unfold dInS at e2
      split at e2
      · rename_i kvs hs1
        cases e2
        obtain ⟨a', ws, g1, g2, g3, g4, g5⟩ := dct_at s1.fit hs1
        have g := DGet.k (k := (Sum.inl j : Key)) g2
        refine k A1 H1 a' _ _ (kvGet kvs j).isSome s1 g1 g ?_ rfl
        rcases kv_get j g4 with ⟨z1, z2⟩ | ⟨d', w, z1, z2, z3⟩
        · rw [z1, z2]; rfl
        · rw [z1, z2]; rfl
      · cases e2
  · cases e
def dop (neg : Bool) : CmpOp := if neg then .NotIn else .In
theorem pc_dn (C : CtxOk X N q F) (neg : Bool) {i : Nat} {x : Str} {px k} (h : nameB N q i x = true) {t : TE} (p : PE X k t) : ∃ t' : TE, PC X (dop neg) k (.Name x px) t' ∧
    ∀ σ H (Q : VK), (t σ H fun y H1 => ∃ w, σ[i]? = some (some w) ∧ ∃ a o, w = .ref a ∧ DGet H1 a y o ∧ Q (.bl (neg != o.isSome)) H1) → t' σ H Q := by
  have hu := C.un
  cases neg with
  | false =>
    refine ⟨_, pc_din (by omega) p (pe_name C h), fun σ H Q z => ?_⟩
    have e : ∀ b : Bool, (false != b) = b := fun b => by cases b <;> rfl
    simp only [e] at z
    exact z
  | true =>
    refine ⟨_, pc_dnotin (by omega) p (pe_name C h), fun σ H Q z => ?_⟩
    have e : ∀ b : Bool, (true != b) = !b := fun b => by cases b <;> rfl
    simp only [e] at z
    exact z
theorem snd_din (C : CtxOk X N q F) (neg : Bool) {i : Nat} {x : Str} {px k pos fk} (h : nameB N q i x = true) (hm : behindInMarks (dop neg) (.Name x px) = false) (hk : SndE X k fk) : SndE X (.Compare k [dop neg] [.Name x px] pos) (fDin neg i fk) ∧ SndT X (.Compare k [dop neg] [.Name x px] pos) (fDin neg i fk) := by
  obtain ⟨t, p, hq⟩ := hk
  obtain ⟨t', pc, g⟩ := pc_dn C neg (px := px) h p
  constructor
  · refine ⟨_, pe_cmp pc hm, fun A H σ ρ r ρ' ft e Q kk => g σ H Q (din_core hq ft e _ fun A' H' a y o b s ha hg hb er => ?_)⟩
    exact ⟨_, ha, a, o, rfl, hg, kk A' H' _ s (by rw [er, hb]; exact .bool)⟩
  · refine ⟨_, pt_cmp pc hm, fun A H σ ρ r ρ' ft e Q kk => g σ H _ (din_core hq ft e _ fun A' H' a y o b s ha hg hb er => ?_)⟩
    exact ⟨_, ha, a, o, rfl, hg, _, rfl, by cases er; rw [hb]; exact kk A' H' s⟩
def fDput (i : Nat) (fk fv : Env → Option (Res × Env)) (ρ : Env) : Option (Out × Env) := match fv ρ with
    | some (r, ρ1) => match dctB ρ1 i with
      | false => none
      | true => match fk ρ1 with
        | some (.fr (.int j), ρ2) => (dPutS ρ2 i j r.d).map fun ρ3 => (.next, ρ3)
        | _ => none
    | none => none
theorem snd_dput (C : CtxOk X N q F) {i : Nat} {x : Str} {px k v spos pos fk fv} (h : nameB N q i x = true) (hs : swapsWith v (some (.Subscript (.Name x px) k spos)) pos.line X.env = pure false) (hk : SndE X k fk) (hv : SndE X v fv) :
    SndS X (.Assign [.Subscript (.Name x px) k spos] v pos) (fDput i fk fv) := by
  obtain ⟨tv, pv, qv⟩ := hv.d
  obtain ⟨tk, pk, qk⟩ := hk
  have hu := C.un
  refine ⟨_, ps_dput (by omega) (pe_name C h) pk pv hs, fun A H σ ρ o ρ' ft e Dn kk => ?_⟩
  unfold fDput at e
  split at e
  · rename_i r ρ1 e1
    split at e
    · cases e
    · rename_i hb
      split at e
      · rename_i j ρ2 e2
        cases e3 : dPutS ρ2 i j r.d with
        | none => rw [e3] at e; cases e
        | some ρ3 =>
          rw [e3] at e
          cases e
          refine qv A H σ ρ r ρ1 ft e1 _ fun A1 H1 v s1 r1 => ?_
          obtain ⟨a, ha⟩ := dctB_at s1.fit hb
          refine ⟨_, ha, qk A1 H1 σ ρ1 _ ρ2 s1.fit e2 _ fun A2 H2 w s2 ok => ?_⟩
          cases ok
          unfold dPutS at e3
          split at e3
          · rename_i kvs hs1
            split at e3
            · rename_i hlen
              cases e3
              obtain ⟨a', ws, g1, g2, g3, g4, g5⟩ := dct_at s2.fit hs1
              rw [ha] at g1; cases g1
              have hl : ws.length < sizeLine := by rw [kv_len g4]; exact hlen
              have r2 := Rep.mono s2.ext (s2.keep s1.fit) r1
              refine ⟨a, _, rfl, DPut.k (k := (Sum.inl j : Key)) g2 hl, ?_⟩
              have hl2 : (putK ws (Sum.inl j : Key) v).length ≤ sizeLine := by have := length_putK ws (Sum.inl j : Key) v; omega
              exact kk.nx ((s1.trans s2).trans (stp_dct s2.fit hs1 ha hl2 (kv_put j g4 r2)))
            · cases e3
          · cases e3
      · cases e
  · cases e
def fDnew (i : Nat) (fk fv : Env → Option (Res × Env)) (ρ : Env) : Option (Out × Env) := match fk ρ with
    | some (.fr (.int j), ρ1) => match fv ρ1 with
      | some (r, ρ2) => (put i (.dct [(j, r.d)]) ρ2).map fun ρ3 => (.next, ρ3)
      | none => none
    | _ => none
theorem snd_dnew (C : CtxOk X N q F) {i x px k v dpos pos fk fv} (hN : N[i]? = some x) (hl : locB q x = true) (hk : SndE X k fk) (hv : SndE X v fv) : SndS X (.Assign [.Name x px] (.Dict [some k] [v] dpos) pos) (fDnew i fk fv) := by
  obtain ⟨tk, pk, qk⟩ := hk
  obtain ⟨tv, pv, qv⟩ := hv.d
  obtain ⟨h1, h2⟩ := loc_of C hl
  refine ⟨_, ps_set C.nd (by rw [C.N]; exact hN) h1 (pe_disp (pps_cons pk pv pps_nil) rfl rfl (by simp) (by simp)) rfl h2, fun A H σ ρ o ρ' ft e Dn kk => ?_⟩
  unfold fDnew at e
  split at e
  · rename_i j ρ1 e1
    split at e
    · rename_i r ρ2 e2
      cases e3 : put i (.dct [(j, r.d)]) ρ2 with
      | none => rw [e3] at e; cases e
      | some ρ3 =>
        rw [e3] at e
        cases e
        intro p hp
        have s0 := Stp.grow ft (upd_grow (o := .dK []) hp)
        refine qk A _ σ ρ _ ρ1 s0.fit e1 _ fun A1 H1 w s1 ok => ?_
        cases ok
        refine qv A1 H1 σ ρ1 r ρ2 s1.fit e2 _ fun A2 H2 v s2 r2 => ?_
        have s12 := s1.trans s2
        have n1 : NoRef (upd H p (.dK [])) σ ρ p := (NoRef.new ft hp).upd ft (ft.nofrz hp)
        have n2 : NoRef H2 σ ρ2 p := n1.stp s12 upd_same
        have hp2 : H2 p = some (.dK []) := s12.frame p _ upd_same n1.nomut n1.2
        refine ⟨hp2, [((Sum.inl j : Key), v)], rfl, by simp, ?_⟩
        have na : ¬ A2 p := nofrz_stp (ft.nofrz hp) n1 s12 upd_same
        have k3 : Keep A2 H2 (upd H2 p (.dK [((Sum.inl j : Key), v)])) := keep_other (fun a h => upd_ne h) na
        obtain ⟨t, ht, nm, rfl⟩ := put_inv e3
        have s3 : Stp A H σ ρ A2 (upd H2 p (.dK [((Sum.inl j : Key), v)])) σ ρ2 := (s0.trans s12).other hp na n2 (fun o u z => by rw [hp2] at z; cases z)
        have eq1 : mergeK [] [((Sum.inl j : Key), v)] = [((Sum.inl j : Key), v)] := rfl
        rw [eq1]
        refine kk.nx (stp_dnew s3 ht nm (fun es z => ?_) upd_same (by simp [sizeLine]) ⟨rfl, .cons (Rep.mono (fun _ z => z) k3 r2) .nil⟩ na hp (n2.upd s2.fit na))
        obtain ⟨_, ds', z2⟩ := s3.mus i es z
        rw [ht] at z2; cases z2
        exact nm _ rfl
    · cases e
  · cases e
/-! ### methods that change nothing -/
def mthName : Mth → String
  | .count => "count"
  | .index => "index"
def MthSnd (X : Cx) (id : String) (m : Mth) : Prop := ∃ r : V → List V → Hp → VK → Prop, MtR X id r ∧
  ∀ A H a vs ds y d res, H a = some (.lst vs) → vs.length ≤ sizeLine → RepAll A H vs ds → Rep A H y d → dMth m (.list ds) d = some res → ∀ Q : VK, (∀ w, Rep A H w res → Q w H) → r (.ref a) [y] H Q
theorem mth_count : MthSnd X "list.count" .count := by
  refine ⟨_, mt_lcount, fun A H a vs ds y d res h1 h2 h3 h4 e Q k => ?_⟩
  cases d <;> simp only [dMth, reduceCtorEq] at e
  rename_i i
  cases h4
  cases e1 : allInts ds with
  | none => rw [e1] at e; cases e
  | some ns =>
    rw [e1] at e
    cases e
    obtain ⟨rfl, _⟩ := rep_of_ints h3 e1
    exact ⟨a, ns, i, rfl, rfl, SqL.of h1, k _ .int⟩
theorem indexD_at (d : D) : ∀ {ds : List D} {n : Nat}, indexD d ds = some n → ∃ z, ds[n]? = some z ∧ PyData.eqv z d = true ∧ ∀ (m : Nat) (z' : D), m < n → ds[m]? = some z' → PyData.eqv z' d = false
  | [], n, h => by cases h
  | x :: r, n, h => by
    unfold indexD at h
    by_cases hx : PyData.eqv x d = true
    · rw [if_pos hx] at h; cases h
      exact ⟨x, rfl, hx, fun m z' hm _ => by omega⟩
    · rw [if_neg hx] at h
      cases e : indexD d r with
      | none => rw [e] at h; cases h
      | some j =>
        rw [e] at h; cases h
        obtain ⟨z, h1, h2, h3⟩ := indexD_at d e
        refine ⟨z, h1, h2, fun m z' hm hz => ?_⟩
        cases m with
        | zero => cases hz; simpa using hx
        | succ m =>
          have hm' : m + 1 < j + 1 := hm
          exact h3 m z' (by omega) hz
theorem mth_index (hu : X.A.units + 65 < cLine) : MthSnd X "list.index" .index := by
  refine ⟨_, mt_indexD hu, fun A H a vs ds y d res h1 h2 h3 h4 e Q k => ?_⟩
  simp only [dMth] at e
  split at e
  · rename_i hs
    rw [Bool.and_eq_true] at hs
    cases e1 : indexD d ds with
    | none => rw [e1] at e; cases e
    | some n =>
      rw [e1] at e
      cases e
      obtain ⟨z, g1, g2, g3⟩ := indexD_at d e1
      exact ⟨a, y, d, ds, n, z, rfl, rfl, .lst (SqL.of h1) (RepAll.dp h3 (by have := shaped_noDct hs.2; rw [noDct] at this; exact this)), Rep.dp h4 (shaped_noDct hs.1), hs.2, hs.1, g1, g2, g3, k _ .int⟩
  · cases e
def fMth (m : Mth) (fo : Env → Option (Opd × Env)) (fa : Env → Option (Res × Env)) (ρ : Env) : Option (Res × Env) := match fo ρ with
    | none => none
    | some (oo, ρ1) => match isLB (oo.get ρ1) with
      | false => none
      | true => match fa ρ1 with
        | none => none
        | some (ra, ρ2) => match oo.get ρ2 with
          | none => none
          | some d => (dMth m d ra.d).map fun r => (.fr r, ρ2)
theorem snd_mth {m : Mth} {id : String} {o : Expr} {e apos cpos fo fa} (hc : MthSnd X id m) (slot : PySem.Slot "list" (Str.ofString (mthName m)) id) (hty : typeOf (.builtin id) = pure (.type "method_descriptor"))
    (hb : attributeBase o (Str.ofString (mthName m)) X.env (eval o X.env) = eval o X.env) (st : notStar e = true) (hl : (apos.endLine == cpos.line) = true) (ho : SndO X o fo) (ha : SndE X e fa) :
    SndE X (.Call (.Attribute o (Str.ofString (mthName m)) apos) [e] [] cpos) (fMth m fo fa) := by
  obtain ⟨r, pr, qr⟩ := hc
  obtain ⟨to, po, qo⟩ := ho
  obtain ⟨ta, pa, qa⟩ := ha.d
  refine ⟨_, pe_bm PySem.F.plainAttrs_list slot hty pr po (pa_cons pa pa_nil (star_cons st)) hb (few_ok (by simp [st]) (by simp)) hl (star_cons st) (star_any rfl), fun A H σ ρ res ρ' ft e Q k => ?_⟩
  unfold fMth at e
  split at e
  · cases e
  · rename_i oo ρ1 e1
    split at e
    · cases e
    · rename_i hb1
      split at e
      · cases e
      · rename_i ra ρ2 e2
        split at e
        · cases e
        · rename_i d e3
          cases e4 : dMth m d ra.d with
          | none => rw [e4] at e; cases e
          | some z =>
            rw [e4] at e
            cases e
            refine qo A H σ ρ oo ρ1 ft e1 _ fun A1 H1 v s1 k1 => ?_
            have hl1 : ∃ ds1, oo.get ρ1 = some (.list ds1) := by
              unfold isLB at hb1
              split at hb1
              · rename_i ds1 hg; exact ⟨ds1, hg⟩
              · cases hb1
            obtain ⟨ds1, hg⟩ := hl1
            obtain ⟨a, vs, rfl, g1, g2, g3⟩ := (Opd.ok s1.fit k1 hg).list
            refine ⟨.inl ⟨rfl, vs, SqL.of g1⟩, qa A1 H1 σ ρ1 ra ρ' s1.fit e2 _ fun A2 H2 w s2 r2 => ?_⟩
            have k2 := k1.mono s2.ext (s2.keep s1.fit)
            have w2 := Opd.ok s2.fit k2 e3
            have hd : ∃ ds, d = .list ds := by
              cases m <;> cases d <;> first | exact ⟨_, rfl⟩ | (simp [dMth] at e4; done)
            obtain ⟨ds, rfl⟩ := hd
            obtain ⟨a', vs', ea, q1, q2, q3⟩ := w2.list
            cases ea
            exact qr A2 H2 a vs' ds w ra.d z q1 q2 q3 r2 e4 Q fun u ru => k A2 H2 u (s1.trans s2) ru
theorem snd_rse {e c pos} : SndS X (.Raise e c pos) (fun _ => none) := ⟨fun _ _ _ => False, ⟨fun _ _ _ _ _ _ h => h.elim⟩, fun A H σ ρ o ρ' ft e Dn k => by cases e⟩
end
end Ev


set_option maxRecDepth 100000
/-! EvM: dicts whose keys are tuples of ints. -/
namespace Ev
open PySem L2
variable [TheK]
theorem inl_inj : ∀ {k l : List Int}, (k.map Sum.inl : List Key) = l.map Sum.inl → k = l
  | [], [], _ => rfl
  | [], _ :: _, h => by simp at h
  | _ :: _, [], h => by simp at h
  | x :: k, y :: l, h => by
    simp only [List.map_cons, List.cons.injEq, Sum.inl.injEq] at h
    rw [h.1, inl_inj h.2]
theorem kt_get {A H} : ∀ {ws : List (List Key × V)} {kvs : List (List Int × D)} (k : List Int), KtRep A H ws kvs → (tGet kvs k = none ∧ valV ws (k.map Sum.inl) = none) ∨ ∃ d v, tGet kvs k = some d ∧ valV ws (k.map Sum.inl) = some v ∧ Rep A H v d
  | [], [], k, _ => .inl ⟨rfl, rfl⟩
  | [], _ :: _, _, h => by have := h.1; simp at this
  | _ :: _, [], _, h => by have := h.1; simp at this
  | (k1, v) :: ws, (k2, d) :: kvs, k, h => by
    obtain ⟨h1, h2⟩ := h
    simp only [List.map_cons, List.cons.injEq] at h1
    obtain ⟨rfl, h1⟩ := h1
    cases h2 with
    | cons r1 r2 =>
      by_cases e : k2 = k
      · subst e
        exact .inr ⟨d, v, by simp [tGet], by rw [valV_pos rfl], r1⟩
      · have e' : ¬ ((k2.map Sum.inl : List Key) = k.map Sum.inl) := fun z => e (inl_inj z)
        rw [valV_neg (p := ((k2.map Sum.inl : List Key), v)) e']
        have : tGet ((k2, d) :: kvs) k = tGet kvs k := by simp [tGet, List.find?_cons, e]
        rw [this]
        exact kt_get k ⟨h1, r2⟩
theorem kt_any {A H} : ∀ {ws : List (List Key × V)} {kvs : List (List Int × D)} (k : List Int), KtRep A H ws kvs → (ws.any fun p => decide (p.1 = (k.map Sum.inl : List Key))) = kvs.any fun p => decide (p.1 = k)
  | [], [], k, _ => rfl
  | [], _ :: _, _, h => by have := h.1; simp at this
  | _ :: _, [], _, h => by have := h.1; simp at this
  | (k1, v) :: ws, (k2, d) :: kvs, k, h => by
    obtain ⟨h1, h2⟩ := h
    simp only [List.map_cons, List.cons.injEq] at h1
    obtain ⟨rfl, h1⟩ := h1
    cases h2 with
    | cons r1 r2 =>
      rw [List.any_cons, List.any_cons, kt_any k ⟨h1, r2⟩]
      congr 1
      by_cases e : k2 = k
      · simp [e]
      · have e' : ¬ ((k2.map Sum.inl : List Key) = k.map Sum.inl) := fun z => e (inl_inj z)
        show decide ((k2.map Sum.inl : List Key) = k.map Sum.inl) = decide (k2 = k)
        rw [decide_eq_false e, decide_eq_false e']
theorem kt_map {A H v d} (r : Rep A H v d) : ∀ {ws : List (List Key × V)} {kvs : List (List Int × D)} (k : List Int), KtRep A H ws kvs → KtRep A H (ws.map fun p => if p.1 = (k.map Sum.inl : List Key) then (p.1, v) else p) (kvs.map fun p => if p.1 = k then (p.1, d) else p)
  | [], [], k, _ => ⟨rfl, .nil⟩
  | [], _ :: _, _, h => by have := h.1; simp at this
  | _ :: _, [], _, h => by have := h.1; simp at this
  | (k1, w) :: ws, (k2, e) :: kvs, k, h => by
    obtain ⟨h1, h2⟩ := h
    simp only [List.map_cons, List.cons.injEq] at h1
    obtain ⟨rfl, h1⟩ := h1
    cases h2 with
    | cons r1 r2 =>
      obtain ⟨g1, g2⟩ := kt_map r k (ws := ws) (kvs := kvs) ⟨h1, r2⟩
      by_cases e : k2 = k
      · subst e
        refine ⟨?_, ?_⟩
        · simp only [List.map_cons, if_true, List.cons.injEq, true_and]; exact g1
        · simp only [List.map_cons, if_true]; exact .cons r g2
      · have e' : ¬ ((k2.map Sum.inl : List Key) = k.map Sum.inl) := fun z => e (inl_inj z)
        refine ⟨?_, ?_⟩
        · simp only [List.map_cons, if_neg e, if_neg e', List.cons.injEq, true_and]; exact g1
        · simp only [List.map_cons, if_neg e, if_neg e']; exact .cons r1 g2
theorem kt_put {A H v d} {ws : List (List Key × V)} {kvs : List (List Int × D)} (k : List Int) (h : KtRep A H ws kvs) (r : Rep A H v d) : KtRep A H (putK ws (k.map Sum.inl : List Key) v) (tPut kvs k d) := by
  unfold putK tPut
  rw [kt_any k h]
  split
  · exact kt_map r k h
  · refine ⟨?_, ?_⟩
    · simp only [List.map_append, List.map_cons, List.map_nil]; rw [h.1]
    · simp only [List.map_append, List.map_cons, List.map_nil]; exact h.2.append (.cons r .nil)
theorem kt_len {A H ws kvs} (h : KtRep A H ws kvs) : ws.length = kvs.length := by
  have := congrArg List.length h.1
  simpa using this
theorem dtt_at {A H σ} {ρ : Env} {i : Nat} {kvs} (f : Fit A H σ ρ) (h : ρ[i]? = some (.dtt kvs)) : ∃ a ws, σ[i]? = some (some (.ref a)) ∧ H a = some (.dT ws) ∧ ws.length ≤ sizeLine ∧ KtRep A H ws kvs ∧ ¬ A a := by
  obtain ⟨ov, e1, a, ws, rfl, h1, h2, h3, h4⟩ := f.at h
  exact ⟨a, ws, e1, h1, h2, h3, h4⟩
/-- a dict is changed -/
theorem stp_dtt {A H σ} {ρ : Env} {i : Nat} {a : Addr} {kvs kvs' : List (List Int × D)} {ws : List (List Key × V)} (f : Fit A H σ ρ) (hs : ρ[i]? = some (.dtt kvs)) (ha : σ[i]? = some (some (.ref a))) (hl : ws.length ≤ sizeLine) (r : KtRep A H ws kvs') :
    Stp A H σ ρ A (upd H a (.dT ws)) σ (ρ.set i (.dtt kvs')) := by
  have m : Mut σ ρ a := ⟨i, _, hs, rfl, ha⟩
  have na : ¬ A a := fun z => f.nomut z m
  have k : Keep A H (upd H a (.dT ws)) := fun b o hb e => by
    have : b ≠ a := fun z => na (z ▸ hb)
    rw [upd_ne this]; exact e
  have mt : ∀ b, Mut σ (ρ.set i (.dtt kvs')) b → Mut σ ρ b := fun b ⟨j, t, h1, h2, h3⟩ => by
    rcases get_set h1 with ⟨rfl, rfl⟩ | ⟨_, h1⟩
    · exact ⟨i, _, hs, rfl, h3⟩
    · exact ⟨j, t, h1, h2, h3⟩
  obtain ⟨oa, hoa⟩ := f.mut_at m
  have hd : ∀ (j : Nat) kk d, (ρ.set i (.dtt kvs'))[j]? = some (.dp kk d) → ρ[j]? = some (.dp kk d) ∧ σ[j]? = σ[j]? := fun j kk d h => by
    rcases get_set h with ⟨_, z⟩ | ⟨_, z⟩
    · cases z
    · exact ⟨z, rfl⟩
  have kl : ∀ b o, Prv H σ ρ b → H b = some o → upd H a (.dT ws) b = some o := fun b o hb e => by
    have : b ≠ a := fun z => f.mut_prv m (z ▸ hb)
    rw [upd_ne this]; exact e
  refine ⟨fun _ h => h, fun b o h n _ => ?_, fun b h => ?_, fun b m => .inl (mt b m), fun j es h => ⟨rfl, ?_⟩, fun b hb => .inl hb, fun j es h o => ?_, fun b h => .inr (.inl (f.prv_back hd k kl b h)), ⟨by rw [List.length_set]; exact f.len, fun j t ov h1 h2 => ?_, fun j l t u b hjl h1 h2 h3 h4 h5 h6 => ?_, fun b hb => ?_, f.prv_go hd k kl fun j t b h1 h2 h3 => ?_⟩⟩
  · have : b ≠ a := fun z => n (z ▸ m)
    rw [upd_ne this]; exact h
  · by_cases e : b = a
    · subst e; rw [upd_same] at h; cases h
    · rw [upd_ne e] at h; exact h
  · by_cases hj : i = j
    · subst hj; rw [hs] at h; cases h
    · exact ⟨es, by rw [List.getElem?_set_ne hj]; exact h⟩
  · rcases get_set h with ⟨rfl, h8⟩ | ⟨_, h⟩
    · subst h8; cases o
    · exact ⟨h, rfl⟩
  · rcases get_set h1 with ⟨rfl, rfl⟩ | ⟨hj, h1⟩
    · rw [ha] at h2; cases h2
      exact ⟨a, ws, rfl, upd_same, hl, KtRep.mono (fun _ z => z) k r, na⟩
    · have ok := f.slot j t _ h1 h2
      refine ok.go (fun _ z => z) k (fun b o hb z e => ?_) (fun b lt z => by subst z; exact ok.nofz lt) (fun b o u e => ?_) (fun kk d v b o e1 e2 l e3 => by subst e1 e2; exact kl b o ⟨j, kk, d, v, h1, h2, l⟩ e3) (fun kk d v b e1 e2 l => by subst e1 e2; exact (f.lr h1 h2 l).1)
      · subst z
        have : b ≠ a := fun z => by subst z; exact f.apart i j _ t _ hj hs h1 rfl hb ha h2
        rw [upd_ne this]; exact e
      · have : b ≠ a := fun z => by
          subst z
          exact f.mut_nofrz m _ _ e
        rw [upd_ne this]; exact e
  · rcases get_set h1 with ⟨rfl, rfl⟩ | ⟨n1, h1⟩
    · rcases get_set h2 with ⟨rfl, rfl⟩ | ⟨_, h2⟩
      · exact hjl rfl
      · exact f.apart i l _ u b hjl hs h2 rfl h4 h5 h6
    · rcases get_set h2 with ⟨rfl, rfl⟩ | ⟨_, h2⟩
      · exact f.apart j i t _ b hjl h1 hs h3 rfl h5 h6
      · exact f.apart j l t u b hjl h1 h2 h3 h4 h5 h6
  · obtain ⟨o, e⟩ := f.trk b hb
    exact ⟨o, k b o hb e⟩
  · rcases get_set h1 with ⟨rfl, rfl⟩ | ⟨_, h1⟩
    · exact .inl ⟨i, _, hs, rfl, h3⟩
    · exact .inl ⟨j, t, h1, h2, h3⟩
/-- a new dict gets a name -/
theorem stp_ttnew {A0 H0 σ0 ρ0 A H σ p ws kvs} {ρ : Env} {i : Nat} {t : Slot} (s : Stp A0 H0 σ0 ρ0 A H σ ρ) (ht : ρ[i]? = some t) (nm : ∀ es, t ≠ .mu es) (h0 : ∀ es, ρ0[i]? = some (.mu es) → False)
    (r1 : H p = some (.dT ws)) (r2 : ws.length ≤ sizeLine) (r3 : KtRep A H ws kvs) (r4 : ¬ A p) (r5 : H0 p = none) (r6 : NoRef H σ ρ p) : Stp A0 H0 σ0 ρ0 A H (σ.set i (some (.ref p))) (ρ.set i (.dtt kvs)) := by
  have other : ∀ (j : Nat) (s : Slot), (ρ.set i (.dtt kvs))[j]? = some s → (i = j ∧ s = .dtt kvs ∧ (σ.set i (some (.ref p)))[j]? = some (some (.ref p))) ∨ (i ≠ j ∧ ρ[j]? = some s ∧ (σ.set i (some (.ref p)))[j]? = σ[j]?) := fun j u h => by
    rcases get_set h with ⟨e, z⟩ | ⟨e, z⟩
    · subst e
      exact .inl ⟨rfl, z, List.getElem?_set_self (by rw [s.fit.len]; exact (List.getElem?_eq_some_iff.mp ht).1)⟩
    · exact .inr ⟨e, z, List.getElem?_set_ne e⟩
  refine ⟨s.ext, s.frame, s.dom, fun a ⟨j, u, h1, h2, h3⟩ => ?_, fun j es h => ?_, s.news, fun j u h o => ?_, fun a h => s.prv a (s.fit.prv_back (set_dp (fun _ _ e => by cases e)) (fun _ _ _ h => h) (fun _ _ _ h => h) a h), ⟨by rw [List.length_set, List.length_set]; exact s.fit.len, fun j u ov h1 h2 => ?_, fun j l u w a jl h1 h2 h3 h4 h5 h6 => ?_, s.fit.trk, ?_⟩⟩
  · rcases other j u h1 with ⟨_, rfl, e⟩ | ⟨_, z, e⟩
    · rw [e] at h3; cases h3; exact .inr (.inr r5)
    · rw [e] at h3; exact s.sub a ⟨j, u, z, h2, h3⟩
  · have ij : i ≠ j := fun e => by subst e; exact h0 es h
    obtain ⟨e1, es', e2⟩ := s.mus j es h
    exact ⟨by rw [List.getElem?_set_ne ij]; exact e1, es', by rw [List.getElem?_set_ne ij]; exact e2⟩
  · rcases other j u h with ⟨_, rfl, _⟩ | ⟨_, z, e⟩
    · cases o
    · rw [e]; exact s.lents j u z o
  · rcases other j u h1 with ⟨rfl, rfl, e⟩ | ⟨_, z, e⟩
    · rw [e] at h2; cases h2; exact ⟨p, ws, rfl, r1, r2, r3, r4⟩
    · rw [e] at h2; exact s.fit.slot j u ov z h2
  · rcases other j u h1 with ⟨rfl, rfl, e⟩ | ⟨_, z, e⟩
    · rw [e] at h5; cases h5
      rcases other l w h2 with ⟨rfl, _, _⟩ | ⟨_, z', e'⟩
      · exact jl rfl
      · rw [e'] at h6; exact r6.1 l w z' h4 h6
    · rcases other l w h2 with ⟨rfl, rfl, e'⟩ | ⟨_, z', e'⟩
      · rw [e'] at h6; cases h6
        rw [e] at h5; exact r6.1 j u z (liveB_of h3) h5
      · rw [e] at h5; rw [e'] at h6
        exact s.fit.apart j l u w a jl z z' h3 h4 h5 h6
  · intro j k d v a h1 h2 l
    obtain ⟨z, e⟩ := set_dp (σ := σ) (v := some (.ref p)) (fun _ _ e => by cases e) j k d h1
    rw [e] at h2
    obtain ⟨q1, q2⟩ := s.fit.prv j k d v a z h2 l
    refine ⟨fun l' w e1 e2 e3 => ?_, fun l' k' d' v' hj e1 e2 => ?_⟩
    · rcases other l' w e1 with ⟨rfl, rfl, e'⟩ | ⟨_, z', e'⟩
      · rw [e'] at e3; cases e3
        exact r6.2 ⟨j, k, d, v, z, h2, l⟩
      · rw [e'] at e3; exact q1 l' w z' e2 e3
    · obtain ⟨z', e'⟩ := set_dp (σ := σ) (v := some (.ref p)) (fun _ _ e => by cases e) l' k' d' e1
      rw [e'] at e2
      exact q2 l' k' d' v' hj z' e2
theorem kV_ints (k : List Int) : ((k.map Sum.inl : List Key).map kV) = k.map V.int := by rw [List.map_map]; rfl
/-- a key -/
theorem rep_key {A H v d k} (r : Rep A H v d) (e : keyD d = some k) : ∃ b, v = .ref b ∧ H b = some (.tup ((k.map Sum.inl : List Key).map kV)) ∧ A b ∧ d = tupI k := by
  cases d <;> simp only [keyD, reduceCtorEq] at e
  cases r with
  | tup h1 h2 h3 h4 =>
    obtain ⟨e1, e2⟩ := rep_of_ints h4 e
    subst e1 e2
    exact ⟨_, rfl, by rw [kV_ints]; exact h2, h1, rfl⟩
theorem allInts_map : ∀ (k : List Int), allInts (k.map .int) = some k
  | [] => rfl
  | i :: r => by simp [allInts, allInts_map r]
theorem kvsD_of : ∀ (kvs : List (List Int × D)), kvsD (kvs.map fun p => (tupI p.1, p.2)) = some kvs
  | [] => rfl
  | (k, d) :: r => by
    have ih := kvsD_of r
    simp only [tupI] at ih
    simp [kvsD, keyD, tupI, allInts_map, ih]
theorem dictOf_dictD (kvs : List (List Int × D)) : dictOf (dictD kvs) = some kvs := kvsD_of kvs
theorem rep_dict {A H v d kvs} (r : Rep A H v d) (e : dictOf d = some kvs) : ∃ a o ws, v = .ref a ∧ A a ∧ H a = some (.frz o (.dT ws)) ∧ ws.length ≤ sizeLine ∧ KtRep A H ws kvs := by
  cases r <;> simp only [dictOf, reduceCtorEq] at e
  rename_i a o ws kvs' h1 h2 h3 h4 h5
  rw [kvsD_of] at e; cases e
  exact ⟨a, o, ws, rfl, h1, h2, h3, h4, h5⟩
theorem hs_key (P : Program) (w : World) (k : List Int) : tupleKeyHash (mixKind P w) (k.map Sum.inl) = hsI k := by
  unfold tupleKeyHash hsI
  rw [List.map_map]
  rfl
theorem hashOk_nd {A H ws kvs} (P : Program) (w : World) (r : KtRep A H ws kvs) (h : hashOk kvs = true) : (ws.map fun p => tupleKeyHash (mixKind P w) p.1).Nodup := by
  have : (ws.map fun p => tupleKeyHash (mixKind P w) p.1) = kvs.map fun p => hsI p.1 := by
    have e := congrArg (List.map (tupleKeyHash (mixKind P w))) r.1
    rw [List.map_map, List.map_map] at e
    rw [show (ws.map fun p => tupleKeyHash (mixKind P w) p.1) = ws.map (tupleKeyHash (mixKind P w) ∘ fun x => x.1) from rfl, e]
    exact List.map_congr_left fun p _ => hs_key P w p.1
  rw [this]
  unfold hashOk at h
  simpa using h
section
variable {X : Cx} {N : List Str} {q : Sc} {F : FT}
theorem dttB_at {A H σ} {ρ : Env} {i : Nat} (f : Fit A H σ ρ) (h : dttB ρ i = true) : ∃ a ws, σ[i]? = some (some (.ref a)) ∧ H a = some (.dT ws) := by
  unfold dttB at h
  split at h
  · rename_i kvs hs
    obtain ⟨a, ws, h1, h2, _⟩ := dtt_at f hs
    exact ⟨a, ws, h1, h2⟩
  · cases h
/-- found.get(k, d) -/
def fTget (i : Nat) (fk fd : Env → Option (Res × Env)) (ρ : Env) : Option (Res × Env) := match dttB ρ i with
    | false => none
    | true => match fk ρ with
      | none => none
      | some (rk, ρ1) => match keyD rk.d with
        | none => none
        | some ks => match fd ρ1 with
          | none => none
          | some (rd, ρ2) => (tGetS ρ2 i ks rd.d).map fun x => (.fr x, ρ2)
theorem snd_tget (C : CtxOk X N q F) {i : Nat} {x : Str} {px k d apos pos fk fd} (h : nameB N q i x = true) (m : M2 X (.Name x px) "get" apos k d pos) (hk : SndE X k fk) (hd : SndE X d fd) :
    SndE X (.Call (.Attribute (.Name x px) "get" apos) [k, d] [] pos) (fTget i fk fd) := by
  obtain ⟨tk, pk, qk⟩ := hk.d
  obtain ⟨td, pd, qd⟩ := hd.d
  have hu := C.un
  refine ⟨_, pe_dget2 (by omega) (pe_name C h) pk pd m, fun A H σ ρ r ρ' ft e Q kk => ?_⟩
  unfold fTget at e
  split at e
  · cases e
  · rename_i hb
    obtain ⟨a, ws0, ha, hw0⟩ := dttB_at ft hb
    split at e
    · cases e
    · rename_i rk ρ1 e1
      split at e
      · cases e
      · rename_i ks ek
        split at e
        · cases e
        · rename_i rd ρ2 e2
          cases e3 : tGetS ρ2 i ks rd.d with
          | none => rw [e3] at e; cases e
          | some z =>
            rw [e3] at e
            cases e
            refine ⟨_, ha, a, rfl, .inr ⟨ws0, .inl hw0⟩, qk A H σ ρ rk ρ1 ft e1 _ fun A1 H1 v s1 r1 => qd A1 H1 σ ρ1 rd ρ' s1.fit e2 _ fun A2 H2 w s2 r2 => ?_⟩
            unfold tGetS at e3
            split at e3
            · rename_i kvs hs1
              cases e3
              obtain ⟨a', ws, g1, g2, g3, g4, g5⟩ := dtt_at s2.fit hs1
              rw [ha] at g1; cases g1
              have r1' := Rep.mono s2.ext (s2.keep s1.fit) r1
              obtain ⟨b, rfl, hkb, _, _⟩ := rep_key r1' ek
              refine ⟨_, DGet.t g2 hkb, ?_⟩
              rcases kt_get ks g4 with ⟨z1, z2⟩ | ⟨d', u, z1, z2, z3⟩
              · rw [z2]; exact kk A2 H2 w (s1.trans s2) (by show Rep A2 H2 w ((tGet kvs ks).getD rd.d); rw [z1]; exact r2)
              · rw [z2]; exact kk A2 H2 u (s1.trans s2) (by show Rep A2 H2 u ((tGet kvs ks).getD rd.d); rw [z1]; exact z3)
            · cases e3
/-- found[k] = v -/
def fTput (i : Nat) (fk fv : Env → Option (Res × Env)) (ρ : Env) : Option (Out × Env) := match fv ρ with
    | some (r, ρ1) => match dttB ρ1 i with
      | false => none
      | true => match fk ρ1 with
        | none => none
        | some (rk, ρ2) => match keyD rk.d with
          | none => none
          | some ks => (tPutS ρ2 i ks r.d).map fun ρ3 => (.next, ρ3)
    | none => none
theorem snd_tput (C : CtxOk X N q F) {i : Nat} {x : Str} {px k v spos pos fk fv} (h : nameB N q i x = true) (hs : swapsWith v (some (.Subscript (.Name x px) k spos)) pos.line X.env = pure false) (hk : SndE X k fk) (hv : SndE X v fv) :
    SndS X (.Assign [.Subscript (.Name x px) k spos] v pos) (fTput i fk fv) := by
  obtain ⟨tv, pv, qv⟩ := hv.d
  obtain ⟨tk, pk, qk⟩ := hk.d
  have hu := C.un
  refine ⟨_, ps_dput (by omega) (pe_name C h) pk pv hs, fun A H σ ρ o ρ' ft e Dn kk => ?_⟩
  unfold fTput at e
  split at e
  · rename_i r ρ1 e1
    split at e
    · cases e
    · rename_i hb
      split at e
      · cases e
      · rename_i rk ρ2 e2
        split at e
        · cases e
        · rename_i ks ek
          cases e3 : tPutS ρ2 i ks r.d with
          | none => rw [e3] at e; cases e
          | some ρ3 =>
            rw [e3] at e
            cases e
            refine qv A H σ ρ r ρ1 ft e1 _ fun A1 H1 v s1 r1 => ?_
            obtain ⟨a, _, ha, _⟩ := dttB_at s1.fit hb
            refine ⟨_, ha, qk A1 H1 σ ρ1 rk ρ2 s1.fit e2 _ fun A2 H2 w s2 rw2 => ?_⟩
            unfold tPutS at e3
            split at e3
            · rename_i kvs hs1
              split at e3
              · rename_i hlen
                cases e3
                obtain ⟨a', ws, g1, g2, g3, g4, g5⟩ := dtt_at s2.fit hs1
                rw [ha] at g1; cases g1
                have hl : ws.length < sizeLine := by rw [kt_len g4]; exact hlen
                have r2 := Rep.mono s2.ext (s2.keep s1.fit) r1
                obtain ⟨b, rfl, hkb, _, _⟩ := rep_key rw2 ek
                refine ⟨a, _, rfl, DPut.t g2 hkb hl, ?_⟩
                have hl2 : (putK ws (ks.map Sum.inl : List Key) v).length ≤ sizeLine := by have := length_putK ws (ks.map Sum.inl : List Key) v; omega
                exact kk.nx ((s1.trans s2).trans (stp_dtt s2.fit hs1 ha hl2 (kt_put ks g4 r2)))
              · cases e3
            · cases e3
  · cases e
/-- a new object is frozen -/
theorem Stp.addN {A0 H0 σ0 ρ0 A H σ p o} {ρ : Env} (s : Stp A0 H0 σ0 ρ0 A H σ ρ) (h0 : H0 p = none) (hp : H p = some o) (n : NoRef H σ ρ p) : Stp A0 H0 σ0 ρ0 (fun b => A b ∨ b = p) H σ ρ := by
  have e : ∀ b, A b → A b ∨ b = p := fun _ h => .inl h
  have k : Keep A H H := fun _ _ _ h => h
  refine ⟨fun b hb => .inl (s.ext b hb), s.frame, s.dom, s.sub, s.mus, fun b hb => hb.elim (s.news b) (fun z => .inr (.inl (by rw [z]; exact h0))), s.lents, s.prv, ⟨s.fit.len, fun i sl ov e1 e2 => ?_, s.fit.apart, fun b hb => hb.elim (s.fit.trk b) (fun z => ⟨o, by rw [z]; exact hp⟩), s.fit.prv⟩⟩
  have ok := s.fit.slot i sl ov e1 e2
  refine ok.go e k (fun _ _ _ _ z => z) (fun b lt z hb => ?_) (fun _ _ _ z => z) (fun _ _ _ _ _ _ _ _ z => z) (fun kk d w b z ez l hb => ?_)
  · subst z
    rcases hb with hb | rfl
    · exact ok.nofz lt hb
    · exact n.1 i sl e1 (liveB_of lt) e2
  · subst z ez
    rcases hb with hb | rfl
    · exact (s.fit.lr e1 e2 l).1 hb
    · exact n.2 ⟨i, kk, d, w, e1, e2, l⟩
/-- a new dict is locked and frozen -/
theorem Stp.frzD {A0 H0 σ0 ρ0 A H σ D ws kvs} {ρ : Env} (s : Stp A0 H0 σ0 ρ0 A H σ ρ) (h0 : H0 D = none) (na : ¬ A D) (n : NoRef H σ ρ D) (hd : ∀ o u, H D ≠ some (.frz o u)) (hl : ws.length ≤ sizeLine) (r : KtRep A H ws kvs) (od : Obj) :
    Stp A0 H0 σ0 ρ0 (fun b => A b ∨ b = D) (upd H D (.frz od (.dT ws))) σ ρ ∧ Rep (fun b => A b ∨ b = D) (upd H D (.frz od (.dT ws))) (.ref D) (dictD kvs) := by
  have s1 := s.other (o := .frz od (.dT ws)) h0 na n hd
  have k : Keep A H (upd H D (.frz od (.dT ws))) := keep_other (fun a h => upd_ne h) na
  exact ⟨s1.addN h0 upd_same (n.upd s.fit na), .dct (.inr rfl) upd_same hl r.1 (RepAll.mono (fun _ h => .inl h) k r.2)⟩
/-- {k: v}, frozen -/
def fTlit (fk fv : Env → Option (Res × Env)) (ρ : Env) : Option (Res × Env) := match fk ρ with
    | none => none
    | some (rk, ρ1) => match fv ρ1 with
      | none => none
      | some (rv, ρ2) => (tlitR rk.d rv.d).map fun r => (r, ρ2)
theorem snd_tlit (C : CtxOk X N q F) {k v pos fk fv} (hk : SndE X k fk) (hv : SndE X v fv) : SndE X (.Dict [some k] [v] pos) (fTlit fk fv) := by
  obtain ⟨tk, pk, qk⟩ := hk.d
  obtain ⟨tv, pv, qv⟩ := hv.d
  have hu := C.un
  refine ⟨_, pe_fz (pe_disp1T (by omega) pk pv), fun A H σ ρ r ρ' ft e Q kk => ?_⟩
  unfold fTlit at e
  split at e
  · cases e
  · rename_i rk ρ1 e1
    split at e
    · cases e
    · rename_i rv ρ2 e2
      cases e3 : tlitR rk.d rv.d with
      | none => rw [e3] at e; cases e
      | some z =>
        rw [e3] at e
        cases e
        unfold tlitR at e3
        split at e3
        · rename_i ks ek
          cases e3
          intro p hp
          have s0 := Stp.grow ft (upd_grow (o := .dT []) hp)
          refine qk A _ σ ρ rk ρ1 s0.fit e1 _ fun A1 H1 x s1 rx => qv A1 H1 σ ρ1 rv ρ' s1.fit e2 _ fun A2 H2 y s2 ry => ?_
          have s12 := s1.trans s2
          have n1 : NoRef (upd H p (.dT [])) σ ρ p := (NoRef.new ft hp).upd ft (ft.nofrz hp)
          have n2 : NoRef H2 σ ρ' p := n1.stp s12 upd_same
          have hp2 : H2 p = some (.dT []) := s12.frame p _ upd_same n1.nomut n1.2
          have na : ¬ A2 p := nofrz_stp (ft.nofrz hp) n1 s12 upd_same
          obtain ⟨b, rfl, hb, _, _⟩ := rep_key (Rep.mono s2.ext (s2.keep s1.fit) rx) ek
          refine ⟨hp2, b, _, rfl, hb, p, _, rfl, upd_same, True.intro, fun od => ?_⟩
          rw [upd_upd]
          obtain ⟨s3, r3⟩ := (s0.trans s12).frzD hp na n2 (fun o u z => by rw [hp2] at z; cases z) (ws := [((ks.map Sum.inl : List Key), y)]) (by simp [sizeLine]) (kvs := [(ks, rv.d)]) ⟨rfl, .cons ry .nil⟩ od
          exact kk _ _ _ s3 r3
        · cases e3
/-- found = dict(e) -/
def fTcpy (i : Nat) (fa : Env → Option (Res × Env)) (ρ : Env) : Option (Out × Env) := match fa ρ with
    | none => none
    | some (ra, ρ1) => match dictOf ra.d with
      | none => none
      | some kvs => if hashOk kvs = true then (put i (.dtt kvs) ρ1).map fun ρ2 => (.next, ρ2) else none
def rDictF (P : Program) (w : World) : List V → Hp → VK → Prop := fun vs H Q => ∃ (a : Addr) (od : Obj) (kvs : List (List Key × V)), vs = [.ref a] ∧ H a = some (.frz od (.dT kvs)) ∧ (kvs.map fun p => tupleKeyHash (mixKind P w) p.1).Nodup ∧ ∀ p, H p = none → Q (.ref p) (upd H p (.dT kvs))
theorem call_dictF (hu : X.A.units + 2 < cLine) : CallR X (.type "dict") (rDictF X.prog X.w) := by
  intro pins s σ H vs us Q I r h
  obtain ⟨a, od, kvs, rfl, ha, hn, q⟩ := h
  rw [Vals.ref1 r]
  exact d_copyF hu I ha hn fun p s' hp I' => ⟨.ref p, _, I', rfl, q p hp⟩
theorem snd_tcpy (C : CtxOk X N q F) {i x px e p0 pos cpos fa} (hN : N[i]? = some x) (hl : locB q x = true) (hg : glB q.sc (Str.ofString "dict") = true) (st : notStar e = true) (ha : SndE X e fa) :
    SndS X (.Assign [.Name x px] (.Call (.Name (Str.ofString "dict") p0) [e] [] cpos) pos) (fTcpy i fa) := by
  obtain ⟨ta, pa, qa⟩ := ha.d
  obtain ⟨h1, h2⟩ := loc_of C hl
  have hu := C.un
  refine ⟨_, ps_set C.nd (by rw [C.N]; exact hN) h1 (pe_callTy (call_dictF (by omega)) (gl_of C hg) (C.bl "dict" (by decide)) (by decide +kernel) (pa_cons pa pa_nil (star_cons st)) (by decide) (by decide) (star_cons st) (star_any rfl)) rfl h2, fun A H σ ρ o ρ' ft e Dn kk => ?_⟩
  unfold fTcpy at e
  split at e
  · cases e
  · rename_i ra ρ1 e1
    split at e
    · cases e
    · rename_i kvs ek
      split at e
      · rename_i hh
        cases e3 : put i (.dtt kvs) ρ1 with
        | none => rw [e3] at e; cases e
        | some ρ3 =>
          rw [e3] at e
          cases e
          refine qa A H σ ρ ra ρ1 ft e1 _ fun A1 H1 v s1 r1 => ?_
          obtain ⟨a, od, ws, rfl, h1, h2, h3, h4⟩ := rep_dict r1 ek
          refine ⟨a, od, ws, rfl, h2, hashOk_nd _ _ h4 hh, fun p hp => ?_⟩
          have s2 := s1.trans (Stp.grow s1.fit (upd_grow (o := .dT ws) hp))
          have k2 : Keep A1 H1 (upd H1 p (.dT ws)) := fun b o _ z => upd_grow hp b o z
          obtain ⟨t, ht, nm, rfl⟩ := put_inv e3
          refine kk.nx (stp_ttnew s2 ht nm (fun es z => ?_) upd_same h3 (KtRep.mono (fun _ z => z) k2 h4) (s1.fit.nofrz hp) (s1.dom p hp) ((NoRef.new s1.fit hp).upd s1.fit (s1.fit.nofrz hp)))
          obtain ⟨_, ds', z2⟩ := s2.mus i es z
          rw [ht] at z2; cases z2
          exact nm _ rfl
      · cases e
/-! ### items -/
theorem tPairs_zip : ∀ (kvs : List (List Int × D)), ((kvs.map (·.1)).zip (kvs.map (·.2))).map (fun z => pairI z.1 z.2) = tPairs kvs
  | [] => rfl
  | (k, d) :: r => by
    have := tPairs_zip r
    simp only [List.map_cons, List.zip_cons_cons, tPairs] at this ⊢
    rw [this]
    rfl
theorem tPairs_noDct {kvs : List (List Int × D)} (h : noDcts (tPairs kvs) = true) : noDcts (kvs.map (·.2)) = true := by
  rw [noDcts_iff] at h ⊢
  intro d hd
  obtain ⟨p, hp, rfl⟩ := List.mem_map.mp hd
  have := h (.tuple [tupI p.1, p.2]) (List.mem_map.mpr ⟨p, hp, rfl⟩)
  simp only [noDct, noDcts, Bool.and_eq_true] at this
  exact this.2.1
def fSitm (fa : Env → Option (Res × Env)) (ρ : Env) : Option (Res × Env) := match fa ρ with
    | none => none
    | some (ra, ρ1) => (sitmR ra.d).map fun r => (r, ρ1)
theorem boot_srt : bootBuiltins (Str.ofString "sorted") = some (.builtin "sorted") := by decide +kernel
theorem snd_sitm (C : CtxOk X N q F) {e p0 apos ipos cpos fa} (hg : glB q.sc (Str.ofString "sorted") = true) (hbase : attributeBase e "items" X.env (eval e X.env) = eval e X.env) (hline : (apos.endLine == ipos.line) = true) (ha : SndE X e fa) :
    SndE X (.Call (.Name (Str.ofString "sorted") p0) [.Call (.Attribute e "items" apos) [] [] ipos] [] cpos) (fSitm fa) := by
  obtain ⟨ta, pa, qa⟩ := ha.d
  have hu := C.un
  refine ⟨_, pe_callB (cr_sortItF C.calm (by omega)) (gl_of C hg) (C.bl "sorted" (by decide)) boot_srt (pa_cons (pe_itemsF pa hbase hline) pa_nil (star_cons rfl)) (by decide) (by decide) (star_cons rfl) (star_any rfl), fun A H σ ρ r ρ' ft e Q kk => ?_⟩
  unfold fSitm at e
  split at e
  · cases e
  · rename_i ra ρ1 e1
    cases e2 : sitmR ra.d with
    | none => rw [e2] at e; cases e
    | some z =>
      rw [e2] at e
      cases e
      unfold sitmR at e2
      split at e2
      · rename_i kvs ek
        split at e2
        · rename_i hs
          cases e2
          refine qa A H σ ρ ra ρ' ft e1 _ fun A1 H1 v s1 r1 => ?_
          obtain ⟨a, od, ws, rfl, h1, h2, h3, h4⟩ := rep_dict r1 ek
          refine ⟨a, od, ws, rfl, rfl, h2, fun p hp => ?_⟩
          have g1 := upd_grow (o := L2.DX.itemsO p a) hp
          have dv : DpAll X.K H1 (ws.map (·.2)) (kvs.map (·.2)) := h4.2.dp (tPairs_noDct (sortOk_noDct hs))
          refine ⟨p, a, od, ws, kvs.map (·.1), kvs.map (·.2), rfl, upd_same, g1 a _ h2, by rw [h4.1, List.map_map]; rfl, dps_mono g1 dv, by rw [tPairs_zip]; exact hs, fun H' l zs g hz hl hL hlen nd hi hd => ?_⟩
          rw [tPairs_zip] at hz
          have gg : ∀ b o, H1 b = some o → H' b = some o := fun b o z => g b o (g1 b o z)
          have s2 := s1.trans (Stp.grow s1.fit gg)
          have s3 := s2.trans (Stp.addT s2.fit (B := fun b => ∃ vs, H' b = some (.tup vs)) fun b hb => hb)
          have hl1 : H1 l = none := by
            cases e : H1 l with
            | none => rfl
            | some o => rw [g1 l o e] at hl; cases hl
          have k3 : Keep A1 H1 H' := fun b o _ z => gg b o z
          have rz : ∀ (ys : List (Addr × D)), (∀ z ∈ ys, z ∈ zs) → RepAll (fun b => A1 b ∨ ∃ vs, H' b = some (.tup vs)) H' (ys.map fun z => V.ref z.1) (ys.map (·.2)) := fun ys => by
            induction ys with
            | nil => intro _; exact .nil
            | cons y ys ih =>
              intro hy
              refine .cons ?_ (ih fun z hz => hy z (List.mem_cons_of_mem _ hz))
              obtain ⟨_, _, i, qa, v, k, d, z1, z2, z3, z4, z5, z7, z6⟩ := hi y (hy y List.mem_cons_self)
              show Rep _ H' (V.ref y.1) y.2
              rw [z4]
              have rv : Rep A1 H1 v d := by
                obtain ⟨d', w1, w2⟩ := h4.2.getV i (v := v) (by rw [List.getElem?_map, z1]; rfl)
                rw [z3] at w1; cases w1; exact w2
              have hq := g _ _ z5
              refine .tup (.inr ⟨_, z6⟩) z6 (by simp [sizeLine]) (.cons (.tup (.inr ⟨_, hq⟩) hq ?_ (rep_ints k)) (.cons (Rep.mono (fun _ h => .inl h) k3 rv) .nil))
              rw [List.length_map]
              exact z7
          have n1 : NoRef H1 σ ρ' l := NoRef.new s1.fit hl1
          refine kk _ H' _ s3 ⟨l, _, rfl, hL, by rw [List.length_map]; exact hlen, ?_, ?_, s1.dom l hl1, n1.1, fun h => n1.2 (s1.fit.prv_back (fun _ _ _ z => ⟨z, rfl⟩) k3 (fun a o _ z => gg a o z) l h)⟩
          · rw [← hz]; exact rz zs fun _ h => h
          · rintro (z | ⟨vs, z⟩)
            · exact s1.fit.nofrz hl1 z
            · rw [hL] at z; cases z
        · cases e2
      · cases e2
def fItm (fa : Env → Option (Res × Env)) (ρ : Env) : Option (List D × Env × List Nat) := match fa ρ with
    | none => none
    | some (ra, ρ1) => match dictOf ra.d with
      | none => none
      | some kvs => some (tPairs kvs, ρ1, [])
theorem tPairs_get {kvs : List (List Int × D)} {i : Nat} {d : D} (h : (tPairs kvs)[i]? = some d) : ∃ p, kvs[i]? = some p ∧ d = .tuple [tupI p.1, p.2] := by
  unfold tPairs at h
  rw [List.getElem?_map] at h
  cases e : kvs[i]? with
  | none => rw [e] at h; cases h
  | some p => rw [e] at h; cases h; exact ⟨p, rfl, rfl⟩
theorem iter_itm {A H a o ws kvs} (ha : A a) (hd : H a = some (.frz o (.dT ws))) (r : KtRep A H ws kvs) : IterOk A H (fun c => c = a) (Itit a o ws) (tPairs kvs) := by
  have hl : ws.length = kvs.length := kt_len r
  have hp : (tPairs kvs).length = kvs.length := by unfold tPairs; rw [List.length_map]
  refine ⟨fun c e => by subst e; exact ⟨_, hd⟩, fun A' H' e k kg i => ?_⟩
  have hd' := kg a _ rfl hd
  refine ⟨fun hi => ⟨hd', by omega⟩, fun hi => ⟨hd', by omega⟩, fun x H'' d hd y => ?_⟩
  obtain ⟨T, qa, kk, v, h1, h2, h3, rfl, h4, rfl⟩ := y
  obtain ⟨p, e1, rfl⟩ := tPairs_get hd
  have ek : kk = p.1.map Sum.inl := by
    have z := congrArg (fun l => l[i]?) r.1
    simp only [List.getElem?_map, h1, e1, Option.map_some] at z
    exact Option.some.inj z
  subst ek
  have rv : Rep A H v p.2 := by
    obtain ⟨d', z1, z2⟩ := r.2.getV i (v := v) (by rw [List.getElem?_map, h1]; rfl)
    rw [List.getElem?_map, e1] at z1; cases z1; exact z2
  rw [kV_ints] at h2 h3
  have nT : qa ≠ T := ne_of_none h2 h4
  have k2 : Keep A' H' (upd H' T (.tup [V.ref qa, v])) := fun b o _ z => upd_grow h4 b o z
  refine .inr ⟨T, _, fun b => b = qa, h4, rfl, fun b hb => by subst hb; exact ⟨_, h2⟩, .tup (.inl (.inr rfl)) upd_same (by simp [sizeLine]) (.cons (.tup (.inr rfl) (upd_grow h4 _ _ h2) h3 (rep_ints p.1)) (.cons (Rep.mono (fun _ h => .inl (.inl (e _ h))) (fun b o hb z => upd_grow h4 b o (k b o hb z)) rv) .nil))⟩
theorem sndI_itm {elts : List Expr} {kk : Nat} {tpos : Pos} {e apos cpos fa} (hbase : attributeBase e "items" X.env (eval e X.env) = eval e X.env) (hline : (apos.endLine == cpos.line) = true) (ha : SndE X e fa) :
    SndI X (.Tuple elts kk tpos) (.Call (.Attribute e "items" apos) [] [] cpos) (fItm fa) := by
  obtain ⟨ta, pa, qa⟩ := ha.d
  refine ⟨_, pi_itemsT pa hbase hline, fun A H σ ρ ds ρ0 ls ft e R kk => ?_⟩
  unfold fItm at e
  split at e
  · cases e
  · rename_i ra ρ1 e1
    split at e
    · cases e
    · rename_i kvs ek
      cases e
      refine qa A H σ ρ ra ρ0 ft e1 _ fun A1 H1 v s1 r1 => ?_
      obtain ⟨a, od, ws, rfl, h1, h2, h3, h4⟩ := rep_dict r1 ek
      refine ⟨a, od, ws, rfl, h2, kk A1 H1 _ (fun c => c = a) s1 (iter_itm h1 h2 h4) (fun c hc => ?_) (by unfold tPairs; rw [List.length_map, ← kt_len h4]; exact h3) (fun i hi => by cases hi)⟩
      subst hc
      exact ⟨s1.fit.nomut h1, .inl h1⟩
/-! ### a comprehension -/
def stepT (t : T) (vs : List Nat) (fk fv : Env → Option (Res × Env)) (d : D) (ρ : Env) : Option ((D × D) × Env) := match asgT t d ρ with
        | none => none
        | some ρa => match fk ρa with
          | none => none
          | some (rk, ρb) => match fv ρb with
            | none => none
            | some (rv, ρc) => some ((rk.d, rv.d), wipeE vs ρc)
def fTcomp (t : T) (vs : List Nat) (fi : Env → Option (List D × Env × List Nat)) (fk fv : Env → Option (Res × Env)) (ρ : Env) : Option (Res × Env) := match fi ρ with
    | none => none
    | some (ds, ρ0, ls) => if (vs.all fun v => match (lendL ls ρ0)[v]? with | some s => quietS s | none => false) = false then none else
      match tcompL (stepT t vs fk fv) ds [] (wipeE vs (lendL ls ρ0)) with
      | none => none
      | some (r, ρ2) => some (.fr (dictD r), unlend ls (backE vs (lendL ls ρ0) ρ2))
theorem tcomp_core {wi : TI} {t : T} {vs : List Nat} {fi fk fv} (hts : ∀ i ∈ tslots t, i ∈ vs)
    (qi : ∀ A H σ ρ ds ρ0 ls, Fit A H σ ρ → fi ρ = some (ds, ρ0, ls) → ∀ R : L2.It → Hp → Prop,
      (∀ A' H' J G, Stp A H σ ρ A' H' σ ρ0 → IterOk A' H' G J ds → (∀ a, G a → ¬ Mut σ (lendL ls ρ0) a ∧ Held A' σ ρ0 a) → ds.length ≤ sizeLine → Owns ρ0 ls → R J H') → wi σ H R)
    {A H σ ρ r ρ'} (ft : Fit A H σ ρ) (e : fTcomp t vs fi fk fv ρ = some (r, ρ')) (Q : VK) (k : ∀ A' H' v, Stp A H σ ρ A' H' σ ρ' → ResOk A' H H' σ ρ' v r → Q v H') :
    tFz (tDcT wi (gT t) (tE fk) (tE fv) vs) σ H Q := by
  unfold fTcomp at e
  split at e
  · cases e
  · rename_i ds ρ0 ls e1
    split at e
    · cases e
    · rename_i hq
      split at e
      · cases e
      · rename_i rr ρ2 e2
        cases e
        have hq : ∀ i ∈ vs, ∃ s, (lendL ls ρ0)[i]? = some s ∧ quietS s = true := fun i hi => by
          have := (List.all_eq_true.mp (by simpa using hq : (vs.all fun v => match (lendL ls ρ0)[v]? with | some s => quietS s | none => false) = true)) i hi
          split at this
          · rename_i s hs; exact ⟨s, hs, this⟩
          · cases this
        have nm : ∀ i ∈ vs, ∀ es, (lendL ls ρ0)[i]? = some (.mu es) → False := fun i hi es h => by
          obtain ⟨s, z1, z2⟩ := hq i hi
          rw [h] at z1; cases z1; cases z2
        refine qi A H σ ρ ds ρ0 ls ft e1 _ fun A1 H1 J G s1 io gm lens ow => ?_
        have f1 := s1.fit.lend ls
        obtain ⟨gt, gw⟩ := io
        intro D hD
        have nD : ¬ A1 D := f1.nofrz hD
        have rD : NoRef H1 σ (lendL ls ρ0) D := .new f1 hD
        have b0 : Stp A1 H1 σ (lendL ls ρ0) A1 H1 (L2.wipe σ vs) (wipeE vs (lendL ls ρ0)) := (Stp.refl f1).wipe nm
        have rD0 : NoRef H1 (L2.wipe σ vs) (wipeE vs (lendL ls ρ0)) D := rD.wipe f1 vs
        refine ⟨fun i m Hc => m = ds.length - i ∧ i ≤ ds.length ∧ ∃ (Ac : Addr → Prop) (ρb : Env) (ws : List (List Key × V)) (acc : List (List Int × Ev.D)), Stp A1 H1 σ (lendL ls ρ0) Ac Hc (L2.wipe σ vs) ρb ∧ Hc D = some (.dT ws) ∧ ws.length ≤ i ∧ KtRep Ac Hc ws acc ∧ ¬ Ac D ∧
          NoRef Hc (L2.wipe σ vs) ρb D ∧ tcompL (stepT t vs fk fv) (ds.drop i) acc ρb = some (rr, ρ2),
          ⟨ds.length, rfl, Nat.zero_le _, A1, _, [], [], b0.other hD nD rD0 (fun o u z => by rw [hD] at z; cases z), upd_same, Nat.le_refl _, ⟨rfl, .nil⟩, nD, rD0.upd b0.fit nD, e2⟩, ?_⟩
        rintro i m Hc ⟨rfl, hi, Ac, ρb, ws, acc, sb, hDc, hl, ra, nDc, rDc, ec⟩
        have kc : Keep A1 H1 Hc := sb.keep f1
        have gk : ∀ a o, G a → H1 a = some o → Hc a = some o := fun a o hg z => sb.frame a o z (gm a hg).1 fun m => s1.fit.held_noprv (gm a hg).2 (prv_lend.mp m)
        obtain ⟨g1, g2, g3⟩ := gw Ac Hc sb.ext kc gk i
        by_cases hlt : i < ds.length
        · refine .inr ⟨g1 hlt, ?_⟩
          rw [List.drop_eq_getElem_cons hlt] at ec
          simp only [tcompL] at ec
          split at ec
          · cases ec
          · rename_i dk dv ρ3 e3
            split at ec
            · cases ec
            · rename_i ks ek
              split at ec
              · rename_i hz
                refine ⟨fun Hn => ∃ (An : Addr → Prop) (wn : List (List Key × V)), Stp A1 H1 σ (lendL ls ρ0) An Hn (L2.wipe σ vs) ρ3 ∧ Hn D = some (.dT wn) ∧ wn.length ≤ i + 1 ∧ KtRep An Hn wn (tPut acc ks dv) ∧ ¬ An D ∧ NoRef Hn (L2.wipe σ vs) ρ3 D, fun Hn hn => ?_, fun x H' y => ?_⟩
                · obtain ⟨An, wn, z1, z2, z3, z4, z5, z6⟩ := hn
                  exact ⟨ds.length - (i + 1), by omega, rfl, hlt, An, ρ3, wn, _, z1, z2, z3, z4, z5, z6, ec⟩
                · have item : ∃ A', Stp Ac Hc (L2.wipe σ vs) ρb A' H' (L2.wipe σ vs) ρb ∧ Rep A' H' x ds[i] := by
                    rcases g3 x H' ds[i] (List.getElem?_eq_getElem hlt) y with ⟨rfl, rx⟩ | ⟨p, o', B, hp, rfl, hB, rx⟩
                    · exact ⟨Ac, Stp.refl sb.fit, rx⟩
                    · exact ⟨_, Stp.frzB sb.fit hp hB, rx⟩
                  obtain ⟨A', si, rx⟩ := item
                  unfold stepT at e3
                  split at e3
                  · cases e3
                  · rename_i ρa ea
                    split at e3
                    · cases e3
                    · rename_i rk ρk ek'
                      split at e3
                      · cases e3
                      · rename_i rv ρv ev'
                        cases e3
                        refine ⟨A', ρb, ds[i], ρa, si.fit, rx, ea, fun σ' sa oa => ?_⟩
                        have wv : L2.wipe σ' vs = L2.wipe σ vs := by rw [wipe_only (oa.mono hts), wipe_wipe]
                        refine ⟨wv, A', ρa, rk, ρk, sa.fit, ek', fun A2 H2 yk s2 rk2 => ⟨A2, ρk, rv, ρv, s2.fit, ev', fun A3 H3 yv s3 rv3 => ?_⟩⟩
                        have tot := ((si.trans sa).trans s2).trans s3
                        have all := (sb.trans tot).wipe nm
                        rw [wv] at all
                        have rn := rDc.stp tot hDc
                        have hD3 := tot.frame D _ hDc rDc.nomut rDc.2
                        have na3 := nofrz_stp nDc rDc tot hDc
                        have rn3 : NoRef H3 (L2.wipe σ vs) (wipeE vs ρv) D := by rw [← wv]; exact rn.wipe tot.fit vs
                        obtain ⟨b, rfl, hb, _, _⟩ := rep_key (Rep.mono s3.ext (s3.keep s2.fit) rk2) ek
                        have hwl : ws.length < sizeLine := by rw [kt_len ra]; exact hz
                        refine ⟨ws, _, b, rfl, hb, hD3, hwl, A3, _, all.other hD na3 rn3 (fun o u z => by rw [hD3] at z; cases z), upd_same, ?_, ?_, na3, rn3.upd all.fit na3⟩
                        · have := length_putK ws (ks.map Sum.inl : List Key) yv; omega
                        · exact KtRep.mono (fun _ z => z) (keep_other (fun a h => upd_ne h) na3) (kt_put ks (KtRep.mono tot.ext (tot.keep sb.fit) ra) rv3)
              · cases ec
        · have ie : i = ds.length := by omega
          subst ie
          rw [List.drop_length] at ec
          simp only [tcompL] at ec
          cases ec
          refine .inl ⟨g2 (Nat.le_refl _), D, _, rfl, hDc, True.intro, fun od => ?_⟩
          have sk := Stp.back f1 sb hq
          have su := Stp.unlend ow sk
          have hl2 : (lendL ls ρ0).length = ρ2.length := by rw [← f1.len, ← sb.fit.len, wipe_length]
          have nr : NoRef Hc σ (unlend ls (backE vs (lendL ls ρ0) ρ2)) D := by
            refine ⟨fun j s h1 h2 => ?_, fun h => rDc.2 (sb.fit.prv_back (fun j k d h => ?_) (fun _ _ _ z => z) (fun _ _ _ z => z) D (prv_unlend h))⟩
            · have bk : ∀ (u : Slot), (backE vs (lendL ls ρ0) ρ2)[j]? = some u → liveB u = true → σ[j]? ≠ some (some (.ref D)) := fun u hu lu h3 => by
                rw [backE_at vs _ _ j hl2] at hu
                split at hu
                · rename_i hj
                  obtain ⟨u', z1, z2⟩ := hq j hj
                  rw [hu] at z1; cases z1
                  cases u <;> first | (cases lu; done) | (cases z2; done)
                · rename_i hj
                  exact rDc.1 j u hu lu (by rw [wipe_at_not hj]; exact h3)
              rcases unlend_inv h1 with ⟨z, _⟩ | ⟨es, rfl, z, _⟩
              · exact bk s z h2
              · exact bk _ z rfl
            · rw [backE_at vs _ _ j hl2] at h
              split at h
              · rename_i hj
                obtain ⟨u', z1, z2⟩ := hq j hj
                rw [h] at z1; cases z1; cases z2
              · rename_i hj
                exact ⟨h, by rw [wipe_at_not hj]⟩
          obtain ⟨s5, r5⟩ := (s1.trans su).frzD (s1.dom D hD) nDc nr (fun o u z => by rw [hDc] at z; cases z) (by omega) ra od
          exact k _ _ _ s5 r5
end
end Ev

set_option maxRecDepth 100000
set_option maxHeartbeats 2000000
/-! EvN: methods of texts. -/
namespace Ev
open PySem L2
variable [TheK]
def tmName : Tmth → String
  | .ljust => "ljust"
  | .rjust => "rjust"
  | .strip => "strip"
  | .rstrip => "rstrip"
  | .split => "split"
  | .join => "join"
section
variable {X : Cx} {N : List Str} {q : Sc} {F : FT}
def TmSnd (X : Cx) (id : String) (m : Tmth) : Prop := ∃ r : V → List V → Hp → VK → Prop, MtR X id r ∧
  ∀ A H σ ρ x y e res, Fit A H σ ρ → RepW A H y e → dTm m (.str x) e = some res → ∀ Q : VK, (∀ A' H' v, Stp A H σ ρ A' H' σ ρ → ResOk A' H H' σ ρ v res → Q v H') → r (.str x) [y] H Q
theorem tm_ljust : TmSnd X "str.ljust" .ljust := by
  refine ⟨_, mt_ljust, fun A H σ ρ x y e res ft hy hg Q k => ?_⟩
  cases e <;> simp only [dTm, reduceCtorEq] at hg
  split at hg
  · rename_i hz
    cases hg
    cases hy.int
    exact ⟨_, _, rfl, rfl, hz, k A H _ (Stp.refl ft) .str⟩
  · cases hg
theorem tm_rjust : TmSnd X "str.rjust" .rjust := by
  refine ⟨_, mt_rjust, fun A H σ ρ x y e res ft hy hg Q k => ?_⟩
  cases e <;> simp only [dTm, reduceCtorEq] at hg
  split at hg
  · rename_i hz
    cases hg
    cases hy.int
    exact ⟨_, _, rfl, rfl, hz, k A H _ (Stp.refl ft) .str⟩
  · cases hg
theorem tm_strip : TmSnd X "str.strip" .strip := by
  refine ⟨_, mt_stripChars, fun A H σ ρ x y e res ft hy hg Q k => ?_⟩
  cases e <;> simp only [dTm, reduceCtorEq] at hg
  split at hg
  · rename_i hz
    cases hg
    cases hy.str
    exact ⟨_, _, rfl, rfl, hz, k A H _ (Stp.refl ft) .str⟩
  · cases hg
theorem tm_rstrip : TmSnd X "str.rstrip" .rstrip := by
  refine ⟨_, mt_rstripChars, fun A H σ ρ x y e res ft hy hg Q k => ?_⟩
  cases e <;> simp only [dTm, reduceCtorEq] at hg
  split at hg
  · rename_i hz
    cases hg
    cases hy.str
    exact ⟨_, _, rfl, rfl, hz, k A H _ (Stp.refl ft) .str⟩
  · cases hg
theorem repAll_strs {A H} : ∀ ys : List Str, RepAll A H (ys.map V.str) (ys.map .str)
  | [] => .nil
  | _ :: ys => .cons .str (repAll_strs ys)
theorem tm_split : TmSnd X "str.split" .split := by
  refine ⟨_, mt_split, fun A H σ ρ x y e res ft hy hg Q k => ?_⟩
  cases e <;> simp only [dTm, reduceCtorEq] at hg
  split at hg
  · rename_i hz
    cases hg
    cases hy.str
    refine ⟨_, _, rfl, rfl, hz.1, hz.2, fun p hp => k A _ _ (Stp.grow ft (upd_grow hp)) (res_new ft hp ?_ (repAll_strs _))⟩
    rw [List.length_map]
    exact Nat.le_trans (PyProof.Rows.split_le _ _) hz.2
  · cases hg
theorem rep_of_strs {A H} : ∀ {vs ds ns}, RepAll A H vs ds → allStrs ds = some ns → vs = ns.map V.str
  | _, _, _, .nil, e => by simp [allStrs] at e; subst e; rfl
  | _, _, _, .cons h1 h2, e => by
    cases h1 <;> simp [allStrs] at e
    obtain ⟨ms, e1, e2⟩ := e
    subst e2
    rw [rep_of_strs h2 e1]
    rfl
theorem tm_join : TmSnd X "str.join" .join := by
  refine ⟨_, mt_join, fun A H σ ρ x y e res ft hy hg Q k => ?_⟩
  cases e <;> simp only [dTm, reduceCtorEq] at hg
  · rename_i ds
    cases e1 : allStrs ds with
    | none => rw [e1] at hg; cases hg
    | some ys =>
      rw [e1] at hg
      unfold joinR at hg
      split at hg
      · split at hg
        · rename_i z hz
          cases z
          cases hg
          obtain ⟨a, vs, rfl, h1, h2, h3⟩ := hy.list
          cases rep_of_strs h3 e1
          exact ⟨_, a, ys, rfl, rfl, .inl (SqL.of h1), hz, k A H _ (Stp.refl ft) .str⟩
        · cases hg
      · cases hg
  · rename_i ds
    cases e1 : allStrs ds with
    | none => rw [e1] at hg; cases hg
    | some ys =>
      rw [e1] at hg
      unfold joinR at hg
      split at hg
      · split at hg
        · rename_i z hz
          cases z
          cases hg
          obtain ⟨a, vs, rfl, _, h1, h2, h3⟩ := hy.tup
          cases rep_of_strs h3 e1
          exact ⟨_, a, ys, rfl, rfl, .inr (SqT.of h1), hz, k A H _ (Stp.refl ft) .str⟩
        · cases hg
      · cases hg
def fTm (m : Tmth) (fo : Env → Option (Res × Env)) (fa : Env → Option (Opd × Env)) (ρ : Env) : Option (Res × Env) := match fo ρ with
    | none => none
    | some (ro, ρ1) => match fa ρ1 with
      | none => none
      | some (oa, ρ2) => match oa.get ρ2 with
        | some d => (dTm m ro.d d).map fun r => (r, ρ2)
        | none => none
theorem dTm_str {m : Tmth} {d e : D} {r : Res} (h : dTm m d e = some r) : ∃ x, d = .str x := by
  cases m <;> cases d <;> first | exact ⟨_, rfl⟩ | (simp [dTm] at h; done)
theorem snd_tm {m : Tmth} {id : String} {o : Expr} {e apos cpos fo fa} (hc : TmSnd X id m) (slot : PySem.Slot "str" (Str.ofString (tmName m)) id) (hty : typeOf (.builtin id) = pure (.type "method_descriptor"))
    (hb : attributeBase o (Str.ofString (tmName m)) X.env (eval o X.env) = eval o X.env) (st : starEach [e] X.env = [(false, eval e X.env)]) (hl : (apos.endLine == cpos.line) = true) (ho : SndE X o fo) (ha : SndO X e fa) :
    SndE X (.Call (.Attribute o (Str.ofString (tmName m)) apos) [e] [] cpos) (fTm m fo fa) := by
  obtain ⟨r, pr, qr⟩ := hc
  obtain ⟨to, po, qo⟩ := ho.d
  obtain ⟨ta, pa, qa⟩ := ha
  refine ⟨_, pe_m1 slot hty pr po pa st hb hl, fun A H σ ρ res ρ' ft e Q k => ?_⟩
  unfold fTm at e
  split at e
  · cases e
  · rename_i ro ρ1 e1
    split at e
    · cases e
    · rename_i oa ρ2 e2
      split at e
      · rename_i d e3
        cases e4 : dTm m ro.d d with
        | none => rw [e4] at e; cases e
        | some z =>
          rw [e4] at e
          cases e
          refine qo A H σ ρ ro ρ1 ft e1 _ fun A1 H1 v s1 r1 => ?_
          obtain ⟨x, ex⟩ := dTm_str e4
          rw [ex] at r1 e4
          cases r1
          refine ⟨⟨x, rfl⟩, qa A1 H1 σ ρ1 oa ρ' s1.fit e2 _ fun A2 H2 w s2 k2 => ?_⟩
          exact qr A2 H2 σ ρ' x w d res s2.fit (Opd.ok s2.fit k2 e3) e4 Q fun A3 H3 v3 s3 k3 => k A3 H3 v3 ((s1.trans s2).trans s3) (k3.start fun a z => (s1.trans s2).dom a z)
      · cases e
/-! ### replace -/
def SndE1 (X : Cx) (e : Expr) (f : Env → Option (Res × Env)) : Prop := ∃ t : TE, PE1 X e t ∧
  ∀ A H σ ρ r ρ', Fit A H σ ρ → f ρ = some (r, ρ') → ∀ Q : VK, (∀ A' H' v, Stp A H σ ρ A' H' σ ρ' → ResOk A' H H' σ ρ' v r → Q v H') → t σ H Q
theorem snd_call1 (C : CtxOk X N q F) {f : String} {e es p pos} {fs : List PK → Env → Option (List Opd × Env)} (hg : glB q.sc (Str.ofString f) = true) (hd : (Str.ofString f == ("__debug__" : Str)) = false) (st : (e :: es).all notStar = true) (hi : hasInt (e :: es) = true) (hs : ∀ ks, SndP X (e :: es) (fs ks)) :
    SndE1 X (.Call (.Name (Str.ofString f) p) (e :: es) [] pos) (fCall (F f) fs) := by
  rw [List.all_cons, Bool.and_eq_true] at st
  cases hf : F f with
  | none =>
    refine ⟨fun _ _ _ => False, fun _ _ _ _ _ _ h => h.elim, fun A H σ ρ r ρ' ft e Q k => ?_⟩
    cases e
  | some g =>
    obtain ⟨ks, fn⟩ := g
    obtain ⟨ts, ps, qs⟩ := hs ks
    obtain ⟨fa, fd, prs, lv, m1, m2, m3, m4, m5⟩ := C.fns f ks fn hf
    refine ⟨_, pe_call1 m5 m4 (gl_of C hg) m1 m2 m3 .nil pass0 ps hd (star_cons st.1) (star_any st.2) hi, fun A H σ ρ r ρ' ft e Q k => ?_⟩
    obtain ⟨ks', fn', os, ρ1, ss, outs, z1, z2, z3, z4, z5, z6⟩ := fcall_inv e
    cases z1
    refine qs A H σ ρ os ρ1 ft z2 _ fun A1 H1 vs s1 k1 => ?_
    rw [List.append_nil]
    exact call_fin s1.fit k1 z3 z4 z5 z6 Q E0 fun A2 H2 v s2 k2 => k A2 H2 v (s1.trans s2) (k2.start s1.dom)
def fRepl (y z : String) (fa : Env → Option (Res × Env)) (ρ : Env) : Option (Res × Env) := match fa ρ with
    | none => none
    | some (ra, ρ1) => (dRepl y z ra.d).map fun r => (r, ρ1)
theorem ev_repl_eq {f : String} {es : Es} {y z : String} {ρ : Env} : ev F (.repl f es y z) ρ = fRepl y z (fCall (F f) (fun ks ρ => evA F ks es ρ)) ρ := by
  simp only [ev, fRepl, fCall]
  rcases F f with _ | ⟨ks, fn⟩
  · rfl
  simp only
  rcases evA F ks es ρ with _ | ⟨os, ρ1⟩
  · rfl
  simp only
  by_cases h : apartB ks os = false
  · rw [if_pos h, if_pos h]
  · rw [if_neg h, if_neg h]
    rcases argsOf ρ1 ks os with _ | ss
    · rfl
    simp only
    rcases fn ss with _ | ⟨r, outs⟩
    · rfl
    simp only
    rcases outsIn (muts ks os) outs ρ1 with _ | ρ2 <;> rfl
theorem snd_repl {o : Expr} {y z : String} {j k c0 c1 apos pos fa} (ho : SndE1 X o fa)
    (hbase : attributeBase o "replace" X.env (eval o X.env) = eval o X.env) (hline : (apos.endLine == pos.line) = true) :
    SndE X (.Call (.Attribute o "replace" apos) [.Constant (.str (Str.ofString y)) j c0, .Constant (.str (Str.ofString z)) k c1] [] pos) (fRepl y z fa) := by
  by_cases hyz : (Str.ofString y == Str.ofString z) = false
  · obtain ⟨to, po, qo⟩ := ho
    refine ⟨_, pe_repl1 po hyz hbase hline, fun A H σ ρ res ρ' ft e Q kk => ?_⟩
    unfold fRepl at e
    split at e
    · cases e
    · rename_i ra ρ1 e1
      cases e4 : dRepl y z ra.d with
      | none => rw [e4] at e; cases e
      | some w =>
        rw [e4] at e
        cases e
        refine qo A H σ ρ ra ρ' ft e1 _ fun A1 H1 v s1 r1 => ?_
        obtain ⟨A2, s2, r2⟩ := r1.fz s1
        cases ed : ra.d <;> rw [ed] at e4 r2 <;> simp only [dRepl, reduceCtorEq] at e4
        split at e4
        · rename_i hz
          cases e4
          cases r2
          exact ⟨_, rfl, hz.2, kk A2 H1 _ s2 .str⟩
        · cases e4
  · refine ⟨fun _ _ _ => False, ⟨fun _ _ _ _ _ _ h => h.elim⟩, fun A H σ ρ r ρ' ft e Q k => ?_⟩
    unfold fRepl at e
    split at e
    · cases e
    · rename_i ra ρ1 e1
      cases e4 : dRepl y z ra.d with
      | none => rw [e4] at e; cases e
      | some w =>
        cases ed : ra.d <;> rw [ed] at e4 <;> simp only [dRepl, reduceCtorEq] at e4
        rw [if_neg (fun h => hyz h.1)] at e4
        cases e4
def baseOk : Expr → Bool
  | .Call (.Name ..) [] [] _ => false
  | _ => true
theorem base_ok {e : Expr} {nm : Str} {env : PySem.Env} {w : Sem Value} (h : baseOk e = true) : attributeBase e nm env w = w := by
  unfold attributeBase
  split
  · simp [baseOk] at h
  · rfl
def callInt : Expr → Bool
  | .Call _ xs _ _ => hasInt xs
  | _ => false
end
end Ev

set_option maxRecDepth 100000
/-! EvP: a list of different lists of one's own. -/
namespace Ev
open PySem L2
variable [TheK]
mutual
theorem DpR.repN {A H} : ∀ {v d}, DpR A H v d → noL d = true → Rep A H v d
  | _, _, .leaf h _, _ => h
  | _, _, .lst .., n => by cases n
  | _, _, .tup h1 h2 h3 h4, n => .tup h1 h2 h3 (DpRs.repN h4 (by simpa [noL] using n))
theorem DpRs.repN {A H} : ∀ {vs ds}, DpRs A H vs ds → noLs ds = true → RepAll A H vs ds
  | _, _, .nil, _ => .nil
  | _, _, .cons h1 h2, n => by
    rw [noLs, Bool.and_eq_true] at n
    exact .cons (DpR.repN h1 n.1) (DpRs.repN h2 n.2)
end
theorem DpRs.of {A H} : ∀ {vs ds}, RepAll A H vs ds → noLs ds = true → DpRs A H vs ds
  | _, _, .nil, _ => .nil
  | _, _, .cons h1 h2, n => by
    rw [noLs, Bool.and_eq_true] at n
    exact .cons (.leaf h1 n.1) (DpRs.of h2 n.2)
theorem DpRs.get {A H} : ∀ {vs ds} (n : Nat) {d}, DpRs A H vs ds → ds[n]? = some d → ∃ v, vs[n]? = some v ∧ DpR A H v d
  | _, _, n, d, .nil, e => by simp at e
  | _, _, 0, d, .cons h1 h2, e => by simp at e; subst e; exact ⟨_, rfl, h1⟩
  | _, _, n + 1, d, .cons h1 h2, e => by simpa using DpRs.get n h2 (by simpa using e)
theorem DpRs.length {A H} : ∀ {vs ds}, DpRs A H vs ds → vs.length = ds.length
  | _, _, .nil => rfl
  | _, _, .cons _ h => by simp [DpRs.length h]
theorem DpRs.set {A H v d} (h : DpR A H v d) : ∀ {vs ds} (n : Nat), DpRs A H vs ds → DpRs A H (vs.set n v) (ds.set n d)
  | _, _, _, .nil => .nil
  | _, _, 0, .cons _ h2 => .cons h h2
  | _, _, n + 1, .cons h1 h2 => .cons h1 (DpRs.set h n h2)
theorem noLs_get : ∀ {ds : List D} {n : Nat} {d}, noLs ds = true → ds[n]? = some d → noL d = true
  | [], n, d, _, e => by simp at e
  | x :: r, 0, d, h, e => by rw [noLs, Bool.and_eq_true] at h; simp at e; subst e; exact h.1
  | x :: r, n + 1, d, h, e => by rw [noLs, Bool.and_eq_true] at h; exact noLs_get h.2 (by simpa using e)
theorem noLs_set : ∀ {ds : List D} {n : Nat} {d}, noLs ds = true → noL d = true → noLs (ds.set n d) = true
  | [], n, d, _, e => rfl
  | x :: r, 0, d, h, e => by rw [noLs, Bool.and_eq_true] at h; simp [noLs, e, h.2]
  | x :: r, n + 1, d, h, e => by rw [noLs, Bool.and_eq_true] at h; simp [noLs, h.1, noLs_set h.2 e]
/-- the slot, its list and the rows -/
structure TreeAt (A : Addr → Prop) (H : Hp) (σ : St) (ρ : Env) (i : Nat) (ds : List D) (a : Addr) (bs : List Addr) : Prop where
  slot : ρ[i]? = some (.dp .tree (.list ds))
  at_ : σ[i]? = some (some (.ref a))
  h : H a = some (.lst (bs.map V.ref))
  len : (bs.map V.ref).length ≤ sizeLine
  na : ¬ A a
  nd : (a :: bs).Nodup
  rs : DpRs A H (bs.map V.ref) ds
  ok : ds.all rowB = true
theorem treeAt_inv {ρ : Env} {i ds} (h : treeAt ρ i = some ds) : ρ[i]? = some (.dp .tree (.list ds)) := by
  unfold treeAt at h
  split at h
  · cases h; assumption
  · cases h
theorem tree_at {A H σ} {ρ : Env} {i ds} (f : Fit A H σ ρ) (h : treeAt ρ i = some ds) : ∃ a bs, TreeAt A H σ ρ i ds a bs := by
  have hs := treeAt_inv h
  obtain ⟨ov, e1, v, d', rfl, r, h2, h3, _⟩ := f.at hs
  cases h2 (by decide)
  obtain ⟨a, bs, ds', rfl, g1, g2, g3, g4⟩ := h3 rfl
  cases g3
  cases r with
  | leaf _ n => cases n
  | lst k1 k2 k3 k4 =>
    rw [g1] at k1; cases k1
    exact ⟨a, bs, hs, e1, g1, k2, k3, g2, k4, g4⟩
theorem TreeAt.row {A H σ ρ i a bs} {n : Nat} {ds es : List D} (t : TreeAt A H σ ρ i ds a bs) (h : ds[n]? = some (.list es)) : ∃ b ws, bs[n]? = some b ∧ H b = some (.lst ws) ∧ ws.length ≤ sizeLine ∧ ¬ A b ∧ RepAll A H ws es ∧ noLs es = true := by
  obtain ⟨v, e1, r⟩ := t.rs.get n h
  have hn : noLs es = true := List.all_eq_true.mp t.ok _ (List.mem_of_getElem? h)
  rw [List.getElem?_map] at e1
  cases e2 : bs[n]? with
  | none => rw [e2] at e1; cases e1
  | some b =>
    rw [e2] at e1; cases e1
    cases r with
    | leaf _ n => cases n
    | lst k1 k2 k3 k4 => exact ⟨b, _, rfl, k1, k2, k3, k4.repN hn, hn⟩
theorem rowAt_inv {ds : List D} {k : Option Int} {n es} (h : rowAt ds k = some (n, es)) : ∃ i, k = some i ∧ ixN ds.length i = some n ∧ ds[n]? = some (.list es) := by
  unfold rowAt at h
  split at h
  · cases h
  · rename_i i
    split at h
    · cases h
    · rename_i m e1
      split at h
      · rename_i e2; cases h; exact ⟨i, rfl, e1, e2⟩
      · cases h
theorem cellAt_inv {ds : List D} {k : Option Int} {n d} (h : cellAt ds k = some (n, d)) : ∃ i, k = some i ∧ ixN ds.length i = some n ∧ ds[n]? = some d := by
  unfold cellAt at h
  split at h
  · cases h
  · rename_i i
    split at h
    · cases h
    · rename_i m e1
      split at h
      · rename_i e2; cases h; exact ⟨i, rfl, e1, e2⟩
      · cases h
theorem atI_ix {α : Type} {xs : List α} {i : Int} {n : Nat} {v : α} (h : ixN xs.length i = some n) (e : xs[n]? = some v) : atI xs i = some v := by
  unfold atI; rw [h]; exact e

/-! ### indices -/
def SndX (X : Cx) (ex : Expr) (e : E) : Prop := ∃ t : TE, PE X ex t ∧ ∀ A H σ ρ k, Fit A H σ ρ → pix ρ e = some k → ∀ Q : VK, Q (.int k) H → t σ H Q
theorem pixV_at {A H σ} {ρ : Env} {j k} (f : Fit A H σ ρ) (h : pixV ρ j = some k) : σ[j]? = some (some (.int k)) := by
  unfold pixV at h
  split at h
  · rename_i hs
    cases h
    obtain ⟨ov, e1, v, rfl, r⟩ := f.at hs
    cases r
    exact e1
  · cases h
section
variable {X : Cx} {N : List Str} {q : Sc} {F : FT}
theorem sndX_var (C : CtxOk X N q F) {i x pos} (h : nameB N q i x = true) : SndX X (.Name x pos) (.var i) :=
  ⟨_, pe_name C h, fun A H σ ρ k ft e Q z => ⟨_, pixV_at ft e, z⟩⟩
theorem sndX_int {n j pos} : SndX X (.Constant (.int n) j pos) (.int n) :=
  ⟨_, pe_int, fun A H σ ρ k ft e Q z => by cases e; exact z⟩
theorem sndX_idx (C : CtxOk X N q F) {i x px n j pc pos} (h : nameB N q i x = true) : SndX X (.Subscript (.Name x px) (.Constant (.int n) j pc) pos) (.idx (.var i) (.int n)) := by
  refine ⟨_, pe_ix ix_list (pe_name C h) pe_int (fun _ _ => rfl), fun A H σ ρ k ft e Q z => ?_⟩
  simp only [pix] at e
  split at e
  · rename_i ds e1
    split at e
    · rename_i kk e2
      cases e
      obtain ⟨a, vs, g1, g2, g3, g4⟩ := rd_at ft e1
      obtain ⟨m, m1, m2, m3, _⟩ := atI_get e2
      obtain ⟨v, v1, v2⟩ := g4.get m m2
      cases v2
      refine ⟨_, g1, a, vs, n, .int k, rfl, rfl, SqL.of g2, ?_, z⟩
      unfold atI at e2 ⊢
      rw [g4.length]
      cases e3 : ixN ds.length n with
      | none => rw [e3] at e2; cases e2
      | some m' =>
        rw [e3] at e2
        obtain ⟨w, w1, w2⟩ := g4.get m' e2
        cases w2
        exact w1
    · cases e
  · cases e
theorem sndX_bin (C : CtxOk X N q F) {o : Bop} (ho : o = .add ∨ o = .sub) {i x px n j pc pos} (h : nameB N q i x = true) : SndX X (.BinOp (.Name x px) (bop o) (.Constant (.int n) j pc) pos) (.bin o (.var i) (.int n)) := by
  rcases ho with rfl | rfl
  · refine ⟨_, pe_op op_add (pe_name C h) pe_int, fun A H σ ρ k ft e Q z => ?_⟩
    simp only [pix] at e
    split at e
    · rename_i kk e1
      cases e
      exact ⟨_, pixV_at ft e1, _, _, rfl, rfl, z⟩
    · cases e
  · refine ⟨_, pe_op op_sub (pe_name C h) pe_int, fun A H σ ρ k ft e Q z => ?_⟩
    simp only [pix] at e
    split at e
    · rename_i kk e1
      cases e
      exact ⟨_, pixV_at ft e1, _, _, rfl, rfl, z⟩
    · cases e

/-! ### reading -/
def fDix (i : Nat) (a b : E) (ρ : Env) : Option (Res × Env) := match dixG ρ i a b with
    | some d => some (.fr d, ρ)
    | none => none
theorem snd_dix (C : CtxOk X N q F) {i : Nat} {x : Str} {px ea eb p1 p2 a b} (h : nameB N q i x = true) (ha : SndX X ea a) (hb : SndX X eb b) (na : PlainIx ea) (nb : PlainIx eb) :
    SndE X (.Subscript (.Subscript (.Name x px) ea p1) eb p2) (fDix i a b) := by
  obtain ⟨ta, pa, qa⟩ := ha
  obtain ⟨tb, pb, qb⟩ := hb
  refine ⟨_, pe_ix ix_list (pe_ix ix_list (pe_name C h) pa na) pb nb, fun A H σ ρ r ρ' ft e Q k => ?_⟩
  unfold fDix dixG at e
  cases e1 : treeAt ρ i with
  | none => simp [e1] at e
  | some ds =>
    cases e2 : rowAt ds (pix ρ a) with
    | none => simp [e1, e2] at e
    | some p =>
      obtain ⟨n, es⟩ := p
      cases e3 : cellAt es (pix ρ b) with
      | none => simp [e1, e2, e3] at e
      | some p =>
        obtain ⟨m, d⟩ := p
        simp [e1, e2, e3] at e
        obtain ⟨rfl, rfl⟩ := e
        obtain ⟨ad, bs, t⟩ := tree_at ft e1
        obtain ⟨ia, z1, z2, z3⟩ := rowAt_inv e2
        obtain ⟨ib, y1, y2, y3⟩ := cellAt_inv e3
        obtain ⟨bd, ws, w1, w2, w3, w4, w5, w6⟩ := t.row z3
        obtain ⟨v, v1, v2⟩ := w5.get m y3
        have hl := t.rs.length
        refine ⟨_, t.at_, qa A H σ ρ _ ft z1 _ ⟨ad, _, ia, .ref bd, rfl, rfl, SqL.of t.h, atI_ix (by rw [hl]; exact z2) (by rw [List.getElem?_map, w1]; rfl), ?_⟩⟩
        exact qb A H σ ρ _ ft y1 _ ⟨bd, ws, ib, v, rfl, rfl, SqL.of w2, atI_ix (by rw [w5.length]; exact y2) v1, k A H v (Stp.refl ft) v2⟩
def fDlen (i : Nat) (ρ : Env) : Option (Res × Env) := match dlenG ρ i with
    | some d => some (.fr d, ρ)
    | none => none
theorem snd_dlen (C : CtxOk X N q F) {i : Nat} {x : Str} {px p pos} (hg : glB q.sc (Str.ofString "len") = true) (h : nameB N q i x = true) : SndE X (.Call (.Name (Str.ofString "len") p) [.Name x px] [] pos) (fDlen i) := by
  refine ⟨_, pe_callB call_len_seq (gl_of C hg) (C.bl "len" (by decide)) PySem.boot_len (pa_cons (pe_name C h) pa_nil (star_cons rfl)) (by decide) (by decide) (star_cons rfl) rfl, fun A H σ ρ r ρ' ft e Q k => ?_⟩
  unfold fDlen dlenG at e
  cases e1 : treeAt ρ i with
  | none => simp [e1] at e
  | some ds =>
    simp [e1] at e
    obtain ⟨rfl, rfl⟩ := e
    obtain ⟨ad, bs, t⟩ := tree_at ft e1
    have hl := t.rs.length
    have k' : Q (.int ((bs.map V.ref).length : Nat)) H := by rw [hl]; exact k A H _ (Stp.refl ft) .int
    exact ⟨_, t.at_, ad, _, rfl, .inl (SqL.of t.h), k'⟩
end

/-! ### writing -/
def RowsG (A : Addr → Prop) (H : Hp) (bs : List Addr) (ds : List D) : Prop := bs.length = ds.length ∧ ∀ (m : Nat) (b : Addr), bs[m]? = some b → ∃ (ws : List V) (es : List D), ds[m]? = some (PyData.list es) ∧ H b = some (HO.lst ws) ∧ ws.length ≤ sizeLine ∧ ¬ A b ∧ RepAll A H ws es ∧ noLs es = true
theorem DpRs.mk' {A H} : ∀ {vs : List V} {ds : List D}, vs.length = ds.length → (∀ (m : Nat) v d, vs[m]? = some v → ds[m]? = some d → DpR A H v d) → DpRs A H vs ds
  | [], [], _, _ => .nil
  | [], _ :: _, e, _ => by cases e
  | _ :: _, [], e, _ => by cases e
  | v :: vs, d :: ds, e, h => .cons (h 0 v d rfl rfl) (DpRs.mk' (by simpa using e) fun m v d h1 h2 => h (m + 1) v d (by simpa using h1) (by simpa using h2))
theorem RowsG.dp {A H bs ds} (r : RowsG A H bs ds) : DpRs A H (bs.map V.ref) ds := by
  refine .mk' (by rw [List.length_map]; exact r.1) fun m v d h1 h2 => ?_
  rw [List.getElem?_map] at h1
  cases e : bs[m]? with
  | none => rw [e] at h1; cases h1
  | some b =>
    rw [e] at h1; cases h1
    obtain ⟨ws, es, g1, g2, g3, g4, g5, g6⟩ := r.2 m b e
    rw [g1] at h2; cases h2
    exact .lst g2 g3 g4 (.of g5 g6)
theorem RowsG.all {A H bs ds} (r : RowsG A H bs ds) : ds.all rowB = true := by
  rw [List.all_eq_true]
  intro d hd
  obtain ⟨m, hm⟩ := List.getElem?_of_mem hd
  have hb : m < bs.length := by rw [r.1]; exact (List.getElem?_eq_some_iff.mp hm).1
  obtain ⟨ws, es, g1, g2, g3, g4, g5, g6⟩ := r.2 m bs[m] (List.getElem?_eq_getElem hb)
  rw [g1] at hm; cases hm
  exact g6
theorem RowsG.lr {A H bs ds a} (r : RowsG A H bs ds) (h : H a = some (.lst (bs.map V.ref))) {c : Addr} (l : LR H (.ref a) c) : c = a ∨ c ∈ bs := by
  cases l with
  | here e => exact .inl rfl
  | lst e hm hr =>
    rw [h] at e; cases e
    obtain ⟨b, hb, rfl⟩ := List.mem_map.mp hm
    obtain ⟨m, hm⟩ := List.getElem?_of_mem hb
    obtain ⟨ws, es, g1, g2, g3, g4, g5, g6⟩ := r.2 m b hm
    cases hr with
    | here _ => exact .inr hb
    | lst e hm hr => rw [g2] at e; cases e; exact absurd hr (RepAll.noLR g5 g6 _ hm _)
    | tup e _ _ => rw [g2] at e; cases e
  | tup e _ _ => rw [h] at e; cases e
theorem TreeAt.rows {A H σ ρ i ds a bs} (t : TreeAt A H σ ρ i ds a bs) : RowsG A H bs ds := by
  have hl := t.rs.length
  rw [List.length_map] at hl
  refine ⟨hl, fun m b hb => ?_⟩
  have hm : m < ds.length := by rw [← hl]; exact (List.getElem?_eq_some_iff.mp hb).1
  have hr := List.all_eq_true.mp t.ok ds[m] (List.getElem_mem hm)
  cases e : ds[m] with
  | list es =>
    have e' : ds[m]? = some (.list es) := by rw [List.getElem?_eq_getElem hm, e]
    obtain ⟨b', ws, g1, g2, g3, g4, g5, g6⟩ := t.row e'
    rw [hb] at g1; cases g1
    exact ⟨ws, es, e', g2, g3, g4, g5, g6⟩
  | _ => rw [e] at hr; cases hr
theorem TreeAt.lr {A H σ ρ i ds a bs} (t : TreeAt A H σ ρ i ds a bs) {c : Addr} (h : c = a ∨ c ∈ bs) : LR H (.ref a) c := by
  rcases h with rfl | h
  · exact .here t.h
  · obtain ⟨m, hm⟩ := List.getElem?_of_mem h
    obtain ⟨ws, es, g1, g2, _⟩ := t.rows.2 m c hm
    exact .lst t.h (List.mem_map.mpr ⟨c, h, rfl⟩) (.here g2)
/-- a tree is changed -/
theorem stp_tree {A H σ} {ρ : Env} {i : Nat} {ds ds' : List D} {a : Addr} {bs bs' : List Addr} {H' : Hp} (f : Fit A H σ ρ) (t : TreeAt A H σ ρ i ds a bs) (hk : ∀ c, c ≠ a → c ∉ bs → H' c = H c)
    (dom : ∀ c, H' c = none → H c = none) (h' : H' a = some (.lst (bs'.map V.ref))) (hs : ∀ b ∈ bs', b ∈ bs) (nd : (a :: bs').Nodup) (len : (bs'.map V.ref).length ≤ sizeLine) (r' : RowsG A H' bs' ds') :
    Stp A H σ ρ A H' σ (ρ.set i (.dp .tree (.list ds'))) := by
  have hp : ∀ c, c = a ∨ c ∈ bs → Prv H σ ρ c := fun c h => ⟨i, _, _, _, t.slot, t.at_, t.lr h⟩
  have kp : ∀ c o, ¬ Prv H σ ρ c → H c = some o → H' c = some o := fun c o n e => by rw [hk c (fun z => n (hp c (.inl z))) (fun z => n (hp c (.inr z)))]; exact e
  have k : Keep A H H' := fun c o hc e => kp c o (f.noprv hc) e
  have inv : ∀ (j : Nat) (s : Slot), (ρ.set i (.dp .tree (.list ds')))[j]? = some s → (i = j ∧ s = .dp .tree (.list ds')) ∨ (i ≠ j ∧ ρ[j]? = some s) := fun j s h => get_set h
  have oth : ∀ (j : Nat) kk d v, i ≠ j → ρ[j]? = some (.dp kk d) → σ[j]? = some (some v) → ∀ c o, LR H v c → H c = some o → H' c = some o := fun j kk d v ij h1 h2 c o l e => by
    have q := (f.prv j kk d v c h1 h2 l).2 i _ _ _ ij t.slot t.at_
    rw [hk c (fun z => q (t.lr (.inl z))) (fun z => q (t.lr (.inr z)))]; exact e
  have bk : ∀ (j : Nat) kk d v, i ≠ j → ρ[j]? = some (.dp kk d) → σ[j]? = some (some v) → ∀ c, LR H' v c → LR H v c := fun j kk d v ij h1 h2 c l => by
    obtain ⟨d', r⟩ := f.dpr h1 h2
    exact r.back k (fun c o l e => oth j kk d v ij h1 h2 c o l e) c l
  have li : ∀ c, LR H' (.ref a) c → c = a ∨ c ∈ bs := fun c l => (r'.lr h' l).imp id (hs c)
  refine ⟨fun _ h => h, fun c o h _ n => kp c o n h, dom, fun c ⟨j, s, h1, h2, h3⟩ => ?_, fun j es h => ⟨rfl, ?_⟩, fun _ h => .inl h, fun j s h o => ?_, fun c ⟨j, kk, d, v, h1, h2, l⟩ => ?_, ⟨by rw [List.length_set]; exact f.len, fun j s ov h1 h2 => ?_, fun j l s u c jl h1 h2 h3 h4 h5 h6 => ?_, fun c hc => ?_, fun j kk d v c h1 h2 l => ?_⟩⟩
  · rcases inv j s h1 with ⟨_, rfl⟩ | ⟨_, z⟩
    · cases h2
    · exact .inl ⟨j, s, z, h2, h3⟩
  · have ij : i ≠ j := fun e => by subst e; rw [t.slot] at h; cases h
    exact ⟨es, by rw [List.getElem?_set_ne ij]; exact h⟩
  · rcases inv j s h with ⟨_, rfl⟩ | ⟨_, z⟩
    · cases o
    · exact ⟨z, rfl⟩
  · rcases inv j _ h1 with ⟨rfl, _⟩ | ⟨ij, z⟩
    · rw [t.at_] at h2; cases h2
      exact .inr (.inl (hp c (li c l)))
    · exact .inr (.inl ⟨j, kk, d, v, z, h2, bk j kk d v ij z h2 c l⟩)
  · rcases inv j s h1 with ⟨rfl, rfl⟩ | ⟨ij, z⟩
    · rw [t.at_] at h2; cases h2
      exact ⟨_, _, rfl, .lst h' len t.na r'.dp, fun _ => rfl, fun _ => ⟨a, bs', ds', rfl, h', nd, rfl, r'.all⟩, rfl⟩
    · have ok := f.slot j s ov z h2
      refine ok.go (fun _ z => z) k (fun c o lb e1 e2 => ?_) (fun c lv e1 => by subst e1; exact ok.nofz lv) (fun c o u e => ?_) (fun kk d v c o e1 e2 l e3 => ?_) (fun kk d v c e1 e2 l => ?_)
      · subst e1
        refine kp c o (fun ⟨l, kk, d, v, g1, g2, g3⟩ => (f.prv l kk d v c g1 g2 g3).1 j s z lb h2) e2
      · refine kp c _ (fun ⟨l, kk, d, v, g1, g2, g3⟩ => ?_) e
        obtain ⟨_, vs, g4⟩ := f.lr g1 g2 g3
        rw [e] at g4; cases g4
      · subst e1 e2
        exact oth j kk d v ij z h2 c o l e3
      · subst e1 e2
        exact (f.lr z h2 l).1
  · rcases inv j s h1 with ⟨_, rfl⟩ | ⟨_, z⟩
    · cases h3
    · rcases inv l u h2 with ⟨_, rfl⟩ | ⟨_, z'⟩
      · cases h4
      · exact f.apart j l s u c jl z z' h3 h4 h5 h6
  · obtain ⟨o, e⟩ := f.trk c hc
    exact ⟨o, k c o hc e⟩
  · have main : ∀ (j : Nat) kk d v, ρ[j]? = some (.dp kk d) → σ[j]? = some (some v) → LR H v c → (∀ (l : Nat) s, (ρ.set i (.dp .tree (.list ds')))[l]? = some s → liveB s = true → σ[l]? ≠ some (some (.ref c))) ∧ ∀ (l : Nat) kk' d' v', l ≠ j → (ρ.set i (.dp .tree (.list ds')))[l]? = some (.dp kk' d') → σ[l]? = some (some v') → ¬ LR H' v' c := fun j kk d v h1 h2 l => by
      obtain ⟨q1, q2⟩ := f.prv j kk d v c h1 h2 l
      refine ⟨fun l s g1 g2 => ?_, fun l kk' d' v' lj g1 g2 g3 => ?_⟩
      · rcases inv l s g1 with ⟨_, rfl⟩ | ⟨_, z⟩
        · cases g2
        · exact q1 l s z g2
      · rcases inv l _ g1 with ⟨rfl, _⟩ | ⟨il, z⟩
        · rw [t.at_] at g2; cases g2
          exact q2 i _ _ _ lj t.slot t.at_ (t.lr (li c g3))
        · exact q2 l _ _ _ lj z g2 (bk l _ _ _ il z g2 c g3)
    rcases inv j _ h1 with ⟨rfl, _⟩ | ⟨ij, z⟩
    · rw [t.at_] at h2; cases h2
      exact main i _ _ _ t.slot t.at_ (t.lr (li c l))
    · exact main j _ _ _ z h2 (bk j _ _ _ ij z h2 c l)
theorem rows_upd {A H bs ds n b} {es' : List D} {ws' : List V} (r : RowsG A H bs ds) (nd : bs.Nodup) (hb : bs[n]? = some b) (na : ¬ A b) (hl : ws'.length ≤ sizeLine) (rr : RepAll A H ws' es') (hn : noLs es' = true) : RowsG A (upd H b (.lst ws')) bs (ds.set n (.list es')) := by
  have k : Keep A H (upd H b (.lst ws')) := fun c o hc e => by
    have : c ≠ b := fun z => na (z ▸ hc)
    rw [upd_ne this]; exact e
  refine ⟨by rw [List.length_set]; exact r.1, fun m c hc => ?_⟩
  obtain ⟨ws, es, g1, g2, g3, g4, g5, g6⟩ := r.2 m c hc
  by_cases e : n = m
  · subst e
    rw [hb] at hc; cases hc
    exact ⟨ws', es', List.getElem?_set_self (List.getElem?_eq_some_iff.mp g1).1, upd_same, hl, na, RepAll.mono (fun _ z => z) k rr, hn⟩
  · have ne : c ≠ b := fun z => by
      subst z
      have hm := (List.getElem?_eq_some_iff.mp hc).1
      exact e ((List.getElem?_inj hm nd).mp (hc.trans hb.symm)).symm
    exact ⟨ws, es, by rw [List.getElem?_set_ne e]; exact g1, by rw [upd_ne ne]; exact g2, g3, g4, RepAll.mono (fun _ z => z) k g5, g6⟩
section
variable {X : Cx} {N : List Str} {q : Sc} {F : FT}
def fDset (i : Nat) (a b : E) (fe : Env → Option (Res × Env)) (ρ : Env) : Option (Out × Env) := match fe ρ with
    | none => none
    | some (r, ρ1) => match dsetG ρ1 i a b r.d with
      | some ρ2 => some (.next, ρ2)
      | none => none
theorem snd_dset (C : CtxOk X N q F) {i : Nat} {x : Str} {px ea eb e p1 p2 pos a b fe} (h : nameB N q i x = true) (ha : SndX X ea a) (hb : SndX X eb b) (na : PlainIx ea)
    (hs : swapsWithSole [.Subscript (.Subscript (.Name x px) ea p1) eb p2] e pos.line X.env = pure false) (hw : swappedStores [.Subscript (.Subscript (.Name x px) ea p1) eb p2] e X.env = pure none)
    (hx : ∀ v, assign (.Subscript (.Subscript (.Name x px) ea p1) eb p2) X.env v = (do
      let ov ← holding [v] (eval (.Subscript (.Name x px) ea p1) X.env)
      let iv ← holding [v, ov] (eval eb X.env)
      standAt p2
      holding [v, ov, iv] (setItem ov iv v)
      release [v, ov, iv] [])) (he : SndE X e fe) : SndS X (.Assign [.Subscript (.Subscript (.Name x px) ea p1) eb p2] e pos) (fDset i a b fe) := by
  obtain ⟨te, pe, qe⟩ := he.d
  obtain ⟨ta, pa, qa⟩ := ha
  obtain ⟨tb, pb, qb⟩ := hb
  refine ⟨_, ps_asg pe (pg_sub (pe_ix ix_list (pe_name C h) pa na) pb set_list hx) hs hw rfl, fun A H σ ρ o ρ' ft e Dn k => ?_⟩
  unfold fDset at e
  split at e
  · cases e
  · rename_i r ρ1 e0
    split at e
    · rename_i ρ2 e'
      cases e
      refine qe A H σ ρ r ρ1 ft e0 _ fun A1 H1 v s1 r1 => ?_
      unfold dsetG at e'
      cases e1 : treeAt ρ1 i with
      | none => simp [e1] at e'
      | some ds =>
        cases e2 : rowAt ds (pix ρ1 a) with
        | none => simp [e1, e2] at e'
        | some p =>
          obtain ⟨n, es⟩ := p
          cases e3 : cellAt es (pix ρ1 b) with
          | none => simp [e1, e2, e3] at e'
          | some p =>
            obtain ⟨m, d⟩ := p
            simp only [e1, e2, e3] at e'
            split at e'
            · rename_i hn
              cases e'
              obtain ⟨ad, bs, t⟩ := tree_at s1.fit e1
              obtain ⟨ia, z1, z2, z3⟩ := rowAt_inv e2
              obtain ⟨ib, y1, y2, y3⟩ := cellAt_inv e3
              obtain ⟨bd, ws, w1, w2, w3, w4, w5, w6⟩ := t.row z3
              have hl := t.rs.length
              have hnd := List.nodup_cons.mp t.nd
              have hmem : bd ∈ bs := List.mem_of_getElem? w1
              have ne : ad ≠ bd := fun z => hnd.1 (z ▸ hmem)
              refine ⟨_, t.at_, qa A1 H1 σ ρ1 _ s1.fit z1 _ ⟨ad, _, ia, .ref bd, rfl, rfl, SqL.of t.h, atI_ix (by rw [hl]; exact z2) (by rw [List.getElem?_map, w1]; rfl), ?_⟩⟩
              refine qb A1 H1 σ ρ1 _ s1.fit y1 _ ⟨bd, ws, ib, m, rfl, rfl, w2, by rw [w5.length]; exact y2, ?_⟩
              have st := stp_tree s1.fit t (H' := upd H1 bd (.lst (ws.set m v))) (bs' := bs) (ds' := ds.set n (.list (es.set m r.d))) (fun c h1 h2 => upd_ne fun z => h2 (z ▸ hmem)) (fun c hc => by
                by_cases z : c = bd
                · subst z; rw [upd_same] at hc; cases hc
                · rw [upd_ne z] at hc; exact hc) (by rw [upd_ne ne]; exact t.h) (fun _ z => z) t.nd t.len (rows_upd t.rows hnd.2 w1 w4 (by rw [List.length_set]; exact w3) (w5.set r1 m) (noLs_set w6 hn))
              exact k.nx (s1.trans st)
            · cases e'
    · cases e
theorem Fit.hide {A H σ} {ρ : Env} (f : Fit A H σ ρ) (i : Nat) : Fit A H σ (ρ.set i .un) := by
  have inv : ∀ (j : Nat) (s : Slot), (ρ.set i .un)[j]? = some s → s = .un ∨ ρ[j]? = some s := fun j s h => (get_set h).imp (·.2) (·.2)
  refine ⟨by rw [List.length_set]; exact f.len, fun j s ov h1 h2 => ?_, fun j l s u c jl h1 h2 h3 h4 h5 h6 => ?_, f.trk, fun j kk d v c h1 h2 l => ?_⟩
  · rcases inv j s h1 with rfl | z
    · trivial
    · exact f.slot j s ov z h2
  · rcases inv j s h1 with rfl | z
    · cases h3
    · rcases inv l u h2 with rfl | z'
      · cases h4
      · exact f.apart j l s u c jl z z' h3 h4 h5 h6
  · rcases inv j _ h1 with e | z
    · cases e
    · obtain ⟨q1, q2⟩ := f.prv j kk d v c z h2 l
      refine ⟨fun l s g1 g2 => ?_, fun l kk' d' v' lj g1 g2 => ?_⟩
      · rcases inv l s g1 with rfl | z
        · cases g2
        · exact q1 l s z g2
      · rcases inv l _ g1 with e | z
        · cases e
        · exact q2 l _ _ _ lj z g2
/-- fits that hang on the heap's other objects alone -/
theorem Fit.away {A H σ} {ρ : Env} {i : Nat} {ds : List D} {a : Addr} {bs : List Addr} {l : List V} (f : Fit A H σ ρ) (t : TreeAt A H σ ρ i ds a bs) : Fit A (upd H a (.lst l)) σ (ρ.set i .un) := by
  have f0 := f.hide i
  have n0 : NoRef H σ (ρ.set i .un) a := by
    obtain ⟨q1, q2⟩ := f.prv i _ _ _ a t.slot t.at_ (.here t.h)
    refine ⟨fun j s h1 h2 => ?_, fun ⟨j, kk, d, v, h1, h2, l⟩ => ?_⟩
    · rcases get_set h1 with ⟨_, rfl⟩ | ⟨_, z⟩
      · cases h2
      · exact q1 j s z h2
    · rcases get_set h1 with ⟨_, e⟩ | ⟨ij, z⟩
      · cases e
      · exact q2 j _ _ _ (Ne.symm ij) z h2 l
  have hg : ∀ c, c ≠ a → upd H a (.lst l) c = H c := fun c h => upd_ne h
  have k : Keep A H (upd H a (.lst l)) := keep_other hg t.na
  refine ⟨f0.len, fun j s ov h1 h2 => ?_, f0.apart, fun c hc => let ⟨u, e⟩ := f0.trk c hc; ⟨u, k c u hc e⟩, f0.prv_go (fun _ _ _ z => ⟨z, rfl⟩) k (prv_other hg n0.2) fun j s c h1 h2 h3 => .inl ⟨j, s, h1, h2, h3⟩⟩
  exact (f0.slot j s ov h1 h2).go (fun _ z => z) k (fun c u lb e z => by
      subst e
      have : c ≠ a := fun y => by subst y; exact n0.1 j s h1 lb h2
      rw [hg c this]; exact z) (fun c lv e => by subst e; exact (f0.slot j s _ h1 h2).nofz lv) (fun c o u e => (by
      have : c ≠ a := fun y => by subst y; rw [t.h] at e; cases e
      rw [hg c this]; exact e)) (fun kk d v c o e1 e2 l e3 => by
      subst e1 e2
      exact prv_other hg n0.2 c o ⟨j, kk, d, v, h1, h2, l⟩ e3) (fun kk d v c e1 e2 l => by
      subst e1 e2
      exact (f0.lr h1 h2 l).1)
theorem swap_perm {α : Type} {xs : List α} {n m : Nat} {x y : α} (hn : xs[n]? = some x) (hm : xs[m]? = some y) : ((xs.set n y).set m x).Perm xs := by
  obtain ⟨h1, rfl⟩ := List.getElem?_eq_some_iff.mp hn
  obtain ⟨h2, rfl⟩ := List.getElem?_eq_some_iff.mp hm
  exact List.set_set_perm h1 h2
def fDswp (i : Nat) (a b : E) (ρ : Env) : Option (Out × Env) := match dswpG ρ i a b with
    | some ρ1 => some (.next, ρ1)
    | none => none
/-- a row's word -/
def RowW (A : Addr → Prop) (H : Hp) (b : Addr) (d : D) : Prop := ∃ (ws : List V) (es : List D), d = PyData.list es ∧ H b = some (HO.lst ws) ∧ ws.length ≤ sizeLine ∧ ¬ A b ∧ RepAll A H ws es ∧ noLs es = true
theorem RowsG.at_ {A H bs ds} {m : Nat} {b d} (r : RowsG A H bs ds) (h : bs[m]? = some b) (hd : ds[m]? = some d) : RowW A H b d := by
  obtain ⟨ws, es, g1, g⟩ := r.2 m b h
  rw [hd] at g1; cases g1
  exact ⟨ws, es, rfl, g⟩
theorem RowsG.set {A H bs ds b d} (r : RowsG A H bs ds) (h : RowW A H b d) (n : Nat) : RowsG A H (bs.set n b) (ds.set n d) := by
  obtain ⟨ws, es, rfl, g⟩ := h
  refine ⟨by rw [List.length_set, List.length_set]; exact r.1, fun m c hc => ?_⟩
  rcases get_set hc with ⟨rfl, rfl⟩ | ⟨e, z⟩
  · have hm := (List.getElem?_eq_some_iff.mp hc).1
    rw [List.length_set, r.1] at hm
    exact ⟨ws, es, List.getElem?_set_self hm, g⟩
  · obtain ⟨ws', es', g1, g'⟩ := r.2 m c z
    exact ⟨ws', es', by rw [List.getElem?_set_ne e]; exact g1, g'⟩
theorem RowsG.heap {A H H' bs ds} (r : RowsG A H bs ds) (h : ∀ b ∈ bs, H' b = H b) (k : Keep A H H') : RowsG A H' bs ds := ⟨r.1, fun m c hc => by
  obtain ⟨ws, es, g1, g2, g3, g4, g5, g6⟩ := r.2 m c hc
  exact ⟨ws, es, g1, by rw [h c (List.mem_of_getElem? hc)]; exact g2, g3, g4, RepAll.mono (fun _ z => z) k g5, g6⟩⟩
theorem refs_inj : ∀ {bs cs : List Addr}, bs.map V.ref = cs.map V.ref → bs = cs
  | [], [], _ => rfl
  | [], _ :: _, h => by cases h
  | _ :: _, [], h => by cases h
  | b :: bs, c :: cs, h => by
    simp only [List.map_cons, List.cons.injEq, V.ref.injEq] at h
    rw [h.1, refs_inj h.2]
def subA (ix : Expr) (o : Expr) (p : Pos) (env : PySem.Env) : Prop := ∀ v, assign (.Subscript o ix p) env v = (do
      let ov ← holding [v] (eval o env)
      let iv ← holding [v, ov] (eval ix env)
      standAt p
      holding [v, ov, iv] (setItem ov iv v)
      release [v, ov, iv] [])
theorem snd_dswp (C : CtxOk X N q F) {i : Nat} {x : Str} {px px1 px2 px3 ea eb ea' eb' p1 p2 p3 p4 pos a b} {k1 k2 : Nat} {pt pt2 : Pos} (h : nameB N q i x = true) (ha : SndX X ea a) (hb : SndX X eb b) (ha' : SndX X ea' a) (hb' : SndX X eb' b) (na : PlainIx ea') (nb : PlainIx eb')
    (hs : swapsWithSole [.Tuple [.Subscript (.Name x px) ea p1, .Subscript (.Name x px1) eb p2] k1 pt] (.Tuple [.Subscript (.Name x px2) eb' p3, .Subscript (.Name x px3) ea' p4] k2 pt2) pos.line X.env = pure false)
    (hw : swappedStores [.Tuple [.Subscript (.Name x px) ea p1, .Subscript (.Name x px1) eb p2] k1 pt] (.Tuple [.Subscript (.Name x px2) eb' p3, .Subscript (.Name x px3) ea' p4] k2 pt2) X.env = pure none)
    (hx : subA ea (.Name x px) p1 X.env) (hy : subA eb (.Name x px1) p2 X.env) : SndS X (.Assign [.Tuple [.Subscript (.Name x px) ea p1, .Subscript (.Name x px1) eb p2] k1 pt] (.Tuple [.Subscript (.Name x px2) eb' p3, .Subscript (.Name x px3) ea' p4] k2 pt2) pos) (fDswp i a b) := by
  obtain ⟨ta, pa, qa⟩ := ha
  obtain ⟨tb, pb, qb⟩ := hb
  obtain ⟨ta', pa', qa'⟩ := ha'
  obtain ⟨tb', pb', qb'⟩ := hb'
  refine ⟨_, ps_asg (pe_tup (pa_cons (pe_ix ix_list (pe_name C h) pb' nb) (pa_cons (pe_ix ix_list (pe_name C h) pa' na) pa_nil (star_cons rfl)) (star_cons rfl)))
    (pg_tup C.calm (pgs_cons (pg_sub (pe_name C h) pa set_list hx) (pgs_cons (pg_sub (pe_name C h) pb set_list hy) pgs_nil rfl) rfl) rfl rfl) hs hw rfl, fun A H σ ρ o ρ' ft e Dn k => ?_⟩
  unfold fDswp at e
  split at e
  · rename_i ρ2 e'
    cases e
    unfold dswpG at e'
    cases e1 : treeAt ρ i with
    | none => simp [e1] at e'
    | some ds =>
      cases e2 : cellAt ds (pix (ρ.set i .un) a) with
      | none => simp [e1, e2] at e'
      | some p =>
        obtain ⟨n, d⟩ := p
        cases e3 : cellAt ds (pix (ρ.set i .un) b) with
        | none => simp [e1, e2, e3] at e'
        | some p =>
          obtain ⟨m, e⟩ := p
          simp only [e1, e2, e3, Option.some.injEq] at e'
          subst e'
          obtain ⟨ad, bs, t⟩ := tree_at ft e1
          obtain ⟨ia, z1, z2, z3⟩ := cellAt_inv e2
          obtain ⟨ib, y1, y2, y3⟩ := cellAt_inv e3
          have hl := t.rows.1
          have hl' : (bs.map V.ref).length = ds.length := by rw [List.length_map]; exact hl
          have hn : n < bs.length := by rw [hl]; exact (List.getElem?_eq_some_iff.mp z3).1
          have hm : m < bs.length := by rw [hl]; exact (List.getElem?_eq_some_iff.mp y3).1
          obtain ⟨bn, hbn⟩ : ∃ bn, bs[n]? = some bn := ⟨_, List.getElem?_eq_getElem hn⟩
          obtain ⟨bm, hbm⟩ : ∃ bm, bs[m]? = some bm := ⟨_, List.getElem?_eq_getElem hm⟩
          have fh := ft.hide i
          refine ⟨_, t.at_, qb' A H σ _ _ fh y1 _ ⟨ad, _, ib, .ref bm, rfl, rfl, SqL.of t.h, atI_ix (by rw [hl']; exact y2) (by rw [List.getElem?_map, hbm]; rfl), ?_⟩⟩
          refine ⟨_, t.at_, qa' A H σ _ _ fh z1 _ ⟨ad, _, ia, .ref bn, rfl, rfl, SqL.of t.h, atI_ix (by rw [hl']; exact z2) (by rw [List.getElem?_map, hbn]; rfl), ?_⟩⟩
          refine ⟨by simp [sizeLine], fun p hp => ?_⟩
          have s0 := Stp.grow ft (upd_grow (o := .tup [.ref bm, .ref bn]) hp)
          obtain ⟨ad2, bs2, t2⟩ := tree_at s0.fit e1
          have ea2 : ad2 = ad := by have := t2.at_; rw [t.at_] at this; cases this; rfl
          subst ea2
          have eb2 : bs2 = bs := by
            have h1 := t2.h
            rw [upd_grow hp _ _ t.h] at h1
            injection h1 with h1
            injection h1 with h1
            exact refs_inj h1.symm
          subst eb2
          refine ⟨p, _, rfl, SqT.of upd_same, rfl, _, _, rfl, _, t.at_, ?_⟩
          have f1 := s0.fit.hide i
          refine qa A _ σ _ _ f1 z1 _ ⟨ad2, _, ia, n, rfl, rfl, t2.h, by rw [hl']; exact z2, ?_⟩
          have f2 := s0.fit.away (l := (bs2.map V.ref).set n (.ref bm)) t2
          refine ⟨_, _, rfl, _, t.at_, qb A _ σ _ _ f2 y1 _ ⟨ad2, _, ib, m, rfl, rfl, upd_same, by rw [List.length_set, hl']; exact y2, rfl, ?_⟩⟩
          have pm := swap_perm hbn hbm
          have hnd := List.nodup_cons.mp t2.nd
          refine k.nx (s0.trans (stp_tree s0.fit t2 (bs' := (bs2.set n bm).set m bn) (fun c h1 h2 => by rw [upd_ne h1, upd_ne h1]) (fun c hc => ?_) (by rw [upd_same, List.map_set, List.map_set]) (fun b hb => pm.mem_iff.mp hb) (List.nodup_cons.mpr ⟨fun z => hnd.1 (pm.mem_iff.mp z), pm.nodup_iff.mpr hnd.2⟩) (by rw [List.length_map, List.length_set, List.length_set]; have := t2.len; rwa [List.length_map] at this) ?_))
          · by_cases z : c = ad2
            · subst z; rw [upd_same] at hc; cases hc
            · rw [upd_ne z, upd_ne z] at hc; exact hc
          · have r1 := (t2.rows.set (t2.rows.at_ hbm y3) n).set (t2.rows.at_ hbn z3) m
            refine r1.heap (fun b hb => ?_) ?_
            · have : b ≠ ad2 := fun z => hnd.1 (pm.mem_iff.mp (z ▸ hb))
              rw [upd_ne this, upd_ne this]
            · intro c o hc hh
              have : c ≠ ad2 := fun z => t2.na (z ▸ hc)
              rw [upd_ne this, upd_ne this]; exact hh
  · cases e
end
end Ev

set_option maxRecDepth 100000
/-! EvQ: a comprehension of new lists gets a name. -/
namespace Ev
open PySem L2
variable [TheK]
def tEn (f : Env → Option (Res × Env)) : TE := fun σ H Q => ∃ A ρ r ρ', Fit A H σ ρ ∧ f ρ = some (r, ρ') ∧ ∀ A' H' v, Stp A H σ ρ A' H' σ ρ' → ResOk A' H H' σ ρ' v r → Q v H'
theorem SndE.pn {X : Cx} {e f} (h : SndE X e f) : PE X e (tEn f) := by
  obtain ⟨t, p, hq⟩ := h
  exact ⟨fun pins s σ H Q I ⟨A, ρ, r, ρ', ft, e, k⟩ => p.run pins s σ H Q I (hq A H σ ρ r ρ' ft e Q k)⟩
theorem NoRef.back {H σ ρ0 ρ vs D} (n : NoRef H (L2.wipe σ vs) ρ D) (hl : ρ0.length = ρ.length) (hq : ∀ i ∈ vs, ∃ t, ρ0[i]? = some t ∧ quietS t = true) : NoRef H σ (backE vs ρ0 ρ) D := by
  have inv : ∀ (j : Nat) (u : Slot), (backE vs ρ0 ρ)[j]? = some u → quietS u = true ∨ (j ∉ vs ∧ ρ[j]? = some u) := fun j u h => by
    rw [backE_at vs ρ0 ρ j hl] at h
    split at h
    · rename_i hj
      obtain ⟨t, z1, z2⟩ := hq j hj
      rw [h] at z1; cases z1; exact .inl z2
    · rename_i hj; exact .inr ⟨hj, h⟩
  refine ⟨fun j u hu lu h3 => ?_, fun ⟨j, k, d, v, h1, h2, l⟩ => ?_⟩
  · rcases inv j u hu with z | ⟨hj, z⟩
    · cases u <;> first | (cases lu; done) | (cases z; done)
    · exact n.1 j u z lu (by rw [wipe_at_not hj]; exact h3)
  · rcases inv j _ h1 with z | ⟨hj, z⟩
    · cases z
    · exact n.2 ⟨j, k, d, v, z, by rw [wipe_at_not hj]; exact h2, l⟩
theorem NoRef.unlend {H σ ρ ls D} (n : NoRef H σ ρ D) : NoRef H σ (Ev.unlend ls ρ) D := ⟨fun j s h1 h2 => by
  rcases unlend_inv h1 with ⟨z, _⟩ | ⟨es, rfl, z, _⟩
  · exact n.1 j s z h2
  · exact n.1 j _ z rfl, fun h => n.2 (prv_unlend h)⟩
theorem RowsG.go {A A' H H' bs ds} (r : RowsG A H bs ds) (e : ∀ a, A a → A' a) (k : Keep A H H') (h : ∀ b ∈ bs, ∀ o, H b = some o → H' b = some o) (na : ∀ b ∈ bs, ¬ A' b) : RowsG A' H' bs ds := ⟨r.1, fun m c hc => by
  obtain ⟨ws, es, g1, g2, g3, g4, g5, g6⟩ := r.2 m c hc
  have hm := List.mem_of_getElem? hc
  exact ⟨ws, es, g1, h c hm _ g2, g3, na c hm, RepAll.mono e k g5, g6⟩⟩
theorem RowsG.some {A H bs ds b} (r : RowsG A H bs ds) (h : b ∈ bs) : ∃ ws, H b = some (.lst ws) := by
  obtain ⟨m, hm⟩ := List.getElem?_of_mem h
  obtain ⟨ws, es, g1, g2, _⟩ := r.2 m b hm
  exact ⟨ws, g2⟩
theorem RowsG.snoc {A H bs ds b d} (r : RowsG A H bs ds) (h : RowW A H b d) : RowsG A H (bs ++ [b]) (ds ++ [d]) := by
  refine ⟨by simp [r.1], fun m c hc => ?_⟩
  by_cases hm : m < bs.length
  · rw [List.getElem?_append_left hm] at hc
    obtain ⟨ws, es, g1, g⟩ := r.2 m c hc
    exact ⟨ws, es, by rw [List.getElem?_append_left (by rw [← r.1]; exact hm)]; exact g1, g⟩
  · rw [List.getElem?_append_right (by omega)] at hc
    obtain ⟨ws, es, rfl, g⟩ := h
    have h0 : m - bs.length = 0 := by
      cases e : m - bs.length with
      | zero => rfl
      | succ n => rw [e] at hc; simp at hc
    rw [h0] at hc
    simp at hc
    subst hc
    exact ⟨ws, es, by rw [List.getElem?_append_right (by rw [← r.1]; omega), ← r.1, h0]; rfl, g⟩
/-- a new tree gets a name -/
theorem stp_tnew {A0 H0 σ0 ρ0 A H σ} {ρ : Env} {i : Nat} {t : Slot} {a : Addr} {bs : List Addr} {ds : List D} (s : Stp A0 H0 σ0 ρ0 A H σ ρ) (ht : ρ[i]? = some t) (h0 : ∀ es, ρ0[i]? = some (.mu es) → False)
    (r1 : H a = some (.lst (bs.map V.ref))) (len : (bs.map V.ref).length ≤ sizeLine) (na : ¬ A a) (nd : (a :: bs).Nodup) (r : RowsG A H bs ds) (fr : ∀ c, c = a ∨ c ∈ bs → H0 c = none ∧ NoRef H σ ρ c) :
    Stp A0 H0 σ0 ρ0 A H (σ.set i (some (.ref a))) (ρ.set i (.dp .tree (.list ds))) := by
  have other : ∀ (j : Nat) (u : Slot), (ρ.set i (.dp .tree (.list ds)))[j]? = some u → (i = j ∧ u = .dp .tree (.list ds) ∧ (σ.set i (some (.ref a)))[j]? = some (some (.ref a))) ∨ (i ≠ j ∧ ρ[j]? = some u ∧ (σ.set i (some (.ref a)))[j]? = σ[j]?) := fun j u h => by
    rcases get_set h with ⟨e, z⟩ | ⟨e, z⟩
    · subst e
      exact .inl ⟨rfl, z, List.getElem?_set_self (by rw [s.fit.len]; exact (List.getElem?_eq_some_iff.mp ht).1)⟩
    · exact .inr ⟨e, z, List.getElem?_set_ne e⟩
  refine ⟨s.ext, s.frame, s.dom, fun c ⟨j, u, h1, h2, h3⟩ => ?_, fun j es h => ?_, s.news, fun j u h o => ?_, fun c ⟨j, kk, d, v, h1, h2, l⟩ => ?_, ⟨by rw [List.length_set, List.length_set]; exact s.fit.len, fun j u ov h1 h2 => ?_, fun j l u w c jl h1 h2 h3 h4 h5 h6 => ?_, s.fit.trk, fun j kk d v c h1 h2 l => ?_⟩⟩
  · rcases other j u h1 with ⟨_, rfl, e⟩ | ⟨_, z, e⟩
    · cases h2
    · rw [e] at h3; exact s.sub c ⟨j, u, z, h2, h3⟩
  · have ij : i ≠ j := fun e => by subst e; exact h0 es h
    obtain ⟨e1, es', e2⟩ := s.mus j es h
    exact ⟨by rw [List.getElem?_set_ne ij]; exact e1, es', by rw [List.getElem?_set_ne ij]; exact e2⟩
  · rcases other j u h with ⟨_, rfl, _⟩ | ⟨_, z, e⟩
    · cases o
    · rw [e]; exact s.lents j u z o
  · rcases other j _ h1 with ⟨_, _, e⟩ | ⟨_, z, e⟩
    · rw [e] at h2; cases h2
      exact .inr (.inr (fr c (r.lr r1 l)).1)
    · rw [e] at h2; exact s.prv c ⟨j, kk, d, v, z, h2, l⟩
  · rcases other j u h1 with ⟨rfl, rfl, e⟩ | ⟨_, z, e⟩
    · rw [e] at h2; cases h2
      exact ⟨_, _, rfl, .lst r1 len na r.dp, fun _ => rfl, fun _ => ⟨a, bs, ds, rfl, r1, nd, rfl, r.all⟩, rfl⟩
    · rw [e] at h2; exact s.fit.slot j u ov z h2
  · rcases other j u h1 with ⟨_, rfl, e⟩ | ⟨_, z, e⟩
    · cases h3
    · rcases other l w h2 with ⟨_, rfl, _⟩ | ⟨_, z', e'⟩
      · cases h4
      · rw [e] at h5; rw [e'] at h6
        exact s.fit.apart j l u w c jl z z' h3 h4 h5 h6
  · rcases other j _ h1 with ⟨ij, _, e⟩ | ⟨_, z, e⟩
    · rw [e] at h2; cases h2
      obtain ⟨_, n1, n2⟩ := fr c (r.lr r1 l)
      refine ⟨fun l w g1 g2 => ?_, fun l kk' d' v' lj g1 g2 g3 => ?_⟩
      · rcases other l w g1 with ⟨_, rfl, _⟩ | ⟨_, z', e'⟩
        · cases g2
        · rw [e']; exact n1 l w z' g2
      · rcases other l _ g1 with ⟨il, _, _⟩ | ⟨_, z', e'⟩
        · exact lj (il.symm.trans ij)
        · rw [e'] at g2; exact n2 ⟨l, kk', d', v', z', g2, g3⟩
    · rw [e] at h2
      obtain ⟨q1, q2⟩ := s.fit.prv j kk d v c z h2 l
      refine ⟨fun l' w g1 g2 => ?_, fun l' kk' d' v' lj g1 g2 g3 => ?_⟩
      · rcases other l' w g1 with ⟨_, rfl, _⟩ | ⟨_, z', e'⟩
        · cases g2
        · rw [e']; exact q1 l' w z' g2
      · rcases other l' _ g1 with ⟨_, _, e'⟩ | ⟨_, z', e'⟩
        · rw [e'] at g2; cases g2
          exact (fr c (r.lr r1 g3)).2.2 ⟨j, kk, d, v, z, h2, l⟩
        · rw [e'] at g2; exact q2 l' _ _ _ lj z' g2 g3
def stepN (t : T) (vs : List Nat) (fc : Env → Option (Bool × Env)) (fe : Env → Option (Res × Env)) (d : D) (ρ : Env) : Option (Option D × Env) := match asgT t d ρ with
        | none => none
        | some ρa => match fc ρa with
          | none => none
          | some (false, ρb) => some (none, wipeE vs ρb)
          | some (true, ρb) => match fe ρb with
            | some (.nw es, ρc) => if noLs es = true then some (some (.list es), wipeE vs ρc) else none
            | _ => none
def fDcomp (i : Nat) (t : T) (vs : List Nat) (fi : Env → Option (List D × Env × List Nat)) (fc : Env → Option (Bool × Env)) (fe : Env → Option (Res × Env)) (ρ : Env) : Option (Out × Env) := match fi ρ with
    | none => none
    | some (ds, ρ0, ls) => if (vs.all fun v => match (lendL ls ρ0)[v]? with | some s => quietS s | none => false) = false then none else
      match compL (stepN t vs fc fe) ds (wipeE vs (lendL ls ρ0)) with
      | none => none
      | some (r, ρ2) => (put i (.dp .tree (.list r)) (unlend ls (backE vs (lendL ls ρ0) ρ2))).map fun ρ3 => (.next, ρ3)
theorem dcomp_core {wi : TI} {i0 : Nat} {t : T} {vs : List Nat} {fi fc fe} (hts : ∀ i ∈ tslots t, i ∈ vs)
    (qi : ∀ A H σ ρ ds ρ0 ls, Fit A H σ ρ → fi ρ = some (ds, ρ0, ls) → ∀ R : L2.It → Hp → Prop,
      (∀ A' H' J G, Stp A H σ ρ A' H' σ ρ0 → IterOk A' H' G J ds → (∀ a, G a → ¬ Mut σ (lendL ls ρ0) a ∧ Held A' σ ρ0 a) → ds.length ≤ sizeLine → Owns ρ0 ls → R J H') → wi σ H R)
    {A H σ ρ o ρ'} (ft : Fit A H σ ρ) (e : fDcomp i0 t vs fi fc fe ρ = some (o, ρ')) (Q : VK) (k : ∀ A' H' v, o = .next → Stp A H σ ρ A' H' (σ.set i0 (some v)) ρ' → Q v H') :
    tLc wi (gT t) (tT fc) (tEn fe) vs σ H Q := by
  unfold fDcomp at e
  split at e
  · cases e
  · rename_i ds ρ0 ls e1
    split at e
    · cases e
    · rename_i hq
      split at e
      · cases e
      · rename_i rr ρ2 e2
        cases e9 : put i0 (.dp .tree (.list rr)) (unlend ls (backE vs (lendL ls ρ0) ρ2)) with
        | none => rw [e9] at e; cases e
        | some ρ9 =>
        rw [e9] at e
        cases e
        have hq : ∀ i ∈ vs, ∃ s, (lendL ls ρ0)[i]? = some s ∧ quietS s = true := fun i hi => by
          have := (List.all_eq_true.mp (by simpa using hq : (vs.all fun v => match (lendL ls ρ0)[v]? with | some s => quietS s | none => false) = true)) i hi
          split at this
          · rename_i s hs; exact ⟨s, hs, this⟩
          · cases this
        have nm : ∀ i ∈ vs, ∀ es, (lendL ls ρ0)[i]? = some (.mu es) → False := fun i hi es h => by
          obtain ⟨s, z1, z2⟩ := hq i hi
          rw [h] at z1; cases z1; cases z2
        refine qi A H σ ρ ds ρ0 ls ft e1 _ fun A1 H1 J G s1 io gm lens ow => ?_
        have f1 := s1.fit.lend ls
        obtain ⟨gt, gw⟩ := io
        intro D hD
        have nD : ¬ A1 D := f1.nofrz hD
        have rD : NoRef H1 σ (lendL ls ρ0) D := .new f1 hD
        have b0 : Stp A1 H1 σ (lendL ls ρ0) A1 H1 (L2.wipe σ vs) (wipeE vs (lendL ls ρ0)) := (Stp.refl f1).wipe nm
        have rD0 : NoRef H1 (L2.wipe σ vs) (wipeE vs (lendL ls ρ0)) D := rD.wipe f1 vs
        refine ⟨fun i m Hc => m = ds.length - i ∧ i ≤ ds.length ∧ ∃ (Ac : Addr → Prop) (ρb : Env) (bs : List Addr) (dacc rest : List Ev.D), Stp A1 H1 σ (lendL ls ρ0) Ac Hc (L2.wipe σ vs) ρb ∧ Hc D = some (.lst (bs.map V.ref)) ∧ bs.length ≤ i ∧ RowsG Ac Hc bs dacc ∧ ¬ Ac D ∧ (D :: bs).Nodup ∧
          (∀ c, c = D ∨ c ∈ bs → H1 c = none ∧ NoRef Hc (L2.wipe σ vs) ρb c) ∧ compL (stepN t vs fc fe) (ds.drop i) ρb = some (rest, ρ2) ∧ dacc ++ rest = rr,
          ⟨ds.length, rfl, Nat.zero_le _, A1, _, [], [], rr, b0.other hD nD rD0 (fun o u z => by rw [hD] at z; cases z), upd_same, Nat.le_refl _, ⟨rfl, fun m b h => by simp at h⟩, nD, by simp, (fun c hc => by
            rcases hc with rfl | hc
            · exact ⟨hD, rD0.upd b0.fit nD⟩
            · cases hc), e2, rfl⟩, ?_⟩
        rintro i m Hc ⟨rfl, hi, Ac, ρb, bs, dacc, rest, sb, hDc, hl, ra, nDc, hnd, rDc, ec, er⟩
        have kc : Keep A1 H1 Hc := sb.keep f1
        have gk : ∀ a o, G a → H1 a = some o → Hc a = some o := fun a o hg z => sb.frame a o z (gm a hg).1 fun m => s1.fit.held_noprv (gm a hg).2 (prv_lend.mp m)
        obtain ⟨g1, g2, g3⟩ := gw Ac Hc sb.ext kc gk i
        have hlst : ∀ c, c = D ∨ c ∈ bs → ∃ us, Hc c = some (.lst us) := fun c hc => by
          rcases hc with rfl | hc
          · exact ⟨_, hDc⟩
          · exact ra.some hc
        have hsome : ∀ c, c = D ∨ c ∈ bs → ∃ o, Hc c = some o := fun c hc => let ⟨_, z⟩ := hlst c hc; ⟨_, z⟩
        -- what a way on does to the lists
        have way : ∀ {A' H' σ' ρ'}, Stp Ac Hc (L2.wipe σ vs) ρb A' H' σ' ρ' → H' D = some (.lst (bs.map V.ref)) ∧ RowsG A' H' bs dacc ∧ ¬ A' D ∧ ∀ c, c = D ∨ c ∈ bs → NoRef H' σ' ρ' c := fun {A' H' σ' ρ'} tot => by
          have nn : ∀ c, c = D ∨ c ∈ bs → NoRef H' σ' ρ' c := fun c hc => by
            obtain ⟨o, ho⟩ := hsome c hc
            exact (rDc c hc).2.stp tot ho
          have na : ∀ c, c = D ∨ c ∈ bs → ¬ Ac c → ¬ A' c := fun c hc n => by
            obtain ⟨us, ho⟩ := hlst c hc
            exact nofrz_stp n (rDc c hc).2 tot ho
          have rowna : ∀ b ∈ bs, ¬ Ac b := fun b hb => by
            obtain ⟨m, hm⟩ := List.getElem?_of_mem hb
            obtain ⟨ws, es, _, _, _, g4, _⟩ := ra.2 m b hm
            exact g4
          refine ⟨tot.frame D _ hDc (rDc D (.inl rfl)).2.nomut (rDc D (.inl rfl)).2.2, ra.go tot.ext (tot.keep sb.fit) (fun b hb o h => tot.frame b o h (rDc b (.inr hb)).2.nomut (rDc b (.inr hb)).2.2) (fun b hb => na b (.inr hb) (rowna b hb)), na D (.inl rfl) nDc, nn⟩
        by_cases hlt : i < ds.length
        · refine .inr ⟨g1 hlt, ?_⟩
          rw [List.drop_eq_getElem_cons hlt] at ec
          simp only [compL] at ec
          split at ec
          · cases ec
          · rename_i o ρ3 e3
            split at ec
            · cases ec
            · rename_i r2 ρ4 e4
              cases ec
              refine ⟨fun Hn => ∃ (An : Addr → Prop) (bn : List Addr) (dn : List Ev.D), Stp A1 H1 σ (lendL ls ρ0) An Hn (L2.wipe σ vs) ρ3 ∧ Hn D = some (.lst (bn.map V.ref)) ∧ bn.length ≤ i + 1 ∧ RowsG An Hn bn dn ∧ ¬ An D ∧ (D :: bn).Nodup ∧ (∀ c, c = D ∨ c ∈ bn → H1 c = none ∧ NoRef Hn (L2.wipe σ vs) ρ3 c) ∧ dn ++ r2 = rr, fun Hn hn => ?_, fun x H' y => ?_⟩
              · obtain ⟨An, bn, dn, z1, z2, z3, z4, z5, z6, z7, z8⟩ := hn
                exact ⟨ds.length - (i + 1), by omega, rfl, hlt, An, ρ3, bn, dn, r2, z1, z2, z3, z4, z5, z6, z7, e4, z8⟩
              · have item : ∃ A', Stp Ac Hc (L2.wipe σ vs) ρb A' H' (L2.wipe σ vs) ρb ∧ Rep A' H' x ds[i] := by
                  rcases g3 x H' ds[i] (List.getElem?_eq_getElem hlt) y with ⟨rfl, rx⟩ | ⟨p, o', B, hp, rfl, hB, rx⟩
                  · exact ⟨Ac, Stp.refl sb.fit, rx⟩
                  · exact ⟨_, Stp.frzB sb.fit hp hB, rx⟩
                obtain ⟨A', si, rx⟩ := item
                unfold stepN at e3
                split at e3
                · cases e3
                · rename_i ρa ea
                  refine ⟨A', ρb, ds[i], ρa, si.fit, rx, ea, fun σ' sa oa => ?_⟩
                  have wv : L2.wipe σ' vs = L2.wipe σ vs := by rw [wipe_only (oa.mono hts), wipe_wipe]
                  refine ⟨wv, ?_⟩
                  split at e3
                  · cases e3
                  · rename_i ρb' ec'
                    cases e3
                    refine ⟨A', ρa, false, ρb', sa.fit, ec', fun A2 H2 s2 => ?_⟩
                    show if false = true then _ else _
                    rw [if_neg Bool.false_ne_true]
                    have tot := (si.trans sa).trans s2
                    have all := (sb.trans tot).wipe nm
                    rw [wv] at all
                    obtain ⟨w1, w2, w3, w4⟩ := way tot
                    exact ⟨A2, bs, dacc, all, w1, Nat.le_succ_of_le hl, w2, w3, hnd, fun c hc => ⟨(rDc c hc).1, by rw [← wv]; exact (w4 c hc).wipe tot.fit vs⟩, er⟩
                  · rename_i ρb' ec'
                    split at e3
                    · rename_i re ρc ee
                      split at e3
                      · rename_i hnl
                        cases e3
                        refine ⟨A', ρa, true, ρb', sa.fit, ec', fun A2 H2 s2 => ?_⟩
                        show if true = true then _ else _
                        rw [if_pos rfl]
                        refine ⟨A2, ρb', .nw re, ρc, s2.fit, ee, fun A3 H3 y3 s3 r3 => ?_⟩
                        have tot2 := (si.trans sa).trans s2
                        have tot := tot2.trans s3
                        have all := (sb.trans tot).wipe nm
                        rw [wv] at all
                        obtain ⟨w1, w2, w3, w4⟩ := way tot
                        obtain ⟨b, ws, rfl, h1, h2, h3, h4, h5, h6, h7⟩ := r3
                        have hb1 : H1 b = none := (sb.trans tot2).dom b h5
                        have nb : ¬ (b = D ∨ b ∈ bs) := fun hc => by
                          obtain ⟨o, ho⟩ := hsome b hc
                          have := tot2.dom b h5
                          rw [ho] at this; cases this
                        have nw4 : ∀ c, c = D ∨ c ∈ bs ++ [b] → H1 c = none ∧ NoRef H3 (L2.wipe σ vs) (wipeE vs ρc) c := fun c hc => by
                          have h8 : (c = D ∨ c ∈ bs) ∨ c = b := by
                            rcases hc with h | h
                            · exact .inl (.inl h)
                            · rcases List.mem_append.mp h with h | h
                              · exact .inl (.inr h)
                              · exact .inr (by simpa using h)
                          rcases h8 with h8 | rfl
                          · exact ⟨(rDc c h8).1, by rw [← wv]; exact (w4 c h8).wipe tot.fit vs⟩
                          · refine ⟨hb1, ?_⟩
                            have n0 : NoRef H3 σ' ρc c := ⟨h6, h7⟩
                            rw [← wv]; exact n0.wipe tot.fit vs
                        have nD3 := (nw4 D (.inl rfl)).2
                        have hg : ∀ c, c ≠ D → upd H3 D (.lst ((bs ++ [b]).map V.ref)) c = H3 c := fun c h => upd_ne h
                        have k3 : Keep A3 H3 (upd H3 D (.lst ((bs ++ [b]).map V.ref))) := keep_other hg w3
                        have hnd' := List.nodup_cons.mp hnd
                        have nbD : b ≠ D := fun z => nb (.inl z)
                        have nbb : b ∉ bs := fun z => nb (.inr z)
                        have happ : bs.map V.ref ++ [V.ref b] = (bs ++ [b]).map V.ref := by simp
                        have ws' := all.other (o := .lst ((bs ++ [b]).map V.ref)) hD w3 nD3 (fun o u z => by rw [w1] at z; cases z)
                        refine ⟨bs.map V.ref, w1, by rw [List.length_map]; omega, A3, bs ++ [b], dacc ++ [.list re], by rw [happ]; exact ws', by rw [happ]; exact upd_same, by rw [List.length_append, List.length_singleton]; omega, ?_, w3, ?_, fun c hc => ?_, by rw [List.append_assoc]; exact er⟩
                        · rw [happ]
                          refine (w2.go (fun _ z => z) k3 (fun c hc o ho => ?_) (fun c hc => ?_)).snoc ⟨ws, re, rfl, by rw [hg b nbD]; exact h1, h2, h4, RepAll.mono (fun _ z => z) k3 h3, hnl⟩
                          · rw [hg c (fun z => hnd'.1 (z ▸ hc))]; exact ho
                          · obtain ⟨m, hm⟩ := List.getElem?_of_mem hc
                            obtain ⟨_, _, _, _, _, g4, _⟩ := w2.2 m c hm
                            exact g4
                        · rw [List.nodup_cons, List.nodup_append]
                          refine ⟨fun z => ?_, hnd'.2, by simp, fun x hx y hy => ?_⟩
                          · rcases List.mem_append.mp z with z | z
                            · exact hnd'.1 z
                            · exact nbD (List.mem_singleton.mp z).symm
                          · intro xy
                            rw [List.mem_singleton] at hy
                            rw [xy, hy] at hx
                            exact nbb hx
                        · obtain ⟨z1, z2⟩ := nw4 c hc
                          rw [happ]
                          exact ⟨z1, z2.1, fun z => z2.2 (nD3.go_back all.fit hg w3 c z)⟩
                      · cases e3
                    · cases e3
        · have ie : i = ds.length := by omega
          subst ie
          refine .inl ⟨g2 (Nat.le_refl _), ?_⟩
          rw [List.drop_length] at ec
          simp only [compL] at ec
          cases ec
          rw [List.append_nil] at er
          subst er
          have sk := Stp.back f1 sb hq
          have su := s1.trans (Stp.unlend ow sk)
          have hl2 : (lendL ls ρ0).length = ρ2.length := by rw [← f1.len, ← sb.fit.len, wipe_length]
          obtain ⟨t9, ht9, nm9, rfl⟩ := put_inv e9
          refine k Ac Hc (.ref D) rfl (stp_tnew (a := D) (bs := bs) (i := i0) su ht9 (fun es z => ?_) hDc (by rw [List.length_map]; omega) nDc hnd ra fun c hc => ⟨s1.dom c (rDc c hc).1, ((rDc c hc).2.back hl2 hq).unlend⟩)
          obtain ⟨_, ds', z2⟩ := su.mus i0 es z
          rw [ht9] at z2; cases z2
          exact nm9 _ rfl
end Ev

set_option maxRecDepth 100000
/-! Ev14: the checker: an IR against the syntax. -/
namespace Ev
open PySem L2
variable [TheK]

def bltName : Blt → String
  | .abs => "abs" | .int => "int" | .str => "str" | .repr => "repr" | .sum => "sum" | .max => "max" | .min => "min" | .max2 => "max" | .min2 => "min"
  | .all => "all" | .any => "any" | .sorted => "sorted" | .list => "list" | .tuple => "tuple" | .gcd => "gcd"
def ownOf (N : List Str) (vs : List Nat) : List (Str × Nat) := vs.filterMap fun v => (N[v]?).map fun x => (x, v)
def notSet : Expr → Bool
  | .Set .. => false
  | _ => true
def notTup : Expr → Bool
  | .Tuple .. => false
  | _ => true
def notSlice : Expr → Bool
  | .Slice .. => false
  | _ => true
mutual
def chkT (N : List Str) (q : Sc) : T → Expr → Bool
  | .name i, ex => (match ex with
    | .Name x _ => decide (N[i]? = some x) && locB q x
    | _ => false)
  | .tup ts, ex => (match ex with
    | .Tuple es _ _ => es.all notStar && chkTs N q ts es
    | _ => false)
def chkTs (N : List Str) (q : Sc) : Ts → List Expr → Bool
  | .nil, es => (match es with
    | [] => true
    | _ => false)
  | .cons t ts, es => (match es with
    | e :: r => chkT N q t e && chkTs N q ts r
    | _ => false)
end
def nameOrCall : Expr → Bool
  | .Name .. => true
  | .Call (.Name ..) (_ :: _) _ _ => true
  | _ => false
mutual
def chkE (N : List Str) (q : Sc) : E → Expr → Bool
  | .var i, ex => (match ex with
    | .Name x _ => nameB N q i x
    | _ => false)
  | .int n, ex => (match ex with
    | .Constant (.int m) _ _ => decide (m = n)
    | _ => false)
  | .bl b, ex => (match ex with
    | .Constant (.bool m) _ _ => decide (m = b)
    | _ => false)
  | .non, ex => (match ex with
    | .Constant .none _ _ => true
    | _ => false)
  | .str s, ex => (match ex with
    | .Constant (.str m) _ _ => decide (m = Str.ofString s)
    | _ => false)
  | .bin o a b, ex => (match ex with
    | .BinOp l op r _ => decide (op = bop o) && chkE N q a l && chkE N q b r
    | _ => false)
  | .neg a, ex => (match ex with
    | .UnaryOp op x _ => decide (op = .USub) && chkE N q a x
    | _ => false)
  | .no a, ex => (match ex with
    | .UnaryOp op x _ => decide (op = .Not) && chkE N q a x
    | _ => false)
  | .cmp o a b, ex => (match ex with
    | .Compare l [op] [r] _ => decide (op = cop o) && !behindInMarks op r && chkE N q a l && chkE N q b r
    | _ => false)
  | .cmp2 o p a b c, ex => (match ex with
    | .Compare l [op, op'] [r, r'] _ => decide (op = cop o) && decide (op' = cop p) && !lastMarks [op, op'] [r, r'] && chkE N q a l && chkE N q b r && chkE N q c r'
    | _ => false)
  | .and a b, ex => (match ex with
    | .BoolOp op (x :: y :: rest) pos => decide (op = .And) && chkE N q a x && (match rest with
      | [] => chkE N q b y
      | _ :: _ => chkE N q b (.BoolOp .And (y :: rest) pos))
    | _ => false)
  | .or a b, ex => (match ex with
    | .BoolOp op (x :: y :: rest) pos => decide (op = .Or) && chkE N q a x && (match rest with
      | [] => chkE N q b y
      | _ :: _ => chkE N q b (.BoolOp .Or (y :: rest) pos))
    | _ => false)
  | .ite c a b, ex => (match ex with
    | .IfExp c' a' b' _ => chkE N q c c' && chkE N q a a' && chkE N q b b'
    | _ => false)
  | .idx a i, ex => (match ex with
    | .Subscript e s _ => notSlice s && chkE N q a e && chkE N q i s
    | _ => false)
  | .slc a lo hi, ex => (match ex with
    | .Subscript e (.Slice l h none _) _ => chkE N q a e && chkO N q lo l && chkO N q hi h
    | _ => false)
  | .rvs a, ex => (match ex with
    | .Subscript e (.Slice none none (some (.UnaryOp .USub (.Constant (.int 1) _ _) _)) _) _ => chkE N q a e
    | _ => false)
  | .dix i a b, ex => (match ex with
    | .Subscript (.Subscript (.Name x _) s _) s' _ => notSlice s && notSlice s' && nameB N q i x && pxB a && pxB b && chkE N q a s && chkE N q b s'
    | _ => false)
  | .dlen i, ex => (match ex with
    | .Call (.Name x _) [.Name y _] [] _ => decide (x = Str.ofString "len") && glB q.sc x && nameB N q i y
    | _ => false)
  | .dget i k, ex => (match ex with
    | .Subscript (.Name x _) s _ => notSlice s && nameB N q i x && chkE N q k s
    | _ => false)
  | .din neg i k, ex => (match ex with
    | .Compare l [op] [.Name x px] _ => decide (op = dop neg) && nameB N q i x && !behindInMarks op (.Name x px) && chkE N q k l
    | _ => false)
  | .tlit k v, ex => (match ex with
    | .Dict [some k'] [v'] _ => chkE N q k k' && chkE N q v v'
    | _ => false)
  | .tget i k d, ex => (match ex with
    | .Call (.Attribute (.Name x _) nm apos) [a, b] [] cpos => decide (nm = Str.ofString "get") && nameB N q i x && notStar a && notStar b && (apos.endLine == cpos.line) && chkE N q k a && chkE N q d b
    | _ => false)
  | .tcomp k v t it vs, ex => (match ex with
    | .DictComp k' v' [⟨tg, iter, ifs, z⟩] scope _ => decide (z = 0) && ifs.isEmpty && notSet iter && decide ((ownOf N vs).map (·.2) = vs) && blkC N q.sc scope (ownOf N vs) && (tslots t).all (fun i => decide (i ∈ vs)) &&
        chkI N q it tg iter && chkT N (blkSc q scope) t tg && chkE N (blkSc q scope) k k' && chkE N (blkSc q scope) v v'
    | _ => false)
  | .sitm a, ex => (match ex with
    | .Call (.Name x _) [.Call (.Attribute e nm apos) [] [] ipos] [] _ => decide (x = Str.ofString "sorted") && glB q.sc x && decide (nm = Str.ofString "items") && nameOrCall e && (apos.endLine == ipos.line) && chkE N q a e
    | _ => false)
  | .tup es, ex => (match ex with
    | .Tuple xs _ _ => xs.all notStar && chkEs N q es xs
    | _ => false)
  | .lst es, ex => (match ex with
    | .List xs _ => xs.all notStar && chkEs N q es xs
    | _ => false)
  | .comp elt t it c vs, ex => (match ex with
    | .ListComp e [⟨tg, iter, ifs, z⟩] scope _ => decide (z = 0) && notSet iter && decide ((ownOf N vs).map (·.2) = vs) && blkC N q.sc scope (ownOf N vs) && (tslots t).all (fun i => decide (i ∈ vs)) &&
        chkI N q it tg iter && chkT N (blkSc q scope) t tg && chkC N (blkSc q scope) c ifs && chkE N (blkSc q scope) elt e
    | _ => false)
  | .comp2 elt t it c0 t1 it1 c vs vs1, ex => (match ex with
    | .ListComp e [⟨tg, iter, ifs, z⟩, ⟨tg1, iter1, ifs1, z1⟩] scope _ => decide (z = 0) && decide (z1 = 0) && notSet iter && notSet iter1 && decide ((ownOf N vs).map (·.2) = vs) && blkC N q.sc scope (ownOf N vs) && (tslots t).all (fun i => decide (i ∈ vs)) && (tslots t1).all (fun i => decide (i ∈ vs1)) && vs1.all (fun i => decide (i ∈ vs)) &&
        chkI N q it tg iter && chkT N (blkSc q scope) t tg && chkC N (blkSc q scope) c0 ifs && chkI N (blkSc q scope) it1 tg1 iter1 && chkT N (blkSc q scope) t1 tg1 && chkC N (blkSc q scope) c ifs1 && chkE N (blkSc q scope) elt e
    | _ => false)
  | .setc srt elt t it c vs, ex => (match ex with
    | .Call (.Name x _) [.SetComp e [⟨tg, iter, ifs, z⟩] scope _] [] _ => decide (x = Str.ofString (if srt then "sorted" else "len")) && glB q.sc x && decide (z = 0) && notSet iter && decide ((ownOf N vs).map (·.2) = vs) && blkC N q.sc scope (ownOf N vs) && (tslots t).all (fun i => decide (i ∈ vs)) &&
        chkI N q it tg iter && chkT N (blkSc q scope) t tg && chkC N (blkSc q scope) c ifs && chkE N (blkSc q scope) elt e
    | _ => false)
  | .call f es, ex => (match ex with
    | .Call (.Name x _) xs [] _ => decide (x = Str.ofString f) && glB q.sc x && !(x == ("__debug__" : Str)) && xs.all notStar && chkEs N q es xs
    | _ => false)
  | .pcall f es, ex => (match ex with
    | .Call (.Name x _) (y :: ys) [] _ => decide (x = Str.ofString f) && glB q.sc x && !(x == ("__debug__" : Str)) && (y :: ys).all notStar && chkPks N q es (y :: ys)
    | _ => false)
  | .blt b es, ex => (match ex with
    | .Call (.Name x _) (y :: ys) [] _ => decide (x = Str.ofString (bltName b)) && glB q.sc x && (!decide (b = .gcd) || q.gcd) && (y :: ys).all notStar && chkEs N q es (y :: ys)
    | _ => false)
  | .isi a t, ex => (match ex with
    | .Call (.Name x _) [e, .Name y _] [] _ => decide (x = Str.ofString "isinstance") && decide (y = Str.ofString (tyName t)) && glB q.sc x && glB q.sc y && notStar e && chkE N q a e
    | _ => false)
  | .len a, ex => (match ex with
    | .Call (.Name x _) [e] [] _ => decide (x = Str.ofString "len") && glB q.sc x && notStar e && chkE N q a e
    | _ => false)
  | .rngs t it, ex => (match ex with
    | .Call (.Name x _) [e] [] _ => decide (x = Str.ofString (if t then "tuple" else "list")) && glB q.sc x && notStar e && (match it with
      | .rng1 .. => true
      | .rng2 .. => true
      | _ => false) && chkI N q it e e
    | _ => false)
  | .meth m o a, ex => (match ex with
    | .Call (.Attribute (.Name x px) nm apos) [e] [] cpos => (match o with
      | .var _ => true
      | _ => false) && decide (nm = Str.ofString (mthName m)) && notStar e && (apos.endLine == cpos.line) && chkE N q o (.Name x px) && chkE N q a e
    | _ => false)
  | .tm m o a, ex => (match ex with
    | .Call (.Attribute e nm apos) [x] [] cpos => decide (nm = Str.ofString (tmName m)) && baseOk e && notStar x && (apos.endLine == cpos.line) && chkE N q o e && chkE N q a x
    | _ => false)
  | .repl f es y z, ex => (match ex with
    | .Call (.Attribute (.Call (.Name x _) (u :: us) [] _) nm apos) [.Constant (.str y') _ _, .Constant (.str z') _ _] [] cpos => decide (nm = Str.ofString "replace") && decide (y' = Str.ofString y) && decide (z' = Str.ofString z) && (apos.endLine == cpos.line) &&
        decide (x = Str.ofString f) && glB q.sc x && !(x == ("__debug__" : Str)) && (u :: us).all notStar && hasInt (u :: us) && chkEs N q es (u :: us)
    | _ => false)
  | .chg m i es, ex => (match ex with
    | .Call (.Attribute (.Name x _) nm apos) xs [] cpos => nameB N q i x && decide (nm = Str.ofString (cthName m)) && (apos.endLine == cpos.line) && xs.all notStar && decide (xs.length < 29) &&
        (match m with
        | .append => !xs.isEmpty
        | .insert => !xs.isEmpty
        | .extend => !xs.isEmpty
        | .remove => !xs.isEmpty
        | .popAt => !xs.isEmpty
        | .pop => xs.isEmpty
        | .reverse => xs.isEmpty) && chkEs N q es xs
    | _ => false)
def chkO (N : List Str) (q : Sc) : OE → Option Expr → Bool
  | .none, ex => (match ex with
    | none => true
    | _ => false)
  | .some e, ex => (match ex with
    | some x => chkE N q e x
    | _ => false)
def chkC (N : List Str) (q : Sc) : OE → List Expr → Bool
  | .none, ex => (match ex with
    | [] => true
    | _ => false)
  | .some e, ex => (match ex with
    | [x] => chkE N q e x
    | _ => false)
def chkI (N : List Str) (q : Sc) : Wk → Expr → Expr → Bool
  | .seq a, _, ex => chkE N q a ex
  | .itm a, tg, ex => (match ex with
    | .Call (.Attribute e nm apos) [] [] cpos => (match tg with
      | .Tuple _ _ _ => true
      | _ => false) && decide (nm = Str.ofString "items") && nameOrCall e && (apos.endLine == cpos.line) && chkE N q a e
    | _ => false)
  | .rng1 a, _, ex => (match ex with
    | .Call (.Name x _) [e] [] _ => decide (x = Str.ofString "range") && glB q.sc x && notStar e && chkE N q a e
    | _ => false)
  | .rng2 a b, _, ex => (match ex with
    | .Call (.Name x _) [e, e'] [] _ => decide (x = Str.ofString "range") && glB q.sc x && notStar e && notStar e' && chkE N q a e && chkE N q b e'
    | _ => false)
  | .enm a, tg, ex => !notTup tg && (match ex with
    | .Call (.Name x _) [e] [] _ => decide (x = Str.ofString "enumerate") && glB q.sc x && notStar e && chkE N q a e
    | _ => false)
  | .zip a b, tg, ex => !notTup tg && (match ex with
    | .Call (.Name x _) [e, e'] [] _ => decide (x = Str.ofString "zip") && glB q.sc x && notStar e && notStar e' && chkE N q a e && chkE N q b e'
    | _ => false)
  | .rev a, _, ex => (match ex with
    | .Call (.Name x _) [e] [] _ => decide (x = Str.ofString "reversed") && glB q.sc x && notStar e && chkE N q a e
    | _ => false)
  | .rrng1 a, _, ex => (match ex with
    | .Call (.Name y _) [.Call (.Name x _) [e] [] _] [] _ => decide (y = Str.ofString "reversed") && decide (x = Str.ofString "range") && glB q.sc y && glB q.sc x && notStar e && chkE N q a e
    | _ => false)
  | .rrng2 a b, _, ex => (match ex with
    | .Call (.Name y _) [.Call (.Name x _) [e, e'] [] _] [] _ => decide (y = Str.ofString "reversed") && decide (x = Str.ofString "range") && glB q.sc y && glB q.sc x && notStar e && notStar e' && chkE N q a e && chkE N q b e'
    | _ => false)
  | .dwn a b, _, ex => (match ex with
    | .Call (.Name x _) [e, e', .UnaryOp .USub (.Constant (.int 1) _ _) _] [] _ => decide (x = Str.ofString "range") && glB q.sc x && notStar e && notStar e' && chkE N q a e && chkE N q b e'
    | _ => false)
def chkEs (N : List Str) (q : Sc) : Es → List Expr → Bool
  | .nil, es => (match es with
    | [] => true
    | _ => false)
  | .cons e es, xs => (match xs with
    | x :: r => chkE N q e x && chkEs N q es r
    | _ => false)
end
/-- a comprehension's list is stored from within its frame -/
def swB (q : Sc) (x : Str) (px : Pos) : Expr → Bool
  | .ListComp _ _ scope pos => (match q.sc.names.lookup x with
    | some .local => true
    | _ => false) && px.line == pos.line && !(scope.names.any fun (n, k) => n == x && (k == .local || k == .cell))
  | _ => false
def cellB (q : Sc) (x : Str) : Bool := match q.sc.names.lookup x with
  | some .cell => true
  | _ => false
/-- two names, one of them a cell's, set to two values: a tuple that is taken apart -/
def cellTup (q : Sc) : Expr → Expr → Bool
  | .Tuple [.Name x _, .Name y _] _ _, .Tuple [a, b] _ _ => cellB q x || cellB q y
  | _, _ => false
def parB (q : Sc) (x y : Str) (px py : Pos) (a b : Expr) : Bool :=
  (match q.sc.names.lookup x with
    | some .local => true
    | _ => false) && (match q.sc.names.lookup y with
    | some .local => true
    | _ => false) && px.line == py.line && !(x == y) && notStar a && notStar b && !([a, b].all (foldedForSure 8)) && !([a, b].all (constantsAlone 8))
mutual
def chkS (N : List Str) (q : Sc) : S → Stmt → Bool
  | .asg t e, st => (match st with
    | .Assign [tg] v pos => (match t with
      | .name i => (match tg with
        | .Name x px => decide (N[i]? = some x) && locB q x && chkE N q e v && (!isComp v || swB q x px v || cellB q x)
        | _ => false)
      | .tup _ => (notTup v || cellTup q tg v) && (match tg with
        | .Tuple .. => true
        | _ => false) && chkT N q t tg && chkE N q e v)
    | _ => false)
  | .par i j a b, st => (match st with
    | .Assign [.Tuple [.Name x px, .Name y py] _ _] (.Tuple [a', b'] _ _) _ => decide (N[i]? = some x) && decide (N[j]? = some y) && decide (i ≠ j) && parB q x y px py a' b' && chkE N q a a' && chkE N q b b'
    | _ => false)
  | .aug o i e, st => (match st with
    | .AugAssign (.Name x _) op v _ => decide (op = bop o) && augOp o && decide (N[i]? = some x) && locB q x && chkE N q e v
    | _ => false)
  | .dset i a b e, st => (match st with
    | .Assign [.Subscript (.Subscript (.Name x _) s _) s' _] v _ => notSlice s && notSlice s' && nameB N q i x && pxB a && pxB b && chkE N q a s && chkE N q b s' && chkE N q e v
    | _ => false)
  | .dswp i a b, st => (match st with
    | .Assign [.Tuple [.Subscript (.Name x _) s _, .Subscript (.Name x1 _) s' _] _ _] (.Tuple [.Subscript (.Name x2 _) t' _, .Subscript (.Name x3 _) t _] _ _) _ =>
      decide (x1 = x) && decide (x2 = x) && decide (x3 = x) && nameB N q i x && notSlice s && notSlice s' && notSlice t && notSlice t' && pxB a && pxB b && chkE N q a s && chkE N q b s' && chkE N q a t && chkE N q b t'
    | _ => false)
  | .dcomp i elt t it c vs, st => (match st with
    | .Assign [.Name x px] (.ListComp e [⟨tg, iter, ifs, z⟩] scope p) _ => decide (N[i]? = some x) && locB q x && (swB q x px (.ListComp e [⟨tg, iter, ifs, z⟩] scope p) || cellB q x) && decide (z = 0) && notSet iter && decide ((ownOf N vs).map (·.2) = vs) && blkC N q.sc scope (ownOf N vs) && (tslots t).all (fun i => decide (i ∈ vs)) &&
        chkI N q it tg iter && chkT N (blkSc q scope) t tg && chkC N (blkSc q scope) c ifs && chkE N (blkSc q scope) elt e
    | _ => false)
  | .dnew i k v, st => (match st with
    | .Assign [.Name x _] (.Dict [some k'] [v'] _) _ => decide (N[i]? = some x) && locB q x && chkE N q k k' && chkE N q v v'
    | _ => false)
  | .dput i k v, st => (match st with
    | .Assign [.Subscript (.Name x _) k' _] v' _ => nameB N q i x && !isComp v' && chkE N q k k' && chkE N q v v'
    | _ => false)
  | .tcpy i a, st => (match st with
    | .Assign [.Name x _] (.Call (.Name f _) [e] [] _) _ => decide (N[i]? = some x) && locB q x && decide (f = Str.ofString "dict") && glB q.sc f && notStar e && chkE N q a e
    | _ => false)
  | .tput i k v, st => (match st with
    | .Assign [.Subscript (.Name x _) k' _] v' _ => nameB N q i x && !isComp v' && chkE N q k k' && chkE N q v v'
    | _ => false)
  | .rse, st => (match st with
    | .Raise _ _ _ => true
    | _ => false)
  | .setIx i ix e, st => (match st with
    | .Assign [.Subscript (.Name x _) ix' _] v _ => nameB N q i x && notSlice ix' && chkE N q ix ix' && chkE N q e v
    | _ => false)
  | .augIx o i ix e, st => (match st with
    | .AugAssign (.Subscript (.Name x _) ix' _) op v _ => decide (op = bop o) && augOp o && nameB N q i x && notSlice ix' && chkE N q ix ix' && chkE N q e v
    | _ => false)
  | .ex e, st => (match st with
    | .Expr v _ => !isComp v && chkE N q e v
    | _ => false)
  | .ret e, st => (match st with
    | .Return (some v) _ => chkE N q e v
    | _ => false)
  | .retN, st => (match st with
    | .Return none _ => true
    | _ => false)
  | .brk, st => (match st with
    | .Break _ => true
    | _ => false)
  | .cont, st => (match st with
    | .Continue _ => true
    | _ => false)
  | .pass, st => (match st with
    | .Pass _ => true
    | _ => false)
  | .ife c a b, st => (match st with
    | .If c' a' b' _ => chkE N q c c' && chkSs N q a a' && chkSs N q b b'
    | _ => false)
  | .whl _ c b, st => (match st with
    | .While c' b' [] _ => chkE N q c c' && chkSs N q b b'
    | _ => false)
  | .forr t it b, st => (match st with
    | .For tg iter b' [] _ => notSet iter && chkI N q it tg iter && chkT N q t tg && chkSs N q b b'
    | _ => false)
def chkSs (N : List Str) (q : Sc) : Ss → List Stmt → Bool
  | .nil, st => (match st with
    | [] => true
    | _ => false)
  | .cons s ss, st => (match st with
    | x :: r => chkS N q s x && chkSs N q ss r
    | _ => false)
end
end Ev


set_option maxRecDepth 100000
/-! Ev15: soundness of the evaluator. -/
namespace Ev
open PySem L2
variable [TheK]
section
variable {N : List Str} {F : FT}
theorem plain_of {b : Expr} (h : notSlice b = true) : PlainIx b := by
  intro o i
  cases b <;> first | rfl | cases h
def plainT : Expr → Bool
  | .UnaryOp .Not _ _ => false
  | .BoolOp .. => false
  | .IfExp .. => false
  | .Compare .. => false
  | _ => true
theorem plainT_ok {e : Expr} {env : PySem.Env} (h : plainT e = true) (whole : Sem Value) : isTrue e env whole = (do let v ← whole; standAt e.pos; holding [v] (truthy v)) := by
  cases e <;> first | rfl | (cases h; done) | (rename_i op x pos; cases op <;> first | rfl | cases h)
theorem fold_of {iter : Expr} {env x} (h : notSet iter = true) : foldedSetIterable iter env x = pure x := by
  cases iter <;> first | rfl | cases h
theorem snd_px {X q} (C : CtxOk X N q F) (e : E) {ex : Expr} (hp : pxB e = true) (h : chkE N q e ex = true) : SndX X ex e := by
  have cint : ∀ {n : Int} {x : Expr}, chkE N q (.int n) x = true → ∃ j p, x = .Constant (.int n) j p := fun {n x} h => by
    unfold chkE at h
    split at h
    · simp only [decide_eq_true_eq] at h
      subst h
      exact ⟨_, _, rfl⟩
    · cases h
  have cvar : ∀ {n : Nat} {x : Expr}, chkE N q (.var n) x = true → ∃ y p, x = .Name y p ∧ nameB N q n y = true := fun {n x} h => by
    unfold chkE at h
    split at h
    · exact ⟨_, _, rfl, h⟩
    · cases h
  unfold pxB at hp
  split at hp
  · obtain ⟨j, p, rfl⟩ := cint h
    exact sndX_int
  · obtain ⟨y, p, rfl, h1⟩ := cvar h
    exact sndX_var C h1
  · unfold chkE at h
    split at h
    · simp only [Bool.and_eq_true] at h
      obtain ⟨⟨h0, h1⟩, h2⟩ := h
      obtain ⟨y, p, rfl, h3⟩ := cvar h1
      obtain ⟨j, p', rfl⟩ := cint h2
      exact sndX_idx C h3
    · cases h
  · unfold chkE at h
    split at h
    · simp only [Bool.and_eq_true, decide_eq_true_eq] at h
      obtain ⟨⟨rfl, h1⟩, h2⟩ := h
      obtain ⟨y, p, rfl, h3⟩ := cvar h1
      obtain ⟨j, p', rfl⟩ := cint h2
      exact sndX_bin C (.inl rfl) h3
    · cases h
  · unfold chkE at h
    split at h
    · simp only [Bool.and_eq_true, decide_eq_true_eq] at h
      obtain ⟨⟨rfl, h1⟩, h2⟩ := h
      obtain ⟨y, p, rfl, h3⟩ := cvar h1
      obtain ⟨j, p', rfl⟩ := cint h2
      exact sndX_bin C (.inr rfl) h3
    · cases h
  · cases hp
def isBO : Expr → Bool
  | .BoolOp .. => true
  | _ => false
def P (X : Cx) (F : FT) (e : E) (ex : Expr) : Prop := SndE X ex (ev F e) ∧ SndT X ex (ev F e) ∧ (isBO ex = true → SndW X ex (ev F e))
theorem P.of {X e ex} (h : SndE X ex (ev F e)) (pl : plainT ex = true) : P X F e ex := ⟨h, h.t (plainT_ok pl), fun z => by cases ex <;> first | (cases z; done) | (cases pl; done)⟩
theorem blt_ok {X q} (C : CtxOk X N q F) (b : Blt) (hb : b ≠ .gcd) {es : List Expr} {e : Expr} {p pos fs} (hg : glB q.sc (Str.ofString (bltName b)) = true) (st : (e :: es).all notStar = true) (hs : SndP X (e :: es) fs) :
    SndE X (.Call (.Name (Str.ofString (bltName b)) p) (e :: es) [] pos) (fBlt (dBlt b) fs) := by
  cases b with
  | abs => exact snd_bltB C cs_abs (name := "abs") (by decide) hg (by decide +kernel) (by decide) (by decide) st hs
  | int => exact snd_bltT C cs_int (name := "int") (by decide) hg (by decide +kernel) (by decide) (by decide) st hs
  | str => exact snd_bltT C cs_str (name := "str") (by decide) hg (by decide +kernel) (by decide) (by decide) st hs
  | repr => exact snd_bltB C cs_repr (name := "repr") (by decide) hg (by decide +kernel) (by decide) (by decide) st hs
  | sum => exact snd_bltB C (cs_sum C.calm) (name := "sum") (by decide) hg (by decide +kernel) (by decide) (by decide) st hs
  | max => exact snd_bltB C (cs_max C.calm C.un) (name := "max") (by decide) hg (by decide +kernel) (by decide) (by decide) st hs
  | min => exact snd_bltB C (cs_min C.calm C.un) (name := "min") (by decide) hg (by decide +kernel) (by decide) (by decide) st hs
  | max2 => exact snd_bltB C (cs_max2 C.calm) (name := "max") (by decide) hg (by decide +kernel) (by decide) (by decide) st hs
  | min2 => exact snd_bltB C (cs_min2 C.calm) (name := "min") (by decide) hg (by decide +kernel) (by decide) (by decide) st hs
  | all => exact snd_bltB C (cs_all C.calm) (name := "all") (by decide) hg (by decide +kernel) (by decide) (by decide) st hs
  | any => exact snd_bltB C (cs_any C.calm) (name := "any") (by decide) hg (by decide +kernel) (by decide) (by decide) st hs
  | sorted => exact snd_bltB C (cs_sorted C.un) (name := "sorted") (by decide) hg (by decide +kernel) (by decide) (by decide) st hs
  | list => exact snd_bltT C cs_list (name := "list") (by decide) hg (by decide +kernel) (by decide) (by decide) st hs
  | tuple => exact snd_bltT C cs_tuple (name := "tuple") (by decide) hg (by decide +kernel) (by decide) (by decide) st hs
  | gcd => exact absurd rfl hb
theorem snd_gcd {X q} (C : CtxOk X N q F) (hq : q.gcd = true) {es : List Expr} {e : Expr} {p pos fs} (hg : glB q.sc (Str.ofString "gcd") = true) (st : (e :: es).all notStar = true) (hs : SndP X (e :: es) fs) :
    SndE X (.Call (.Name (Str.ofString "gcd") p) (e :: es) [] pos) (fBlt (dBlt .gcd) fs) := by
  obtain ⟨r, pr, qr⟩ := cs_gcd (X := X)
  obtain ⟨ts, ps, qs⟩ := hs
  rw [List.all_cons, Bool.and_eq_true] at st
  exact ⟨_, pe_callBfun pr (gl_of C hg) (C.gc hq) ps (by decide) (star_cons st.1) (star_any st.2), fun A H σ ρ r ρ' ft e Q k => blt_core qs qr ft e k⟩
/-- list(range ..), tuple(range ..) -/
theorem prg_res {X e} {te : St → Hp → (Int → Int → Hp → Prop) → Prop} {f : Env → Option (List D × Env × List Nat)} {t : Bool} {name : String} {p pos q} (C : CtxOk X N q F) (hname : name = (if t then "tuple" else "list")) (hg : glB q.sc (Str.ofString name) = true) (hn : notStar e = true)
    (pe : PRg X e te) (qe : ∀ A H σ ρ ds ρ' ls, Fit A H σ ρ → f ρ = some (ds, ρ', ls) → ∀ Q : Int → Int → Hp → Prop, (∀ A' H' a b, Stp A H σ ρ A' H' σ ρ' → ds = rngD a b → RgOk a b → Q a b H') → te σ H Q) :
    SndE X (.Call (.Name (Str.ofString name) p) [e] [] pos) (fun ρ => match f ρ with | some (ds, ρ1, _) => some (if t then .fr (.tuple ds) else .nw ds, ρ1) | none => none) := by
  have rep : ∀ {A H} (a b : Int), RepAll A H (rgV a b) (rngD a b) := fun {A H} a b => by
    have : ∀ l : List Nat, RepAll A H (l.map fun i => V.int (a + (i : Nat))) (l.map fun (i : Nat) => .int (a + i)) := fun l => by
      induction l with
      | nil => exact .nil
      | cons x r ih => exact .cons .int ih
    exact this _
  cases t with
  | true =>
    subst hname
    refine ⟨_, pe_tupRg C.calm (gl_of C hg) (C.bl "tuple" (by decide)) pe (star_cons hn), fun A H σ ρ r ρ' ft e Q k => ?_⟩
    simp only at e
    split at e
    · rename_i ds ρ1 ls e1
      cases e
      refine qe A H σ ρ ds ρ' ls ft e1 _ fun A1 H1 a b s1 hd ok => ⟨ok, fun p hp => ?_⟩
      subst hd
      have hl : (rgV a b).length ≤ sizeLine := by rw [rgV_length]; exact ok.2.2.2.2
      exact k _ _ _ (s1.trans (Stp.frz s1.fit hp)) (rep_newT hp hl (rep a b))
    · cases e
  | false =>
    subst hname
    refine ⟨_, pe_listRg C.calm (gl_of C hg) (C.bl "list" (by decide)) pe (star_cons hn), fun A H σ ρ r ρ' ft e Q k => ?_⟩
    simp only at e
    split at e
    · rename_i ds ρ1 ls e1
      cases e
      refine qe A H σ ρ ds ρ' ls ft e1 _ fun A1 H1 a b s1 hd ok => ⟨ok, fun p hp => ?_⟩
      subst hd
      have hl : (rgV a b).length ≤ sizeLine := by rw [rgV_length]; exact ok.2.2.2.2
      exact k _ _ _ (s1.trans (Stp.grow s1.fit (upd_grow hp))) ((res_new s1.fit hp hl (rep a b)).start s1.dom)
    · cases e
theorem snd_rngs1 {X q} (C : CtxOk X N q F) {e p pos p' pos' fa} (t : Bool) {name : String} (hname : name = (if t then "tuple" else "list")) (hg : glB q.sc (Str.ofString name) = true) (hg2 : glB q.sc (Str.ofString "range") = true) (hn : notStar e = true) (ha : SndE X e fa) :
    SndE X (.Call (.Name (Str.ofString name) p) [.Call (.Name (Str.ofString "range") p') [e] [] pos'] [] pos) (fun ρ => match fRng1 fa ρ with | some (ds, ρ1, _) => some (if t then .fr (.tuple ds) else .nw ds, ρ1) | none => none) := by
  obtain ⟨ta, pa, qa⟩ := ha
  refine prg_res C hname hg rfl (prg_1 (gl_of C hg2) (C.bl "range" (by decide)) pa (star_cons hn)) fun A H σ ρ ds ρ' ls ft e Q k => ?_
  unfold fRng1 at e
  split at e
  · rename_i i ρ1 e1
    split at e
    · rename_i hz
      cases e
      refine qa A H σ ρ _ ρ' ft e1 _ fun A1 H1 v s1 ok => ?_
      cases ok
      have hs : (sizeLine : Int) = 2 ^ 24 := by decide
      exact ⟨i, rfl, k A1 H1 0 i s1 rfl ⟨by omega, by omega, by omega, by omega, by omega⟩⟩
    · cases e
  · cases e
theorem snd_rngs2 {X q} (C : CtxOk X N q F) {e e' p pos p' pos' fa fb} (t : Bool) {name : String} (hname : name = (if t then "tuple" else "list")) (hg : glB q.sc (Str.ofString name) = true) (hg2 : glB q.sc (Str.ofString "range") = true) (hn : notStar e = true) (hn' : notStar e' = true) (ha : SndE X e fa) (hb : SndE X e' fb) :
    SndE X (.Call (.Name (Str.ofString name) p) [.Call (.Name (Str.ofString "range") p') [e, e'] [] pos'] [] pos) (fun ρ => match fRng2 fa fb ρ with | some (ds, ρ1, _) => some (if t then .fr (.tuple ds) else .nw ds, ρ1) | none => none) := by
  obtain ⟨ta, pa, qa⟩ := ha
  obtain ⟨tb, pb, qb⟩ := hb
  refine prg_res C hname hg rfl (prg_2 (gl_of C hg2) (C.bl "range" (by decide)) pa pb (by rw [star_cons hn]) (star_cons hn') (star_any (by simp [hn']))) fun A H σ ρ ds ρ' ls ft e Q k => ?_
  unfold fRng2 at e
  split at e
  · rename_i i ρ1 e1
    split at e
    · rename_i j ρ2 e2
      split at e
      · rename_i hz
        cases e
        refine qa A H σ ρ _ ρ1 ft e1 _ fun A1 H1 v s1 ok => ?_
        cases ok
        refine qb A1 H1 σ ρ1 _ ρ' s1.fit e2 _ fun A2 H2 v s2 ok => ?_
        cases ok
        have hs : (sizeLine : Int) = 2 ^ 24 := by decide
        exact ⟨i, j, rfl, rfl, k A2 H2 i j (s1.trans s2) rfl ⟨by omega, by omega, by omega, by omega, by omega⟩⟩
      · cases e
    · cases e
  · cases e
theorem opd_eq {a : E} {f : Env → Option (Res × Env)} : True := trivial
/-- an operand -/
theorem P.o {X q e ex} (C : CtxOk X N q F) (h : P X F e ex) (hc : chkE N q e ex = true) : SndO X ex (opd e (ev F e)) := by
  cases e with
  | var i =>
    unfold chkE at hc
    split at hc
    · exact sndO_var C hc
    · cases hc
  | _ => exact h.1.o (fun i z => by cases z)

theorem ownOf_names {N : List Str} {vs : List Nat} {p : Str × Nat} (h : p ∈ ownOf N vs) : N[p.2]? = some p.1 := by
  unfold ownOf at h
  obtain ⟨v, _, hv⟩ := List.mem_filterMap.mp h
  cases e : N[v]? with
  | none => rw [e] at hv; cases hv
  | some x => rw [e] at hv; cases hv; exact e
mutual
theorem snd_T : ∀ (t : T) {X : Cx} {q : Sc} {ex : Expr}, CtxOk X N q F → chkT N q t ex = true → SndG X ex t
  | .name i, X, q, ex, C, h => by
    unfold chkT at h
    split at h
    · simp only [Bool.and_eq_true, decide_eq_true_eq] at h
      exact sndG_name C h.1 h.2
    · cases h
  | .tup ts, X, q, ex, C, h => by
    unfold chkT at h
    split at h
    · rw [Bool.and_eq_true] at h
      obtain ⟨h1, h2⟩ := snd_Ts ts C h.2 h.1
      exact sndG_tup C h2 h.1 h1
    · cases h
theorem snd_Ts : ∀ (ts : Ts) {X : Cx} {q : Sc} {es : List Expr}, CtxOk X N q F → chkTs N q ts es = true → es.all notStar = true → SndGs X es ts ∧ es.length = tsLen ts
  | .nil, X, q, es, C, h, st => by
    unfold chkTs at h
    split at h
    · exact ⟨sndGs_nil, rfl⟩
    · cases h
  | .cons t ts, X, q, es, C, h, st => by
    unfold chkTs at h
    split at h
    · rw [Bool.and_eq_true] at h
      rw [List.all_cons, Bool.and_eq_true] at st
      obtain ⟨h1, h2⟩ := snd_Ts ts C h.2 st.2
      exact ⟨sndGs_cons st.1 (snd_T t C h.1) h1, by simp [tsLen, h2]⟩
    · cases h
end
/-- what a comprehension's parts do, anywhere -/
theorem comp_parts {elt : E} {t : T} {it : Wk} {c : OE} {vs : List Nat} {X : Cx} {q : Sc} {e tg iter : Expr} {ifs : List Expr} {scope : Scope} (C : CtxOk X N q F)
    (h0 : notSet iter = true) (h1 : (ownOf N vs).map (·.2) = vs) (h2 : blkC N q.sc scope (ownOf N vs) = true) (h3 : ((tslots t).all fun i => decide (i ∈ vs)) = true)
    (hi : SndI X tg iter (evI F it)) (hg : ∀ {X' : Cx}, CtxOk X' N (blkSc q scope) F → SndG X' tg t) (hc : ∀ {X' : Cx}, CtxOk X' N (blkSc q scope) F → SndC X' ifs (evC F c)) (he : ∀ {X' : Cx}, CtxOk X' N (blkSc q scope) F → SndE X' e (ev F elt)) :
    ∃ wi : TI, PI X tg iter wi ∧ BlkOk X.N X.env.scope scope (ownOf N vs) ∧
      (∀ (s : Shared) (H : Hp) (a : Addr) (cl : List (Str × Addr)) (fp : List Addr), PG (X.blk s H scope (compEnvC scope cl a X.env) fp) tg (gT t)) ∧
      (∀ (s : Shared) (H : Hp) (a : Addr) (cl : List (Str × Addr)) (fp : List Addr), PTs (X.blk s H scope (compEnvC scope cl a X.env) fp) ifs (tT (evC F c))) ∧
      (∀ (s : Shared) (H : Hp) (a : Addr) (cl : List (Str × Addr)) (fp : List Addr), PE (X.blk s H scope (compEnvC scope cl a X.env) fp) e (tE (ev F elt))) ∧
      ∀ A H σ ρ r ρ', Fit A H σ ρ → fComp t vs (evI F it) (evC F c) (ev F elt) ρ = some (r, ρ') → ∀ Q : VK, (∀ A' H' v, Stp A H σ ρ A' H' σ ρ' → ResOk A' H H' σ ρ' v r → Q v H') → tLc wi (gT t) (tT (evC F c)) (tE (ev F elt)) ((ownOf N vs).map (·.2)) σ H Q := by
  obtain ⟨wi, pi, qi⟩ := hi
  have bo : BlkOk N q.sc scope (ownOf N vs) := blkOk_by h2
  have cb : ∀ (s : Shared) (H : Hp) (a : Addr) (cl : List (Str × Addr)) (fp : List Addr), CtxOk (X.blk s H scope (compEnvC scope cl a X.env) fp) N (blkSc q scope) F := fun s H a cl fp => C.blk s H scope a cl fp bo.kind
  refine ⟨wi, pi, by rw [C.N, C.sc]; exact bo, fun s H a cl fp => (hg (cb s H a cl fp)).pg, fun s H a cl fp => (hc (cb s H a cl fp)).pts, fun s H a cl fp => (he (cb s H a cl fp)).pe, fun A H σ ρ r ρ' ft e Q k => ?_⟩
  rw [h1]
  exact comp_core (fun i hi => by have := List.all_eq_true.mp h3 i hi; simpa using this) qi ft e Q k
theorem dcomp_parts {i : Nat} {elt : E} {t : T} {it : Wk} {c : OE} {vs : List Nat} {X : Cx} {q : Sc} {e tg iter : Expr} {ifs : List Expr} {scope : Scope} (C : CtxOk X N q F)
    (h0 : notSet iter = true) (h1 : (ownOf N vs).map (·.2) = vs) (h2 : blkC N q.sc scope (ownOf N vs) = true) (h3 : ((tslots t).all fun i => decide (i ∈ vs)) = true)
    (hi : SndI X tg iter (evI F it)) (hg : ∀ {X' : Cx}, CtxOk X' N (blkSc q scope) F → SndG X' tg t) (hc : ∀ {X' : Cx}, CtxOk X' N (blkSc q scope) F → SndC X' ifs (evC F c)) (he : ∀ {X' : Cx}, CtxOk X' N (blkSc q scope) F → SndE X' e (ev F elt)) :
    ∃ wi : TI, PI X tg iter wi ∧ BlkOk X.N X.env.scope scope (ownOf N vs) ∧
      (∀ (s : Shared) (H : Hp) (a : Addr) (cl : List (Str × Addr)) (fp : List Addr), PG (X.blk s H scope (compEnvC scope cl a X.env) fp) tg (gT t)) ∧
      (∀ (s : Shared) (H : Hp) (a : Addr) (cl : List (Str × Addr)) (fp : List Addr), PTs (X.blk s H scope (compEnvC scope cl a X.env) fp) ifs (tT (evC F c))) ∧
      (∀ (s : Shared) (H : Hp) (a : Addr) (cl : List (Str × Addr)) (fp : List Addr), PE (X.blk s H scope (compEnvC scope cl a X.env) fp) e (tEn (ev F elt))) ∧
      ∀ A H σ ρ o ρ', Fit A H σ ρ → fDcomp i t vs (evI F it) (evC F c) (ev F elt) ρ = some (o, ρ') → ∀ Q : VK, (∀ A' H' v, o = .next → Stp A H σ ρ A' H' (σ.set i (some v)) ρ' → Q v H') → tLc wi (gT t) (tT (evC F c)) (tEn (ev F elt)) ((ownOf N vs).map (·.2)) σ H Q := by
  obtain ⟨wi, pi, qi⟩ := hi
  have bo : BlkOk N q.sc scope (ownOf N vs) := blkOk_by h2
  have cb : ∀ (s : Shared) (H : Hp) (a : Addr) (cl : List (Str × Addr)) (fp : List Addr), CtxOk (X.blk s H scope (compEnvC scope cl a X.env) fp) N (blkSc q scope) F := fun s H a cl fp => C.blk s H scope a cl fp bo.kind
  refine ⟨wi, pi, by rw [C.N, C.sc]; exact bo, fun s H a cl fp => (hg (cb s H a cl fp)).pg, fun s H a cl fp => (hc (cb s H a cl fp)).pts, fun s H a cl fp => (he (cb s H a cl fp)).pn, fun A H σ ρ o ρ' ft e Q k => ?_⟩
  rw [h1]
  exact dcomp_core (fun i hi => by have := List.all_eq_true.mp h3 i hi; simpa using this) qi ft e Q k
theorem comp2_parts {elt : E} {t t1 : T} {it it1 : Wk} {c0 c : OE} {vs vs1 : List Nat} {X : Cx} {q : Sc} {e tg iter tg1 iter1 : Expr} {ifs ifs1 : List Expr} {scope : Scope} (C : CtxOk X N q F)
    (h0 : notSet iter = true) (h1 : (ownOf N vs).map (·.2) = vs) (h2 : blkC N q.sc scope (ownOf N vs) = true) (h3 : ((tslots t).all fun i => decide (i ∈ vs)) = true) (h4 : ((tslots t1).all fun i => decide (i ∈ vs1)) = true) (h5 : (vs1.all fun i => decide (i ∈ vs)) = true)
    (hi : SndI X tg iter (evI F it)) (hg : ∀ {X' : Cx}, CtxOk X' N (blkSc q scope) F → SndG X' tg t) (hc0 : ∀ {X' : Cx}, CtxOk X' N (blkSc q scope) F → SndC X' ifs (evC F c0))
    (hi1 : ∀ {X' : Cx}, CtxOk X' N (blkSc q scope) F → SndI X' tg1 iter1 (evI F it1)) (hg1 : ∀ {X' : Cx}, CtxOk X' N (blkSc q scope) F → SndG X' tg1 t1) (hc : ∀ {X' : Cx}, CtxOk X' N (blkSc q scope) F → SndC X' ifs1 (evC F c)) (he : ∀ {X' : Cx}, CtxOk X' N (blkSc q scope) F → SndE X' e (ev F elt)) :
    ∃ wi : TI, PI X tg iter wi ∧ BlkOk X.N X.env.scope scope (ownOf N vs) ∧ (∀ i ∈ vs1, i ∈ (ownOf N vs).map (·.2)) ∧
      (∀ (s : Shared) (H : Hp) (a : Addr) (cl : List (Str × Addr)) (fp : List Addr), PG (X.blk s H scope (compEnvC scope cl a X.env) fp) tg (gT t)) ∧
      (∀ (s : Shared) (H : Hp) (a : Addr) (cl : List (Str × Addr)) (fp : List Addr), PTs (X.blk s H scope (compEnvC scope cl a X.env) fp) ifs (tT (evC F c0))) ∧
      (∀ (s : Shared) (H : Hp) (a : Addr) (cl : List (Str × Addr)) (fp : List Addr), PI (X.blk s H scope (compEnvC scope cl a X.env) fp) tg1 iter1 (tI (evI F it1))) ∧
      (∀ (s : Shared) (H : Hp) (a : Addr) (cl : List (Str × Addr)) (fp : List Addr), PG (X.blk s H scope (compEnvC scope cl a X.env) fp) tg1 (gT t1)) ∧
      (∀ (s : Shared) (H : Hp) (a : Addr) (cl : List (Str × Addr)) (fp : List Addr), PTs (X.blk s H scope (compEnvC scope cl a X.env) fp) ifs1 (tT (evC F c))) ∧
      (∀ (s : Shared) (H : Hp) (a : Addr) (cl : List (Str × Addr)) (fp : List Addr), PE (X.blk s H scope (compEnvC scope cl a X.env) fp) e (tE (ev F elt))) ∧
      ∀ A H σ ρ r ρ', Fit A H σ ρ → fComp2 t vs (evI F it) (evC F c0) (evI F it1) t1 vs1 (evC F c) (ev F elt) ρ = some (r, ρ') → ∀ Q : VK, (∀ A' H' v, Stp A H σ ρ A' H' σ ρ' → ResOk A' H H' σ ρ' v r → Q v H') →
        tLc2 wi (gT t) (tT (evC F c0)) (tI (evI F it1)) (gT t1) (tT (evC F c)) (tE (ev F elt)) ((ownOf N vs).map (·.2)) vs1 σ H Q := by
  obtain ⟨wi, pi, qi⟩ := hi
  have bo : BlkOk N q.sc scope (ownOf N vs) := blkOk_by h2
  have cb : ∀ (s : Shared) (H : Hp) (a : Addr) (cl : List (Str × Addr)) (fp : List Addr), CtxOk (X.blk s H scope (compEnvC scope cl a X.env) fp) N (blkSc q scope) F := fun s H a cl fp => C.blk s H scope a cl fp bo.kind
  have v1 : ∀ i ∈ vs1, i ∈ vs := fun i hi => by have := List.all_eq_true.mp h5 i hi; simpa using this
  refine ⟨wi, pi, by rw [C.N, C.sc]; exact bo, by rw [h1]; exact v1, fun s H a cl fp => (hg (cb s H a cl fp)).pg, fun s H a cl fp => (hc0 (cb s H a cl fp)).pts, fun s H a cl fp => (hi1 (cb s H a cl fp)).pi, fun s H a cl fp => (hg1 (cb s H a cl fp)).pg, fun s H a cl fp => (hc (cb s H a cl fp)).pts, fun s H a cl fp => (he (cb s H a cl fp)).pe, fun A H σ ρ r ρ' ft e Q k => ?_⟩
  rw [h1]
  exact comp2_core (fun i hi => by have := List.all_eq_true.mp h3 i hi; simpa using this) (fun i hi => by have := List.all_eq_true.mp h4 i hi; simpa using this) v1 qi ft e Q k
theorem nameOrCall_base {e : Expr} {nm : Str} {env : PySem.Env} (h : nameOrCall e = true) : attributeBase e nm env (eval e env) = eval e env := by
  unfold nameOrCall at h
  split at h
  · rfl
  · rfl
  · cases h
mutual
theorem snd_E : ∀ (e : E) {X : Cx} {q : Sc} {ex : Expr}, CtxOk X N q F → chkE N q e ex = true → P X F e ex
  | .var i, X, q, ex, C, h => by
    unfold chkE at h
    split at h
    · exact .of (snd_var C h) rfl
    · cases h
  | .int n, X, q, ex, C, h => by
    unfold chkE at h
    split at h
    · simp only [decide_eq_true_eq] at h; subst h
      exact .of (snd_flat pe_int (fun _ _ => .int) fun ρ => rfl) rfl
    · cases h
  | .bl b, X, q, ex, C, h => by
    unfold chkE at h
    split at h
    · simp only [decide_eq_true_eq] at h; subst h
      exact .of (snd_flat pe_bl (fun _ _ => .bool) fun ρ => rfl) rfl
    · cases h
  | .non, X, q, ex, C, h => by
    unfold chkE at h
    split at h
    · exact .of (snd_flat pe_non (fun _ _ => .none) fun ρ => rfl) rfl
    · cases h
  | .str s, X, q, ex, C, h => by
    unfold chkE at h
    split at h
    · simp only [decide_eq_true_eq] at h; subst h
      exact .of (snd_flat pe_str (fun _ _ => .str) fun ρ => rfl) rfl
    · cases h
  | .bin o a b, X, q, ex, C, h => by
    unfold chkE at h
    split at h
    · simp only [Bool.and_eq_true, decide_eq_true_eq] at h
      obtain ⟨⟨rfl, h1⟩, h2⟩ := h
      exact .of (snd_bin o ((snd_E a C h1).o C h1) ((snd_E b C h2).o C h2)) rfl
    · cases h
  | .neg a, X, q, ex, C, h => by
    unfold chkE at h
    split at h
    · simp only [Bool.and_eq_true, decide_eq_true_eq] at h
      obtain ⟨rfl, h1⟩ := h
      exact .of (snd_neg (snd_E a C h1).1) rfl
    · cases h
  | .no a, X, q, ex, C, h => by
    unfold chkE at h
    split at h
    · simp only [Bool.and_eq_true, decide_eq_true_eq] at h
      obtain ⟨rfl, h1⟩ := h
      have ih := snd_E a C h1
      exact ⟨snd_no ih.1, sndT_no ih.2.1, fun z => by cases z⟩
    · cases h
  | .cmp o a b, X, q, ex, C, h => by
    unfold chkE at h
    split at h
    · simp only [Bool.and_eq_true, decide_eq_true_eq, Bool.not_eq_true'] at h
      obtain ⟨⟨⟨rfl, hm⟩, h1⟩, h2⟩ := h
      have ia := (snd_E a C h1).o C h1
      have ib := (snd_E b C h2).o C h2
      exact ⟨snd_cmp C o hm ia ib, sndT_cmp C o hm ia ib, fun z => by cases z⟩
    · cases h
  | .cmp2 o p a b c, X, q, ex, C, h => by
    unfold chkE at h
    split at h
    · simp only [Bool.and_eq_true, decide_eq_true_eq, Bool.not_eq_true'] at h
      obtain ⟨⟨⟨⟨⟨rfl, rfl⟩, hm⟩, h1⟩, h2⟩, h3⟩ := h
      have ia := snd_E a C h1
      have ib := snd_E b C h2
      have ic := snd_E c C h3
      exact ⟨snd_cmp2 C o p hm ia.1 ib.1 ic.1, sndT_cmp2 C o p hm ia.1 ib.1 ic.1, fun z => by cases z⟩
    · cases h
  | .and a b, X, q, ex, C, h => by
    unfold chkE at h
    split at h
    · simp only [Bool.and_eq_true, decide_eq_true_eq] at h
      obtain ⟨⟨rfl, h1⟩, h2⟩ := h
      have ia := snd_E a C h1
      split at h2
      · have ib := snd_E b C h2
        have w := sndW_and ia.2.1 (sndW_and1 (pos := by assumption) ib.2.1)
        exact ⟨snd_and ia.1 (snd_one ib.1), w.t, fun _ => w⟩
      · have ib := snd_E b C h2
        have w := sndW_and ia.2.1 (ib.2.2 rfl)
        exact ⟨snd_and ia.1 ib.1, w.t, fun _ => w⟩
    · cases h
  | .or a b, X, q, ex, C, h => by
    unfold chkE at h
    split at h
    · simp only [Bool.and_eq_true, decide_eq_true_eq] at h
      obtain ⟨⟨rfl, h1⟩, h2⟩ := h
      have ia := snd_E a C h1
      split at h2
      · have ib := snd_E b C h2
        have w := sndW_or ia.2.1 (sndW_or1 (pos := by assumption) ib.2.1)
        exact ⟨snd_or ia.1 (snd_one ib.1), w.t, fun _ => w⟩
      · have ib := snd_E b C h2
        have w := sndW_or ia.2.1 (ib.2.2 rfl)
        exact ⟨snd_or ia.1 ib.1, w.t, fun _ => w⟩
    · cases h
  | .ite c a b, X, q, ex, C, h => by
    unfold chkE at h
    split at h
    · simp only [Bool.and_eq_true] at h
      obtain ⟨⟨h0, h1⟩, h2⟩ := h
      have ic := snd_E c C h0
      have ia := snd_E a C h1
      have ib := snd_E b C h2
      exact ⟨snd_if ic.2.1 ia.1 ib.1, sndT_if ic.2.1 ia.2.1 ib.2.1, fun z => by cases z⟩
    · cases h
  | .idx a i, X, q, ex, C, h => by
    unfold chkE at h
    split at h
    · simp only [Bool.and_eq_true] at h
      obtain ⟨⟨h0, h1⟩, h2⟩ := h
      exact .of (snd_idx C (plain_of h0) ((snd_E a C h1).o C h1) (snd_E i C h2).1) rfl
    · cases h
  | .slc a lo hi, X, q, ex, C, h => by
    unfold chkE at h
    split at h
    · simp only [Bool.and_eq_true] at h
      obtain ⟨⟨h0, h1⟩, h2⟩ := h
      exact .of (snd_slc ((snd_E a C h0).o C h0) (snd_O lo C h1) (snd_O hi C h2)) rfl
    · cases h
  | .rvs a, X, q, ex, C, h => by
    unfold chkE at h
    split at h
    · exact .of (snd_rvs ((snd_E a C h).o C h)) rfl
    · cases h
  | .dix i a b, X, q, ex, C, h => by
    unfold chkE at h
    split at h
    · simp only [Bool.and_eq_true] at h
      obtain ⟨⟨⟨⟨⟨⟨h0, h1⟩, h2⟩, h3⟩, h4⟩, h5⟩, h6⟩ := h
      exact .of (snd_dix C h2 (snd_px C a h3 h5) (snd_px C b h4 h6) (plain_of h0) (plain_of h1)) rfl
    · cases h
  | .dlen i, X, q, ex, C, h => by
    unfold chkE at h
    split at h
    · simp only [Bool.and_eq_true, decide_eq_true_eq] at h
      obtain ⟨⟨rfl, h1⟩, h2⟩ := h
      exact .of (snd_dlen C h1 h2) rfl
    · cases h
  | .dget i k, X, q, ex, C, h => by
    unfold chkE at h
    split at h
    · rename_i x px s pos
      simp only [Bool.and_eq_true] at h
      obtain ⟨⟨h0, h1⟩, h2⟩ := h
      have hn : NoSl s := by
        intro o i
        cases s <;> first | rfl | cases h0
      exact .of (snd_dget C h1 hn (snd_E k C h2).1) rfl
    · cases h
  | .din neg i k, X, q, ex, C, h => by
    unfold chkE at h
    split at h
    · simp only [Bool.and_eq_true, decide_eq_true_eq, Bool.not_eq_true'] at h
      obtain ⟨⟨⟨rfl, h1⟩, h2⟩, h3⟩ := h
      have g := fun pos => snd_din (pos := pos) C neg h1 h2 (snd_E k C h3).1
      exact ⟨(g _).1, (g _).2, fun z => by cases z⟩
    · cases h
  | .tlit k v, X, q, ex, C, h => by
    unfold chkE at h
    split at h
    · simp only [Bool.and_eq_true] at h
      exact .of (snd_tlit C (snd_E k C h.1).1 (snd_E v C h.2).1) rfl
    · cases h
  | .tget i k d, X, q, ex, C, h => by
    unfold chkE at h
    split at h
    · simp only [Bool.and_eq_true, decide_eq_true_eq] at h
      obtain ⟨⟨⟨⟨⟨⟨rfl, h1⟩, h2⟩, h3⟩, h4⟩, h5⟩, h6⟩ := h
      exact .of (snd_tget C h1 ⟨rfl, few_ok (by simp [h2, h3]) (by simp), h4, by rw [star_cons h2, star_cons h3]; rfl⟩ (snd_E k C h5).1 (snd_E d C h6).1) rfl
    · cases h
  | .tcomp k v t it vs, X, q, ex, C, h => by
    unfold chkE at h
    split at h
    · simp only [Bool.and_eq_true, decide_eq_true_eq, List.isEmpty_iff] at h
      obtain ⟨⟨⟨⟨⟨⟨⟨⟨⟨rfl, rfl⟩, h1⟩, h2⟩, h3⟩, h4⟩, h5⟩, h6⟩, h7⟩, h8⟩ := h
      have hi := snd_I it C h5
      have bo : BlkOk N q.sc _ (ownOf N vs) := blkOk_by h3
      have cb : ∀ (s : Shared) (H : Hp) (a : Addr) (cl : List (Str × Addr)) (fp : List Addr), CtxOk (X.blk s H _ (compEnvC _ cl a X.env) fp) N (blkSc q _) F := fun s H a cl fp => C.blk s H _ a cl fp bo.kind
      obtain ⟨wi, pi, qi⟩ := hi
      have hu := C.un
      refine .of ⟨_, pe_fz (pe_dcT C.calm (by omega) C.nd pi (by rw [C.N, C.sc]; exact bo) (fun s H a cl fp => (snd_T t (cb s H a cl fp) h6).pg) (fun s H a cl fp => (snd_E k (cb s H a cl fp) h7).1.pe) (fun s H a cl fp => (snd_E v (cb s H a cl fp) h8).1.pe) (fun x => fold_of h1)), fun A H σ ρ r ρ' ft e Q kk => ?_⟩ rfl
      rw [h2]
      exact tcomp_core (fun i hi => by have := List.all_eq_true.mp h4 i hi; simpa using this) qi ft e Q kk
    · cases h
  | .sitm a, X, q, ex, C, h => by
    unfold chkE at h
    split at h
    · simp only [Bool.and_eq_true, decide_eq_true_eq] at h
      obtain ⟨⟨⟨⟨⟨rfl, h1⟩, rfl⟩, h2⟩, h3⟩, h4⟩ := h
      exact .of (snd_sitm C h1 (nameOrCall_base h2) h3 (snd_E a C h4).1) rfl
    · cases h
  | .tup es, X, q, ex, C, h => by
    unfold chkE at h
    split at h
    · simp only [Bool.and_eq_true] at h
      exact .of (snd_tup (snd_Es es C h.2 h.1).1) rfl
    · cases h
  | .lst es, X, q, ex, C, h => by
    unfold chkE at h
    split at h
    · simp only [Bool.and_eq_true] at h
      exact .of (snd_lst (snd_Es es C h.2 h.1).1) rfl
    · cases h
  | .comp elt t it c vs, X, q, ex, C, h => by
    unfold chkE at h
    split at h
    · simp only [Bool.and_eq_true, decide_eq_true_eq] at h
      obtain ⟨⟨⟨⟨⟨⟨⟨⟨rfl, h1⟩, h2⟩, h3⟩, h4⟩, h5⟩, h6⟩, h7⟩, h8⟩ := h
      obtain ⟨wi, pi, bo, pg, pt, pe, qc⟩ := comp_parts C h1 h2 h3 h4 (snd_I it C h5) (fun C' => snd_T t C' h6) (fun C' => snd_C c C' h7) (fun C' => (snd_E elt C' h8).1)
      exact .of ⟨_, pe_lc C.calm C.nd pi bo pg pt pe (fun x => fold_of h1), qc⟩ rfl
    · cases h
  | .comp2 elt t it c0 t1 it1 c vs vs1, X, q, ex, C, h => by
    unfold chkE at h
    split at h
    · simp only [Bool.and_eq_true, decide_eq_true_eq] at h
      obtain ⟨⟨⟨⟨⟨⟨⟨⟨⟨⟨⟨⟨⟨⟨⟨rfl, rfl⟩, h1⟩, h1'⟩, h2⟩, h3⟩, h4⟩, h5⟩, h6⟩, k1⟩, k2⟩, k3⟩, k4⟩, k5⟩, k6⟩, k7⟩ := h
      obtain ⟨wi, pi, bo, hv, pg, pt, pi1, pg1, pt1, pe, qc⟩ := comp2_parts C h1 h2 h3 h4 h5 h6 (snd_I it C k1) (fun C' => snd_T t C' k2) (fun C' => snd_C c0 C' k3) (fun C' => snd_I it1 C' k4) (fun C' => snd_T t1 C' k5) (fun C' => snd_C c C' k6) (fun C' => (snd_E elt C' k7).1)
      exact .of ⟨_, pe_lc2 C.calm C.nd pi bo hv pg pt pi1 pg1 pt1 pe (fun x => fold_of h1) (fun env x => fold_of h1'), qc⟩ rfl
    · cases h
  | .setc srt elt t it c vs, X, q, ex, C, h => by
    unfold chkE at h
    split at h
    · simp only [Bool.and_eq_true, decide_eq_true_eq] at h
      obtain ⟨⟨⟨⟨⟨⟨⟨⟨⟨⟨rfl, hg⟩, rfl⟩, h1⟩, h2⟩, h3⟩, h4⟩, h5⟩, h6⟩, h7⟩, h8⟩ := h
      have hi := snd_I it C h5
      have bo : BlkOk N q.sc _ (ownOf N vs) := blkOk_by h3
      have cb : ∀ (s : Shared) (H : Hp) (a : Addr) (cl : List (Str × Addr)) (fp : List Addr), CtxOk (X.blk s H _ (compEnvC _ cl a X.env) fp) N (blkSc q _) F := fun s H a cl fp => C.blk s H _ a cl fp bo.kind
      obtain ⟨wi, pi, qi⟩ := hi
      refine .of (snd_setc C hg (fun i hi => by have := List.all_eq_true.mp h4 i hi; simpa using this) h2 qi pi (by rw [C.N, C.sc]; exact bo) (fun s H a cl fp => (snd_T t (cb s H a cl fp) h6).pg) (fun s H a cl fp => (snd_C c (cb s H a cl fp) h7).pts) (fun s H a cl fp => (snd_E elt (cb s H a cl fp) h8).1.pe) (fun x => fold_of h1)) rfl
    · cases h
  | .call f es, X, q, ex, C, h => by
    unfold chkE at h
    split at h
    · simp only [Bool.and_eq_true, decide_eq_true_eq, Bool.not_eq_true'] at h
      obtain ⟨⟨⟨⟨rfl, h1⟩, h2⟩, h3⟩, h4⟩ := h
      rename_i xs _
      have ih := snd_Es es C h4 h3
      cases xs with
      | nil =>
        have he : es = .nil := by
          cases es with
          | nil => rfl
          | cons _ _ => unfold chkEs at h4; cases h4
        subst he
        refine .of (snd_call0 C h1 h2 fun ks ρ os ρ' e => ?_) rfl
        cases ks with
        | nil => simp only [evA, Option.some.injEq, Prod.mk.injEq] at e; exact ⟨e.1.symm, e.2.symm⟩
        | cons k ks => cases k <;> simp [evA] at e
      | cons x r => exact .of (snd_call C h1 h2 h3 ih.2.2) rfl
    · cases h
  | .pcall f es, X, q, ex, C, h => by
    unfold chkE at h
    split at h
    · simp only [Bool.and_eq_true, decide_eq_true_eq, Bool.not_eq_true'] at h
      obtain ⟨⟨⟨⟨rfl, h1⟩, h2⟩, h3⟩, h4⟩ := h
      exact .of (snd_pcall C h1 h2 h3 (snd_pks es C h4 h3)) rfl
    · cases h
  | .blt b es, X, q, ex, C, h => by
    unfold chkE at h
    split at h
    · simp only [Bool.and_eq_true, decide_eq_true_eq, Bool.or_eq_true, Bool.not_eq_true', decide_eq_false_iff_not] at h
      obtain ⟨⟨⟨⟨rfl, h1⟩, h2⟩, h3⟩, h4⟩ := h
      have ih := (snd_Es es C h4 h3).2.1
      by_cases hb : b = .gcd
      · subst hb
        exact .of (snd_gcd C (h2.resolve_left fun z => z rfl) h1 h3 ih) rfl
      · exact .of (blt_ok C b hb h1 h3 ih) rfl
    · cases h
  | .isi a t, X, q, ex, C, h => by
    unfold chkE at h
    split at h
    · simp only [Bool.and_eq_true, decide_eq_true_eq] at h
      obtain ⟨⟨⟨⟨⟨rfl, rfl⟩, h1⟩, h2⟩, h3⟩, h4⟩ := h
      exact .of (snd_isi C t h1 h2 h3 ((snd_E a C h4).o C h4)) rfl
    · cases h
  | .len a, X, q, ex, C, h => by
    unfold chkE at h
    split at h
    · simp only [Bool.and_eq_true, decide_eq_true_eq] at h
      obtain ⟨⟨⟨rfl, h1⟩, h2⟩, h3⟩ := h
      exact .of (snd_len C h1 h2 ((snd_E a C h3).o C h3)) rfl
    · cases h
  | .rngs t it, X, q, ex, C, h => by
    unfold chkE at h
    split at h
    · simp only [Bool.and_eq_true, decide_eq_true_eq] at h
      obtain ⟨⟨⟨⟨rfl, h1⟩, h2⟩, h3⟩, h4⟩ := h
      cases it with
      | rng1 a =>
        unfold chkI at h4
        split at h4
        · simp only [Bool.and_eq_true, decide_eq_true_eq] at h4
          obtain ⟨⟨⟨rfl, z1⟩, z2⟩, z3⟩ := h4
          exact .of (snd_rngs1 C t rfl h1 z1 z2 (snd_E a C z3).1) rfl
        · cases h4
      | rng2 a b =>
        unfold chkI at h4
        split at h4
        · simp only [Bool.and_eq_true, decide_eq_true_eq] at h4
          obtain ⟨⟨⟨⟨⟨rfl, z1⟩, z2⟩, z3⟩, z4⟩, z5⟩ := h4
          exact .of (snd_rngs2 C t rfl h1 z1 z2 z3 (snd_E a C z4).1 (snd_E b C z5).1) rfl
        · cases h4
      | _ => cases h3
    · cases h
  | .meth m o a, X, q, ex, C, h => by
    unfold chkE at h
    split at h
    · simp only [Bool.and_eq_true, decide_eq_true_eq] at h
      obtain ⟨⟨⟨⟨⟨h1, rfl⟩, h2⟩, h3⟩, h4⟩, h5⟩ := h
      have ia := (snd_E a C h5).1
      cases o with
      | var i =>
        unfold chkE at h4
        have io := fun pos => sndO_var (pos := pos) (g := ev F (.var i)) C h4
        cases m with
        | count => exact .of (snd_mth mth_count PySem.F.slot_list_count PySem.F.type_list_count rfl h2 h3 (io _) ia) rfl
        | index => exact .of (snd_mth (mth_index C.un) PySem.F.slot_list_index PySem.F.type_list_index rfl h2 h3 (io _) ia) rfl
      | _ => cases h1
    · cases h
  | .tm m o a, X, q, ex, C, h => by
    unfold chkE at h
    split at h
    · simp only [Bool.and_eq_true, decide_eq_true_eq] at h
      obtain ⟨⟨⟨⟨⟨rfl, h1⟩, h2⟩, h3⟩, h4⟩, h5⟩ := h
      have io := (snd_E o C h4).1
      have ia := (snd_E a C h5).o C h5
      have st := fun {x : Expr} (h : notStar x = true) => (star_cons h : starEach [x] X.env = (false, eval x X.env) :: starEach [] X.env)
      cases m with
      | ljust => exact .of (snd_tm tm_ljust PySem.F.slot_str_ljust PySem.F.type_str_ljust (base_ok h1) (st h2) h3 io ia) rfl
      | rjust => exact .of (snd_tm tm_rjust PySem.F.slot_str_rjust PySem.F.type_str_rjust (base_ok h1) (st h2) h3 io ia) rfl
      | strip => exact .of (snd_tm tm_strip PySem.F.slot_str_strip PySem.F.type_str_strip (base_ok h1) (st h2) h3 io ia) rfl
      | rstrip => exact .of (snd_tm tm_rstrip PySem.F.slot_str_rstrip PySem.F.type_str_rstrip (base_ok h1) (st h2) h3 io ia) rfl
      | split => exact .of (snd_tm tm_split PySem.F.slot_str_split PySem.F.type_str_split (base_ok h1) (st h2) h3 io ia) rfl
      | join => exact .of (snd_tm tm_join PySem.F.slot_str_join PySem.F.type_str_join (base_ok h1) (st h2) h3 io ia) rfl
    · cases h
  | .repl f es y z, X, q, ex, C, h => by
    unfold chkE at h
    split at h
    · simp only [Bool.and_eq_true, decide_eq_true_eq, Bool.not_eq_true'] at h
      obtain ⟨⟨⟨⟨⟨⟨⟨⟨⟨rfl, rfl⟩, rfl⟩, h0⟩, rfl⟩, h1⟩, h2⟩, h3⟩, h5⟩, h4⟩ := h
      have ih := snd_Es es C h4 h3
      obtain ⟨t, p, k⟩ := snd_repl (y := y) (z := z) (snd_call1 C h1 h2 h3 h5 ih.2.2) (base_ok rfl) h0
      refine .of ⟨t, p, fun A H σ ρ r ρ' ft e => k A H σ ρ r ρ' ft ?_⟩ rfl
      exact ev_repl_eq.symm.trans e
    · cases h
  | .chg m i es, X, q, ex, C, h => by
    unfold chkE at h
    split at h
    · simp only [Bool.and_eq_true, decide_eq_true_eq] at h
      obtain ⟨⟨⟨⟨⟨⟨h1, rfl⟩, h2⟩, h3⟩, h4⟩, h5⟩, h6⟩ := h
      rename_i xs _
      have ih := (snd_Es es C h6 h3).1
      have hn : i < N.length := by
        unfold nameB at h1
        simp only [Bool.and_eq_true, decide_eq_true_eq] at h1
        exact (List.getElem?_eq_some_iff.mp h1.1.1).1
      have nil_of : xs = [] → es = .nil := fun z => by
        subst z
        cases es with
        | nil => rfl
        | cons _ _ => unfold chkEs at h6; cases h6
      cases m with
      | append =>
        cases xs with
        | nil => cases h5
        | cons x r => exact .of (snd_chg C chg_append PySem.F.slot_list_append PySem.F.type_list_append h1 hn h3 h4 h2 ih) rfl
      | popAt =>
        cases xs with
        | nil => cases h5
        | cons x r => exact .of (snd_chg C chg_popAt PySem.F.slot_list_pop PySem.F.type_list_pop h1 hn h3 h4 h2 ih) rfl
      | pop =>
        cases xs with
        | nil =>
          cases nil_of rfl
          exact .of (snd_chg0 C chg_pop PySem.F.slot_list_pop PySem.F.type_list_pop h1 h2) rfl
        | cons x r => cases h5
      | reverse =>
        cases xs with
        | nil =>
          cases nil_of rfl
          exact .of (snd_chg0 C chg_reverse PySem.F.slot_list_reverse PySem.F.type_list_reverse h1 h2) rfl
        | cons x r => cases h5
      | insert =>
        cases xs with
        | nil => cases h5
        | cons x r => exact .of (snd_chg C chg_insert PySem.F.slot_list_insert PySem.F.type_list_insert h1 hn h3 h4 h2 ih) rfl
      | extend =>
        cases xs with
        | nil => cases h5
        | cons x r => exact .of (snd_chg C chg_extend PySem.F.slot_list_extend PySem.F.type_list_extend h1 hn h3 h4 h2 ih) rfl
      | remove =>
        cases xs with
        | nil => cases h5
        | cons x r => exact .of (snd_chg C (chg_remove C.un) PySem.F.slot_list_remove PySem.F.type_list_remove h1 hn h3 h4 h2 ih) rfl
    · cases h
theorem snd_O : ∀ (o : OE) {X : Cx} {q : Sc} {ex : Option Expr}, CtxOk X N q F → chkO N q o ex = true → SndPart X ex (evO F o)
  | .none, X, q, ex, C, h => by
    unfold chkO at h
    split at h
    · exact sndPart_none
    · cases h
  | .some e, X, q, ex, C, h => by
    unfold chkO at h
    split at h
    · exact sndPart_some (snd_E e C h).1
    · cases h
theorem snd_C : ∀ (o : OE) {X : Cx} {q : Sc} {ifs : List Expr}, CtxOk X N q F → chkC N q o ifs = true → SndC X ifs (evC F o)
  | .none, X, q, ex, C, h => by
    unfold chkC at h
    split at h
    · exact sndC_nil
    · cases h
  | .some e, X, q, ex, C, h => by
    unfold chkC at h
    split at h
    · exact sndC_one (snd_E e C h).2.1
    · cases h
theorem snd_I : ∀ (w : Wk) {X : Cx} {q : Sc} {tg ex : Expr}, CtxOk X N q F → chkI N q w tg ex = true → SndI X tg ex (evI F w)
  | .seq a, X, q, tg, ex, C, h => by
    unfold chkI at h
    exact sndI_seq ((snd_E a C h).o C h)
  | .itm a, X, q, tg, ex, C, h => by
    unfold chkI at h
    split at h
    · simp only [Bool.and_eq_true, decide_eq_true_eq] at h
      obtain ⟨⟨⟨⟨h1, rfl⟩, h2⟩, h3⟩, h4⟩ := h
      cases tg <;> first | (cases h1; done) | exact sndI_itm (nameOrCall_base h2) h3 (snd_E a C h4).1
    · cases h
  | .rng1 a, X, q, tg, ex, C, h => by
    unfold chkI at h
    split at h
    · simp only [Bool.and_eq_true, decide_eq_true_eq] at h
      obtain ⟨⟨⟨rfl, h1⟩, h2⟩, h3⟩ := h
      exact sndI_rng1 C h1 h2 (snd_E a C h3).1
    · cases h
  | .rng2 a b, X, q, tg, ex, C, h => by
    unfold chkI at h
    split at h
    · simp only [Bool.and_eq_true, decide_eq_true_eq] at h
      obtain ⟨⟨⟨⟨⟨rfl, h1⟩, h2⟩, h3⟩, h4⟩, h5⟩ := h
      exact sndI_rng2 C h1 h2 h3 (snd_E a C h4).1 (snd_E b C h5).1
    · cases h
  | .enm a, X, q, tg, ex, C, h => by
    unfold chkI at h
    rw [Bool.and_eq_true] at h
    obtain ⟨ht, h⟩ := h
    cases tg <;> first
      | (cases ht; done)
      | (split at h
         · simp only [Bool.and_eq_true, decide_eq_true_eq] at h
           obtain ⟨⟨⟨rfl, h1⟩, h2⟩, h3⟩ := h
           exact sndI_enm C h1 h2 ((snd_E a C h3).o C h3)
         · cases h)
  | .zip a b, X, q, tg, ex, C, h => by
    unfold chkI at h
    rw [Bool.and_eq_true] at h
    obtain ⟨ht, h⟩ := h
    cases tg <;> first
      | (cases ht; done)
      | (split at h
         · simp only [Bool.and_eq_true, decide_eq_true_eq] at h
           obtain ⟨⟨⟨⟨⟨rfl, h1⟩, h2⟩, h3⟩, h4⟩, h5⟩ := h
           exact sndI_zip C h1 h2 h3 ((snd_E a C h4).o C h4) ((snd_E b C h5).o C h5)
         · cases h)
  | .rev a, X, q, tg, ex, C, h => by
    unfold chkI at h
    split at h
    · simp only [Bool.and_eq_true, decide_eq_true_eq] at h
      obtain ⟨⟨⟨rfl, h1⟩, h2⟩, h3⟩ := h
      exact sndI_rev C h1 h2 ((snd_E a C h3).o C h3)
    · cases h
  | .rrng1 a, X, q, tg, ex, C, h => by
    unfold chkI at h
    split at h
    · simp only [Bool.and_eq_true, decide_eq_true_eq] at h
      obtain ⟨⟨⟨⟨⟨rfl, rfl⟩, h0⟩, h1⟩, h2⟩, h3⟩ := h
      exact sndI_rrng1 C h0 h1 h2 (snd_E a C h3).1
    · cases h
  | .rrng2 a b, X, q, tg, ex, C, h => by
    unfold chkI at h
    split at h
    · simp only [Bool.and_eq_true, decide_eq_true_eq] at h
      obtain ⟨⟨⟨⟨⟨⟨⟨rfl, rfl⟩, h0⟩, h1⟩, h2⟩, h3⟩, h4⟩, h5⟩ := h
      exact sndI_rrng2 C h0 h1 h2 h3 (snd_E a C h4).1 (snd_E b C h5).1
    · cases h
  | .dwn a b, X, q, tg, ex, C, h => by
    unfold chkI at h
    split at h
    · simp only [Bool.and_eq_true, decide_eq_true_eq] at h
      obtain ⟨⟨⟨⟨⟨rfl, h1⟩, h2⟩, h3⟩, h4⟩, h5⟩ := h
      exact sndI_dwn C h1 h2 h3 (snd_E a C h4).1 (snd_E b C h5).1
    · cases h
theorem snd_Es : ∀ (es : Es) {X : Cx} {q : Sc} {xs : List Expr}, CtxOk X N q F → chkEs N q es xs = true → xs.all notStar = true → SndA X xs (evs F es) ∧ SndP X xs (evP F es) ∧ ∀ ks, SndP X xs (evA F ks es)
  | .nil, X, q, xs, C, h, st => by
    unfold chkEs at h
    split at h
    · refine ⟨sndA_nil, sndP_nil, fun ks => ?_⟩
      cases ks with
      | nil => exact sndP_nil
      | cons k ks =>
        refine ⟨_, pa_nil, fun A H σ ρ r ρ' ft e Q kk => ?_⟩
        cases k <;> simp [evA] at e
    · cases h
  | .cons e es, X, q, xs, C, h, st => by
    unfold chkEs at h
    split at h
    · rename_i x r
      rw [Bool.and_eq_true] at h
      rw [List.all_cons, Bool.and_eq_true] at st
      have ie := snd_E e C h.1
      have io := ie.o C h.1
      obtain ⟨i1, i2, i3⟩ := snd_Es es C h.2 st.2
      refine ⟨sndA_cons st.1 ie.1 i1, sndP_cons st.1 io i2, fun ks => ?_⟩
      cases ks with
      | nil =>
        obtain ⟨t, p, _⟩ := sndP_cons st.1 io i2
        refine ⟨t, p, fun A H σ ρ r ρ' ft e Q k => ?_⟩
        simp [evA] at e
      | cons k ks =>
        cases k with
        | B => exact sndP_cons st.1 io (i3 ks)
        | M => exact sndP_cons st.1 io (i3 ks)
        | I =>
          have := sndP_cons st.1 ie.1.ov (i3 ks)
          have e' : evA F (.I :: ks) (.cons e es) = fConsP (fun ρ => match ev F e ρ with | none => none | some (r, ρ1) => some (.v r.d, ρ1)) (evA F ks es) := by
            funext ρ
            simp only [evA, fConsP]
            cases ev F e ρ <;> rfl
          rw [e']
          exact this
    · cases h
end
end
end Ev


set_option maxRecDepth 100000
/-! Ev16: soundness of statements. -/
namespace Ev
open PySem L2
variable [TheK]
section
variable {N : List Str} {F : FT}
theorem cell_of {q : Sc} {x} (h : cellB q x = true) : q.sc.names.lookup x = some .cell := by
  unfold cellB at h
  split at h
  · assumption
  · cases h
theorem swaps_cell {X : Cx} {q : Sc} (C : CtxOk X N q F) {e : Expr} {x px l} (h : cellB q x = true) : swapsWith e (some (.Name x px)) l X.env = pure false := by
  have hk : X.env.kindOf x = some .cell := by
    show X.env.scope.names.lookup x = some .cell
    rw [C.sc]; exact cell_of h
  cases e <;> first | rfl | (unfold swapsWith; simp [hk, show (NameKind.cell == NameKind.local) = false from rfl])
theorem swaps_sub {e : Expr} {o i p l env} : swapsWithSole [.Subscript o i p] e l env = pure false := by cases e <;> rfl
theorem swaps_tup {e : Expr} {es k p l env} : swapsWithSole [.Tuple es k p] e l env = pure false := by cases e <;> rfl
theorem stores_sub {e : Expr} {o i p env} : swappedStores [.Subscript o i p] e env = pure none := by cases e <;> rfl
theorem stores_tup {e : Expr} {es k p env} (h : notTup e = true) : swappedStores [.Tuple es k p] e env = pure none := by
  cases e <;> first | rfl | cases h
theorem assign_sub {o ix : Expr} {spos env} (h : notSlice ix = true) : ∀ v, assign (.Subscript o ix spos) env v = (do
      let ov ← holding [v] (eval o env)
      let iv ← holding [v, ov] (eval ix env)
      standAt spos
      holding [v, ov, iv] (setItem ov iv v)
      release [v, ov, iv] []) := by
  intro v
  cases ix <;> first | rfl | cases h
theorem aug_sub {ix : Expr} (h : notSlice ix = true) : ∀ ov iv new, augStore ix ov iv new = (do holding [new, ov, iv] (setItem ov iv new); release [new, ov, iv] []; pure .next) := by
  intro ov iv new
  cases ix <;> first | rfl | cases h
theorem star_match : ∀ (e : Expr), notStar e = true → (match e with | .Starred .. => true | _ => false) = false := fun e h => by cases e <;> first | rfl | cases h
theorem stores_par {X : Cx} {q : Sc} (C : CtxOk X N q F) {x y : Str} {px py pt pt2 : Pos} {kt k2 : Nat} {a b : Expr} (h : parB q x y px py a b = true) :
    q.sc.names.lookup x = some .local ∧ q.sc.names.lookup y = some .local ∧ swappedStores [.Tuple [.Name x px, .Name y py] kt pt] (.Tuple [a, b] k2 pt2) X.env = pure (some [x, y]) := by
  unfold parB at h
  simp only [Bool.and_eq_true, Bool.not_eq_true'] at h
  obtain ⟨⟨⟨⟨⟨⟨⟨h1, h2⟩, h3⟩, h4⟩, h5⟩, h6⟩, h7⟩, h8⟩ := h
  have l1 : q.sc.names.lookup x = some .local := by
    split at h1
    · assumption
    · cases h1
  have l2 : q.sc.names.lookup y = some .local := by
    split at h2
    · assumption
    · cases h2
  refine ⟨l1, l2, ?_⟩
  have k1 : X.env.kindOf x = some .local := by show X.env.scope.names.lookup x = some .local; rw [C.sc]; exact l1
  have k2 : X.env.kindOf y = some .local := by show X.env.scope.names.lookup y = some .local; rw [C.sc]; exact l2
  have bk : X.env.blockKind = .function := by unfold PySem.Env.blockKind; rw [C.kd]; rfl
  have pl : py.line = px.line := (eq_of_beq h3).symm
  have ne : ¬ x = y := fun z => by subst z; simp at h4
  have ne2 : ¬ y = x := fun z => ne z.symm
  have sa := star_match a h5
  have sb := star_match b h6
  unfold swappedStores
  simp only [List.length_cons, List.length_nil, bk, List.any_cons, List.any_nil, sa, sb, List.filterMap_cons, List.filterMap_nil, k1, k2, Expr.pos, pl, h7, h8]
  have ne3 : (y == x) = false := by simp [ne2]
  simp [k1, k2, pl, ne3, List.eraseDups, List.eraseDupsBy, List.eraseDupsBy.loop, Expr.pos]
  intro h
  exfalso
  rcases h with h | h
  · exact absurd (h.symm.trans sa) (by decide)
  · exact absurd (h.symm.trans sb) (by decide)
theorem stores_cell {X : Cx} {q : Sc} (C : CtxOk X N q F) {es : List Expr} {v : Expr} {k : _} {p : Pos} (h : cellTup q (.Tuple es k p) v = true) : swappedStores [.Tuple es k p] v X.env = pure none := by
  unfold cellTup at h
  split at h
  · rename_i x px y py kt pt a b k2 pt2 heq
    cases heq
    have bk : X.env.blockKind = .function := by unfold PySem.Env.blockKind; rw [C.kd]; rfl
    have hc : ∀ z, cellB q z = true → (X.env.kindOf z == some .local) = false := fun z hz => by
      unfold cellB at hz
      split at hz
      · rename_i hz'
        have : X.env.kindOf z = some .cell := by show X.env.scope.names.lookup z = some .cell; rw [C.sc]; exact hz'
        rw [this]; rfl
      · cases hz
    unfold swappedStores
    simp only [List.length_cons, List.length_nil, bk, List.any_cons, List.any_nil, List.filterMap_cons, List.filterMap_nil, Expr.pos]
    rcases Bool.or_eq_true_iff.mp h with h | h
    · have := hc _ h
      simp [this]
      split
      · simp
      · simp
        intro _ h2
        exfalso
        revert h2
        split <;> simp
    · have := hc _ h
      simp [this]
      split
      · simp
      · simp
        intro _ h2
        exfalso
        revert h2
        split <;> simp
  · cases h
theorem stores_two {o i p o' i' p' k pt v env} : swappedStores [.Tuple [.Subscript o i p, .Subscript o' i' p'] k pt] v env = pure none := by
  cases v <;> first | rfl | skip
  rename_i vs k2 p2
  unfold swappedStores
  simp
mutual
theorem snd_S : ∀ (s : S) {X : Cx} {q : Sc} {st : Stmt}, CtxOk X N q F → chkS N q s st = true → SndS X st (ex F s)
  | .asg t e, X, q, st, C, h => by
    unfold chkS at h
    split at h
    · rename_i tg v pos
      cases t with
      | name i =>
        simp only at h
        split at h
        · rename_i x px
          simp only [Bool.and_eq_true, decide_eq_true_eq, Bool.or_eq_true, Bool.not_eq_true'] at h
          obtain ⟨⟨⟨h1, h2⟩, h3⟩, h4⟩ := h
          rcases h4 with (h4 | h4) | h4
          · exact snd_asgN C h1 h2 (swaps_no h4) (snd_E e C h3).1
          · -- a comprehension, stored from within its frame
            cases v with
            | ListComp elt' gens scope pos' =>
              cases e with
              | comp elt t it c vs =>
                unfold chkE at h3
                split at h3
                · rename_i e' tg iter ifs z scope' pos'' heq
                  cases heq
                  simp only [Bool.and_eq_true, decide_eq_true_eq] at h3
                  obtain ⟨⟨⟨⟨⟨⟨⟨⟨rfl, g1⟩, g2⟩, g3⟩, g4⟩, g5⟩, g6⟩, g7⟩, g8⟩ := h3
                  unfold swB at h4
                  simp only [Bool.and_eq_true, Bool.not_eq_true'] at h4
                  obtain ⟨⟨m1, m2⟩, m3⟩ := h4
                  have ll : q.sc.names.lookup x = some .local := by
                    split at m1
                    · assumption
                    · cases m1
                  have ll' : X.env.scope.names.lookup x = some .local := by rw [C.sc]; exact ll
                  obtain ⟨wi, pi, bo, pg, pt, pe, qc⟩ := comp_parts C g1 g2 g3 g4 (snd_I it C g5) (fun C' => snd_T t C' g6) (fun C' => snd_C c C' g7) (fun C' => (snd_E elt C' g8).1)
                  refine ⟨_, ps_setLc C.calm C.nd (by rw [C.N]; exact h1) ll' (sw_true C.kd ll' m2 m3) pi bo pg pt pe (fun x => fold_of g1), fun A H σ ρ o ρ' ft e Dn k => ?_⟩
                  have e' : fAsg (.name i) (fComp t vs (evI F it) (evC F c) (ev F elt)) ρ = some (o, ρ') := e
                  unfold fAsg at e'
                  split at e'
                  · cases e'
                  · rename_i r ρ1 e1
                    simp only [asgR] at e'
                    cases e2 : put i (slotOf r) ρ1 with
                    | none => rw [e2] at e'; cases e'
                    | some ρ2 =>
                      rw [e2] at e'
                      cases e'
                      exact qc A H σ ρ r ρ1 ft e1 _ fun A1 H1 v s1 ok => k A1 H1 _ (set_stp ft s1 ok e2)
                · cases h3
              | comp2 elt t it c0 t1 it1 c vs vs1 =>
                unfold chkE at h3
                split at h3
                · rename_i e' tg iter ifs z tg1 iter1 ifs1 z1 scope' pos'' heq
                  cases heq
                  simp only [Bool.and_eq_true, decide_eq_true_eq] at h3
                  obtain ⟨⟨⟨⟨⟨⟨⟨⟨⟨⟨⟨⟨⟨⟨⟨rfl, rfl⟩, g1⟩, g1'⟩, g2⟩, g3⟩, g4⟩, g5⟩, g6⟩, k1⟩, k2⟩, k3⟩, k4⟩, k5⟩, k6⟩, k7⟩ := h3
                  unfold swB at h4
                  simp only [Bool.and_eq_true, Bool.not_eq_true'] at h4
                  obtain ⟨⟨m1, m2⟩, m3⟩ := h4
                  have ll : q.sc.names.lookup x = some .local := by
                    split at m1
                    · assumption
                    · cases m1
                  have ll' : X.env.scope.names.lookup x = some .local := by rw [C.sc]; exact ll
                  obtain ⟨wi, pi, bo, hv, pg, pt, pi1, pg1, pt1, pe, qc⟩ := comp2_parts C g1 g2 g3 g4 g5 g6 (snd_I it C k1) (fun C' => snd_T t C' k2) (fun C' => snd_C c0 C' k3) (fun C' => snd_I it1 C' k4) (fun C' => snd_T t1 C' k5) (fun C' => snd_C c C' k6) (fun C' => (snd_E elt C' k7).1)
                  refine ⟨_, ps_setLc2 C.calm C.nd (by rw [C.N]; exact h1) ll' (sw_true C.kd ll' m2 m3) pi bo hv pg pt pi1 pg1 pt1 pe (fun x => fold_of g1) (fun env x => fold_of g1'), fun A H σ ρ o ρ' ft e Dn k => ?_⟩
                  have e' : fAsg (.name i) (fComp2 t vs (evI F it) (evC F c0) (evI F it1) t1 vs1 (evC F c) (ev F elt)) ρ = some (o, ρ') := e
                  unfold fAsg at e'
                  split at e'
                  · cases e'
                  · rename_i r ρ1 e1
                    simp only [asgR] at e'
                    cases e2 : put i (slotOf r) ρ1 with
                    | none => rw [e2] at e'; cases e'
                    | some ρ2 =>
                      rw [e2] at e'
                      cases e'
                      exact qc A H σ ρ r ρ1 ft e1 _ fun A1 H1 v s1 ok => k A1 H1 _ (set_stp ft s1 ok e2)
                · cases h3
              | _ =>
                exfalso
                unfold chkE at h3
                first | (cases h3; done) | (split at h3 <;> rename_i heq <;> cases heq)
            | _ => cases h4
          · exact snd_asgN C h1 h2 (swaps_cell C h4) (snd_E e C h3).1
        · cases h
      | tup ts =>
        simp only [Bool.and_eq_true] at h
        obtain ⟨⟨⟨h1, h2⟩, h3⟩, h4⟩ := h
        have ig := snd_T (.tup ts) C h3
        split at h2
        · refine snd_asgT (fun i z => by cases z) swaps_tup ?_ rfl ig (snd_E e C h4).1
          rcases Bool.or_eq_true_iff.mp h1 with h1 | h1
          · exact stores_tup h1
          · exact stores_cell C h1
        · cases h2
    · cases h
  | .par i j a b, X, q, st, C, h => by
    unfold chkS at h
    split at h
    · simp only [Bool.and_eq_true, decide_eq_true_eq] at h
      obtain ⟨⟨⟨⟨⟨h1, h2⟩, h3⟩, h4⟩, h5⟩, h6⟩ := h
      obtain ⟨l1, l2, l3⟩ := stores_par C h4
      have n1 : notStar _ = true := (by
        unfold parB at h4
        simp only [Bool.and_eq_true] at h4
        exact h4.1.1.1.2)
      have n2 : notStar _ = true := (by
        unfold parB at h4
        simp only [Bool.and_eq_true] at h4
        exact h4.1.1.2)
      have hs := sndA_cons n1 (snd_E a C h5).1 (sndA_cons n2 (snd_E b C h6).1 sndA_nil)
      obtain ⟨t, p, hq⟩ := snd_par C h1 h2 h3 l1 l2 l3 hs
      refine ⟨t, p, fun A H σ ρ o ρ' ft e Dn k => hq A H σ ρ o ρ' ft ?_ Dn k⟩
      rw [← e]
      simp only [ex, fPar, fCons]
      cases ev F a ρ with
      | none => rfl
      | some p1 =>
        simp only
        cases ev F b p1.2 with
        | none => rfl
        | some p2 => rfl
    · cases h
  | .aug o i e, X, q, st, C, h => by
    unfold chkS at h
    split at h
    · simp only [Bool.and_eq_true, decide_eq_true_eq] at h
      obtain ⟨⟨⟨⟨rfl, h1⟩, h2⟩, h3⟩, h4⟩ := h
      exact snd_aug C h1 h2 h3 (snd_E e C h4).1
    · cases h
  | .dset i a b e, X, q, st, C, h => by
    unfold chkS at h
    split at h
    · simp only [Bool.and_eq_true] at h
      obtain ⟨⟨⟨⟨⟨⟨⟨h0, h1⟩, h2⟩, h3⟩, h4⟩, h5⟩, h6⟩, h7⟩ := h
      exact snd_dset C h2 (snd_px C a h3 h5) (snd_px C b h4 h6) (plain_of h0) swaps_sub stores_sub (assign_sub h1) (snd_E e C h7).1
    · cases h
  | .dswp i a b, X, q, st, C, h => by
    unfold chkS at h
    split at h
    · simp only [Bool.and_eq_true, decide_eq_true_eq] at h
      obtain ⟨⟨⟨⟨⟨⟨⟨⟨⟨⟨⟨⟨⟨rfl, rfl⟩, rfl⟩, h1⟩, h2⟩, h3⟩, h4⟩, h5⟩, h6⟩, h7⟩, h8⟩, h9⟩, h10⟩, h11⟩ := h
      exact snd_dswp C h1 (snd_px C a h6 h8) (snd_px C b h7 h9) (snd_px C a h6 h10) (snd_px C b h7 h11) (plain_of h4) (plain_of h5) swaps_tup stores_two (assign_sub h2) (assign_sub h3)
    · cases h
  | .dcomp i elt t it c vs, X, q, st, C, h => by
    unfold chkS at h
    split at h
    · rename_i x0 px0 e0 tg0 iter0 ifs0 z0 scope0 p0 pos0
      simp only [Bool.and_eq_true, decide_eq_true_eq, Bool.or_eq_true] at h
      obtain ⟨⟨⟨⟨⟨⟨⟨⟨⟨⟨⟨h1, h2⟩, h4⟩, rfl⟩, g1⟩, g2⟩, g3⟩, g4⟩, g5⟩, g6⟩, g7⟩, g8⟩ := h
      obtain ⟨l1, l2⟩ := loc_of C h2
      obtain ⟨wi, pi, bo, pg, pt, pe, qc⟩ := dcomp_parts (i := i) C g1 g2 g3 g4 (snd_I it C g5) (fun C' => snd_T t C' g6) (fun C' => snd_C c C' g7) (fun C' => (snd_E elt C' g8).1)
      rcases h4 with h4 | h4
      · unfold swB at h4
        simp only [Bool.and_eq_true, Bool.not_eq_true'] at h4
        obtain ⟨⟨m1, m2⟩, m3⟩ := h4
        have ll : q.sc.names.lookup x0 = some .local := by
          split at m1
          · assumption
          · cases m1
        have ll' : X.env.scope.names.lookup x0 = some .local := by rw [C.sc]; exact ll
        refine ⟨_, ps_setLc C.calm C.nd (by rw [C.N]; exact h1) ll' (sw_true C.kd ll' m2 m3) pi bo pg pt pe (fun x => fold_of g1), fun A H σ ρ o ρ' ft e Dn k => ?_⟩
        refine qc A H σ ρ o ρ' ft e _ fun A1 H1 v eo s1 => ?_
        subst eo
        exact k A1 H1 _ s1
      · refine ⟨_, ps_set C.nd (by rw [C.N]; exact h1) l1 (pe_lc C.calm C.nd pi bo pg pt pe (fun x => fold_of g1)) (swaps_cell C h4) l2, fun A H σ ρ o ρ' ft e Dn k => ?_⟩
        refine qc A H σ ρ o ρ' ft e _ fun A1 H1 v eo s1 => ?_
        subst eo
        exact k A1 H1 _ s1
    · cases h
  | .dnew i k v, X, q, st, C, h => by
    unfold chkS at h
    split at h
    · simp only [Bool.and_eq_true, decide_eq_true_eq] at h
      obtain ⟨⟨⟨h1, h2⟩, h3⟩, h4⟩ := h
      exact snd_dnew C h1 h2 (snd_E k C h3).1 (snd_E v C h4).1
    · cases h
  | .dput i k v, X, q, st, C, h => by
    unfold chkS at h
    split at h
    · simp only [Bool.and_eq_true, Bool.not_eq_true'] at h
      obtain ⟨⟨⟨h1, h2⟩, h3⟩, h4⟩ := h
      exact snd_dput C h1 (swaps_no h2) (snd_E k C h3).1 (snd_E v C h4).1
    · cases h
  | .tcpy i a, X, q, st, C, h => by
    unfold chkS at h
    split at h
    · simp only [Bool.and_eq_true, decide_eq_true_eq] at h
      obtain ⟨⟨⟨⟨⟨h1, h2⟩, rfl⟩, h3⟩, h4⟩, h5⟩ := h
      exact snd_tcpy C h1 h2 h3 h4 (snd_E a C h5).1
    · cases h
  | .tput i k v, X, q, st, C, h => by
    unfold chkS at h
    split at h
    · simp only [Bool.and_eq_true, Bool.not_eq_true'] at h
      obtain ⟨⟨⟨h1, h2⟩, h3⟩, h4⟩ := h
      exact snd_tput C h1 (swaps_no h2) (snd_E k C h3).1 (snd_E v C h4).1
    · cases h
  | .rse, X, q, st, C, h => by
    unfold chkS at h
    split at h
    · exact snd_rse
    · cases h
  | .setIx i ix e, X, q, st, C, h => by
    unfold chkS at h
    split at h
    · simp only [Bool.and_eq_true] at h
      obtain ⟨⟨⟨h1, h2⟩, h3⟩, h4⟩ := h
      exact snd_setIx C h1 swaps_sub stores_sub (assign_sub h2) (snd_E ix C h3).1 (snd_E e C h4).1
    · cases h
  | .augIx o i ix e, X, q, st, C, h => by
    unfold chkS at h
    split at h
    · simp only [Bool.and_eq_true, decide_eq_true_eq] at h
      obtain ⟨⟨⟨⟨⟨rfl, h1⟩, h2⟩, h3⟩, h4⟩, h5⟩ := h
      exact snd_augIx C h1 h2 (aug_sub h3) (snd_E ix C h4).1 (snd_E e C h5).1
    · cases h
  | .ex e, X, q, st, C, h => by
    unfold chkS at h
    split at h
    · simp only [Bool.and_eq_true, Bool.not_eq_true'] at h
      exact snd_ex h.1 (snd_E e C h.2).1
    · cases h
  | .ret e, X, q, st, C, h => by
    unfold chkS at h
    split at h
    · rename_i v pos
      cases e with
      | var i =>
        unfold chkE at h
        split at h
        · exact snd_retV C h
        · cases h
      | _ => exact snd_ret (snd_E _ C h).1
    · cases h
  | .retN, X, q, st, C, h => by
    unfold chkS at h
    split at h
    · exact snd_retN
    · cases h
  | .brk, X, q, st, C, h => by
    unfold chkS at h
    split at h
    · exact snd_brk
    · cases h
  | .cont, X, q, st, C, h => by
    unfold chkS at h
    split at h
    · exact snd_cont
    · cases h
  | .pass, X, q, st, C, h => by
    unfold chkS at h
    split at h
    · exact snd_pass
    · cases h
  | .ife c a b, X, q, st, C, h => by
    unfold chkS at h
    split at h
    · simp only [Bool.and_eq_true] at h
      obtain ⟨⟨h1, h2⟩, h3⟩ := h
      exact snd_ife (snd_E c C h1).2.1 (snd_Ss a C h2) (snd_Ss b C h3)
    · cases h
  | .whl n c b, X, q, st, C, h => by
    unfold chkS at h
    split at h
    · simp only [Bool.and_eq_true] at h
      exact snd_whl C n (snd_E c C h.1).2.1 (snd_Ss b C h.2)
    · cases h
  | .forr t it b, X, q, st, C, h => by
    unfold chkS at h
    split at h
    · simp only [Bool.and_eq_true] at h
      obtain ⟨⟨⟨h1, h2⟩, h3⟩, h4⟩ := h
      rename_i tg iter b' pos
      exact snd_for C (by cases iter <;> first | rfl | cases h1) (snd_I it C h2) (snd_T t C h3) (snd_Ss b C h4)
    · cases h
theorem snd_Ss : ∀ (s : Ss) {X : Cx} {q : Sc} {st : List Stmt}, CtxOk X N q F → chkSs N q s st = true → SndSs X st (exs F s)
  | .nil, X, q, st, C, h => by
    unfold chkSs at h
    split at h
    · exact sndSs_nil
    · cases h
  | .cons s ss, X, q, st, C, h => by
    unfold chkSs at h
    split at h
    · rw [Bool.and_eq_true] at h
      exact sndSs_cons (snd_S s C h.1) (snd_Ss ss C h.2)
    · cases h
end
end
end Ev

set_option maxRecDepth 100000
/-! Ev17: defs by level. -/
namespace Ev
open PySem L2
variable [TheK]
theorem kinds_at : ∀ {ks args} {i : Nat} {s : Slot}, kindsB ks args = true → args[i]? = some s → (mutS s = true → ks[i]? = some .M ∧ ∃ ds, s = .mu ds) ∧ s ≠ .un ∧ (∀ ds, s ≠ .lent ds) ∧ (ks[i]? = some .M → ∃ ds, s = .mu ds)
  | [], [], i, s, _, h => by simp at h
  | [], _ :: _, i, s, hk, h => by cases hk
  | k :: ks, [], i, s, hk, h => by cases k <;> cases hk
  | k :: ks, t :: args, 0, s, hk, h => by
    simp at h; subst h
    cases k <;> cases t <;> first | (cases hk; done) | (simp [mutS])
  | k :: ks, t :: args, i + 1, s, hk, h => by
    have hk' : kindsB ks args = true := by cases k <;> cases t <;> first | (cases hk; done) | exact hk
    simpa using kinds_at hk' (by simpa using h)
theorem kinds_nodp : ∀ {ks args} {i : Nat} {k d}, kindsB ks args = true → args[i]? = some (Slot.dp k d) → False
  | [], [], i, _, _, _, h => by simp at h
  | [], _ :: _, i, _, _, hk, h => by cases hk
  | k :: ks, [], i, _, _, hk, h => by cases k <;> cases hk
  | k :: ks, t :: args, 0, _, _, hk, h => by
    simp at h; subst h
    cases k <;> cases hk
  | k :: ks, t :: args, i + 1, _, _, hk, h => by
    have hk' : kindsB ks args = true := by cases k <;> cases t <;> first | (cases hk; done) | exact hk
    exact kinds_nodp hk' (by simpa using h)
theorem kinds_len : ∀ {ks args}, kindsB ks args = true → args.length = ks.length
  | [], [], _ => rfl
  | [], _ :: _, hk => by cases hk
  | k :: ks, [], hk => by cases k <;> cases hk
  | k :: ks, t :: args, hk => by
    have hk' : kindsB ks args = true := by cases k <;> cases t <;> first | (cases hk; done) | exact hk
    simp [kinds_len hk']
/-- the frame at its entry -/
theorem fit_start {A H} {N : List Str} {vs : List V} {args : List Slot} (f : Fit A H (vs.map some) args) (hN : args.length ≤ N.length) : Fit A H (start N vs) (args ++ List.replicate (N.length - args.length) .un) := by
  have hl : vs.length = args.length := by have := f.len; rwa [List.length_map] at this
  have inv : ∀ (i : Nat) (s : Slot), (args ++ List.replicate (N.length - args.length) .un)[i]? = some s → s = .un ∨ (args[i]? = some s ∧ (start N vs)[i]? = (vs.map some)[i]?) := fun i s h => by
    by_cases hi : i < args.length
    · rw [List.getElem?_append_left hi] at h
      refine .inr ⟨h, ?_⟩
      unfold L2.start
      rw [List.getElem?_append_left (by rw [List.length_map, hl]; exact hi)]
    · rw [List.getElem?_append_right (by omega)] at h
      exact .inl (List.eq_of_mem_replicate (List.mem_of_getElem? h))
  refine ⟨?_, fun i s ov h1 h2 => ?_, fun i j s t a ij h1 h2 h3 h4 h5 h6 => ?_, f.trk, f.prv_go (fun i k d h => ?_) (fun _ _ _ z => z) (fun _ _ _ z => z) fun j s a h1 h2 h3 => ?_⟩
  · unfold L2.start
    rw [List.length_append, List.length_map, List.length_replicate, List.length_append, List.length_replicate, hl]
  · rcases inv i s h1 with rfl | ⟨z, e⟩
    · trivial
    · rw [e] at h2; exact f.slot i s ov z h2
  · rcases inv i s h1 with rfl | ⟨z, e⟩
    · cases h3
    · rcases inv j t h2 with rfl | ⟨z', e'⟩
      · cases h4
      · rw [e] at h5; rw [e'] at h6
        exact f.apart i j s t a ij z z' h3 h4 h5 h6
  · rcases inv i _ h with e | z
    · cases e
    · exact z
  · rcases inv j s h1 with rfl | ⟨z, e⟩
    · cases h2
    · rw [e] at h3; exact .inl ⟨j, s, z, h2, h3⟩
theorem mut_start {N : List Str} {vs : List V} {args : List Slot} {a : Addr} (hl : vs.length = args.length) (m : Mut (start N vs) (args ++ List.replicate (N.length - args.length) .un) a) : Mut (vs.map some) args a := by
  obtain ⟨i, s, h1, h2, h3⟩ := m
  by_cases hi : i < args.length
  · rw [List.getElem?_append_left hi] at h1
    unfold L2.start at h3
    rw [List.getElem?_append_left (by rw [List.length_map, hl]; exact hi)] at h3
    exact ⟨i, s, h1, h2, h3⟩
  · rw [List.getElem?_append_right (by omega)] at h1
    cases List.eq_of_mem_replicate (List.mem_of_getElem? h1)
    cases h2
theorem start_at {N : List Str} {vs : List V} {i : Nat} {v : V} (h : vs[i]? = some v) : (start N vs)[i]? = some (some v) := by
  unfold L2.start
  have hi := (List.getElem?_eq_some_iff.mp h).1
  rw [List.getElem?_append_left (by rw [List.length_map]; exact hi), List.getElem?_map, h]
  rfl
/-- the lists behind the def's run -/
theorem outs_ok {A H} : ∀ {ks : List PK} {vs : List V} {σ : St} {ρ : Env} {outs}, outsOf ks ρ = some outs → vs.length = ks.length →
    (∀ (i : Nat) (v : V) (ds : List D), vs[i]? = some v → ks[i]? = some .M → ρ[i]? = some (.mu ds) → ∃ a ws, v = .ref a ∧ H a = some (.lst ws) ∧ ws.length ≤ sizeLine ∧ RepAll A H ws ds ∧ ¬ A a) → OutsOk A H ks vs outs
  | [], [], _, _, outs, e, _, _ => by simp [outsOf] at e; subst e; trivial
  | [], _ :: _, _, _, outs, e, hl, _ => by simp at hl
  | k :: ks, [], _, _, outs, e, hl, _ => by simp at hl
  | k :: ks, v :: vs, σ, ρ, outs, e, hl, h => by
    have hl' : vs.length = ks.length := by simpa using hl
    cases ρ with
    | nil => cases k <;> simp [outsOf] at e
    | cons s ρ =>
      have ih := fun outs e => outs_ok (σ := σ) (ks := ks) (vs := vs) (ρ := ρ) (outs := outs) e hl' fun i w ds h1 h2 h3 => h (i + 1) w ds (by simpa using h1) (by simpa using h2) (by simpa using h3)
      cases k with
      | B => exact ih outs (by cases s <;> exact e)
      | I => exact ih outs (by cases s <;> exact e)
      | M =>
        cases s with
        | mu ds =>
          simp only [outsOf] at e
          cases e1 : outsOf ks ρ with
          | none => rw [e1] at e; cases e
          | some r =>
            rw [e1] at e
            cases e
            exact ⟨h 0 v ds rfl rfl rfl, ih r e1⟩
        | _ => simp [outsOf] at e
theorem run_fin {A H N D0} {vs : List V} {args : List Slot} {r outs} {F : FT} {Q : VK} (f : Fit A H (vs.map some) args) (hN : args.length ≤ N.length) (hn : N.length = (D0 : Def).N.length) (e : runD F D0 args = some (r, outs))
    (k : ∀ (A' : Addr → Prop) (H' : Hp) (v : V), (∀ a, A a → A' a) → (∀ a o, H a = some o → ¬ Mut (vs.map some) args a → H' a = some o) → (∀ a, H' a = none → H a = none) →
      (∀ a, A' a → A a ∨ H a = none ∨ ∃ vs, H a = some (HO.tup vs)) → (∀ a, A' a → ∃ o, H' a = some o) → RetOk A' H H' v r → OutsOk A' H' D0.ks vs outs → Q v H') :
    ∃ o ρ', exs F D0.body (args ++ List.replicate (N.length - args.length) .un) = some (o, ρ') ∧ Kont A H (start N vs) (args ++ List.replicate (N.length - args.length) .un) { nx := fun _ H' => Q .non H', rt := Q } ρ' o := by
  have hl : vs.length = args.length := by have := f.len; rwa [List.length_map] at this
  unfold runD at e
  split at e
  · cases e
  · rename_i hk
    have hk : kindsB D0.ks args = true := by simpa using hk
    have hlk := kinds_len hk
    have np : ∀ a, ¬ Prv H (start N vs) (args ++ List.replicate (N.length - args.length) .un) a := fun a ⟨i, kk, d, v, h1, _, _⟩ => by
      by_cases hi : i < args.length
      · rw [List.getElem?_append_left hi] at h1
        exact kinds_nodp hk h1
      · rw [List.getElem?_append_right (by omega)] at h1
        cases List.eq_of_mem_replicate (List.mem_of_getElem? h1)
    rw [← hn] at e
    have go : ∀ (A' : Addr → Prop) (H' : Hp) (σ' : St) (ρ' : Env) (v : V) (r' : Res), Stp A H (start N vs) (args ++ List.replicate (N.length - args.length) .un) A' H' σ' ρ' → RtOk A' H H' σ' ρ' v r' → r' = r → outsOf D0.ks ρ' = some outs → Q v H' := fun A' H' σ' ρ' v r' s rt er eo => by
      subst er
      have at_args : ∀ (i : Nat) (t : Slot), args[i]? = some t → (args ++ List.replicate (N.length - args.length) .un)[i]? = some t := fun i t h => by
        rw [List.getElem?_append_left (List.getElem?_eq_some_iff.mp h).1]; exact h
      -- what is Mut at the entry is a parameter's list, and stays that
      have mutP : ∀ a, Mut (start N vs) (args ++ List.replicate (N.length - args.length) .un) a → ∃ (i : Nat) (ds' : List D), ρ'[i]? = some (.mu ds') ∧ σ'[i]? = some (some (.ref a)) := fun a m => by
        obtain ⟨i, t, h1, h2, h3⟩ := mut_start hl m
        obtain ⟨_, ds, rfl⟩ := (kinds_at hk h1).1 h2
        obtain ⟨e1, ds', e2⟩ := s.mus i ds (at_args i _ h1)
        have : vs[i]? = some (.ref a) := by
          rw [List.getElem?_map] at h3
          cases q : vs[i]? with
          | none => rw [q] at h3; cases h3
          | some v => rw [q] at h3; cases h3; rfl
        exact ⟨i, ds', e2, by rw [e1]; exact start_at this⟩
      refine k A' H' v s.ext (fun a o h n => s.frame a o h (fun m => n (mut_start hl m)) (np a)) s.dom (fun a h => ?_) s.fit.trk ?_ ?_
      · rcases s.news a h with z | z | z | z | ⟨i, ds, z1, z2⟩ | z
        · exact .inl z
        · exact .inr (.inl z)
        · obtain ⟨i, ds', z1, z2⟩ := mutP a z
          exact absurd h ((s.fit.slot i _ _ z1 z2).nofz rfl)
        · exact absurd z (np a)
        · by_cases hi : i < args.length
          · rw [List.getElem?_append_left hi] at z1
            exact absurd rfl ((kinds_at hk z1).2.2.1 ds)
          · rw [List.getElem?_append_right (by omega)] at z1
            cases List.eq_of_mem_replicate (List.mem_of_getElem? z1)
        · exact .inr (.inr z)
      · cases r' with
        | fr d => exact rt
        | nw ds =>
          obtain ⟨a, ws, h1, h2, h3, h4, h5, h6⟩ := rt
          refine ⟨a, ws, h1, h2, h3, h4, h5, ?_⟩
          rcases h6 with z | ⟨i, z1, z2⟩
          · exact z
          · rcases s.sub a ⟨i, _, z1, rfl, z2⟩ with m | m | m
            · obtain ⟨j, ds', y1, y2⟩ := mutP a m
              have ij : i ≠ j := fun z => by subst z; rw [z1] at y1; cases y1
              exact (s.fit.apart i j _ _ a ij z1 y1 rfl rfl z2 y2).elim
            · exact absurd m (np a)
            · exact m
      · refine outs_ok (σ := σ') eo (by rw [hl, hlk]) fun i v ds h1 h2 h3 => ?_
        have hi : i < args.length := by rw [← hl]; exact (List.getElem?_eq_some_iff.mp h1).1
        obtain ⟨ds0, h4⟩ := (kinds_at hk (List.getElem?_eq_getElem hi)).2.2.2 h2
        obtain ⟨e1, _⟩ := s.mus i ds0 (at_args i _ (by rw [List.getElem?_eq_getElem hi, h4]))
        rw [start_at h1] at e1
        obtain ⟨a, ws, z1, z2⟩ := s.fit.slot i _ _ h3 e1
        cases z1
        exact ⟨a, ws, rfl, z2⟩
    split at e
    · rename_i r' ρ' e1
      cases e2 : outsOf D0.ks ρ' with
      | none => rw [e2] at e; cases e
      | some o =>
        rw [e2] at e
        cases e
        exact ⟨_, ρ', e1, fun A' H' σ' v s rt => go A' H' σ' ρ' v r s rt rfl e2⟩
    · rename_i ρ' e1
      cases e2 : outsOf D0.ks ρ' with
      | none => rw [e2] at e; cases e
      | some o =>
        rw [e2] at e
        cases e
        exact ⟨_, ρ', e1, fun A' H' σ' s => go A' H' σ' ρ' .non (.fr .none) s .none rfl e2⟩
    · cases e

/-! ### the table -/
def namesOf (l : List String) : List Str := l.map Str.ofString
/-- a def of the table stands in the module as the syntax st -/
structure DefOk (K : PySem.W.Frag) (mg : Str → Option Value) (gcd : Bool) (d : Def) (st : Stmt) (ps : List Str) (f : Addr) (fd : FuncData) : Prop where
  at_ : mg (Str.ofString d.name) = some (.ref f)
  fn : FunD K (Str.ofString d.name) (Str.ofString d.name) (defArgs st) (defBody st) (defScope st) [] [] f fd
  bnd : Binds K fd ps []
  sc : FnScope (namesOf d.N) ps (defScope st)
  len : ps.length = d.ks.length
  lenN : d.ks.length ≤ d.N.length
  chk : chkSs (namesOf d.N) ⟨defScope st, fun _ => true, gcd⟩ d.body (defBody st) = true
def TabOk (K : PySem.W.Frag) (mg : Str → Option Value) (gcd : Bool) (T : Tab) : Prop := ∀ d ∈ T, ∃ st ps f fd, DefOk K mg gcd d st ps f fd
structure ModOk (K : PySem.W.Frag) (mg : Str → Option Value) (gcd : Bool) : Prop where
  kk : TheK.K = K
  bl : ∀ x, x ∈ bltNames → mg (Str.ofString x) = none
  gc : gcd = true → mg (Str.ofString "gcd") = some (.builtin "math.gcd")
section
variable {P : Program} {w : World} {K : PySem.W.Frag} {mg : Str → Option Value} {base : Heap} {gcd : Bool}
theorem def_ok {T : Tab} {d : Def} {st ps f fd} {k : Nat} (M : ModOk K mg gcd) (h : DefOk K mg gcd d st ps f fd)
    (ih : ∀ g ks fn, callF T k g = some (ks, fn) → ∃ (fa : Addr) (fd : FuncData) (ps : List Str), mg (Str.ofString g) = some (.ref fa) ∧ PySem.W.keepIn K (.ref fa) = true ∧ Binds K fd ps [] ∧ FnOk P w K mg base CX0 k fa fd ps (spOf ks fn)) :
    FnOk P w K mg base CX0 (k + 1) f fd ps (spOf d.ks (runD (callF T k) d)) := by
  refine h.fn.ok h.sc (fun vs H Q E hs => by rw [h.len]; exact hs.1) fun cdv A outer s H vs Q E hr hs => ?_
  obtain ⟨hl, Az, args, r, outs, ft, e, kk⟩ := hs
  have C : CtxOk (cxOf CX0 P w K mg base (namesOf d.N) (Str.ofString d.name) (defScope st) f cdv A outer s H E).nox (namesOf d.N) ⟨defScope st, fun _ => true, gcd⟩ (callF T k) :=
    { N := rfl, nd := h.sc.nd, sc := rfl, fn := rfl, calm := rfl, nox := rfl, bl := M.bl, un := (by
        have := hr.un
        show (A.deeper (PyProof.Rows.envOfC (Str.ofString d.name) (defScope st) s.heap.objs.size f cdv)).units + 65 < cLine
        omega), kk := M.kk, kd := h.sc.kind, gc := M.gc
      fns := fun g ks fn hg => by
        obtain ⟨fa, fd', ps', z1, z2, z3, z4⟩ := ih g ks fn hg
        exact ⟨fa, fd', ps', k, z1, z2, z3, hr, z4⟩ }
  obtain ⟨t, pt, qt⟩ := snd_Ss d.body C h.chk
  have hal : args.length = vs.length := by have := ft.len; rw [List.length_map] at this; exact this.symm
  have hN : args.length ≤ (namesOf d.N).length := by
    rw [hal, hl]; unfold namesOf; rw [List.length_map]; exact h.lenN
  obtain ⟨o, ρ', e1, k1⟩ := run_fin ft hN (by unfold namesOf; rw [List.length_map]) e kk
  exact ⟨t, pt.nox, qt Az H _ _ o ρ' (fit_start ft hN) e1 _ k1⟩
theorem tab_ok {T : Tab} (M : ModOk K mg gcd) (h : TabOk K mg gcd T) : ∀ k g ks fn, callF T k g = some (ks, fn) → ∃ (fa : Addr) (fd : FuncData) (ps : List Str), mg (Str.ofString g) = some (.ref fa) ∧ PySem.W.keepIn K (.ref fa) = true ∧ Binds K fd ps [] ∧ FnOk P w K mg base CX0 k fa fd ps (spOf ks fn)
  | 0, g, ks, fn, e => by simp [callF] at e
  | k + 1, g, ks, fn, e => by
    simp only [callF] at e
    split at e
    · cases e
    · rename_i d hd
      cases e
      have hm : d ∈ T := List.mem_of_find?_eq_some hd
      have hn : d.name = g := by have := List.find?_some hd; simpa using this
      obtain ⟨st, ps, f, fd, ok⟩ := h d hm
      subst hn
      exact ⟨f, fd, ps, ok.at_, ok.fn.kp, ok.bnd, def_ok M ok fun g' ks' fn' e' => tab_ok M h k g' ks' fn' e'⟩
/-- the law's call, of a script -/
theorem law_sp {fn : Fn} {H : Hp} {a : Addr} {ns : List Int} {K : PySem.W.Frag} (kk : TheK.K = K) (hl : ns.length ≤ sizeLine) (hO : Only H) (hS : SqL K H a (ns.map V.int)) (e : fn [.ro (ns.map .int)] = some (.fr (.bool true), [])) :
    spOf [.B] fn [.ref a] H (fun v _ => v = .bl true) fun _ _ _ => False := by
  refine ⟨rfl, fun _ => False, [.ro (ns.map .int)], .fr (.bool true), [], ⟨rfl, fun i s ov h1 h2 => ?_, fun i j s t b ij h1 h2 h3 => ?_, fun _ z => z.elim, fun i k d v a h1 => ?_⟩, e, fun A' H' v _ _ _ _ _ r _ => by cases r; rfl⟩
  · cases i with
    | zero =>
      simp at h1 h2
      subst h1 h2
      refine ⟨a, ns.map V.int, rfl, ?_, by rw [List.length_map]; exact hl, rep_ints ns⟩
      rcases hS with (hS | ⟨o, hS⟩) | hS
      · rcases hO a with z | ⟨o, xs, z⟩
        · rw [hS] at z; cases z
        · rw [hS] at z; cases z
      · exact .inl ⟨o, hS⟩
      · exact .inr (by rw [kk]; exact hS)
    | succ i => simp at h1
  · cases i with
    | zero => simp at h1; subst h1; cases h3
    | succ i => simp at h1
  · cases i with
    | zero => simp at h1
    | succ i => simp at h1
end
end Ev

set_option maxRecDepth 100000
/-! Ev18: the head's facts for a table of defs. -/
namespace Ev
open PySem L2
def gcdB (K : PySem.W.Frag) : Bool := He.eqO (PySem.W.nsIn K mainGlobals (Str.ofString "gcd")) (some (some (.builtin "math.gcd")))
abbrev AlG : Type := He.AlD × Bool
def obsGG (n : Nat) (fa : List He.Fa) (fn : List He.DefD) (g : Bool) (h : Addr → Option Obj) : AlG := (He.obsDG n fa fn h, !g || gcdB (He.frG h (He.asD h n)))
def SaysG (fa : List He.Fa) (fn : List He.DefD) (g : Bool) (K : PySem.W.Frag) : Prop := He.SaysD fa fn K ∧ (!g || gcdB K) = true
def hookG (n : Nat) (fa : List He.Fa) (fn : List He.DefD) (g : Bool) : PySem.W.Hook where
  α := AlG
  obs := fun s => obsGG n fa fn g s.heap.get?
  val := fun _ => (He.valD fn, true)
  says := fun _ h => ∃ K : PySem.W.Frag, K.In h ∧ SaysG fa fn g K
  of := fun _ _ e => ⟨_, He.frG_in, congrArg (fun z : AlG => z.1) e, congrArg (fun z : AlG => z.2) e⟩
  keeps := fun _ _ _ ⟨K, hK, c⟩ k => ⟨K, PySem.W.Frag.In.keeps hK k, c⟩
theorem obsGG_eq {n : Nat} {fa : List He.Fa} {fn : List He.DefD} {g : Bool} {h : Addr → Option Obj} {s : Shared} (e : ∀ a, h a = s.heap.get? a) : obsGG n fa fn g h = (hookG n fa fn g).obs s := by
  have e : h = s.heap.get? := funext e
  rw [e] <;> rfl
section
variable [TheK] {P : Program} {w : World} {K : PySem.W.Frag} {h : Heap} {mg : Str → Option Value} {base : Heap} {g : Bool}
theorem mod_ok {fa : List He.Fa} {fn : List He.DefD} (kk : TheK.K = K) (X : K.In h) (G : h.Ns mainGlobals mg) (c : SaysG fa fn g K) (hb : ∀ x, x ∈ bltNames → ∃ i : Nat, fa[i]? = some (He.Fa.free (Str.ofString x))) : ModOk K mg g where
  kk := kk
  bl := fun x hx => by
    obtain ⟨i, hi⟩ := hb x hx
    exact He.free_ok X G (c.1.fact i hi)
  gc := fun hg => by
    have := c.2
    rw [hg] at this
    exact PySem.W.mg_of X G (He.eqO_ok this)
theorem law_fn {T : Tab} {d : Def} {st ps f fd} {k : Nat} (M : ModOk K mg g) (TB : TabOk K mg g T) (h : DefOk K mg g d st ps f fd) : FnOk P w K mg base CX0 (k + 1) f fd ps (spOf d.ks (runD (callF T k) d)) :=
  def_ok M h (tab_ok M TB k)
end
end Ev

set_option maxRecDepth 100000
/-! Lw: the evaluator's equations as simp rules that go step by step: what comes behind a step is not looked at before the step has its value. -/
namespace Ev
open PySem L2
/-! ### combinators: what comes behind stands in an instance, at which simp does not look -/
class Kt (α β : Type) where
  f : α → Option β
class K2 (β : Type) where
  a : Option β
  b : Option β
def bd {α β : Type} (x : Option α) [k : Kt α β] : Option β := match x with
  | none => none
  | some a => k.f a
@[simp] theorem bd_some {α β : Type} (a : α) [k : Kt α β] : bd (some a) (k := k) = k.f a := id rfl
@[simp] theorem bd_none {α β : Type} [k : Kt α β] : bd none (k := k) = none := id rfl
open Classical in
noncomputable def gd {β : Type} (c : Prop) (x : Option β) : Option β := if c then x else none
theorem if_gd {β : Type} (c : Prop) [Decidable c] (x : Option β) : (if c then x else none) = gd c x := by
  unfold gd; by_cases h : c <;> simp [h]
@[simp] theorem gd_pos {β : Type} {c : Prop} {x : Option β} (h : c) : gd c x = x := if_pos h
def brB {β : Type} (t : Bool) [k : K2 β] : Option β := match t with
  | true => k.a
  | false => k.b
@[simp] theorem brB_true {β : Type} [k : K2 β] : brB true (k := k) = k.a := id rfl
@[simp] theorem brB_false {β : Type} [k : K2 β] : brB false (k := k) = k.b := id rfl
def iteR (t : Bool) [k : K2 (Res × Env)] : Option (Res × Env) := brB t
@[simp] theorem iteR_true [k : K2 (Res × Env)] : iteR true (k := k) = k.a := id rfl
@[simp] theorem iteR_false [k : K2 (Res × Env)] : iteR false (k := k) = k.b := id rfl
def andR (t : Bool) (A : Option (Res × Env)) (ρ : Env) : Option (Res × Env) := match t with
  | true => A
  | false => some (.fr (.bool false), ρ)
@[simp] theorem andR_true (A ρ) : andR true A ρ = A := id rfl
@[simp] theorem andR_false (A ρ) : andR false A ρ = some (.fr (.bool false), ρ) := id rfl
@[simp] theorem andR_some (t u ρ) : andR t (some (.fr (.bool u), ρ)) ρ = some (.fr (.bool (t && u)), ρ) := by cases t <;> rfl
def orR (t : Bool) (A : Option (Res × Env)) (ρ : Env) : Option (Res × Env) := match t with
  | true => some (.fr (.bool true), ρ)
  | false => A
@[simp] theorem orR_true (A ρ) : orR true A ρ = some (.fr (.bool true), ρ) := id rfl
@[simp] theorem orR_false (A ρ) : orR false A ρ = A := id rfl
@[simp] theorem orR_some (t u ρ) : orR t (some (.fr (.bool u), ρ)) ρ = some (.fr (.bool (t || u)), ρ) := by cases t <;> rfl
def intR : Res → Option Int
  | .fr (.int i) => some i
  | _ => none
@[simp] theorem intR_int (i) : intR (.fr (.int i)) = some i := id rfl
def boolR : Res → Option Bool
  | .fr (.bool i) => some i
  | _ => none
@[simp] theorem boolR_bool (i) : boolR (.fr (.bool i)) = some i := id rfl
def sq (x : Option (Out × Env)) [k : Kt Env (Out × Env)] : Option (Out × Env) := match x with
  | some (.next, ρ) => k.f ρ
  | x => x
@[simp] theorem sq_next (ρ) [k : Kt Env (Out × Env)] : sq (some (.next, ρ)) (k := k) = k.f ρ := id rfl
@[simp] theorem sq_ret (r ρ) [k : Kt Env (Out × Env)] : sq (some (.ret r, ρ)) (k := k) = some (.ret r, ρ) := id rfl
@[simp] theorem sq_brk (ρ) [k : Kt Env (Out × Env)] : sq (some (.brk, ρ)) (k := k) = some (.brk, ρ) := id rfl
@[simp] theorem sq_cont (ρ) [k : Kt Env (Out × Env)] : sq (some (.cont, ρ)) (k := k) = some (.cont, ρ) := id rfl
/-- behind a loop's turn -/
def fq (x : Option (Out × Env)) [k : Kt Env (Out × Env)] : Option (Out × Env) := match x with
  | none => none
  | some (.next, ρ) => k.f ρ
  | some (.cont, ρ) => k.f ρ
  | some (.brk, ρ) => some (.next, ρ)
  | some (.ret r, ρ) => some (.ret r, ρ)
@[simp] theorem fq_next (ρ) [k : Kt Env (Out × Env)] : fq (some (.next, ρ)) (k := k) = k.f ρ := id rfl
@[simp] theorem fq_cont (ρ) [k : Kt Env (Out × Env)] : fq (some (.cont, ρ)) (k := k) = k.f ρ := id rfl
@[simp] theorem fq_brk (ρ) [k : Kt Env (Out × Env)] : fq (some (.brk, ρ)) (k := k) = some (.next, ρ) := id rfl
@[simp] theorem fq_ret (r ρ) [k : Kt Env (Out × Env)] : fq (some (.ret r, ρ)) (k := k) = some (.ret r, ρ) := id rfl
@[simp] theorem forL_nil (b ρ) : forL b [] ρ = some (.next, ρ) := id rfl
@[simp] theorem forL_cons (b d ds ρ) : forL b (d :: ds) ρ = fq (b d ρ) (k := ⟨fun ρ2 => forL b ds ρ2⟩) := by
  rw [forL]; rcases b d ρ with _ | ⟨o, ρ2⟩
  · rfl
  · cases o <;> rfl
def getAll (ρ : Env) : List Opd → Option (List D)
  | [] => some []
  | o :: os => bd (o.get ρ) (k := ⟨fun d => bd (getAll ρ os) (k := ⟨fun ds => some (d :: ds)⟩)⟩)
theorem mapM_get (ρ : Env) : ∀ l : List Opd, l.mapM (Opd.get ρ) = getAll ρ l
  | [] => rfl
  | o :: l => by
    rw [List.mapM_cons, mapM_get ρ l, getAll]
    cases Opd.get ρ o <;> cases getAll ρ l <;> rfl
@[simp] theorem getAll_nil (ρ) : getAll ρ [] = some [] := id rfl
@[simp] theorem getAll_cons (ρ o l) : getAll ρ (o :: l) = bd (o.get ρ) (k := ⟨fun d => bd (getAll ρ l) (k := ⟨fun ds => some (d :: ds)⟩)⟩) := id rfl
theorem map_bd {α β : Type} (x : Option α) (f : α → β) : x.map f = bd x (k := ⟨fun a => some (f a)⟩) := by cases x <;> rfl
theorem bind_bd {α β : Type} (x : Option α) (f : α → Option β) : x.bind f = bd x (k := ⟨f⟩) := by cases x <;> rfl
@[simp] theorem sizeLine_eq : sizeLine = 16777216 := by decide

/-! ### expressions -/
section
variable {F : FT} {ρ : Env}
@[simp] theorem ev_var (i) : ev F (.var i) ρ = freeze i ρ := by simp only [ev]
@[simp] theorem ev_int (n) : ev F (.int n) ρ = some (.fr (.int n), ρ) := by simp only [ev]
@[simp] theorem ev_bl (b) : ev F (.bl b) ρ = some (.fr (.bool b), ρ) := by simp only [ev]
@[simp] theorem ev_non : ev F .non ρ = some (.fr .none, ρ) := by simp only [ev]
@[simp] theorem ev_str (s) : ev F (.str s) ρ = some (.fr (.str (Str.ofString s)), ρ) := by simp only [ev]
@[simp] theorem ev_bin (o a b) : ev F (.bin o a b) ρ = bd (opd a (ev F a) ρ) (k := ⟨fun p => bd (opd b (ev F b) p.2) (k := ⟨fun q => bd (p.1.get q.2) (k := ⟨fun da => bd (q.1.get q.2) (k := ⟨fun db => bd (dBin o da db) (k := ⟨fun r => some (r, q.2)⟩)⟩)⟩)⟩)⟩) := by
  simp only [ev]
  rcases opd a (ev F a) ρ with _ | ⟨oa, ρ1⟩
  · rfl
  · simp only [bd_some]
    rcases opd b (ev F b) ρ1 with _ | ⟨ob, ρ2⟩
    · rfl
    · simp only [bd_some]
      cases Opd.get ρ2 oa <;> cases Opd.get ρ2 ob <;> simp [map_bd]
@[simp] theorem ev_cmp (o a b) : ev F (.cmp o a b) ρ = bd (opd a (ev F a) ρ) (k := ⟨fun p => bd (opd b (ev F b) p.2) (k := ⟨fun q => bd (p.1.get q.2) (k := ⟨fun da => bd (q.1.get q.2) (k := ⟨fun db => bd (dCmp o da db) (k := ⟨fun r => some (.fr (.bool r), q.2)⟩)⟩)⟩)⟩)⟩) := by
  simp only [ev]
  rcases opd a (ev F a) ρ with _ | ⟨oa, ρ1⟩
  · rfl
  · simp only [bd_some]
    rcases opd b (ev F b) ρ1 with _ | ⟨ob, ρ2⟩
    · rfl
    · simp only [bd_some]
      cases Opd.get ρ2 oa <;> cases Opd.get ρ2 ob <;> simp [map_bd]
@[simp] theorem ev_neg (a) : ev F (.neg a) ρ = bd (ev F a ρ) (k := ⟨fun p => bd (intR p.1) (k := ⟨fun i => some (.fr (.int (-i)), p.2)⟩)⟩) := by
  simp only [ev]
  rcases ev F a ρ with _ | ⟨r, ρ1⟩
  · rfl
  · rcases r with d | d
    · cases d <;> rfl
    · rfl
@[simp] theorem ev_no (a) : ev F (.no a) ρ = bd (ev F a ρ) (k := ⟨fun p => bd (boolR p.1) (k := ⟨fun i => some (.fr (.bool (!i)), p.2)⟩)⟩) := by
  simp only [ev]
  rcases ev F a ρ with _ | ⟨r, ρ1⟩
  · rfl
  · rcases r with d | d
    · cases d <;> rfl
    · rfl
@[simp] theorem ev_cmp2 (o p a b c) : ev F (.cmp2 o p a b c) ρ = bd (ev F a ρ) (k := ⟨fun x => bd (ev F b x.2) (k := ⟨fun y => bd (dCmp o x.1.d y.1.d) (k := ⟨fun t => andR t (bd (ev F c y.2) (k := ⟨fun z => bd (dCmp p y.1.d z.1.d) (k := ⟨fun r => some (.fr (.bool r), z.2)⟩)⟩)) y.2⟩)⟩)⟩) := by
  simp only [ev]
  rcases ev F a ρ with _ | ⟨ra, ρ1⟩
  · rfl
  · simp only [bd_some]
    rcases ev F b ρ1 with _ | ⟨rb, ρ2⟩
    · rfl
    · simp only [bd_some]
      rcases dCmp o ra.d rb.d with _ | t
      · rfl
      · cases t
        · rfl
        · simp only [bd_some, andR_true]
          rcases ev F c ρ2 with _ | ⟨rc, ρ3⟩
          · rfl
          · simp only [bd_some, map_bd]
@[simp] theorem ev_and (a b) : ev F (.and a b) ρ = bd (ev F a ρ) (k := ⟨fun p => bd (boolR p.1) (k := ⟨fun t => andR t (ev F b p.2) p.2⟩)⟩) := by
  simp only [ev]
  rcases ev F a ρ with _ | ⟨r, ρ1⟩
  · rfl
  · rcases r with d | d
    · cases d with
      | bool t => cases t <;> rfl
      | _ => rfl
    · rfl
@[simp] theorem ev_or (a b) : ev F (.or a b) ρ = bd (ev F a ρ) (k := ⟨fun p => bd (boolR p.1) (k := ⟨fun t => orR t (ev F b p.2) p.2⟩)⟩) := by
  simp only [ev]
  rcases ev F a ρ with _ | ⟨r, ρ1⟩
  · rfl
  · rcases r with d | d
    · cases d with
      | bool t => cases t <;> rfl
      | _ => rfl
    · rfl
@[simp] theorem ev_ite (c a b) : ev F (.ite c a b) ρ = bd (ev F c ρ) (k := ⟨fun p => bd (boolR p.1) (k := ⟨fun t => iteR t (k := ⟨(ev F a p.2), (ev F b p.2)⟩)⟩)⟩) := by
  simp only [ev]
  rcases ev F c ρ with _ | ⟨r, ρ1⟩
  · rfl
  · rcases r with d | d
    · cases d with
      | bool t => cases t <;> rfl
      | _ => rfl
    · rfl
@[simp] theorem ev_idx (a i) : ev F (.idx a i) ρ = bd (opd a (ev F a) ρ) (k := ⟨fun p => bd (ev F i p.2) (k := ⟨fun q => bd (p.1.getR q.2) (k := ⟨fun da => bd (dIdx da q.1.d) (k := ⟨fun d => some (.fr d, q.2)⟩)⟩)⟩)⟩) := by
  simp only [ev]
  rcases opd a (ev F a) ρ with _ | ⟨oa, ρ1⟩
  · rfl
  · simp only [bd_some]
    rcases ev F i ρ1 with _ | ⟨ob, ρ2⟩
    · rfl
    · simp only [bd_some]
      cases Opd.getR ρ2 oa <;> simp [map_bd]
@[simp] theorem ev_slc (a lo hi) : ev F (.slc a lo hi) ρ = bd (opd a (ev F a) ρ) (k := ⟨fun p => bd (evO F lo p.2) (k := ⟨fun l => bd (evO F hi l.2) (k := ⟨fun h => bd (p.1.get h.2) (k := ⟨fun da => bd (dSlc da l.1 h.1) (k := ⟨fun r => some (r, h.2)⟩)⟩)⟩)⟩)⟩) := by
  simp only [ev]
  rcases opd a (ev F a) ρ with _ | ⟨oa, ρ1⟩
  · rfl
  · simp only [bd_some]
    rcases evO F lo ρ1 with _ | ⟨l, ρ2⟩
    · rfl
    · simp only [bd_some]
      rcases evO F hi ρ2 with _ | ⟨h, ρ3⟩
      · rfl
      · simp only [bd_some]
        cases Opd.get ρ3 oa <;> simp [map_bd]
def dctR (s : Option Slot) : Option (List (Int × D)) := match s with
  | some (.dct kvs) => some kvs
  | _ => none
@[simp] theorem dctR_some (kvs) : dctR (some (.dct kvs)) = some kvs := id rfl
theorem dctB_of {ρ : Env} {i : Nat} : dctB ρ i = (dctR ρ[i]?).isSome := by
  unfold dctB
  rcases ρ[i]? with _ | s
  · rfl
  · cases s <;> rfl
theorem dGetS_of {ρ : Env} {i : Nat} {k} : dGetS ρ i k = bd (dctR ρ[i]?) (k := ⟨fun kvs => kvGet kvs k⟩) := by
  unfold dGetS
  rcases ρ[i]? with _ | s
  · rfl
  · cases s <;> rfl
theorem dInS_of {ρ : Env} {i : Nat} {k} : dInS ρ i k = bd (dctR ρ[i]?) (k := ⟨fun kvs => some (kvGet kvs k).isSome⟩) := by
  unfold dInS
  rcases ρ[i]? with _ | s
  · rfl
  · cases s <;> rfl
theorem dPutS_of {ρ : Env} {i : Nat} {k d} : dPutS ρ i k d = bd (dctR ρ[i]?) (k := ⟨fun kvs => gd (kvs.length < sizeLine) (some (ρ.set i (.dct (kvPut kvs k d))))⟩) := by
  unfold dPutS
  rcases h : ρ[i]? with _ | s
  · rfl
  · cases s <;> first | rfl | exact if_gd _ _
@[simp] theorem ev_dget (i k) : ev F (.dget i k) ρ = bd (dctR ρ[i]?) (k := ⟨fun _ => bd (ev F k ρ) (k := ⟨fun p => bd (intR p.1) (k := ⟨fun j => bd (dctR p.2[i]?) (k := ⟨fun kvs => bd (kvGet kvs j) (k := ⟨fun d => some (.fr d, p.2)⟩)⟩)⟩)⟩)⟩) := by
  simp only [ev, dctB_of]
  cases h : dctR ρ[i]? with
  | none => rfl
  | some kvs =>
    simp only [Option.isSome_some, bd_some]
    rcases ev F k ρ with _ | ⟨r, ρ1⟩
    · rfl
    · simp only [bd_some]
      cases r with
      | nw _ => rfl
      | fr d =>
        cases d <;> first | rfl | skip
        simp only [intR_int, bd_some, dGetS_of, map_bd]
        cases dctR ρ1[i]? with
        | none => rfl
        | some kvs' => simp only [bd_some]
@[simp] theorem ev_din (b i k) : ev F (.din b i k) ρ = bd (ev F k ρ) (k := ⟨fun p => bd (intR p.1) (k := ⟨fun j => bd (dctR p.2[i]?) (k := ⟨fun kvs => some (.fr (.bool (b != (kvGet kvs j).isSome)), p.2)⟩)⟩)⟩) := by
  simp only [ev]
  rcases ev F k ρ with _ | ⟨r, ρ1⟩
  · rfl
  · simp only [bd_some]
    cases r with
    | nw _ => rfl
    | fr d =>
      cases d <;> first | rfl | skip
      simp only [intR_int, bd_some, dInS_of]
      cases dctR ρ1[i]? <;> rfl
@[simp] theorem ev_rvs (a) : ev F (.rvs a) ρ = bd (opd a (ev F a) ρ) (k := ⟨fun p => bd (p.1.get p.2) (k := ⟨fun d => bd (dRev d) (k := ⟨fun r => some (r, p.2)⟩)⟩)⟩) := by
  simp only [ev]
  rcases opd a (ev F a) ρ with _ | ⟨oa, ρ1⟩
  · rfl
  · simp only [bd_some]
    cases Opd.get ρ1 oa <;> simp [map_bd]
@[simp] theorem dRev_list (xs) : dRev (.list xs) = some (.nw xs.reverse) := id rfl
@[simp] theorem dRev_tuple (xs) : dRev (.tuple xs) = some (.fr (.tuple xs.reverse)) := id rfl
@[simp] theorem ev_tup (es) : ev F (.tup es) ρ = bd (evs F es ρ) (k := ⟨fun p => gd (p.1.length ≤ sizeLine) (some (.fr (.tuple p.1), p.2))⟩) := by
  simp only [ev]
  rcases evs F es ρ with _ | ⟨ds, ρ1⟩
  · rfl
  · exact if_gd _ _
@[simp] theorem ev_lst (es) : ev F (.lst es) ρ = bd (evs F es ρ) (k := ⟨fun p => gd (p.1.length ≤ sizeLine) (some (.nw p.1, p.2))⟩) := by
  simp only [ev]
  rcases evs F es ρ with _ | ⟨ds, ρ1⟩
  · rfl
  · exact if_gd _ _
/-- one turn of a comprehension -/
def cstep (F : FT) (t : T) (c : OE) (elt : E) (vs : List Nat) (d : D) (ρ : Env) : Option (Option D × Env) :=
  bd (asgT t d ρ) (k := ⟨fun ρa => bd (evC F c ρa) (k := ⟨fun q => brB q.1 (k := ⟨(bd (ev F elt q.2) (k := ⟨fun r => some (some r.1.d, wipeE vs r.2)⟩)), (some (none, wipeE vs q.2))⟩)⟩)⟩)
@[simp] theorem ev_comp (elt t it c vs) : ev F (.comp elt t it c vs) ρ = bd (evI F it ρ) (k := ⟨fun p => gd ((vs.all fun v => match (lendL p.2.2 p.2.1)[v]? with | some s => quietS s | none => false) = true)
    (bd (compL (cstep F t c elt vs) p.1 (wipeE vs (lendL p.2.2 p.2.1))) (k := ⟨fun q => some (.nw q.1, unlend p.2.2 (backE vs (lendL p.2.2 p.2.1) q.2))⟩))⟩) := by
  simp only [ev]
  rcases evI F it ρ with _ | ⟨ds, ρ0, ls⟩
  · rfl
  · simp only [bd_some]
    have e : (fun d ρ => match asgT t d ρ with
        | none => none
        | some ρa => match evC F c ρa with
          | none => none
          | some (false, ρb) => some (none, wipeE vs ρb)
          | some (true, ρb) => match ev F elt ρb with
            | none => none
            | some (r, ρc) => some (some r.d, wipeE vs ρc)) = cstep F t c elt vs := by
      funext d ρ
      unfold cstep
      rcases asgT t d ρ with _ | ρa
      · rfl
      · simp only [bd_some]
        rcases evC F c ρa with _ | ⟨b, ρb⟩
        · rfl
        · cases b
          · rfl
          · simp only [bd_some, brB_true]
            rcases ev F elt ρb with _ | ⟨r, ρc⟩ <;> rfl
    unfold gd
    cases hq : (vs.all fun v => match (lendL ls ρ0)[v]? with | some s => quietS s | none => false)
    · simp
    · simp only [Bool.true_eq_false, ↓reduceIte]
      rw [← e]
      rcases compL _ ds (wipeE vs (lendL ls ρ0)) with _ | ⟨r, ρ2⟩ <;> rfl
/-- one turn of the first of two clauses -/
noncomputable def cstep2 (F : FT) (t : T) (c0 : OE) (it1 : Wk) (t1 : T) (c : OE) (elt : E) (vs vs1 : List Nat) (d : D) (ρ : Env) : Option (List D × Env) :=
  bd (asgT t d ρ) (k := ⟨fun ρa => bd (evC F c0 ρa) (k := ⟨fun q => brB q.1 (k := ⟨(bd (evI F it1 q.2) (k := ⟨fun p => gd (p.2.2 = []) (gd ((vs1.all fun v => match p.2.1[v]? with | some s => quietS s | none => false) = true)
    (bd (compL (cstep F t1 c elt vs1) p.1 (wipeE vs1 p.2.1)) (k := ⟨fun u => some (u.1, wipeE vs u.2)⟩)))⟩)), (some ([], wipeE vs q.2))⟩)⟩)⟩)
theorem cstep_eq (F : FT) (t : T) (c : OE) (elt : E) (vs : List Nat) : (fun d ρ => match asgT t d ρ with
        | none => none
        | some ρa => match evC F c ρa with
          | none => none
          | some (false, ρb) => some (none, wipeE vs ρb)
          | some (true, ρb) => match ev F elt ρb with
            | none => none
            | some (r, ρc) => some (some r.d, wipeE vs ρc)) = cstep F t c elt vs := by
  funext d ρ
  unfold cstep
  rcases asgT t d ρ with _ | ρa
  · rfl
  · simp only [bd_some]
    rcases evC F c ρa with _ | ⟨b, ρb⟩
    · rfl
    · cases b
      · rfl
      · simp only [bd_some, brB_true]
        rcases ev F elt ρb with _ | ⟨r, ρc⟩ <;> rfl
@[simp] theorem ev_comp2 (elt t it c0 t1 it1 c vs vs1) : ev F (.comp2 elt t it c0 t1 it1 c vs vs1) ρ = bd (evI F it ρ) (k := ⟨fun p => gd ((vs.all fun v => match (lendL p.2.2 p.2.1)[v]? with | some s => quietS s | none => false) = true)
    (bd (compL2 (cstep2 F t c0 it1 t1 c elt vs vs1) p.1 (wipeE vs (lendL p.2.2 p.2.1))) (k := ⟨fun q => gd (q.1.length ≤ sizeLine) (some (.nw q.1, unlend p.2.2 (backE vs (lendL p.2.2 p.2.1) q.2)))⟩))⟩) := by
  simp only [ev]
  rcases evI F it ρ with _ | ⟨ds, ρ0, ls⟩
  · rfl
  · simp only [bd_some]
    have e : (fun d ρ => match asgT t d ρ with
        | none => none
        | some ρa => match evC F c0 ρa with
          | none => none
          | some (false, ρb) => some ([], wipeE vs ρb)
          | some (true, ρb) => match evI F it1 ρb with
            | some (ds1, ρ1, []) => if (vs1.all fun v => match ρ1[v]? with | some s => quietS s | none => false) = false then none else
              match compL (fun d ρ => match asgT t1 d ρ with
                | none => none
                | some ρa => match evC F c ρa with
                  | none => none
                  | some (false, ρb) => some (none, wipeE vs1 ρb)
                  | some (true, ρb) => match ev F elt ρb with
                    | none => none
                    | some (r, ρc) => some (some r.d, wipeE vs1 ρc)) ds1 (wipeE vs1 ρ1) with
              | none => none
              | some (r, ρ2) => some (r, wipeE vs ρ2)
            | _ => none) = cstep2 F t c0 it1 t1 c elt vs vs1 := by
      funext d ρ
      unfold cstep2
      rw [← cstep_eq]
      rcases asgT t d ρ with _ | ρa
      · rfl
      · simp only [bd_some]
        rcases evC F c0 ρa with _ | ⟨b, ρb⟩
        · rfl
        · cases b
          · rfl
          · simp only [bd_some, brB_true]
            rcases evI F it1 ρb with _ | ⟨ds1, ρ1, ls1⟩
            · rfl
            · simp only [bd_some]
              cases ls1 with
              | cons x l => unfold gd; simp
              | nil =>
                unfold gd
                simp only [if_true]
                cases hq : (vs1.all fun v => match ρ1[v]? with | some s => quietS s | none => false)
                · simp
                · simp only [Bool.true_eq_false, ↓reduceIte]
                  rcases compL _ ds1 (wipeE vs1 ρ1) with _ | ⟨r, ρ2⟩ <;> rfl
    unfold gd
    cases hq : (vs.all fun v => match (lendL ls ρ0)[v]? with | some s => quietS s | none => false)
    · simp
    · simp only [Bool.true_eq_false, ↓reduceIte]
      rw [← e]
      rcases compL2 _ ds (wipeE vs (lendL ls ρ0)) with _ | ⟨r, ρ2⟩
      · rfl
      · simp only [bd_some]
noncomputable def setK : Bool → List Int → Option Res
  | true, ns => gd ((dd ns).length < 64) (some (.nw ((sortI (dd ns)).map .int)))
  | false, ns => some (.fr (.int ((dd ns).length : Nat)))
theorem setR_eq (srt r) : setR srt r = bd (allInts r) (k := ⟨fun ns => gd (ns.length < 4095) (setK srt ns)⟩) := by
  unfold setR
  cases allInts r with
  | none => rfl
  | some ns =>
    simp only [bd_some]
    cases srt
    · exact if_gd _ _
    · show (if ns.length < 4095 then (if (dd ns).length < 64 then _ else none) else none) = _
      rw [if_gd]; congr 1; exact if_gd _ _
@[simp] theorem setK_true (ns) : setK true ns = gd ((dd ns).length < 64) (some (.nw ((sortI (dd ns)).map .int))) := id rfl
@[simp] theorem setK_false (ns) : setK false ns = some (.fr (.int ((dd ns).length : Nat))) := id rfl
@[simp] theorem ev_setc (srt elt t it c vs) : ev F (.setc srt elt t it c vs) ρ = bd (evI F it ρ) (k := ⟨fun p => gd ((vs.all fun v => match (lendL p.2.2 p.2.1)[v]? with | some s => quietS s | none => false) = true)
    (bd (compL (cstep F t c elt vs) p.1 (wipeE vs (lendL p.2.2 p.2.1))) (k := ⟨fun q => bd (bd (allInts q.1) (k := ⟨fun ns => gd (ns.length < 4095) (setK srt ns)⟩)) (k := ⟨fun r => some (r, unlend p.2.2 (backE vs (lendL p.2.2 p.2.1) q.2))⟩)⟩))⟩) := by
  simp only [ev]
  rcases evI F it ρ with _ | ⟨ds, ρ0, ls⟩
  · rfl
  · simp only [bd_some]
    rw [← cstep_eq]
    unfold gd
    cases hq : (vs.all fun v => match (lendL ls ρ0)[v]? with | some s => quietS s | none => false)
    · simp
    · simp only [Bool.true_eq_false, ↓reduceIte]
      rcases compL _ ds (wipeE vs (lendL ls ρ0)) with _ | ⟨r, ρ2⟩
      · rfl
      · simp only [bd_some, map_bd, setR_eq]
        rfl
@[simp] theorem ev_call (f es) : ev F (.call f es) ρ = bd (F f) (k := ⟨fun kf => bd (evA F kf.1 es ρ) (k := ⟨fun p => gd (apartB kf.1 p.1 = true) (bd (argsOf p.2 kf.1 p.1) (k := ⟨fun ss => bd (kf.2 ss) (k := ⟨fun r => bd (outsIn (muts kf.1 p.1) r.2 p.2) (k := ⟨fun ρ2 => some (r.1, ρ2)⟩)⟩)⟩))⟩)⟩) := by
  simp only [ev]
  rcases F f with _ | ⟨ks, fn⟩
  · rfl
  · simp only [bd_some]
    rcases evA F ks es ρ with _ | ⟨oo, ρ1⟩
    · rfl
    · simp only [bd_some]
      unfold gd
      cases apartB ks oo
      · simp
      · simp only [Bool.true_eq_false, ↓reduceIte]
        rcases argsOf ρ1 ks oo with _ | ss
        · rfl
        · simp only [bd_some]
          rcases fn ss with _ | ⟨r, outs⟩
          · rfl
          · simp only [bd_some]
            rcases outsIn (muts ks oo) outs ρ1 with _ | ρ2 <;> rfl
@[simp] theorem pks_nil : pks ρ .nil = some [] := by simp only [pks]
@[simp] theorem pks_cons (e es) : pks ρ (.cons e es) = bd (pk ρ e) (k := ⟨fun d => bd (pks ρ es) (k := ⟨fun ds => some (d :: ds)⟩)⟩) := by
  simp only [pks]
  cases pk ρ e with
  | none => rfl
  | some d => cases pks ρ es <;> rfl
@[simp] theorem pk_var (i) : pk ρ (.var i) = rd ρ i := by simp only [pk]
@[simp] theorem pk_int (n) : pk ρ (.int n) = some (.int n) := by simp only [pk]
@[simp] theorem pk_tup (es) : pk ρ (.tup es) = bd (pks ρ es) (k := ⟨fun ds => gd (ds.length ≤ sizeLine) (some (.tuple ds))⟩) := by
  simp only [pk]
  cases pks ρ es with
  | none => rfl
  | some ds => exact if_gd _ _
@[simp] theorem flatO_some (d) : flatO ρ (some (.fr d, [])) = gd (isFlat d = true) (some (.fr d, ρ)) := if_gd _ _
@[simp] theorem notM_B : notM .B = true := id rfl
@[simp] theorem notM_I : notM .I = true := id rfl
@[simp] theorem ev_pcall (f es) : ev F (.pcall f es) ρ = bd (F f) (k := ⟨fun kf => bd (pks ρ es) (k := ⟨fun ds => gd ((kf.1.all notM && decide (ds.length = kf.1.length)) = true) (flatO ρ (kf.2 (ds.map .fz)))⟩)⟩) := by
  simp only [ev]
  cases F f with
  | none => rfl
  | some kf =>
    obtain ⟨ks, fn⟩ := kf
    simp only [bd_some]
    cases pks ρ es with
    | none => rfl
    | some ds => exact if_gd _ _
@[simp] theorem ev_blt (b es) : ev F (.blt b es) ρ = bd (evP F es ρ) (k := ⟨fun p => bd (getAll p.2 p.1) (k := ⟨fun ds => bd (dBlt b ds) (k := ⟨fun r => some (r, p.2)⟩)⟩)⟩) := by
  simp only [ev, mapM_get]
  rcases evP F es ρ with _ | ⟨oo, ρ1⟩
  · rfl
  · simp only [bd_some]
    rcases getAll ρ1 oo with _ | ds
    · rfl
    · simp only [bd_some, map_bd]
@[simp] theorem ev_isi (a t) : ev F (.isi a t) ρ = bd (opd a (ev F a) ρ) (k := ⟨fun p => bd (p.1.get p.2) (k := ⟨fun d => some (.fr (.bool (tyIs t d)), p.2)⟩)⟩) := by
  simp only [ev]
  rcases opd a (ev F a) ρ with _ | ⟨oa, ρ1⟩
  · rfl
  · simp only [bd_some, map_bd]
@[simp] theorem ev_len (a) : ev F (.len a) ρ = bd (opd a (ev F a) ρ) (k := ⟨fun p => bd (p.1.getR p.2) (k := ⟨fun d => bd (dLen d) (k := ⟨fun r => some (.fr r, p.2)⟩)⟩)⟩) := by
  simp only [ev]
  rcases opd a (ev F a) ρ with _ | ⟨oa, ρ1⟩
  · rfl
  · simp only [bd_some, map_bd]
    cases Opd.getR ρ1 oa <;> rfl
@[simp] theorem ev_rngs (t it) : ev F (.rngs t it) ρ = bd (evI F it ρ) (k := ⟨fun p => some (if t then .fr (.tuple p.1) else .nw p.1, p.2.1)⟩) := by
  simp only [ev]
  rcases evI F it ρ with _ | ⟨ds, ρ1, ls⟩ <;> rfl
def isL : D → Option Unit
  | .list _ => some ()
  | _ => none
@[simp] theorem isL_list (ds) : isL (.list ds) = some () := id rfl
theorem isLB_of (x : Option D) : isLB x = (bd x (k := ⟨isL⟩)).isSome := by
  cases x with
  | none => rfl
  | some d => cases d <;> rfl
@[simp] theorem ev_meth (m o a) : ev F (.meth m o a) ρ = bd (opd o (ev F o) ρ) (k := ⟨fun p => bd (bd (p.1.get p.2) (k := ⟨isL⟩)) (k := ⟨fun _ => bd (ev F a p.2) (k := ⟨fun q => bd (p.1.get q.2) (k := ⟨fun d => bd (dMth m d q.1.d) (k := ⟨fun r => some (.fr r, q.2)⟩)⟩)⟩)⟩)⟩) := by
  simp only [ev]
  rcases opd o (ev F o) ρ with _ | ⟨oa, ρ1⟩
  · rfl
  · simp only [bd_some, isLB_of]
    cases h : bd (Opd.get ρ1 oa) (k := ⟨isL⟩) with
    | none => rfl
    | some _ =>
      simp only [Option.isSome_some, bd_some]
      rcases ev F a ρ1 with _ | ⟨ob, ρ2⟩
      · rfl
      · simp only [bd_some]
        cases Opd.get ρ2 oa <;> simp [map_bd]
/-- a changed list goes back to its slot -/
def chgS (m : Cth) (i : Nat) (s : Option Slot) (ds : List D) (ρ : Env) : Option (Res × Env) := match s with
  | some (.own xs) => bd (dChg m xs ds) (k := ⟨fun p => some (.fr p.2, ρ.set i (.own p.1))⟩)
  | some (.mu xs) => bd (dChg m xs ds) (k := ⟨fun p => some (.fr p.2, ρ.set i (.mu p.1))⟩)
  | _ => none
@[simp] theorem chgS_own (m i xs ds) : chgS m i (some (.own xs)) ds ρ = bd (dChg m xs ds) (k := ⟨fun p => some (.fr p.2, ρ.set i (.own p.1))⟩) := id rfl
@[simp] theorem chgS_mu (m i xs ds) : chgS m i (some (.mu xs)) ds ρ = bd (dChg m xs ds) (k := ⟨fun p => some (.fr p.2, ρ.set i (.mu p.1))⟩) := id rfl
@[simp] theorem ev_chg (m i es) : ev F (.chg m i es) ρ = bd (bd (rd ρ i) (k := ⟨isL⟩)) (k := ⟨fun _ => bd (evs F es ρ) (k := ⟨fun p => chgS m i p.2[i]? p.1 p.2⟩)⟩) := by
  simp only [ev]
  cases rd ρ i with
  | none => rfl
  | some d =>
    cases d <;> first
      | rfl
      | (simp only [bd_some, isL_list]
         rcases evs F es ρ with _ | ⟨ds, ρ1⟩
         · rfl
         · simp only [bd_some]
           rcases ρ1[i]? with _ | s
           · rfl
           · cases s <;> first | rfl | (simp only [chgS, map_bd]))
@[simp] theorem evO_none : evO F .none ρ = some (none, ρ) := by simp only [evO]
@[simp] theorem evO_some (e) : evO F (.some e) ρ = bd (ev F e ρ) (k := ⟨fun p => bd (intR p.1) (k := ⟨fun i => some (some i, p.2)⟩)⟩) := by
  simp only [evO]
  rcases ev F e ρ with _ | ⟨r, ρ1⟩
  · rfl
  · rcases r with d | d
    · cases d <;> rfl
    · rfl
@[simp] theorem evC_none : evC F .none ρ = some (true, ρ) := by simp only [evC]
@[simp] theorem evC_some (e) : evC F (.some e) ρ = bd (ev F e ρ) (k := ⟨fun p => bd (boolR p.1) (k := ⟨fun i => some (i, p.2)⟩)⟩) := by
  simp only [evC]
  rcases ev F e ρ with _ | ⟨r, ρ1⟩
  · rfl
  · rcases r with d | d
    · cases d <;> rfl
    · rfl
@[simp] theorem evI_seq (a) : evI F (.seq a) ρ = bd (opd a (ev F a) ρ) (k := ⟨fun p => gd (noMu p.1 p.2 = true) (bd (p.1.get p.2) (k := ⟨fun d => bd (seqOf d) (k := ⟨fun ds => some (ds, p.2, lends p.1 p.2)⟩)⟩))⟩) := by
  simp only [evI]
  rcases opd a (ev F a) ρ with _ | ⟨oa, ρ1⟩
  · rfl
  · simp only [bd_some]
    unfold gd
    cases noMu oa ρ1
    · simp
    · simp only [Bool.true_eq_false, ↓reduceIte]
      rcases Opd.get ρ1 oa with _ | d
      · rfl
      · simp only [bd_some, Option.bind_some]
        cases seqOf d <;> rfl
@[simp] theorem evI_rev (a) : evI F (.rev a) ρ = bd (opd a (ev F a) ρ) (k := ⟨fun p => gd (noMu p.1 p.2 = true) (bd (p.1.get p.2) (k := ⟨fun d => bd (seqOf d) (k := ⟨fun ds => some (ds.reverse, p.2, lends p.1 p.2)⟩)⟩))⟩) := by
  simp only [evI]
  rcases opd a (ev F a) ρ with _ | ⟨oa, ρ1⟩
  · rfl
  · simp only [bd_some]
    unfold gd
    cases noMu oa ρ1
    · simp
    · simp only [Bool.true_eq_false, ↓reduceIte]
      rcases Opd.get ρ1 oa with _ | d
      · rfl
      · simp only [bd_some, Option.bind_some]
        cases seqOf d <;> rfl
@[simp] theorem evI_enm (a) : evI F (.enm a) ρ = bd (opd a (ev F a) ρ) (k := ⟨fun p => gd (noMu p.1 p.2 = true) (bd (p.1.get p.2) (k := ⟨fun d => bd (seqOf d) (k := ⟨fun ds => some (enumD ds, p.2, lends p.1 p.2)⟩)⟩))⟩) := by
  simp only [evI]
  rcases opd a (ev F a) ρ with _ | ⟨oa, ρ1⟩
  · rfl
  · simp only [bd_some]
    unfold gd
    cases noMu oa ρ1
    · simp
    · simp only [Bool.true_eq_false, ↓reduceIte]
      rcases Opd.get ρ1 oa with _ | d
      · rfl
      · simp only [bd_some, Option.bind_some]
        cases seqOf d <;> rfl
def zipOf : D → D → Option (List D)
  | .list xs, .list ys => some (pairD xs ys)
  | .tuple xs, .tuple ys => some (pairD xs ys)
  | _, _ => none
@[simp] theorem zipOf_list (xs ys) : zipOf (.list xs) (.list ys) = some (pairD xs ys) := id rfl
@[simp] theorem zipOf_tuple (xs ys) : zipOf (.tuple xs) (.tuple ys) = some (pairD xs ys) := id rfl
@[simp] theorem evI_zip (a b) : evI F (.zip a b) ρ = bd (opd a (ev F a) ρ) (k := ⟨fun p => bd (opd b (ev F b) p.2) (k := ⟨fun q => gd (noMu p.1 q.2 = true) (gd (noMu q.1 q.2 = true)
    (bd (p.1.get q.2) (k := ⟨fun d => bd (q.1.get q.2) (k := ⟨fun e => bd (zipOf d e) (k := ⟨fun ds => some (ds, q.2, lends p.1 q.2 ++ lends q.1 q.2)⟩)⟩)⟩)))⟩)⟩) := by
  simp only [evI]
  rcases opd a (ev F a) ρ with _ | ⟨oa, ρ1⟩
  · rfl
  · simp only [bd_some]
    rcases opd b (ev F b) ρ1 with _ | ⟨ob, ρ2⟩
    · rfl
    · simp only [bd_some]
      unfold gd
      cases noMu oa ρ2
      · simp
      · simp only [Bool.true_eq_false, ↓reduceIte]
        cases noMu ob ρ2
        · simp
        · simp only [Bool.true_eq_false, ↓reduceIte]
          rcases Opd.get ρ2 oa with _ | d
          · rfl
          · simp only [bd_some]
            cases Opd.get ρ2 ob with
            | none => cases d <;> rfl
            | some e => cases d <;> cases e <;> rfl
@[simp] theorem evI_rng1 (a) : evI F (.rng1 a) ρ = bd (ev F a ρ) (k := ⟨fun p => bd (intR p.1) (k := ⟨fun i => gd (-(2 ^ 62) ≤ i ∧ i ≤ (sizeLine : Int)) (some (rngD 0 i, p.2, []))⟩)⟩) := by
  simp only [evI]
  rcases ev F a ρ with _ | ⟨r, ρ1⟩
  · rfl
  · rcases r with d | d
    · cases d <;> first | rfl | exact if_gd _ _
    · rfl
@[simp] theorem evI_rrng1 (a) : evI F (.rrng1 a) ρ = bd (ev F a ρ) (k := ⟨fun p => bd (intR p.1) (k := ⟨fun i => gd (-(2 ^ 62) ≤ i ∧ i ≤ (sizeLine : Int)) (some ((rngD 0 i).reverse, p.2, []))⟩)⟩) := by
  simp only [evI]
  rcases ev F a ρ with _ | ⟨r, ρ1⟩
  · rfl
  · rcases r with d | d
    · cases d <;> first | rfl | exact if_gd _ _
    · rfl
@[simp] theorem evI_rrng2 (a b) : evI F (.rrng2 a b) ρ = bd (ev F a ρ) (k := ⟨fun p => bd (intR p.1) (k := ⟨fun i => bd (ev F b p.2) (k := ⟨fun q => bd (intR q.1) (k := ⟨fun j => gd (-(2 ^ 62) ≤ i ∧ i < 2 ^ 62 ∧ j < 2 ^ 62 ∧ -(2 ^ 62) ≤ j ∧ j - i ≤ (sizeLine : Int)) (some ((rngD i j).reverse, q.2, []))⟩)⟩)⟩)⟩) := by
  simp only [evI]
  rcases ev F a ρ with _ | ⟨r, ρ1⟩
  · rfl
  · rcases r with d | d
    · cases d <;> first
        | rfl
        | (simp only [bd_some, intR_int]
           rcases ev F b ρ1 with _ | ⟨r, ρ2⟩
           · rfl
           · rcases r with d | d
             · cases d <;> first | rfl | exact if_gd _ _
             · rfl)
    · rfl
@[simp] theorem evI_dwn (a b) : evI F (.dwn a b) ρ = bd (ev F a ρ) (k := ⟨fun p => bd (intR p.1) (k := ⟨fun i => bd (ev F b p.2) (k := ⟨fun q => bd (intR q.1) (k := ⟨fun j => gd (-(2 ^ 62) ≤ i ∧ i < 2 ^ 62 ∧ j < 2 ^ 62 ∧ -(2 ^ 62) ≤ j ∧ i - j ≤ (sizeLine : Int)) (some (dwnD i j, q.2, []))⟩)⟩)⟩)⟩) := by
  simp only [evI]
  rcases ev F a ρ with _ | ⟨r, ρ1⟩
  · rfl
  · rcases r with d | d
    · cases d <;> first
        | rfl
        | (simp only [bd_some, intR_int]
           rcases ev F b ρ1 with _ | ⟨r, ρ2⟩
           · rfl
           · rcases r with d | d
             · cases d <;> first | rfl | exact if_gd _ _
             · rfl)
    · rfl
@[simp] theorem evI_rng2 (a b) : evI F (.rng2 a b) ρ = bd (ev F a ρ) (k := ⟨fun p => bd (intR p.1) (k := ⟨fun i => bd (ev F b p.2) (k := ⟨fun q => bd (intR q.1) (k := ⟨fun j => gd (-(2 ^ 62) ≤ i ∧ i < 2 ^ 62 ∧ j < 2 ^ 62 ∧ -(2 ^ 62) ≤ j ∧ j - i ≤ (sizeLine : Int)) (some (rngD i j, q.2, []))⟩)⟩)⟩)⟩) := by
  simp only [evI]
  rcases ev F a ρ with _ | ⟨r, ρ1⟩
  · rfl
  · rcases r with d | d
    · cases d <;> first
        | rfl
        | (simp only [bd_some, intR_int]
           rcases ev F b ρ1 with _ | ⟨r, ρ2⟩
           · rfl
           · rcases r with d | d
             · cases d <;> first | rfl | exact if_gd _ _
             · rfl)
    · rfl
@[simp] theorem evs_nil : evs F .nil ρ = some ([], ρ) := by simp only [evs]
@[simp] theorem evs_cons (e es) : evs F (.cons e es) ρ = bd (ev F e ρ) (k := ⟨fun p => bd (evs F es p.2) (k := ⟨fun q => some (p.1.d :: q.1, q.2)⟩)⟩) := by
  simp only [evs]
  rcases ev F e ρ with _ | ⟨r, ρ1⟩
  · rfl
  · simp only [bd_some]
    rcases evs F es ρ1 with _ | ⟨ds, ρ2⟩ <;> rfl
@[simp] theorem evP_nil : evP F .nil ρ = some ([], ρ) := by simp only [evP]
@[simp] theorem evP_cons (e es) : evP F (.cons e es) ρ = bd (opd e (ev F e) ρ) (k := ⟨fun p => bd (evP F es p.2) (k := ⟨fun q => some (p.1 :: q.1, q.2)⟩)⟩) := by
  simp only [evP]
  rcases opd e (ev F e) ρ with _ | ⟨r, ρ1⟩
  · rfl
  · simp only [bd_some]
    rcases evP F es ρ1 with _ | ⟨ds, ρ2⟩ <;> rfl
@[simp] theorem evA_nil : evA F [] .nil ρ = some ([], ρ) := by simp only [evA]
@[simp] theorem evA_I (ks e es) : evA F (.I :: ks) (.cons e es) ρ = bd (ev F e ρ) (k := ⟨fun p => bd (evA F ks es p.2) (k := ⟨fun q => some (.v p.1.d :: q.1, q.2)⟩)⟩) := by
  simp only [evA]
  rcases ev F e ρ with _ | ⟨r, ρ1⟩
  · rfl
  · simp only [bd_some]
    rcases evA F ks es ρ1 with _ | ⟨ds, ρ2⟩ <;> rfl
@[simp] theorem evA_B (ks e es) : evA F (.B :: ks) (.cons e es) ρ = bd (opd e (ev F e) ρ) (k := ⟨fun p => bd (evA F ks es p.2) (k := ⟨fun q => some (p.1 :: q.1, q.2)⟩)⟩) := by
  simp only [evA]
  rcases opd e (ev F e) ρ with _ | ⟨r, ρ1⟩
  · rfl
  · simp only [bd_some]
    rcases evA F ks es ρ1 with _ | ⟨ds, ρ2⟩ <;> rfl
@[simp] theorem evA_M (ks e es) : evA F (.M :: ks) (.cons e es) ρ = bd (opd e (ev F e) ρ) (k := ⟨fun p => bd (evA F ks es p.2) (k := ⟨fun q => some (p.1 :: q.1, q.2)⟩)⟩) := by
  simp only [evA]
  rcases opd e (ev F e) ρ with _ | ⟨r, ρ1⟩
  · rfl
  · simp only [bd_some]
    rcases evA F ks es ρ1 with _ | ⟨ds, ρ2⟩ <;> rfl

/-! ### statements -/
@[simp] theorem exs_nil : exs F .nil ρ = some (.next, ρ) := by simp only [exs]
@[simp] theorem exs_cons (s ss) : exs F (.cons s ss) ρ = sq (ex F s ρ) (k := ⟨fun ρ1 => exs F ss ρ1⟩) := by
  simp only [exs]
  rcases ex F s ρ with _ | ⟨o, ρ1⟩
  · rfl
  · cases o <;> rfl
@[simp] theorem ex_asg (t e) : ex F (.asg t e) ρ = bd (ev F e ρ) (k := ⟨fun p => bd (asgR t p.1 p.2) (k := ⟨fun ρ2 => some (.next, ρ2)⟩)⟩) := by
  simp only [ex]
  rcases ev F e ρ with _ | ⟨r, ρ1⟩
  · rfl
  · simp only [bd_some, map_bd]
@[simp] theorem ex_par (i j a b) : ex F (.par i j a b) ρ = bd (ev F a ρ) (k := ⟨fun p => bd (ev F b p.2) (k := ⟨fun q => bd (put i (.fz p.1.d) q.2) (k := ⟨fun ρ3 => bd (put j (.fz q.1.d) ρ3) (k := ⟨fun ρ4 => some (.next, ρ4)⟩)⟩)⟩)⟩) := by
  simp only [ex]
  rcases ev F a ρ with _ | ⟨r, ρ1⟩
  · rfl
  · simp only [bd_some]
    rcases ev F b ρ1 with _ | ⟨r2, ρ2⟩
    · rfl
    · simp only [bd_some]
      rcases put i (.fz r.d) ρ2 with _ | ρ3
      · rfl
      · simp only [bd_some, map_bd]
def fzI : Option Slot → Option Int
  | some (.fz (.int x)) => some x
  | _ => none
@[simp] theorem fzI_int (x) : fzI (some (.fz (.int x))) = some x := id rfl
@[simp] theorem ex_aug (o i e) : ex F (.aug o i e) ρ = bd (fzI ρ[i]?) (k := ⟨fun x => bd (ev F e ρ) (k := ⟨fun p => bd (intR p.1) (k := ⟨fun y => bd (dBin o (.int x) (.int y)) (k := ⟨fun r => bd (intR r) (k := ⟨fun z => bd (put i (.fz (.int z)) p.2) (k := ⟨fun ρ2 => some (.next, ρ2)⟩)⟩)⟩)⟩)⟩)⟩) := by
  simp only [ex]
  rcases ρ[i]? with _ | s
  · rfl
  · cases s <;> first
      | rfl
      | (rename_i d
         cases d <;> first
          | rfl
          | (simp only [fzI_int, bd_some]
             rcases ev F e ρ with _ | ⟨r, ρ1⟩
             · rfl
             · simp only [bd_some]
               rcases r with d | d
               · cases d <;> first
                  | rfl
                  | (simp only [intR_int, bd_some]
                     rcases dBin o _ _ with _ | r
                     · rfl
                     · rcases r with d | d
                       · cases d <;> first
                          | rfl
                          | (simp only [intR_int, bd_some, map_bd])
                       · rfl)
               · rfl))
/-! ### lists under lists -/
def treeR : Option Slot → Option (List D)
  | some (.dp .tree (.list ds)) => some ds
  | _ => none
@[simp] theorem treeR_some (ds) : treeR (some (.dp .tree (.list ds))) = some ds := id rfl
theorem treeAt_of {ρ : Env} {i : Nat} : treeAt ρ i = treeR ρ[i]? := by
  unfold treeAt treeR
  rfl
def lsO : Option D → Option (List D)
  | some (.list ds) => some ds
  | _ => none
@[simp] theorem lsO_some (ds) : lsO (some (.list ds)) = some ds := id rfl
@[simp] theorem pix_int (n) : pix ρ (.int n) = some n := by simp only [pix]
@[simp] theorem pix_var (j) : pix ρ (.var j) = fzI ρ[j]? := by
  simp only [pix]
  unfold pixV fzI
  rfl
@[simp] theorem pix_idx (j n) : pix ρ (.idx (.var j) (.int n)) = bd (lsO (rd ρ j)) (k := ⟨fun ds => bd (atI ds n) (k := ⟨fun d => intR (.fr d)⟩)⟩) := by
  simp only [pix]
  rcases rd ρ j with _ | d
  · rfl
  · cases d <;> try rfl
    simp only [lsO_some, bd_some]
    rcases atI _ n with _ | d
    · rfl
    · cases d <;> rfl
theorem pixV_of {j : Nat} : pixV ρ j = fzI ρ[j]? := by unfold pixV fzI; rfl
@[simp] theorem pix_add (j n) : pix ρ (.bin .add (.var j) (.int n)) = bd (fzI ρ[j]?) (k := ⟨fun k => some (k + n)⟩) := by
  simp only [pix, pixV_of]
  rcases fzI ρ[j]? with _ | d <;> rfl
@[simp] theorem pix_sub (j n) : pix ρ (.bin .sub (.var j) (.int n)) = bd (fzI ρ[j]?) (k := ⟨fun k => some (k - n)⟩) := by
  simp only [pix, pixV_of]
  rcases fzI ρ[j]? with _ | d <;> rfl
def rowI (ds : List D) (k : Int) : Option (Nat × List D) := rowAt ds (some k)
def cellI (ds : List D) (k : Int) : Option (Nat × D) := cellAt ds (some k)
theorem rowAt_of (ds k) : rowAt ds k = bd k (k := ⟨rowI ds⟩) := by cases k <;> rfl
theorem cellAt_of (ds k) : cellAt ds k = bd k (k := ⟨cellI ds⟩) := by cases k <;> rfl
theorem rowI_of {ds : List D} {k : Int} {n es} (h : ixN ds.length k = some n) (e : ds[n]? = some (.list es)) : rowI ds k = some (n, es) := by
  unfold rowI rowAt
  simp only [h, e]
theorem cellI_of {ds : List D} {k : Int} {n d} (h : ixN ds.length k = some n) (e : ds[n]? = some d) : cellI ds k = some (n, d) := by
  unfold cellI cellAt
  simp only [h, e]
@[simp] theorem ev_dix (i a b) : ev F (.dix i a b) ρ = bd (treeR ρ[i]?) (k := ⟨fun ds => bd (pix ρ a) (k := ⟨fun k => bd (rowI ds k) (k := ⟨fun p => bd (pix ρ b) (k := ⟨fun m => bd (cellI p.2 m) (k := ⟨fun z => some (.fr z.2, ρ)⟩)⟩)⟩)⟩)⟩) := by
  simp only [ev, dixG, treeAt_of, rowAt_of, cellAt_of]
  rcases treeR ρ[i]? with _ | ds
  · rfl
  · rcases pix ρ a with _ | k
    · rfl
    · simp only [bd_some]
      rcases rowI ds k with _ | ⟨n, es⟩
      · rfl
      · rcases pix ρ b with _ | m
        · rfl
        · simp only [bd_some]
          rcases cellI es m with _ | ⟨z, d⟩ <;> rfl
@[simp] theorem ev_dlen (i) : ev F (.dlen i) ρ = bd (treeR ρ[i]?) (k := ⟨fun ds => some (.fr (.int ds.length), ρ)⟩) := by
  simp only [ev, dlenG, treeAt_of]
  rcases treeR ρ[i]? with _ | ds <;> rfl
@[simp] theorem ex_dset (i a b e) : ex F (.dset i a b e) ρ = bd (ev F e ρ) (k := ⟨fun p => bd (treeR p.2[i]?) (k := ⟨fun ds => bd (pix p.2 a) (k := ⟨fun k => bd (rowI ds k) (k := ⟨fun q => bd (pix p.2 b) (k := ⟨fun m => bd (cellI q.2 m) (k := ⟨fun z =>
    gd (noL p.1.d = true) (some (.next, p.2.set i (.dp .tree (.list (ds.set q.1 (.list (q.2.set z.1 p.1.d)))))))⟩)⟩)⟩)⟩)⟩)⟩) := by
  simp only [ex, dsetG, treeAt_of, rowAt_of, cellAt_of]
  rcases ev F e ρ with _ | ⟨r, ρ1⟩
  · rfl
  · simp only [bd_some]
    rcases treeR ρ1[i]? with _ | ds
    · rfl
    · rcases pix ρ1 a with _ | k
      · rfl
      · simp only [bd_some]
        rcases rowI ds k with _ | ⟨n, es⟩
        · rfl
        · rcases pix ρ1 b with _ | m
          · rfl
          · simp only [bd_some]
            rcases cellI es m with _ | ⟨z, d⟩
            · rfl
            · simp only [bd_some]
              by_cases hn : noL r.d = true
              · rw [if_pos hn, gd_pos hn]
              · rw [if_neg hn]; unfold gd; rw [if_neg hn]
@[simp] theorem ex_dswp (i a b) : ex F (.dswp i a b) ρ = bd (treeR ρ[i]?) (k := ⟨fun ds => bd (pix (ρ.set i .un) a) (k := ⟨fun k => bd (cellI ds k) (k := ⟨fun q => bd (pix (ρ.set i .un) b) (k := ⟨fun m => bd (cellI ds m) (k := ⟨fun z =>
    some (.next, ρ.set i (.dp .tree (.list ((ds.set q.1 z.2).set z.1 q.2))))⟩)⟩)⟩)⟩)⟩) := by
  simp only [ex, dswpG, treeAt_of, cellAt_of]
  rcases treeR ρ[i]? with _ | ds
  · rfl
  · rcases pix (ρ.set i .un) a with _ | k
    · rfl
    · simp only [bd_some]
      rcases cellI ds k with _ | ⟨n, es⟩
      · rfl
      · rcases pix (ρ.set i .un) b with _ | m
        · rfl
        · simp only [bd_some]
          rcases cellI ds m with _ | ⟨z, d⟩ <;> rfl
/-- a new flat list -/
noncomputable def nwL : Res → Option (List D)
  | .nw es => gd (noLs es = true) (some es)
  | _ => none
@[simp] theorem nwL_nw (es) : nwL (.nw es) = gd (noLs es = true) (some es) := id rfl
/-- one turn of a comprehension of new lists -/
noncomputable def dstep (F : FT) (t : T) (c : OE) (elt : E) (vs : List Nat) (d : D) (ρ : Env) : Option (Option D × Env) :=
  bd (asgT t d ρ) (k := ⟨fun ρa => bd (evC F c ρa) (k := ⟨fun q => brB q.1 (k := ⟨(bd (ev F elt q.2) (k := ⟨fun r => bd (nwL r.1) (k := ⟨fun es => some (some (.list es), wipeE vs r.2)⟩)⟩)), (some (none, wipeE vs q.2))⟩)⟩)⟩)
@[simp] theorem ex_dcomp (i elt t it c vs) : ex F (.dcomp i elt t it c vs) ρ = bd (evI F it ρ) (k := ⟨fun p => gd ((vs.all fun v => match (lendL p.2.2 p.2.1)[v]? with | some s => quietS s | none => false) = true)
    (bd (compL (dstep F t c elt vs) p.1 (wipeE vs (lendL p.2.2 p.2.1))) (k := ⟨fun q => bd (put i (.dp .tree (.list q.1)) (unlend p.2.2 (backE vs (lendL p.2.2 p.2.1) q.2))) (k := ⟨fun ρ3 => some (.next, ρ3)⟩)⟩))⟩) := by
  simp only [ex]
  rcases evI F it ρ with _ | ⟨ds, ρ0, ls⟩
  · rfl
  · simp only [bd_some]
    have e : (fun d ρ => match asgT t d ρ with
        | none => none
        | some ρa => match evC F c ρa with
          | none => none
          | some (false, ρb) => some (none, wipeE vs ρb)
          | some (true, ρb) => match ev F elt ρb with
            | some (.nw es, ρc) => if noLs es = true then some (some (.list es), wipeE vs ρc) else none
            | _ => none) = dstep F t c elt vs := by
      funext d ρ
      unfold dstep
      rcases asgT t d ρ with _ | ρa
      · rfl
      · simp only [bd_some]
        rcases evC F c ρa with _ | ⟨b, ρb⟩
        · rfl
        · cases b
          · rfl
          · simp only [bd_some, brB_true]
            rcases ev F elt ρb with _ | ⟨r, ρc⟩
            · rfl
            · cases r with
              | fr d => rfl
              | nw es =>
                simp only [bd_some, nwL_nw]
                by_cases hn : noLs es = true
                · rw [if_pos hn, gd_pos hn]; rfl
                · rw [if_neg hn]; unfold gd; rw [if_neg hn]; rfl
    unfold gd
    cases hq : (vs.all fun v => match (lendL ls ρ0)[v]? with | some s => quietS s | none => false)
    · simp
    · simp only [Bool.true_eq_false, ↓reduceIte]
      rw [← e]
      rcases compL _ ds (wipeE vs (lendL ls ρ0)) with _ | ⟨r, ρ2⟩
      · rfl
      · simp only [bd_some, map_bd]
/-- an item put into a slot's list -/
def setS (i : Nat) (s : Option Slot) (k : Int) (d : D) (ρ : Env) : Option (Out × Env) := match s with
  | some (.own xs) => bd (ixN xs.length k) (k := ⟨fun j => some (.next, ρ.set i (.own (xs.set j d)))⟩)
  | some (.mu xs) => bd (ixN xs.length k) (k := ⟨fun j => some (.next, ρ.set i (.mu (xs.set j d)))⟩)
  | _ => none
@[simp] theorem setS_own (i xs k d) : setS i (some (.own xs)) k d ρ = bd (ixN xs.length k) (k := ⟨fun j => some (.next, ρ.set i (.own (xs.set j d)))⟩) := id rfl
@[simp] theorem setS_mu (i xs k d) : setS i (some (.mu xs)) k d ρ = bd (ixN xs.length k) (k := ⟨fun j => some (.next, ρ.set i (.mu (xs.set j d)))⟩) := id rfl
@[simp] theorem ex_dput (i k v) : ex F (.dput i k v) ρ = bd (ev F v ρ) (k := ⟨fun p => bd (dctR p.2[i]?) (k := ⟨fun _ => bd (ev F k p.2) (k := ⟨fun q => bd (intR q.1) (k := ⟨fun j => bd (dctR q.2[i]?) (k := ⟨fun kvs => gd (kvs.length < sizeLine) (some (.next, q.2.set i (.dct (kvPut kvs j p.1.d))))⟩)⟩)⟩)⟩)⟩) := by
  simp only [ex]
  rcases ev F v ρ with _ | ⟨r, ρ1⟩
  · rfl
  · simp only [bd_some, dctB_of]
    cases h : dctR ρ1[i]? with
    | none => rfl
    | some kvs =>
      simp only [Option.isSome_some, bd_some]
      rcases ev F k ρ1 with _ | ⟨r', ρ2⟩
      · rfl
      · simp only [bd_some]
        cases r' with
        | nw _ => rfl
        | fr d =>
          cases d <;> first | rfl | skip
          simp only [intR_int, bd_some, dPutS_of]
          cases dctR ρ2[i]? with
          | none => rfl
          | some kvs' =>
            simp only [bd_some, ← if_gd]
            split <;> rfl
@[simp] theorem ex_dnew (i k v) : ex F (.dnew i k v) ρ = bd (ev F k ρ) (k := ⟨fun p => bd (intR p.1) (k := ⟨fun j => bd (ev F v p.2) (k := ⟨fun q => bd (put i (.dct [(j, q.1.d)]) q.2) (k := ⟨fun ρ3 => some (.next, ρ3)⟩)⟩)⟩)⟩) := by
  simp only [ex]
  rcases ev F k ρ with _ | ⟨r, ρ1⟩
  · rfl
  · simp only [bd_some]
    cases r with
    | nw _ => rfl
    | fr d =>
      cases d <;> first | rfl | skip
      simp only [intR_int, bd_some]
      rcases ev F v ρ1 with _ | ⟨r', ρ2⟩
      · rfl
      · simp only [bd_some]
        cases put i _ ρ2 <;> rfl
@[simp] theorem ex_rse : ex F .rse ρ = none := by simp only [ex]
@[simp] theorem ex_setIx (i ix e) : ex F (.setIx i ix e) ρ = bd (ev F e ρ) (k := ⟨fun p => bd (bd (rd p.2 i) (k := ⟨isL⟩)) (k := ⟨fun _ => bd (ev F ix p.2) (k := ⟨fun q => bd (intR q.1) (k := ⟨fun k => setS i q.2[i]? k p.1.d q.2⟩)⟩)⟩)⟩) := by
  simp only [ex]
  rcases ev F e ρ with _ | ⟨r, ρ1⟩
  · rfl
  · simp only [bd_some]
    rcases rd ρ1 i with _ | d
    · rfl
    · cases d <;> first
        | rfl
        | (simp only [bd_some, isL_list]
           rcases ev F ix ρ1 with _ | ⟨r2, ρ2⟩
           · rfl
           · simp only [bd_some]
             rcases r2 with d | d
             · cases d <;> first
                | rfl
                | (simp only [intR_int, bd_some]
                   rcases ρ2[i]? with _ | s
                   · rfl
                   · cases s <;> first | rfl | (simp only [setS, map_bd]))
             · rfl)
def atL : D → Int → Option Int
  | .list us, k => (atI us k).bind intOf
  | _, _ => none
@[simp] theorem atL_list (us k) : atL (.list us) k = bd (atI us k) (k := ⟨intOf⟩) := by
  show (atI us k).bind intOf = _
  rw [bind_bd]
@[simp] theorem intOf_int (i) : intOf (.int i) = some i := id rfl
@[simp] theorem ex_augIx (o i ix e) : ex F (.augIx o i ix e) ρ = bd (bd (rd ρ i) (k := ⟨isL⟩)) (k := ⟨fun _ => bd (ev F ix ρ) (k := ⟨fun p => bd (intR p.1) (k := ⟨fun k => bd (bd (rd p.2 i) (k := ⟨fun d => atL d k⟩)) (k := ⟨fun x => bd (ev F e p.2) (k := ⟨fun q => bd (intR q.1) (k := ⟨fun y =>
    bd (dBin o (.int x) (.int y)) (k := ⟨fun r => bd (intR r) (k := ⟨fun z => setS i q.2[i]? k (.int z) q.2⟩)⟩)⟩)⟩)⟩)⟩)⟩)⟩) := by
  simp only [ex]
  rcases rd ρ i with _ | d
  · rfl
  · cases d <;> first
      | rfl
      | (simp only [bd_some, isL_list]
         rcases ev F ix ρ with _ | ⟨r, ρ1⟩
         · rfl
         · simp only [bd_some]
           rcases r with d | d
           · cases d <;> first
              | rfl
              | (simp only [intR_int, bd_some]
                 rename_i k
                 rcases rd ρ1 i with _ | d
                 · rfl
                 · cases d <;> first
                    | rfl
                    | (simp only [bd_some, atL]
                       rename_i us
                       rcases atI us k with _ | x
                       · rfl
                       · cases x <;> first
                          | rfl
                          | (simp only [Option.bind_some, intOf_int, bd_some]
                             rcases ev F e ρ1 with _ | ⟨r, ρ2⟩
                             · rfl
                             · simp only [bd_some]
                               rcases r with d | d
                               · cases d <;> first
                                  | rfl
                                  | (simp only [intR_int, bd_some]
                                     rcases dBin o _ _ with _ | r
                                     · rfl
                                     · rcases r with d | d
                                       · cases d <;> first
                                          | rfl
                                          | (simp only [intR_int, bd_some]
                                             rcases ρ2[i]? with _ | s
                                             · rfl
                                             · cases s <;> first | rfl | (simp only [setS, map_bd]))
                                       · rfl)
                               · rfl)))
           · rfl)
@[simp] theorem ex_ex (e) : ex F (.ex e) ρ = bd (ev F e ρ) (k := ⟨fun p => some (.next, p.2)⟩) := by simp only [ex, map_bd]
@[simp] theorem ex_retN : ex F .retN ρ = some (.ret (.fr .none), ρ) := by simp only [ex]
@[simp] theorem ex_brk : ex F .brk ρ = some (.brk, ρ) := by simp only [ex]
@[simp] theorem ex_cont : ex F .cont ρ = some (.cont, ρ) := by simp only [ex]
@[simp] theorem ex_pass : ex F .pass ρ = some (.next, ρ) := by simp only [ex]
@[simp] theorem ex_ife (c a b) : ex F (.ife c a b) ρ = bd (ev F c ρ) (k := ⟨fun p => bd (boolR p.1) (k := ⟨fun t => brB t (k := ⟨(exs F a p.2), (exs F b p.2)⟩)⟩)⟩) := by
  simp only [ex]
  rcases ev F c ρ with _ | ⟨r, ρ1⟩
  · rfl
  · rcases r with d | d
    · cases d with
      | bool t => cases t <;> rfl
      | _ => rfl
    · rfl
@[simp] theorem ex_whl (n c b) : ex F (.whl n c b) ρ = whileL (ev F c) (exs F b) n ρ := by simp only [ex]
def fstep (F : FT) (t : T) (b : Ss) (d : D) (ρ : Env) : Option (Out × Env) := bd (asgT t d ρ) (k := ⟨fun ρa => exs F b ρa⟩)
@[simp] theorem ex_forr (t it b) : ex F (.forr t it b) ρ = bd (evI F it ρ) (k := ⟨fun p => bd (forL (fstep F t b) p.1 (lendL p.2.2 p.2.1)) (k := ⟨fun q => some (q.1, unlend p.2.2 q.2)⟩)⟩) := by
  simp only [ex]
  rcases evI F it ρ with _ | ⟨ds, ρ1, ls⟩
  · rfl
  · simp only [bd_some]
    have e : (fun d ρ => match asgT t d ρ with
        | none => none
        | some ρa => exs F b ρa) = fstep F t b := by
      funext d ρ
      unfold fstep
      cases asgT t d ρ <;> rfl
    rw [← e]
    rcases forL _ ds (lendL ls ρ1) with _ | ⟨o, ρ2⟩ <;> rfl
end
def finD (ks : List PK) (x : Option (Out × Env)) : Option (Res × List (List D)) := match x with
  | some (.ret r, ρ) => bd (outsOf ks ρ) (k := ⟨fun o => some (r, o)⟩)
  | some (.next, ρ) => bd (outsOf ks ρ) (k := ⟨fun o => some (.fr .none, o)⟩)
  | _ => none
@[simp] theorem finD_ret (ks r ρ) : finD ks (some (.ret r, ρ)) = bd (outsOf ks ρ) (k := ⟨fun o => some (r, o)⟩) := id rfl
@[simp] theorem finD_next (ks ρ) : finD ks (some (.next, ρ)) = bd (outsOf ks ρ) (k := ⟨fun o => some (.fr .none, o)⟩) := id rfl
theorem runD_eq (F d args) : runD F d args = gd (kindsB d.ks args = true) (finD d.ks (exs F d.body (args ++ List.replicate (d.N.length - args.length) .un))) := by
  unfold runD gd
  cases kindsB d.ks args
  · simp
  · simp only [Bool.true_eq_false, ↓reduceIte]
    rcases exs F d.body _ with _ | ⟨o, ρ⟩
    · rfl
    · cases o <;> simp only [finD, map_bd]
@[simp] theorem asgT_1 : asgT (.name i) d ρ = put i (.fz d) ρ := by simp only [asgT] <;> rfl
@[simp] theorem asgT_2 : asgT (.tup ts) (.tuple ds) ρ = asgTs ts ds ρ := by simp only [asgT] <;> rfl
@[simp] theorem asgTs_1 : asgTs .nil [] ρ = some ρ := by simp only [asgTs] <;> rfl
@[simp] theorem asgTs_2 : asgTs (.cons t ts) (d :: ds) ρ = match asgT t d ρ with
    | some ρ1 => asgTs ts ds ρ1
    | none => none := by simp only [asgTs] <;> rfl
@[simp] theorem asgR_1 : asgR (.name i) r ρ = put i (slotOf r) ρ := by simp only [asgR] <;> rfl
@[simp] theorem lendL_1 : lendL [] ρ = ρ := by simp only [lendL] <;> rfl
@[simp] theorem lendL_2 : lendL (i :: r) ρ = match ρ[i]? with
    | some (.own ds) => lendL r (ρ.set i (.lent ds))
    | _ => lendL r ρ := by simp only [lendL] <;> rfl
@[simp] theorem unlend_1 : unlend [] ρ = ρ := by simp only [unlend] <;> rfl
@[simp] theorem unlend_2 : unlend (i :: r) ρ = match ρ[i]? with
    | some (.lent ds) => unlend r (ρ.set i (.own ds))
    | _ => unlend r ρ := by simp only [unlend] <;> rfl
@[simp] theorem outsIn_1 : outsIn [] [] ρ = some ρ := by simp only [outsIn] <;> rfl
@[simp] theorem outsIn_2 : outsIn (i :: is) (ds :: r) ρ = match ρ[i]? with
    | some (.own _) => outsIn is r (ρ.set i (.own ds))
    | some (.mu _) => outsIn is r (ρ.set i (.mu ds))
    | _ => none := by simp only [outsIn] <;> rfl
@[simp] theorem outsOf_1 : outsOf (.M :: ks) (.mu ds :: ρ) = (outsOf ks ρ).map (ds :: ·) := by simp only [outsOf] <;> rfl
@[simp] theorem muts_1 : muts (.M :: ks) (.sl i :: oo) = i :: muts ks oo := by simp only [muts] <;> rfl
@[simp] theorem argsOf_1 : argsOf ρ [] [] = some [] := by simp only [argsOf] <;> rfl
@[simp] theorem argsOf_2 : argsOf ρ (k :: ks) (o :: oo) = match argOf ρ k o with
    | none => none
    | some s => match argsOf ρ ks oo with
      | none => none
      | some ss => some (s :: ss) := by simp only [argsOf] <;> rfl
@[simp] theorem dIdx_1 : dIdx (.list xs) (.int i) = atI xs i := by simp only [dIdx] <;> rfl
@[simp] theorem dIdx_2 : dIdx (.tuple xs) (.int i) = atI xs i := by simp only [dIdx] <;> rfl
@[simp] theorem dIdx_3 : dIdx (.str z) (.int i) = if z.length ≤ sizeLine then (atI z.cps.toList i).map fun c => .str ⟨#[c]⟩ else none := by simp only [dIdx] <;> rfl
@[simp] theorem dSlc_1 : dSlc (.list xs) lo hi = some (.nw (cutD xs lo hi)) := by simp only [dSlc] <;> rfl
@[simp] theorem dSlc_2 : dSlc (.tuple xs) lo hi = some (.fr (.tuple (cutD xs lo hi))) := by simp only [dSlc] <;> rfl
@[simp] theorem dSlc_3 : dSlc (.str z) lo hi = if z.length ≤ sizeLine then some (.fr (.str (cutS z lo hi))) else none := by simp only [dSlc] <;> rfl
@[simp] theorem dLen_1 : dLen (.list xs) = some (.int xs.length) := by simp only [dLen] <;> rfl
@[simp] theorem dLen_2 : dLen (.tuple xs) = some (.int xs.length) := by simp only [dLen] <;> rfl
@[simp] theorem dLen_3 : dLen (.str z) = if z.length ≤ sizeLine then some (.int z.length) else none := by simp only [dLen] <;> rfl
@[simp] theorem dMth_1 : dMth .count (.list xs) (.int i) = (allInts xs).map fun ns => .int (ns.count i) := by simp only [dMth] <;> rfl
@[simp] theorem slotOf_1 : slotOf (.fr d) = .fz d := by simp only [slotOf] <;> rfl
@[simp] theorem slotOf_2 : slotOf (.nw ds) = .own ds := by simp only [slotOf] <;> rfl
@[simp] theorem quietS_1 : quietS .un = true := by simp only [quietS] <;> rfl
@[simp] theorem boolOf_1 : boolOf (.bool b) = some b := by simp only [boolOf] <;> rfl
@[simp] theorem seqOf_1 : seqOf (.list ds) = some ds := by simp only [seqOf] <;> rfl
@[simp] theorem seqOf_2 : seqOf (.tuple ds) = some ds := by simp only [seqOf] <;> rfl
@[simp] theorem allInts_1 : allInts [] = some [] := by simp only [allInts] <;> rfl
@[simp] theorem allInts_2 : allInts (.int i :: r) = (allInts r).map (i :: ·) := by simp only [allInts] <;> rfl
@[simp] theorem allBools_1 : allBools [] = some [] := by simp only [allBools] <;> rfl
@[simp] theorem allBools_2 : allBools (.bool i :: r) = (allBools r).map (i :: ·) := by simp only [allBools] <;> rfl
@[simp] theorem asgR_tup : asgR (.tup ts) r ρ = asgT (.tup ts) r.d ρ := id rfl
@[simp] theorem freeze_eq : freeze i ρ = match ρ[i]? with
  | some (.fz d) => some (.fr d, ρ)
  | some (.own ds) => some (.fr (.list ds), ρ.set i (.fz (.list ds)))
  | some (.lent ds) => some (.fr (.list ds), ρ.set i (.fz (.list ds)))
  | some (.dp .tree d) => some (.fr d, ρ.set i (.fz d))
    | some (.dp .prv d) => some (.fr d, ρ.set i (.fz d))
    | _ => none := rfl
/-- an unset or a frozen slot -/
def qs : Option D → Slot
  | none => .un
  | some d => .fz d
def putK (s : Slot) (ρ : Env) : Option Env := match s with
  | .mu _ => none
  | _ => some ρ
@[simp] theorem putK_un (ρ) : putK .un ρ = some ρ := id rfl
@[simp] theorem putK_fz (d ρ) : putK (.fz d) ρ = some ρ := id rfl
@[simp] theorem putK_own (d ρ) : putK (.own d) ρ = some ρ := id rfl
@[simp] theorem putK_lent (d ρ) : putK (.lent d) ρ = some ρ := id rfl
@[simp] theorem putK_bor (d ρ) : putK (.bor d) ρ = some ρ := id rfl
@[simp] theorem putK_ro (d ρ) : putK (.ro d) ρ = some ρ := id rfl
@[simp] theorem putK_qs (o ρ) : putK (qs o) ρ = some ρ := by cases o <;> rfl
@[simp] theorem quietS_qs (o) : quietS (qs o) = true := by cases o <;> rfl
@[simp] theorem put_eq : put i s ρ = bd ρ[i]? (k := ⟨fun o => putK o (ρ.set i s)⟩) := by
  unfold put
  rcases ρ[i]? with _ | o
  · rfl
  · cases o <;> rfl
@[simp] theorem rd_eq : rd ρ i = match ρ[i]? with
  | some s => s.d?
  | none => none := rfl
@[simp] theorem rdr_eq : rdr ρ i = match ρ[i]? with
  | some s => s.dr?
  | none => none := rfl
@[simp] theorem get_v : Opd.get ρ (.v d) = some d := id rfl
@[simp] theorem get_sl : Opd.get ρ (.sl i) = rd ρ i := id rfl
@[simp] theorem getR_v : Opd.getR ρ (.v d) = some d := id rfl
@[simp] theorem getR_sl : Opd.getR ρ (.sl i) = rdr ρ i := id rfl
@[simp] theorem d_fr : (Res.fr d).d = d := id rfl
@[simp] theorem d_nw : (Res.nw ds).d = .list ds := id rfl
@[simp] theorem sd_un : Slot.un.d? = none := id rfl
@[simp] theorem sd_fz : (Slot.fz d).d? = some d := id rfl
@[simp] theorem sd_own : (Slot.own ds).d? = some (.list ds) := id rfl
@[simp] theorem sd_lent : (Slot.lent ds).d? = some (.list ds) := id rfl
@[simp] theorem sd_bor : (Slot.bor ds).d? = some (.list ds) := id rfl
@[simp] theorem sd_mu : (Slot.mu ds).d? = some (.list ds) := id rfl
@[simp] theorem sr_ro : (Slot.ro ds).dr? = some (.list ds) := id rfl
@[simp] theorem sr_fz : (Slot.fz d).dr? = some d := id rfl
@[simp] theorem sr_own : (Slot.own ds).dr? = some (.list ds) := id rfl
@[simp] theorem sr_lent : (Slot.lent ds).dr? = some (.list ds) := id rfl
@[simp] theorem sr_bor : (Slot.bor ds).dr? = some (.list ds) := id rfl
@[simp] theorem sr_mu : (Slot.mu ds).dr? = some (.list ds) := id rfl
@[simp] theorem noMu_v : noMu (.v d) ρ = true := id rfl
@[simp] theorem noMu_sl : noMu (.sl i) ρ = match ρ[i]? with
  | some (.mu _) => false
  | _ => true := rfl
@[simp] theorem lends_v : lends (.v d) ρ = [] := id rfl
@[simp] theorem lends_sl : lends (.sl i) ρ = match ρ[i]? with
  | some (.own ds) => [i]
  | _ => [] := rfl
@[simp] theorem wipe_nil : wipeE [] ρ = ρ := id rfl
@[simp] theorem wipe_cons : wipeE (v :: r) ρ = (wipeE r ρ).set v .un := id rfl
@[simp] theorem back_nil : backE [] ρ0 ρ = ρ := id rfl
@[simp] theorem back_cons : backE (v :: r) ρ0 ρ = match ρ0[v]? with
  | some s => (backE r ρ0 ρ).set v s
  | none => backE r ρ0 ρ := rfl
@[simp] theorem argOf_Bv : argOf ρ .B (.v d) = some (.fz d) := id rfl
@[simp] theorem argOf_Iv : argOf ρ .I (.v d) = some (.fz d) := id rfl
@[simp] theorem argOf_Bs : argOf ρ .B (.sl i) = match ρ[i]? with
    | some (.fz d) => some (.fz d)
    | some (.own ds) => some (.bor ds)
    | some (.lent ds) => some (.bor ds)
    | some (.bor ds) => some (.bor ds)
    | some (.mu ds) => some (.bor ds)
    | some (.ro ds) => some (.ro ds)
    | _ => none := rfl
@[simp] theorem argOf_Ms : argOf ρ .M (.sl i) = match ρ[i]? with
    | some (.own ds) => some (.mu ds)
    | some (.mu ds) => some (.mu ds)
    | _ => none := rfl
@[simp] theorem muts_B : muts (.B :: ks) (o :: oo) = muts ks oo := by cases o <;> rfl
@[simp] theorem muts_I : muts (.I :: ks) (o :: oo) = muts ks oo := by cases o <;> rfl
@[simp] theorem muts_nil : muts [] oo = [] := by cases oo <;> rfl
@[simp] theorem kinds_nil : kindsB [] [] = true := id rfl
@[simp] theorem kinds_M : kindsB (.M :: ks) (.mu ds :: r) = kindsB ks r := id rfl
@[simp] theorem kinds_Bf : kindsB (.B :: ks) (.fz d :: r) = kindsB ks r := id rfl
@[simp] theorem kinds_Bb : kindsB (.B :: ks) (.bor d :: r) = kindsB ks r := id rfl
@[simp] theorem kinds_Br : kindsB (.B :: ks) (.ro d :: r) = kindsB ks r := id rfl
@[simp] theorem kinds_I : kindsB (.I :: ks) (.fz d :: r) = kindsB ks r := id rfl
@[simp] theorem outsOf_B : outsOf (.B :: ks) (s :: ρ) = outsOf ks ρ := id rfl
@[simp] theorem outsOf_I : outsOf (.I :: ks) (s :: ρ) = outsOf ks ρ := id rfl
@[simp] theorem outsOf_M : outsOf (.M :: ks) (.mu ds :: ρ) = (outsOf ks ρ).map (ds :: ·) := id rfl
@[simp] theorem outsOf_nil : outsOf [] ρ = some [] := id rfl
@[simp] theorem opd_var : opd (.var i) f ρ = match ρ[i]? with
    | some (.fz d) => some (.v d, ρ)
    | some .un => none
    | some (.dp .tree d) => some (.v d, ρ.set i (.fz d))
    | some (.dp .prv d) => some (.v d, ρ.set i (.fz d))
    | some _ => some (.sl i, ρ)
    | none => none := rfl
@[simp] theorem ret_var : ex F (.ret (.var i)) ρ = match ρ[i]? with
    | some (.fz d) => some (.ret (.fr d), ρ)
    | some (.own ds) => some (.ret (.nw ds), ρ)
    | some (.dtt kvs) => some (.ret (.fr (dictD kvs)), ρ.set i (.fz (dictD kvs)))
    | some (.dp .tree d) => some (.ret (.fr d), ρ.set i (.fz d))
    | some (.dp .prv d) => some (.ret (.fr d), ρ.set i (.fz d))
    | _ => none := by simp only [ex] <;> rfl
@[simp] theorem opd_int : opd (.int n) f ρ = bd (f ρ) (k := ⟨fun p => some (.v p.1.d, p.2)⟩) := by simp only [opd]; cases f ρ <;> rfl
@[simp] theorem ret_int : ex F (.ret (.int n)) ρ = bd (ev F (.int n) ρ) (k := ⟨fun p => some (.ret p.1, p.2)⟩) := by simp only [ex, map_bd]
@[simp] theorem opd_bl : opd (.bl b) f ρ = bd (f ρ) (k := ⟨fun p => some (.v p.1.d, p.2)⟩) := by simp only [opd]; cases f ρ <;> rfl
@[simp] theorem ret_bl : ex F (.ret (.bl b)) ρ = bd (ev F (.bl b) ρ) (k := ⟨fun p => some (.ret p.1, p.2)⟩) := by simp only [ex, map_bd]
@[simp] theorem opd_non : opd (.non) f ρ = bd (f ρ) (k := ⟨fun p => some (.v p.1.d, p.2)⟩) := by simp only [opd]; cases f ρ <;> rfl
@[simp] theorem ret_non : ex F (.ret (.non)) ρ = bd (ev F (.non) ρ) (k := ⟨fun p => some (.ret p.1, p.2)⟩) := by simp only [ex, map_bd]
@[simp] theorem opd_str : opd (.str s) f ρ = bd (f ρ) (k := ⟨fun p => some (.v p.1.d, p.2)⟩) := by simp only [opd]; cases f ρ <;> rfl
@[simp] theorem ret_str : ex F (.ret (.str s)) ρ = bd (ev F (.str s) ρ) (k := ⟨fun p => some (.ret p.1, p.2)⟩) := by simp only [ex, map_bd]
@[simp] theorem opd_bin : opd (.bin o a b) f ρ = bd (f ρ) (k := ⟨fun p => some (.v p.1.d, p.2)⟩) := by simp only [opd]; cases f ρ <;> rfl
@[simp] theorem ret_bin : ex F (.ret (.bin o a b)) ρ = bd (ev F (.bin o a b) ρ) (k := ⟨fun p => some (.ret p.1, p.2)⟩) := by simp only [ex, map_bd]
@[simp] theorem opd_neg : opd (.neg a) f ρ = bd (f ρ) (k := ⟨fun p => some (.v p.1.d, p.2)⟩) := by simp only [opd]; cases f ρ <;> rfl
@[simp] theorem ret_neg : ex F (.ret (.neg a)) ρ = bd (ev F (.neg a) ρ) (k := ⟨fun p => some (.ret p.1, p.2)⟩) := by simp only [ex, map_bd]
@[simp] theorem opd_no : opd (.no a) f ρ = bd (f ρ) (k := ⟨fun p => some (.v p.1.d, p.2)⟩) := by simp only [opd]; cases f ρ <;> rfl
@[simp] theorem ret_no : ex F (.ret (.no a)) ρ = bd (ev F (.no a) ρ) (k := ⟨fun p => some (.ret p.1, p.2)⟩) := by simp only [ex, map_bd]
@[simp] theorem opd_cmp : opd (.cmp o a b) f ρ = bd (f ρ) (k := ⟨fun p => some (.v p.1.d, p.2)⟩) := by simp only [opd]; cases f ρ <;> rfl
@[simp] theorem ret_cmp : ex F (.ret (.cmp o a b)) ρ = bd (ev F (.cmp o a b) ρ) (k := ⟨fun p => some (.ret p.1, p.2)⟩) := by simp only [ex, map_bd]
@[simp] theorem opd_cmp2 : opd (.cmp2 o p a b c) f ρ = bd (f ρ) (k := ⟨fun p => some (.v p.1.d, p.2)⟩) := by simp only [opd]; cases f ρ <;> rfl
@[simp] theorem ret_cmp2 : ex F (.ret (.cmp2 o p a b c)) ρ = bd (ev F (.cmp2 o p a b c) ρ) (k := ⟨fun p => some (.ret p.1, p.2)⟩) := by simp only [ex, map_bd]
@[simp] theorem opd_and : opd (.and a b) f ρ = bd (f ρ) (k := ⟨fun p => some (.v p.1.d, p.2)⟩) := by simp only [opd]; cases f ρ <;> rfl
@[simp] theorem ret_and : ex F (.ret (.and a b)) ρ = bd (ev F (.and a b) ρ) (k := ⟨fun p => some (.ret p.1, p.2)⟩) := by simp only [ex, map_bd]
@[simp] theorem opd_or : opd (.or a b) f ρ = bd (f ρ) (k := ⟨fun p => some (.v p.1.d, p.2)⟩) := by simp only [opd]; cases f ρ <;> rfl
@[simp] theorem ret_or : ex F (.ret (.or a b)) ρ = bd (ev F (.or a b) ρ) (k := ⟨fun p => some (.ret p.1, p.2)⟩) := by simp only [ex, map_bd]
@[simp] theorem opd_ite : opd (.ite c a b) f ρ = bd (f ρ) (k := ⟨fun p => some (.v p.1.d, p.2)⟩) := by simp only [opd]; cases f ρ <;> rfl
@[simp] theorem ret_ite : ex F (.ret (.ite c a b)) ρ = bd (ev F (.ite c a b) ρ) (k := ⟨fun p => some (.ret p.1, p.2)⟩) := by simp only [ex, map_bd]
@[simp] theorem opd_idx : opd (.idx a i) f ρ = bd (f ρ) (k := ⟨fun p => some (.v p.1.d, p.2)⟩) := by simp only [opd]; cases f ρ <;> rfl
@[simp] theorem ret_idx : ex F (.ret (.idx a i)) ρ = bd (ev F (.idx a i) ρ) (k := ⟨fun p => some (.ret p.1, p.2)⟩) := by simp only [ex, map_bd]
@[simp] theorem opd_slc : opd (.slc a lo hi) f ρ = bd (f ρ) (k := ⟨fun p => some (.v p.1.d, p.2)⟩) := by simp only [opd]; cases f ρ <;> rfl
@[simp] theorem ret_slc : ex F (.ret (.slc a lo hi)) ρ = bd (ev F (.slc a lo hi) ρ) (k := ⟨fun p => some (.ret p.1, p.2)⟩) := by simp only [ex, map_bd]
@[simp] theorem opd_dix : opd (.dix i a b) f ρ = bd (f ρ) (k := ⟨fun p => some (.v p.1.d, p.2)⟩) := by simp only [opd]; cases f ρ <;> rfl
@[simp] theorem ret_dix : ex F (.ret (.dix i a b)) ρ = bd (ev F (.dix i a b) ρ) (k := ⟨fun p => some (.ret p.1, p.2)⟩) := by simp only [ex, map_bd]
@[simp] theorem opd_dlen : opd (.dlen i) f ρ = bd (f ρ) (k := ⟨fun p => some (.v p.1.d, p.2)⟩) := by simp only [opd]; cases f ρ <;> rfl
@[simp] theorem ret_dlen : ex F (.ret (.dlen i)) ρ = bd (ev F (.dlen i) ρ) (k := ⟨fun p => some (.ret p.1, p.2)⟩) := by simp only [ex, map_bd]
@[simp] theorem opd_dget : opd (.dget i k) f ρ = bd (f ρ) (k := ⟨fun p => some (.v p.1.d, p.2)⟩) := by simp only [opd]; cases f ρ <;> rfl
@[simp] theorem ret_dget : ex F (.ret (.dget i k)) ρ = bd (ev F (.dget i k) ρ) (k := ⟨fun p => some (.ret p.1, p.2)⟩) := by simp only [ex, map_bd]
@[simp] theorem opd_din : opd (.din b i k) f ρ = bd (f ρ) (k := ⟨fun p => some (.v p.1.d, p.2)⟩) := by simp only [opd]; cases f ρ <;> rfl
@[simp] theorem ret_din : ex F (.ret (.din b i k)) ρ = bd (ev F (.din b i k) ρ) (k := ⟨fun p => some (.ret p.1, p.2)⟩) := by simp only [ex, map_bd]
@[simp] theorem opd_rvs : opd (.rvs a) f ρ = bd (f ρ) (k := ⟨fun p => some (.v p.1.d, p.2)⟩) := by simp only [opd]; cases f ρ <;> rfl
@[simp] theorem ret_rvs : ex F (.ret (.rvs a)) ρ = bd (ev F (.rvs a) ρ) (k := ⟨fun p => some (.ret p.1, p.2)⟩) := by simp only [ex, map_bd]
@[simp] theorem opd_tup : opd (.tup es) f ρ = bd (f ρ) (k := ⟨fun p => some (.v p.1.d, p.2)⟩) := by simp only [opd]; cases f ρ <;> rfl
@[simp] theorem ret_tup : ex F (.ret (.tup es)) ρ = bd (ev F (.tup es) ρ) (k := ⟨fun p => some (.ret p.1, p.2)⟩) := by simp only [ex, map_bd]
@[simp] theorem opd_lst : opd (.lst es) f ρ = bd (f ρ) (k := ⟨fun p => some (.v p.1.d, p.2)⟩) := by simp only [opd]; cases f ρ <;> rfl
@[simp] theorem ret_lst : ex F (.ret (.lst es)) ρ = bd (ev F (.lst es) ρ) (k := ⟨fun p => some (.ret p.1, p.2)⟩) := by simp only [ex, map_bd]
@[simp] theorem opd_comp : opd (.comp elt t it c vs) f ρ = bd (f ρ) (k := ⟨fun p => some (.v p.1.d, p.2)⟩) := by simp only [opd]; cases f ρ <;> rfl
@[simp] theorem ret_comp : ex F (.ret (.comp elt t it c vs)) ρ = bd (ev F (.comp elt t it c vs) ρ) (k := ⟨fun p => some (.ret p.1, p.2)⟩) := by simp only [ex, map_bd]
@[simp] theorem opd_comp2 : opd (.comp2 elt t it c0 t1 it1 c vs vs1) f ρ = bd (f ρ) (k := ⟨fun p => some (.v p.1.d, p.2)⟩) := by simp only [opd]; cases f ρ <;> rfl
@[simp] theorem ret_comp2 : ex F (.ret (.comp2 elt t it c0 t1 it1 c vs vs1)) ρ = bd (ev F (.comp2 elt t it c0 t1 it1 c vs vs1) ρ) (k := ⟨fun p => some (.ret p.1, p.2)⟩) := by simp only [ex, map_bd]
@[simp] theorem opd_setc : opd (.setc bb elt t it c vs) f ρ = bd (f ρ) (k := ⟨fun p => some (.v p.1.d, p.2)⟩) := by simp only [opd]; cases f ρ <;> rfl
@[simp] theorem ret_setc : ex F (.ret (.setc bb elt t it c vs)) ρ = bd (ev F (.setc bb elt t it c vs) ρ) (k := ⟨fun p => some (.ret p.1, p.2)⟩) := by simp only [ex, map_bd]
@[simp] theorem opd_call : opd (.call g es) f ρ = bd (f ρ) (k := ⟨fun p => some (.v p.1.d, p.2)⟩) := by simp only [opd]; cases f ρ <;> rfl
@[simp] theorem ret_call : ex F (.ret (.call g es)) ρ = bd (ev F (.call g es) ρ) (k := ⟨fun p => some (.ret p.1, p.2)⟩) := by simp only [ex, map_bd]
@[simp] theorem opd_pcall : opd (.pcall g es) f ρ = bd (f ρ) (k := ⟨fun p => some (.v p.1.d, p.2)⟩) := by simp only [opd]; cases f ρ <;> rfl
@[simp] theorem ret_pcall : ex F (.ret (.pcall g es)) ρ = bd (ev F (.pcall g es) ρ) (k := ⟨fun p => some (.ret p.1, p.2)⟩) := by simp only [ex, map_bd]
@[simp] theorem opd_blt : opd (.blt bb es) f ρ = bd (f ρ) (k := ⟨fun p => some (.v p.1.d, p.2)⟩) := by simp only [opd]; cases f ρ <;> rfl
@[simp] theorem ret_blt : ex F (.ret (.blt bb es)) ρ = bd (ev F (.blt bb es) ρ) (k := ⟨fun p => some (.ret p.1, p.2)⟩) := by simp only [ex, map_bd]
@[simp] theorem opd_isi : opd (.isi a ty) f ρ = bd (f ρ) (k := ⟨fun p => some (.v p.1.d, p.2)⟩) := by simp only [opd]; cases f ρ <;> rfl
@[simp] theorem ret_isi : ex F (.ret (.isi a ty)) ρ = bd (ev F (.isi a ty) ρ) (k := ⟨fun p => some (.ret p.1, p.2)⟩) := by simp only [ex, map_bd]
@[simp] theorem opd_len : opd (.len a) f ρ = bd (f ρ) (k := ⟨fun p => some (.v p.1.d, p.2)⟩) := by simp only [opd]; cases f ρ <;> rfl
@[simp] theorem ret_len : ex F (.ret (.len a)) ρ = bd (ev F (.len a) ρ) (k := ⟨fun p => some (.ret p.1, p.2)⟩) := by simp only [ex, map_bd]
@[simp] theorem opd_rngs : opd (.rngs bb it) f ρ = bd (f ρ) (k := ⟨fun p => some (.v p.1.d, p.2)⟩) := by simp only [opd]; cases f ρ <;> rfl
@[simp] theorem ret_rngs : ex F (.ret (.rngs bb it)) ρ = bd (ev F (.rngs bb it) ρ) (k := ⟨fun p => some (.ret p.1, p.2)⟩) := by simp only [ex, map_bd]
@[simp] theorem opd_meth : opd (.meth m o a) f ρ = bd (f ρ) (k := ⟨fun p => some (.v p.1.d, p.2)⟩) := by simp only [opd]; cases f ρ <;> rfl
@[simp] theorem ret_meth : ex F (.ret (.meth m o a)) ρ = bd (ev F (.meth m o a) ρ) (k := ⟨fun p => some (.ret p.1, p.2)⟩) := by simp only [ex, map_bd]
@[simp] theorem opd_chg : opd (.chg m i es) f ρ = bd (f ρ) (k := ⟨fun p => some (.v p.1.d, p.2)⟩) := by simp only [opd]; cases f ρ <;> rfl
@[simp] theorem ret_chg : ex F (.ret (.chg m i es)) ρ = bd (ev F (.chg m i es) ρ) (k := ⟨fun p => some (.ret p.1, p.2)⟩) := by simp only [ex, map_bd]

@[simp] theorem dBin_addI (i j) : dBin .add (.int i) (.int j) = some (.fr (.int (i + j))) := id rfl
@[simp] theorem dBin_subI (i j) : dBin .sub (.int i) (.int j) = some (.fr (.int (i - j))) := id rfl
@[simp] theorem dBin_addL (x y) : dBin .add (.list x) (.list y) = gd (x.length + y.length ≤ sizeLine) (some (.nw (x ++ y))) := if_gd _ _
@[simp] theorem dBin_addT (x y) : dBin .add (.tuple x) (.tuple y) = gd (x.length + y.length ≤ sizeLine) (some (.fr (.tuple (x ++ y)))) := if_gd _ _
@[simp] theorem dBin_addS (x y : Str) : dBin .add (.str x) (.str y) = gd (x.length + y.length ≤ sizeLine) (some (.fr (.str (x ++ y)))) := if_gd _ _
/-- what * asks -/
def mulOk (i j : Int) : Prop := CMul i j ∨ CMulW i j
theorem mulOk_r {i j : Int} (h0 : -18446744073709551616 < j) (h1 : j < 18446744073709551616) : mulOk i j := .inl (.inr ⟨by omega, by omega⟩)
theorem mulOk_l {i j : Int} (h0 : -18446744073709551616 < i) (h1 : i < 18446744073709551616) : mulOk i j := .inl (.inl ⟨by omega, by omega⟩)
theorem mulOk_w {i j : Int} {a b : Nat} (ha : i.natAbs < 2 ^ a) (hb : j.natAbs < 2 ^ b) (h0 : 0 < a) (h1 : 0 < b) (h : a + b ≤ 1000000) : mulOk i j := .inr (wide_mul ha hb h0 h1 h)
@[simp] theorem dBin_mulI (i j) : dBin .mul (.int i) (.int j) = gd (mulOk i j) (some (.fr (.int (i * j)))) := if_gd _ _
@[simp] theorem dBin_mulL (x j) : dBin .mul (.list x) (.int j) = gd (-(2 ^ 63) ≤ j ∧ j < 2 ^ 63 ∧ x.length * j.toNat ≤ sizeLine) (some (.nw (List.replicate j.toNat x).flatten)) := if_gd _ _
@[simp] theorem dBin_fdiv (i j) : dBin .fdiv (.int i) (.int j) = gd (j ≠ 0 ∧ j.natAbs.log2 < 9000) (some (.fr (.int (i.fdiv j)))) := if_gd _ _
@[simp] theorem dBin_mod (i j) : dBin .mod (.int i) (.int j) = gd (j ≠ 0) (some (.fr (.int (i.fmod j)))) := if_gd _ _
@[simp] theorem dBin_pow (i j) : dBin .pow (.int i) (.int j) = gd (CPow i j) (some (.fr (.int (i ^ j.toNat)))) := if_gd _ _
@[simp] theorem dCmp_lt (i j) : dCmp .lt (.int i) (.int j) = some (decide (i < j)) := id rfl
@[simp] theorem dCmp_le (i j) : dCmp .le (.int i) (.int j) = some (decide (i ≤ j)) := id rfl
@[simp] theorem dCmp_gt (i j) : dCmp .gt (.int i) (.int j) = some (decide (j < i)) := id rfl
@[simp] theorem dCmp_ge (i j) : dCmp .ge (.int i) (.int j) = some (decide (j ≤ i)) := id rfl
theorem ordC_gd (d e b) : ordC d e b = gd (ordOk d e = true) (some b) := if_gd _ _
@[simp] theorem dCmp_ltT (x y) : dCmp .lt (.tuple x) (.tuple y) = gd (ordOk (.tuple x) (.tuple y) = true) (some (PySem.W.dataLt (.tuple x) (.tuple y))) := ordC_gd _ _ _
@[simp] theorem dCmp_gtT (x y) : dCmp .gt (.tuple x) (.tuple y) = gd (ordOk (.tuple x) (.tuple y) = true) (some (PySem.W.dataLt (.tuple y) (.tuple x))) := ordC_gd _ _ _
@[simp] theorem dCmp_leT (x y) : dCmp .le (.tuple x) (.tuple y) = gd (ordOk (.tuple x) (.tuple y) = true) (some (!PySem.W.dataLt (.tuple y) (.tuple x))) := ordC_gd _ _ _
@[simp] theorem dCmp_geT (x y) : dCmp .ge (.tuple x) (.tuple y) = gd (ordOk (.tuple x) (.tuple y) = true) (some (!PySem.W.dataLt (.tuple x) (.tuple y))) := ordC_gd _ _ _
@[simp] theorem dCmp_ltL (x y) : dCmp .lt (.list x) (.list y) = gd (ordOk (.list x) (.list y) = true) (some (PySem.W.dataLt (.list x) (.list y))) := ordC_gd _ _ _
@[simp] theorem dCmp_gtL (x y) : dCmp .gt (.list x) (.list y) = gd (ordOk (.list x) (.list y) = true) (some (PySem.W.dataLt (.list y) (.list x))) := ordC_gd _ _ _
@[simp] theorem dCmp_isN (d) : dCmp .is d .none = some (match d with | .none => true | _ => false) := id rfl
@[simp] theorem dCmp_isnN (d) : dCmp .isn d .none = some (match d with | .none => false | _ => true) := id rfl
@[simp] theorem dCmp_isB (d b) : dCmp .is d (.bool b) = some (match d with | .bool c => b == c | _ => false) := id rfl
@[simp] theorem dCmp_isnB (d b) : dCmp .isn d (.bool b) = some (match d with | .bool c => b != c | _ => true) := id rfl
theorem dCmp_eq (d e) : dCmp .eq d e = gd ((SeqAt.shaped d && SeqAt.shaped e) = true) (some (PyData.eqv d e)) := by
  simp only [dCmp]
  cases d <;> cases e <;> exact if_gd _ _
theorem dCmp_ne (d e) : dCmp .ne d e = gd ((SeqAt.shaped d && SeqAt.shaped e) = true) (some (!PyData.eqv d e)) := by
  simp only [dCmp]
  cases d <;> cases e <;> exact if_gd _ _
@[simp] theorem dCmp_innL (d ds) : dCmp .inn d (.list ds) = gd ((SeqAt.shaped d && SeqAt.shaped (.list ds)) = true) (some (ds.any fun z => PyData.eqv z d)) := by
  rw [← if_gd]
  cases d <;> first | rfl | simp [dCmp, isFlat]
@[simp] theorem dCmp_ninL (d ds) : dCmp .nin d (.list ds) = gd ((SeqAt.shaped d && SeqAt.shaped (.list ds)) = true) (some (!ds.any fun z => PyData.eqv z d)) := by
  rw [← if_gd]
  cases d <;> first | rfl | simp [dCmp, isFlat]
@[simp] theorem dCmp_innT (d ds) : dCmp .inn d (.tuple ds) = gd ((isFlat d && ds.all isFlat) = true) (some (ds.any fun z => PyData.eqv z d)) := by
  rw [← if_gd]
  cases d <;> first | rfl | simp [dCmp, isFlat]
@[simp] theorem dCmp_ninT (d ds) : dCmp .nin d (.tuple ds) = gd ((isFlat d && ds.all isFlat) = true) (some (!ds.any fun z => PyData.eqv z d)) := by
  rw [← if_gd]
  cases d <;> first | rfl | simp [dCmp, isFlat]
@[simp] theorem dBlt_abs (i) : dBlt .abs [.int i] = some (.fr (.int i.natAbs)) := id rfl
@[simp] theorem dBlt_intI (i) : dBlt .int [.int i] = some (.fr (.int i)) := id rfl
@[simp] theorem dBlt_intB (b) : dBlt .int [.bool b] = some (.fr (.int (if b then 1 else 0))) := id rfl
@[simp] theorem dBlt_str (i) : dBlt .str [.int i] = gd (i.natAbs.log2 < 1920) (some (.fr (.str (Str.ofString (toString i))))) := if_gd _ _
@[simp] theorem dBlt_repr (i) : dBlt .repr [.int i] = gd (i.natAbs.log2 < 1920) (some (.fr (.str (Str.ofString (toString i))))) := if_gd _ _
@[simp] theorem dBlt_sum (xs) : dBlt .sum [.list xs] = bd (allInts xs) (k := ⟨fun ns => some (.fr (.int ns.sum))⟩) := by simp only [dBlt, map_bd]
@[simp] theorem dBlt_sumT (xs) : dBlt .sum [.tuple xs] = bd (allInts xs) (k := ⟨fun ns => some (.fr (.int ns.sum))⟩) := by simp only [dBlt, map_bd]
@[simp] theorem mxR_some (x r xs) : mxR (some (x :: r)) xs = some (.fr (.int (maxI x r))) := id rfl
@[simp] theorem mnR_some (x r xs) : mnR (some (x :: r)) xs = some (.fr (.int (minI x r))) := id rfl
@[simp] theorem mxR_none (x r) : mxR none (x :: r) = gd (mmOk (x :: r) = true) (some (.fr (PySem.W.maxD x r))) := if_gd _ _
@[simp] theorem mnR_none (x r) : mnR none (x :: r) = gd (mmOk (x :: r) = true) (some (.fr (PySem.W.minD x r))) := if_gd _ _
@[simp] theorem srtR_some (ns xs) : srtR (some ns) xs = some (.nw ((sortI ns).map .int)) := id rfl
@[simp] theorem srtR_none {xs : List D} (h : sortOk xs = true) : srtR none xs = some (.nw (sortD xs)) := by simp only [srtR, sortG, if_pos h]
theorem srtR_short {xs : List D} (h : ¬ sortOk xs = true) (hl : xs.length < 2) : srtR none xs = some (.nw xs) := by simp only [srtR, sortG, if_neg h, if_pos hl]
@[simp] theorem dBlt_max (xs) : dBlt .max [.list xs] = mxR (allInts xs) xs := id rfl
@[simp] theorem dBlt_min (xs) : dBlt .min [.list xs] = mnR (allInts xs) xs := id rfl
@[simp] theorem dBlt_maxT (xs) : dBlt .max [.tuple xs] = mxR (allInts xs) xs := id rfl
@[simp] theorem dBlt_minT (xs) : dBlt .min [.tuple xs] = mnR (allInts xs) xs := id rfl
@[simp] theorem dBlt_max2 (i j) : dBlt .max2 [.int i, .int j] = some (.fr (.int (if j > i then j else i))) := id rfl
@[simp] theorem dBlt_min2 (i j) : dBlt .min2 [.int i, .int j] = some (.fr (.int (if j < i then j else i))) := id rfl
@[simp] theorem dBlt_all (xs) : dBlt .all [.list xs] = bd (allBools xs) (k := ⟨fun ns => some (.fr (.bool (ns.all id)))⟩) := by simp only [dBlt, map_bd]
@[simp] theorem dBlt_any (xs) : dBlt .any [.list xs] = bd (allBools xs) (k := ⟨fun ns => some (.fr (.bool (ns.any id)))⟩) := by simp only [dBlt, map_bd]
@[simp] theorem dBlt_sorted (xs) : dBlt .sorted [.list xs] = srtR (allInts xs) xs := id rfl
@[simp] theorem dBlt_sortedT (xs) : dBlt .sorted [.tuple xs] = bd (allInts xs) (k := ⟨fun ns => some (.nw ((sortI ns).map .int))⟩) := by simp only [dBlt, map_bd]
@[simp] theorem dBlt_listL (xs) : dBlt .list [.list xs] = some (.nw xs) := id rfl
@[simp] theorem dBlt_listT (xs) : dBlt .list [.tuple xs] = some (.nw xs) := id rfl
@[simp] theorem dBlt_tupL (xs) : dBlt .tuple [.list xs] = some (.fr (.tuple xs)) := id rfl
@[simp] theorem dBlt_tupT (xs) : dBlt .tuple [.tuple xs] = some (.fr (.tuple xs)) := id rfl
@[simp] theorem dBlt_gcd (a b) : dBlt .gcd [.int a, .int b] = some (.fr (.int (Nat.gcd a.natAbs b.natAbs : Nat))) := id rfl
@[simp] theorem dChg_append (xs d) : dChg .append xs [d] = gd (xs.length < sizeLine) (some (xs ++ [d], .none)) := if_gd _ _
def popR (xs : List D) : Option (List D × D) := match xs.getLast? with | none => none | some z => some (xs.dropLast, z)
@[simp] theorem dChg_pop (xs) : dChg .pop xs [] = popR xs := id rfl
@[simp] theorem popR_snoc (xs z) : popR (xs ++ [z]) = some (xs, z) := by simp [popR]
@[simp] theorem dChg_popAt (xs i) : dChg .popAt xs [.int i] = bd (ixN xs.length i) (k := ⟨fun j => bd xs[j]? (k := ⟨fun z => some (xs.eraseIdx j, z)⟩)⟩) := by
  show ((ixN xs.length i).bind fun j => (xs[j]?).map fun z => (xs.eraseIdx j, z)) = _
  simp only [bind_bd, map_bd]
@[simp] theorem dChg_insert (xs i d) : dChg .insert xs [.int i, d] = gd (0 ≤ i ∧ i < 2 ^ 63 ∧ xs.length < sizeLine) (some (xs.take i.toNat ++ [d] ++ xs.drop i.toNat, .none)) := if_gd _ _
@[simp] theorem dChg_extend (xs ys) : dChg .extend xs [.list ys] = gd (xs.length + ys.length ≤ sizeLine) (some (xs ++ ys, .none)) := if_gd _ _
@[simp] theorem dChg_remove (xs d) : dChg .remove xs [d] = gd ((SeqAt.shaped d && SeqAt.shaped (.list xs)) = true) (bd (indexD d xs) (k := ⟨fun j => some (xs.eraseIdx j, .none)⟩)) := by
  simp only [dChg, map_bd]; exact if_gd _ _
@[simp] theorem dChg_reverse (xs) : dChg .reverse xs [] = some (xs.reverse, .none) := id rfl
end Ev



set_option maxRecDepth 100000
/-! Lx: rules for loops. -/
namespace Ev
open PySem L2
class Kp where
  p : Env → Prop
/-- a turn goes on, to a state with p -/
def St (x : Option (Out × Env)) [k : Kp] : Prop := ∃ ρ', x = some (.next, ρ') ∧ k.p ρ'
theorem St.next {ρ : Env} {k : Kp} (h : k.p ρ) : St (some (.next, ρ)) (k := k) := ⟨ρ, rfl, h⟩
theorem St.mono {x} {P Q : Env → Prop} (h : St x (k := ⟨P⟩)) (m : ∀ ρ, P ρ → Q ρ) : St x (k := ⟨Q⟩) := by
  obtain ⟨ρ, e, p⟩ := h
  exact ⟨ρ, e, m ρ p⟩
class Kr where
  p : Res → List (List D) → Prop
/-- a def's run ends, with p -/
def Rt (x : Option (Res × List (List D))) [k : Kr] : Prop := ∃ r o, x = some (r, o) ∧ k.p r o
theorem Rt.ok {r : Res} {o : List (List D)} {k : Kr} (h : k.p r o) : Rt (some (r, o)) (k := k) := ⟨r, o, rfl, h⟩
theorem forL_use {b : D → Env → Option (Out × Env)} {ds : List D} {ρ : Env} {x : Option (Out × Env)} (hf : forL b ds ρ = x) (P : Nat → Env → Prop) (h0 : P 0 ρ)
    (hs : ∀ (i : Nat) (d : D) (ρ : Env), ds[i]? = some d → P i ρ → St (b d ρ) (k := ⟨P (i + 1)⟩)) : ∃ ρ', x = some (.next, ρ') ∧ P ds.length ρ' := by
  induction ds generalizing ρ P with
  | nil => exact ⟨ρ, by rw [← hf]; rfl, h0⟩
  | cons d ds ih =>
    obtain ⟨ρ1, e1, h1⟩ := hs 0 d ρ rfl h0
    rw [forL_cons, e1] at hf
    obtain ⟨ρ2, e2, h2⟩ := ih hf (fun i => P (i + 1)) h1 fun i d ρ hd hp => hs (i + 1) d ρ (by simpa using hd) hp
    exact ⟨ρ2, e2, h2⟩
theorem rng_get {a b : Int} {i : Nat} {d : D} (h : (rngD a b)[i]? = some d) : i < (b - a).toNat ∧ d = .int (a + i) := by
  unfold rngD at h
  rw [List.getElem?_map] at h
  cases e : (List.range (b - a).toNat)[i]? with
  | none => rw [e] at h; cases h
  | some j =>
    rw [e] at h
    cases h
    obtain ⟨hl, hj⟩ := List.getElem?_eq_some_iff.mp e
    rw [List.getElem_range] at hj
    subst hj
    exact ⟨by simpa using hl, rfl⟩
@[simp] theorem rng_len (a b : Int) : (rngD a b).length = (b - a).toNat := by simp [rngD]
theorem forR_use {b : D → Env → Option (Out × Env)} {m n : Int} {ρ : Env} {x : Option (Out × Env)} (hf : forL b (rngD m n) ρ = x) (P : Nat → Env → Prop) (h0 : P 0 ρ)
    (hs : ∀ (i : Nat) (ρ : Env), i < (n - m).toNat → P i ρ → St (b (.int (m + i)) ρ) (k := ⟨P (i + 1)⟩)) : ∃ ρ', x = some (.next, ρ') ∧ P (n - m).toNat ρ' := by
  have := forL_use hf P h0 fun i d ρ hd hp => by
    obtain ⟨hi, rfl⟩ := rng_get hd
    exact hs i ρ hi hp
  rwa [rng_len] at this
theorem forM_use {α : Type} {enc : α → D} {xs : List α} {b : D → Env → Option (Out × Env)} {ρ : Env} {x : Option (Out × Env)} (hf : forL b (xs.map enc) ρ = x) (P : Nat → Env → Prop) (h0 : P 0 ρ)
    (hs : ∀ (i : Nat) (a : α) (ρ : Env), xs[i]? = some a → P i ρ → St (b (enc a) ρ) (k := ⟨P (i + 1)⟩)) : ∃ ρ', x = some (.next, ρ') ∧ P xs.length ρ' := by
  have := forL_use hf P h0 fun i d ρ hd hp => by
    rw [List.getElem?_map] at hd
    cases e : xs[i]? with
    | none => rw [e] at hd; cases hd
    | some a => rw [e] at hd; cases hd; exact hs i a ρ e hp
  rwa [List.length_map] at this
/-- the first k turns go on, then the loop is left -/
theorem forL_ret {b : D → Env → Option (Out × Env)} {ds : List D} {ρ : Env} {x : Option (Out × Env)} (hf : forL b ds ρ = x) (P : Nat → Env → Prop) (n : Nat) (R : Res → Env → Prop) (h0 : P 0 ρ) (hn : n < ds.length)
    (hs : ∀ (i : Nat) (d : D) (ρ : Env), i < n → ds[i]? = some d → P i ρ → St (b d ρ) (k := ⟨P (i + 1)⟩))
    (hr : ∀ (d : D) (ρ : Env), ds[n]? = some d → P n ρ → ∃ r ρ', b d ρ = some (.ret r, ρ') ∧ R r ρ') : ∃ r ρ', x = some (.ret r, ρ') ∧ R r ρ' := by
  induction n generalizing ds ρ P with
  | zero =>
    cases ds with
    | nil => simp at hn
    | cons d ds =>
      obtain ⟨r, ρ1, e1, h1⟩ := hr d ρ rfl h0
      rw [forL_cons, e1] at hf
      exact ⟨r, ρ1, hf.symm, h1⟩
  | succ n ih =>
    cases ds with
    | nil => simp at hn
    | cons d ds =>
      obtain ⟨ρ1, e1, h1⟩ := hs 0 d ρ (by omega) rfl h0
      rw [forL_cons, e1] at hf
      exact ih hf (fun i => P (i + 1)) h1 (by simpa using hn) (fun i d ρ hi hd hp => hs (i + 1) d ρ (by omega) (by simpa using hd) hp) (fun d ρ hd hp => hr d ρ (by simpa using hd) hp)
theorem compL_use {stp : D → Env → Option (Option D × Env)} {ds : List D} {ρ : Env} {x : Option (List D × Env)} (hf : compL stp ds ρ = x) (f : D → Option D) (hs : ∀ d ∈ ds, stp d ρ = some (f d, ρ)) : x = some (ds.filterMap f, ρ) := by
  subst hf
  induction ds with
  | nil => rfl
  | cons d ds ih =>
    rw [compL, hs d (by simp)]
    simp only
    rw [ih fun d hd => hs d (by simp [hd])]
    cases e : f d <;> simp [e]
theorem compM_use {α : Type} {enc : α → D} {xs : List α} {stp : D → Env → Option (Option D × Env)} {ρ : Env} {x : Option (List D × Env)} (hf : compL stp (xs.map enc) ρ = x) (f : α → Option D) (hs : ∀ d ∈ xs, stp (enc d) ρ = some (f d, ρ)) : x = some (xs.filterMap f, ρ) := by
  subst hf
  induction xs with
  | nil => rfl
  | cons d ds ih =>
    rw [List.map_cons, compL, hs d (by simp)]
    simp only
    rw [ih fun d hd => hs d (by simp [hd])]
    cases e : f d <;> simp [*]
/-- a comprehension over a range, an item each -/
theorem compR_use {m n : Int} {stp : D → Env → Option (Option D × Env)} {ρ : Env} {x : Option (List D × Env)} (hf : compL stp (rngD m n) ρ = x) (f : Nat → Option D) (hs : ∀ i, i < (n - m).toNat → stp (.int (m + (i : Nat))) ρ = some (f i, ρ)) :
    x = some ((List.range (n - m).toNat).filterMap f, ρ) :=
  compM_use (enc := fun i : Nat => PyData.int (m + i)) (xs := List.range (n - m).toNat) hf f fun i hi => hs i (by simpa using hi)
theorem compL_st {stp : D → Env → Option (Option D × Env)} {ds : List D} {ρ : Env} {x : Option (List D × Env)} (hf : compL stp ds ρ = x) (P : Nat → List D → Env → Prop) (h0 : P 0 [] ρ)
    (hs : ∀ (i : Nat) (d : D) (r : List D) (ρ : Env), ds[i]? = some d → P i r ρ → ∃ o ρ', stp d ρ = some (o, ρ') ∧ P (i + 1) (r ++ o.toList) ρ') : ∃ r ρ', x = some (r, ρ') ∧ P ds.length r ρ' := by
  suffices h : ∀ (r0 : List D) (P : Nat → List D → Env → Prop), P 0 r0 ρ → (∀ (i : Nat) (d : D) (r : List D) (ρ : Env), ds[i]? = some d → P i r ρ → ∃ o ρ', stp d ρ = some (o, ρ') ∧ P (i + 1) (r ++ o.toList) ρ') →
      ∃ r ρ', x = some (r, ρ') ∧ P ds.length (r0 ++ r) ρ' by
    simpa using h [] P h0 hs
  clear h0 hs P
  intro r0 P h0 hs
  induction ds generalizing ρ P r0 x with
  | nil => exact ⟨[], ρ, by rw [← hf]; rfl, by simpa using h0⟩
  | cons d ds ih =>
    obtain ⟨o, ρ1, e1, h1⟩ := hs 0 d r0 ρ rfl h0
    rw [compL, e1] at hf
    simp only at hf
    obtain ⟨r, ρ2, e2, h2⟩ := ih rfl (r0 ++ o.toList) (fun i => P (i + 1)) h1 fun i d r ρ hd hp => hs (i + 1) d r ρ (by simpa using hd) hp
    rw [e2] at hf
    refine ⟨o.toList ++ r, ρ2, ?_, by simpa using h2⟩
    rw [← hf]
    cases o <;> rfl
theorem whileL_use {σ : Type} {c : Env → Option (Res × Env)} {b : Env → Option (Out × Env)} {n : Nat} {x : Option (Out × Env)} (st : σ → Env) (μ : σ → Nat) (I Q : σ → Prop) {s : σ} (hf : whileL c b n (st s) = x) (hI : I s) (hn : μ s < n)
    (hs : ∀ s, I s → (c (st s) = some (.fr (.bool false), st s) ∧ Q s) ∨ ∃ s', c (st s) = some (.fr (.bool true), st s) ∧ b (st s) = some (.next, st s') ∧ I s' ∧ μ s' < μ s) : ∃ s', x = some (.next, st s') ∧ Q s' := by
  subst hf
  induction n generalizing s with
  | zero => omega
  | succ n ih =>
    rw [whileL]
    rcases hs s hI with ⟨e, q⟩ | ⟨s', e1, e2, i, m⟩
    · rw [e]; exact ⟨s, rfl, q⟩
    · rw [e1]
      simp only [e2]
      exact ih i (by omega)
end Ev

set_option maxRecDepth 100000
/-! Lt: the rules of the evaluator for dicts whose keys are tuples. -/
namespace Ev
open PySem L2
variable {F : FT} {ρ : Env} {i : Nat} {f : Env → Option (Res × Env)}
def dttR (s : Option Slot) : Option (List (List Int × D)) := match s with
  | some (.dtt kvs) => some kvs
  | _ => none
@[simp] theorem dttR_some (kvs) : dttR (some (.dtt kvs)) = some kvs := id rfl
theorem dttB_of {ρ : Env} {i : Nat} : dttB ρ i = (dttR ρ[i]?).isSome := by
  unfold dttB dttR
  rcases ρ[i]? with _ | s
  · rfl
  · cases s <;> rfl
theorem tGetS_of {ρ : Env} {i : Nat} {k d} : tGetS ρ i k d = bd (dttR ρ[i]?) (k := ⟨fun kvs => some ((tGet kvs k).getD d)⟩) := by
  unfold tGetS
  rcases ρ[i]? with _ | s
  · rfl
  · cases s <;> rfl
theorem tPutS_of {ρ : Env} {i : Nat} {k d} : tPutS ρ i k d = bd (dttR ρ[i]?) (k := ⟨fun kvs => gd (kvs.length < sizeLine) (some (ρ.set i (.dtt (tPut kvs k d))))⟩) := by
  unfold tPutS
  rcases h : ρ[i]? with _ | s
  · rfl
  · cases s <;> first | rfl | exact if_gd _ _
@[simp] theorem ev_tlit (k v) : ev F (.tlit k v) ρ = bd (ev F k ρ) (k := ⟨fun p => bd (ev F v p.2) (k := ⟨fun q => bd (tlitR p.1.d q.1.d) (k := ⟨fun r => some (r, q.2)⟩)⟩)⟩) := by
  simp only [ev]
  rcases ev F k ρ with _ | ⟨r, ρ1⟩
  · rfl
  · simp only [bd_some]
    rcases ev F v ρ1 with _ | ⟨r', ρ2⟩
    · rfl
    · simp only [bd_some]; cases tlitR r.d r'.d <;> rfl
@[simp] theorem ev_tget (i k d) : ev F (.tget i k d) ρ = bd (dttR ρ[i]?) (k := ⟨fun _ => bd (ev F k ρ) (k := ⟨fun p => bd (keyD p.1.d) (k := ⟨fun ks => bd (ev F d p.2) (k := ⟨fun q => bd (dttR q.2[i]?) (k := ⟨fun kvs => some (.fr ((tGet kvs ks).getD q.1.d), q.2)⟩)⟩)⟩)⟩)⟩) := by
  simp only [ev, dttB_of]
  cases h : dttR ρ[i]? with
  | none => rfl
  | some kvs =>
    simp only [Option.isSome_some, bd_some]
    rcases ev F k ρ with _ | ⟨r, ρ1⟩
    · rfl
    · simp only [bd_some]
      cases keyD r.d with
      | none => rfl
      | some ks =>
        simp only [bd_some]
        rcases ev F d ρ1 with _ | ⟨r', ρ2⟩
        · rfl
        · simp only [bd_some, tGetS_of]
          cases dttR ρ2[i]? <;> rfl
@[simp] theorem ev_sitm (a) : ev F (.sitm a) ρ = bd (ev F a ρ) (k := ⟨fun p => bd (sitmR p.1.d) (k := ⟨fun r => some (r, p.2)⟩)⟩) := by
  simp only [ev]
  rcases ev F a ρ with _ | ⟨r, ρ1⟩
  · rfl
  · simp only [bd_some]; cases sitmR r.d <;> rfl
@[simp] theorem evI_itm (a) : evI F (.itm a) ρ = bd (ev F a ρ) (k := ⟨fun p => bd (dictOf p.1.d) (k := ⟨fun kvs => some (tPairs kvs, p.2, [])⟩)⟩) := by
  simp only [evI]
  rcases ev F a ρ with _ | ⟨r, ρ1⟩
  · rfl
  · simp only [bd_some]; cases dictOf r.d <;> rfl
@[simp] theorem ex_tcpy (i a) : ex F (.tcpy i a) ρ = bd (ev F a ρ) (k := ⟨fun p => bd (dictOf p.1.d) (k := ⟨fun kvs => gd (hashOk kvs = true) (bd (put i (.dtt kvs) p.2) (k := ⟨fun ρ2 => some (.next, ρ2)⟩))⟩)⟩) := by
  simp only [ex]
  rcases ev F a ρ with _ | ⟨r, ρ1⟩
  · rfl
  · simp only [bd_some]
    cases dictOf r.d with
    | none => rfl
    | some kvs =>
      simp only [bd_some, ← if_gd]
      split
      · cases put i _ ρ1 <;> rfl
      · rfl
@[simp] theorem ex_tput (i k v) : ex F (.tput i k v) ρ = bd (ev F v ρ) (k := ⟨fun p => bd (dttR p.2[i]?) (k := ⟨fun _ => bd (ev F k p.2) (k := ⟨fun q => bd (keyD q.1.d) (k := ⟨fun ks => bd (dttR q.2[i]?) (k := ⟨fun kvs => gd (kvs.length < sizeLine) (some (.next, q.2.set i (.dtt (tPut kvs ks p.1.d))))⟩)⟩)⟩)⟩)⟩) := by
  simp only [ex]
  rcases ev F v ρ with _ | ⟨r, ρ1⟩
  · rfl
  · simp only [bd_some, dttB_of]
    cases h : dttR ρ1[i]? with
    | none => rfl
    | some kvs =>
      simp only [Option.isSome_some, bd_some]
      rcases ev F k ρ1 with _ | ⟨r', ρ2⟩
      · rfl
      · simp only [bd_some]
        cases keyD r'.d with
        | none => rfl
        | some ks =>
          simp only [bd_some, tPutS_of]
          cases dttR ρ2[i]? with
          | none => rfl
          | some kvs' =>
            simp only [bd_some, ← if_gd]
            split <;> rfl
def tstep (F : FT) (t : T) (k v : E) (vs : List Nat) (d : D) (ρ : Env) : Option ((D × D) × Env) := bd (asgT t d ρ) (k := ⟨fun ρa => bd (ev F k ρa) (k := ⟨fun p => bd (ev F v p.2) (k := ⟨fun q => some ((p.1.d, q.1.d), wipeE vs q.2)⟩)⟩)⟩)
@[simp] theorem ev_tcomp (k v t it vs) : ev F (.tcomp k v t it vs) ρ = bd (evI F it ρ) (k := ⟨fun p => gd ((vs.all fun v => match (lendL p.2.2 p.2.1)[v]? with | some s => quietS s | none => false) = true)
    (bd (tcompL (tstep F t k v vs) p.1 [] (wipeE vs (lendL p.2.2 p.2.1))) (k := ⟨fun q => some (.fr (dictD q.1), unlend p.2.2 (backE vs (lendL p.2.2 p.2.1) q.2))⟩))⟩) := by
  simp only [ev]
  rcases evI F it ρ with _ | ⟨ds, ρ0, ls⟩
  · rfl
  · simp only [bd_some]
    have e : (fun d ρ => match asgT t d ρ with
        | none => none
        | some ρa => match ev F k ρa with
          | none => none
          | some (rk, ρb) => match ev F v ρb with
            | none => none
            | some (rv, ρc) => some ((rk.d, rv.d), wipeE vs ρc)) = tstep F t k v vs := by
      funext d ρ
      unfold tstep
      rcases asgT t d ρ with _ | ρa
      · rfl
      · simp only [bd_some]
        rcases ev F k ρa with _ | ⟨r, ρb⟩
        · rfl
        · simp only [bd_some]
          rcases ev F v ρb with _ | ⟨r', ρc⟩ <;> rfl
    have e2 : ∀ g, g = tstep F t k v vs → (if (vs.all fun v => match (lendL ls ρ0)[v]? with | some s => quietS s | none => false) = false then none else
        match tcompL g ds [] (wipeE vs (lendL ls ρ0)) with
        | none => none
        | some (r, ρ2) => some (Res.fr (dictD r), unlend ls (backE vs (lendL ls ρ0) ρ2))) = gd ((vs.all fun v => match (lendL ls ρ0)[v]? with | some s => quietS s | none => false) = true)
        (bd (tcompL (tstep F t k v vs) ds [] (wipeE vs (lendL ls ρ0))) (k := ⟨fun q => some (.fr (dictD q.1), unlend ls (backE vs (lendL ls ρ0) q.2))⟩)) := by
      rintro g rfl
      unfold gd
      by_cases h : (vs.all fun v => match (lendL ls ρ0)[v]? with | some s => quietS s | none => false) = true
      · rw [if_pos h, if_neg (by rw [h]; decide)]
        rcases tcompL (tstep F t k v vs) ds [] (wipeE vs (lendL ls ρ0)) with _ | ⟨q, ρ2⟩ <;> rfl
      · rw [if_neg h, if_pos (by simpa using h)]
    exact e2 _ e
@[simp] theorem opd_tlit (k v) : opd (.tlit k v) f ρ = bd (f ρ) (k := ⟨fun p => some (.v p.1.d, p.2)⟩) := by simp only [opd]; cases f ρ <;> rfl
@[simp] theorem opd_tget (i k d) : opd (.tget i k d) f ρ = bd (f ρ) (k := ⟨fun p => some (.v p.1.d, p.2)⟩) := by simp only [opd]; cases f ρ <;> rfl
@[simp] theorem opd_tcomp (k v t it vs) : opd (.tcomp k v t it vs) f ρ = bd (f ρ) (k := ⟨fun p => some (.v p.1.d, p.2)⟩) := by simp only [opd]; cases f ρ <;> rfl
@[simp] theorem opd_sitm (a) : opd (.sitm a) f ρ = bd (f ρ) (k := ⟨fun p => some (.v p.1.d, p.2)⟩) := by simp only [opd]; cases f ρ <;> rfl
@[simp] theorem ret_tlit (k v) : ex F (.ret (.tlit k v)) ρ = bd (ev F (.tlit k v) ρ) (k := ⟨fun p => some (.ret p.1, p.2)⟩) := by simp only [ex, map_bd]
@[simp] theorem ret_tget (i k d) : ex F (.ret (.tget i k d)) ρ = bd (ev F (.tget i k d) ρ) (k := ⟨fun p => some (.ret p.1, p.2)⟩) := by simp only [ex, map_bd]
@[simp] theorem ret_tcomp (k v t it vs) : ex F (.ret (.tcomp k v t it vs)) ρ = bd (ev F (.tcomp k v t it vs) ρ) (k := ⟨fun p => some (.ret p.1, p.2)⟩) := by simp only [ex, map_bd]
@[simp] theorem ret_sitm (a) : ex F (.ret (.sitm a)) ρ = bd (ev F (.sitm a) ρ) (k := ⟨fun p => some (.ret p.1, p.2)⟩) := by simp only [ex, map_bd]
/-! texts -/
@[simp] theorem ev_tm (m o a) : ev F (.tm m o a) ρ = bd (ev F o ρ) (k := ⟨fun p => bd (opd a (ev F a) p.2) (k := ⟨fun q => bd (q.1.get q.2) (k := ⟨fun d => bd (dTm m p.1.d d) (k := ⟨fun r => some (r, q.2)⟩)⟩)⟩)⟩) := by
  simp only [ev]
  rcases ev F o ρ with _ | ⟨r, ρ1⟩
  · rfl
  · simp only [bd_some]
    rcases opd a (ev F a) ρ1 with _ | ⟨r', ρ2⟩
    · rfl
    · simp only [bd_some]
      rcases r'.get ρ2 with _ | d
      · rfl
      · simp only [bd_some]; cases dTm m r.d d <;> rfl
@[simp] theorem ev_repl (f es y z) : ev F (.repl f es y z) ρ = bd (ev F (.call f es) ρ) (k := ⟨fun p => bd (dRepl y z p.1.d) (k := ⟨fun r => some (r, p.2)⟩)⟩) := by
  simp only [ev]
  rcases F f with _ | ⟨ks, fn⟩
  · rfl
  simp only
  rcases evA F ks es ρ with _ | ⟨os, ρ1⟩
  · rfl
  simp only
  by_cases h : apartB ks os = false
  · rw [if_pos h, if_pos h]; rfl
  · rw [if_neg h, if_neg h]
    rcases argsOf ρ1 ks os with _ | ss
    · rfl
    simp only
    rcases fn ss with _ | ⟨r, outs⟩
    · rfl
    simp only
    rcases outsIn (muts ks os) outs ρ1 with _ | ρ2
    · rfl
    · simp only [bd_some]; cases dRepl y z r.d <;> rfl
@[simp] theorem opd_tm (m o a) : opd (.tm m o a) f ρ = bd (f ρ) (k := ⟨fun p => some (.v p.1.d, p.2)⟩) := by simp only [opd]; cases f ρ <;> rfl
@[simp] theorem opd_repl (g es y z) : opd (.repl g es y z) f ρ = bd (f ρ) (k := ⟨fun p => some (.v p.1.d, p.2)⟩) := by simp only [opd]; cases f ρ <;> rfl
@[simp] theorem ret_tm (m o a) : ex F (.ret (.tm m o a)) ρ = bd (ev F (.tm m o a) ρ) (k := ⟨fun p => some (.ret p.1, p.2)⟩) := by simp only [ex, map_bd]
@[simp] theorem ret_repl (g es y z) : ex F (.ret (.repl g es y z)) ρ = bd (ev F (.repl g es y z) ρ) (k := ⟨fun p => some (.ret p.1, p.2)⟩) := by simp only [ex, map_bd]
@[simp] theorem dBin_mulS (x j) : dBin .mul (.str x) (.int j) = gd (-(2 ^ 62) ≤ j ∧ j < 2 ^ 62 ∧ x.length * j.toNat ≤ 16777216) (some (.fr (.str (repS x j)))) := if_gd _ _
@[simp] theorem dBlt_reprS (x) : dBlt .repr [.str x] = gd ((reprText x).length ≤ sizeLine) (some (.fr (.str (reprText x)))) := if_gd _ _
@[simp] theorem dTm_ljust (x i) : dTm .ljust (.str x) (.int i) = gd (PadOk i = true) (some (.fr (.str (Txt.ljust x i)))) := if_gd _ _
@[simp] theorem dTm_rjust (x i) : dTm .rjust (.str x) (.int i) = gd (PadOk i = true) (some (.fr (.str (Txt.rjust x i)))) := if_gd _ _
@[simp] theorem dTm_strip (x y) : dTm .strip (.str x) (.str y) = gd (x.length ≤ sizeLine) (some (.fr (.str (Txt.stripChars x y)))) := if_gd _ _
@[simp] theorem dTm_rstrip (x y) : dTm .rstrip (.str x) (.str y) = gd (x.length ≤ sizeLine) (some (.fr (.str (Txt.rstripChars x y)))) := if_gd _ _
@[simp] theorem dTm_split (x y) : dTm .split (.str x) (.str y) = gd ((y.length == 0) = false ∧ x.length + 2 ≤ sizeLine) (some (.nw ((Txt.split x y).map .str))) := if_gd _ _
theorem allStrs_map (ys : List Str) : allStrs (ys.map .str) = some ys := by
  induction ys with
  | nil => rfl
  | cons y ys ih => rw [List.map_cons, allStrs, ih]; rfl
@[simp] theorem dTm_joinL (x ys) : dTm .join (.str x) (.list (ys.map .str)) = gd ((ys.map (·.length)).sum + ys.length * x.length ≤ 16777216) (some (.fr (.str (Txt.join x ys)))) := by
  simp only [dTm, allStrs_map, joinR]; exact if_gd _ _
@[simp] theorem dRepl_str (y z x) : dRepl y z (.str x) = gd ((Str.ofString y == Str.ofString z) = false ∧ x.length + (x.length + 1) * (Str.ofString z).length ≤ 16777216) (some (.fr (.str (Txt.replace x (Str.ofString y) (Str.ofString z))))) := if_gd _ _
end Ev

set_option maxRecDepth 100000
/-! Ly: data: indices, equality, integers. -/
namespace Ev
open PySem L2
@[simp] theorem ixN_nat (n k : Nat) : ixN n (k : Int) = if k < n then some k else none := by
  unfold ixN; simp
theorem ixN_lt {n k : Nat} (h : k < n) : ixN n (k : Int) = some k := by simp [h]
@[simp] theorem ixN_0 (n : Nat) : ixN n 0 = if 0 < n then some 0 else none := ixN_nat n 0
@[simp] theorem ixN_1 (n : Nat) : ixN n 1 = if 1 < n then some 1 else none := ixN_nat n 1
@[simp] theorem ixN_2 (n : Nat) : ixN n 2 = if 2 < n then some 2 else none := ixN_nat n 2
@[simp] theorem ixN_3 (n : Nat) : ixN n 3 = if 3 < n then some 3 else none := ixN_nat n 3
theorem ixN_m1 (n : Nat) (h : 0 < n) : ixN n (-1) = some (n - 1) := by
  unfold ixN
  rw [if_neg (by omega), if_pos (by omega)]
  congr 1; omega
@[simp] theorem atI_nat {α : Type} (xs : List α) (k : Nat) : atI xs (k : Int) = xs[k]? := by
  unfold atI
  by_cases h : k < xs.length
  · simp [h]
  · simp [h]
@[simp] theorem atI_0 {α : Type} (xs : List α) : atI xs 0 = xs[0]? := atI_nat xs 0
@[simp] theorem atI_1 {α : Type} (xs : List α) : atI xs 1 = xs[1]? := atI_nat xs 1
@[simp] theorem atI_2 {α : Type} (xs : List α) : atI xs 2 = xs[2]? := atI_nat xs 2
@[simp] theorem atI_3 {α : Type} (xs : List α) : atI xs 3 = xs[3]? := atI_nat xs 3
theorem atI_of {α : Type} (xs : List α) {i : Int} (h : 0 ≤ i) : atI xs i = xs[i.toNat]? := by
  obtain ⟨k, rfl⟩ := Int.eq_ofNat_of_zero_le h
  simp
theorem atI_m1 {α : Type} (xs : List α) : atI xs (-1) = xs.getLast? := by
  unfold atI
  cases xs with
  | nil => rfl
  | cons x xs =>
    rw [ixN_m1 _ (by simp)]
    simp [List.getLast?_eq_getElem?]
@[simp] theorem bd_map {α β γ : Type} (x : Option α) (f : α → β) [k : Kt β γ] : bd (Option.map f x) (k := k) = bd x (k := ⟨fun a => k.f (f a)⟩) := by cases x <;> rfl
@[simp] theorem allInts_ints (ns : List Int) : allInts (ns.map .int) = some ns := by
  induction ns with
  | nil => rfl
  | cons n ns ih => simp [allInts, ih]
@[simp] theorem allBools_bools (ns : List Bool) : allBools (ns.map .bool) = some ns := by
  induction ns with
  | nil => rfl
  | cons n ns ih => simp [allBools, ih]
@[simp] theorem eqv_int (i j) : PyData.eqv (.int i) (.int j) = (i == j) := by simp [PyData.eqv]
@[simp] theorem eqv_bool (i j) : PyData.eqv (.bool i) (.bool j) = (i == j) := by simp [PyData.eqv]
@[simp] theorem eqv_str (i j) : PyData.eqv (.str i) (.str j) = (i == j) := by simp [PyData.eqv]
theorem eqvAll_ints : ∀ (xs ys : List Int), PyData.eqvAll (xs.map .int) (ys.map .int) = (xs == ys)
  | [], [] => rfl
  | [], _ :: _ => rfl
  | _ :: _, [] => rfl
  | x :: xs, y :: ys => by simp [PyData.eqvAll, eqvAll_ints xs ys]
@[simp] theorem eqv_ints (xs ys : List Int) : PyData.eqv (.list (xs.map .int)) (.list (ys.map .int)) = (xs == ys) := by
  simp only [PyData.eqv]; exact eqvAll_ints xs ys
@[simp] theorem eqv_intsT (xs ys : List Int) : PyData.eqv (.tuple (xs.map .int)) (.tuple (ys.map .int)) = (xs == ys) := by
  simp only [PyData.eqv]; exact eqvAll_ints xs ys
theorem eqvAll_nil (xs : List D) : PyData.eqvAll xs [] = xs.isEmpty := by cases xs <;> rfl
@[simp] theorem eqv_nilL (xs : List D) : PyData.eqv (.list xs) (.list []) = xs.isEmpty := by simp only [PyData.eqv]; exact eqvAll_nil xs
@[simp] theorem shaped_int (i) : SeqAt.shaped (.int i) = true := by simp [SeqAt.shaped, PyData.canLay0, PyData.depth]
@[simp] theorem shaped_bool (i) : SeqAt.shaped (.bool i) = true := by simp [SeqAt.shaped, PyData.canLay0, PyData.depth]
@[simp] theorem shaped_none : SeqAt.shaped .none = true := by simp [SeqAt.shaped, PyData.canLay0, PyData.depth]
theorem strOk_of (z : String) : PyData.strOk (Str.ofString z) = true := by
  unfold PyData.strOk
  rw [Str.ofString_eq_toList, Array.all_eq_true_iff_forall_mem]
  intro x hx
  rw [List.mem_toArray] at hx
  obtain ⟨c, _, rfl⟩ := List.mem_map.mp hx
  have h := c.valid
  have e : c.toNat = c.val.toNat := rfl
  simp only [UInt32.isValidChar, Nat.isValidChar] at h
  exact decide_eq_true (by omega)
theorem shaped_str (z : String) : SeqAt.shaped (.str (Str.ofString z)) = true := by
  simp [SeqAt.shaped, PyData.canLay0, PyData.depth, strOk_of]
@[simp] theorem dCmp_eqI (i j) : dCmp .eq (.int i) (.int j) = some (decide (i = j)) := by
  rw [dCmp_eq, gd_pos (by simp), eqv_int]; rfl
@[simp] theorem dCmp_neI (i j) : dCmp .ne (.int i) (.int j) = some (!decide (i = j)) := by
  rw [dCmp_ne, gd_pos (by simp), eqv_int]; rfl
@[simp] theorem qs_some (d) : qs (some d) = .fz d := id rfl
@[simp] theorem qs_none : qs none = .un := id rfl
def okAll (p : PK × Opd) : List (PK × Opd) → Bool
  | [] => true
  | q :: r => okPair p q && okAll p r
@[simp] theorem okAll_nil (p) : okAll p [] = true := id rfl
@[simp] theorem okAll_cons (p q r) : okAll p (q :: r) = (okPair p q && okAll p r) := id rfl
theorem okAll_iff (p) : ∀ r, okAll p r = true ↔ ∀ q ∈ r, okPair p q = true
  | [] => by simp
  | q :: r => by simp [okAll_iff p r]
@[simp] theorem apartB_nil (os : List Opd) : apartB [] os = true := by simp [apartB]
@[simp] theorem apartB_cons (k ks o) (oo : List Opd) : apartB (k :: ks) (o :: oo) = (okAll (k, o) (ks.zip oo) && apartB ks oo) := by
  rw [Bool.eq_iff_iff]
  simp only [apartB, List.zip_cons_cons, decide_eq_true_eq, List.pairwise_cons, Bool.and_eq_true, okAll_iff]
@[simp] theorem okPair_l (k d q) : okPair (k, .v d) q = true := by cases q with | mk a b => cases b <;> rfl
@[simp] theorem okPair_r (k d q) : okPair q (k, .v d) = true := by cases q with | mk a b => cases b <;> rfl
@[simp] theorem okPair_s (k k' i j) : okPair (k, .sl i) (k', .sl j) = if k = .M ∨ k' = .M then i != j else true := id rfl
/-- data of limited depth, whose texts are none -/
theorem canLayAll_of {xs : List D} (h : ∀ x ∈ xs, PyData.canLay0 x = true) : PyData.canLayAll0 xs = true := by
  induction xs with
  | nil => rfl
  | cons x xs ih => simp only [PyData.canLayAll0, Bool.and_eq_true]; exact ⟨h x (by simp), ih fun y hy => h y (by simp [hy])⟩
theorem depthAll_of {xs : List D} {n : Nat} (h : ∀ x ∈ xs, PyData.depth x ≤ n) : PyData.depthAll xs ≤ n := by
  induction xs with
  | nil => simp [PyData.depthAll]
  | cons x xs ih => simp only [PyData.depthAll]; have := h x (by simp); have := ih fun y hy => h y (by simp [hy]); omega
def shp (n : Nat) (d : D) : Prop := d.canLay0 = true ∧ d.depth ≤ n
theorem shp_int (i) : shp 0 (.int i) := by simp [shp, PyData.canLay0, PyData.depth]
theorem shp_list {n : Nat} {xs : List D} (h : ∀ x ∈ xs, shp n x) : shp (n + 1) (.list xs) := by
  refine ⟨?_, ?_⟩
  · simp only [PyData.canLay0]; exact canLayAll_of fun x hx => (h x hx).1
  · simp only [PyData.depth]; have := depthAll_of fun x hx => (h x hx).2; omega
theorem shp_tuple {n : Nat} {xs : List D} (h : ∀ x ∈ xs, shp n x) : shp (n + 1) (.tuple xs) := by
  refine ⟨?_, ?_⟩
  · simp only [PyData.canLay0]; exact canLayAll_of fun x hx => (h x hx).1
  · simp only [PyData.depth]; have := depthAll_of fun x hx => (h x hx).2; omega
theorem shaped_of {n : Nat} {d : D} (h : shp n d) (hn : n ≤ 64) : SeqAt.shaped d = true := by
  simp only [SeqAt.shaped, Bool.and_eq_true, decide_eq_true_eq]; exact ⟨h.1, by have := h.2; omega⟩
@[simp] theorem shaped_ints (xs : List Int) : SeqAt.shaped (.list (xs.map .int)) = true := shaped_of (n := 1) (shp_list fun x hx => by
  obtain ⟨i, _, rfl⟩ := List.mem_map.mp hx; exact shp_int i) (by omega)
@[simp] theorem shaped_nil : SeqAt.shaped (.list []) = true := shaped_ints []
@[simp] theorem shaped_intsT (xs : List Int) : SeqAt.shaped (.tuple (xs.map .int)) = true := shaped_of (n := 1) (shp_tuple fun x hx => by
  obtain ⟨i, _, rfl⟩ := List.mem_map.mp hx; exact shp_int i) (by omega)
@[simp] theorem tyF_int_none : tyIs .int .none = false := rfl
@[simp] theorem tyF_int_bool : tyIs .int (.bool b) = true := rfl
@[simp] theorem tyF_int_int : tyIs .int (.int i) = true := rfl
@[simp] theorem tyF_int_str : tyIs .int (.str x) = false := rfl
@[simp] theorem tyF_int_tuple : tyIs .int (.tuple ds) = false := rfl
@[simp] theorem tyF_int_list : tyIs .int (.list ds) = false := rfl
@[simp] theorem tyF_bool_none : tyIs .bool .none = false := rfl
@[simp] theorem tyF_bool_bool : tyIs .bool (.bool b) = true := rfl
@[simp] theorem tyF_bool_int : tyIs .bool (.int i) = false := rfl
@[simp] theorem tyF_bool_str : tyIs .bool (.str x) = false := rfl
@[simp] theorem tyF_bool_tuple : tyIs .bool (.tuple ds) = false := rfl
@[simp] theorem tyF_bool_list : tyIs .bool (.list ds) = false := rfl
@[simp] theorem tyF_str_none : tyIs .str .none = false := rfl
@[simp] theorem tyF_str_bool : tyIs .str (.bool b) = false := rfl
@[simp] theorem tyF_str_int : tyIs .str (.int i) = false := rfl
@[simp] theorem tyF_str_str : tyIs .str (.str x) = true := rfl
@[simp] theorem tyF_str_tuple : tyIs .str (.tuple ds) = false := rfl
@[simp] theorem tyF_str_list : tyIs .str (.list ds) = false := rfl
@[simp] theorem tyF_tuple_none : tyIs .tuple .none = false := rfl
@[simp] theorem tyF_tuple_bool : tyIs .tuple (.bool b) = false := rfl
@[simp] theorem tyF_tuple_int : tyIs .tuple (.int i) = false := rfl
@[simp] theorem tyF_tuple_str : tyIs .tuple (.str x) = false := rfl
@[simp] theorem tyF_tuple_tuple : tyIs .tuple (.tuple ds) = true := rfl
@[simp] theorem tyF_tuple_list : tyIs .tuple (.list ds) = false := rfl
@[simp] theorem tyF_list_none : tyIs .list .none = false := rfl
@[simp] theorem tyF_list_bool : tyIs .list (.bool b) = false := rfl
@[simp] theorem tyF_list_int : tyIs .list (.int i) = false := rfl
@[simp] theorem tyF_list_str : tyIs .list (.str x) = false := rfl
@[simp] theorem tyF_list_tuple : tyIs .list (.tuple ds) = false := rfl
@[simp] theorem tyF_list_list : tyIs .list (.list ds) = true := rfl
/-- the parameter's slot holds x -/
def isS (s : Slot) (x : D) : Prop := s = .fz x ∨ ∃ ds, x = .list ds ∧ s = .bor ds
theorem isS_fz (x) : isS (.fz x) x := .inl rfl
theorem isS_bor (ds) : isS (.bor ds) (.list ds) := .inr ⟨ds, rfl, rfl⟩
/-- data that _law_same finds like themselves, nested at most so deep -/
def Good : Nat → D → Prop
  | 0, _ => False
  | _ + 1, .none => True
  | _ + 1, .bool _ => True
  | _ + 1, .int i => i.natAbs.log2 < 1920
  | j + 1, .list ds => ds.length ≤ 16777216 ∧ ∀ d ∈ ds, Good j d
  | j + 1, .tuple ds => ds.length ≤ 16777216 ∧ ∀ d ∈ ds, Good j d
  | _ + 1, _ => False
theorem lg {n : Nat} (h : n < 18446744073709551616) : n.log2 < 9000 := by
  by_cases h0 : n = 0
  · subst h0; simp
  · have : n.log2 < 64 := (Nat.log2_lt h0).mpr (by omega)
    omega
theorem lgs {n : Nat} (h : n < 18446744073709551616) : n.log2 < 1920 := by
  by_cases h0 : n = 0
  · subst h0; simp
  · have : n.log2 < 64 := (Nat.log2_lt h0).mpr (by omega)
    omega
theorem fmod_nat (a b : Nat) : ((a : Int).fmod (b : Int)) = ((a % b : Nat) : Int) := by
  rw [Int.fmod_eq_emod_of_nonneg _ (by omega)]; omega
theorem fmod_lt (a : Int) {m : Nat} (h : 0 < m) : ∃ r : Nat, r < m ∧ a.fmod m = r := by
  have h1 : 0 ≤ a.fmod m := Int.fmod_nonneg_of_pos a (by omega)
  have h2 : a.fmod m < m := Int.fmod_lt_of_pos a (by omega)
  exact ⟨(a.fmod m).toNat, by omega, by omega⟩
end Ev

set_option maxRecDepth 100000
/-! Lz: loops that may be left; comprehensions with effects; lists of numbers. -/
namespace Ev
open PySem L2
class Kc where
  p : Option D → Env → Prop
def Ct (x : Option (Option D × Env)) [k : Kc] : Prop := ∃ o ρ, x = some (o, ρ) ∧ k.p o ρ
theorem Ct.ok {o ρ} {k : Kc} (h : k.p o ρ) : Ct (some (o, ρ)) (k := k) := ⟨o, ρ, rfl, h⟩
theorem compT_use {stp : D → Env → Option (Option D × Env)} {ds : List D} {ρ : Env} {x : Option (List D × Env)} (hf : compL stp ds ρ = x) (P : Nat → List D → Env → Prop) (h0 : P 0 [] ρ)
    (hs : ∀ (i : Nat) (d : D) (r : List D) (ρ : Env), ds[i]? = some d → P i r ρ → Ct (stp d ρ) (k := ⟨fun o ρ' => P (i + 1) (r ++ o.toList) ρ'⟩)) : ∃ r ρ', x = some (r, ρ') ∧ P ds.length r ρ' :=
  compL_st hf P h0 hs
theorem comp2_use {α : Type} {enc : α → D} {xs : List α} {stp : D → Env → Option (List D × Env)} {ρ : Env} {x : Option (List D × Env)} (hf : compL2 stp (xs.map enc) ρ = x) (f : α → List D) (hs : ∀ d ∈ xs, stp (enc d) ρ = some (f d, ρ)) : x = some ((xs.map f).flatten, ρ) := by
  subst hf
  induction xs with
  | nil => rfl
  | cons d ds ih =>
    rw [List.map_cons, compL2, hs d (by simp)]
    simp only
    rw [ih fun d hd => hs d (by simp [hd])]
    simp
class Ko where
  n : Env → Prop
  b : Env → Prop
  r : Res → Env → Prop
def Tu (x : Option (Out × Env)) [k : Ko] : Prop :=
  (∃ ρ', (x = some (.next, ρ') ∨ x = some (.cont, ρ')) ∧ k.n ρ') ∨ (∃ ρ', x = some (.brk, ρ') ∧ k.b ρ') ∨ ∃ r ρ', x = some (.ret r, ρ') ∧ k.r r ρ'
theorem Tu.next {ρ : Env} {k : Ko} (h : k.n ρ) : Tu (some (.next, ρ)) (k := k) := .inl ⟨ρ, .inl rfl, h⟩
theorem Tu.cont {ρ : Env} {k : Ko} (h : k.n ρ) : Tu (some (.cont, ρ)) (k := k) := .inl ⟨ρ, .inr rfl, h⟩
theorem Tu.brk {ρ : Env} {k : Ko} (h : k.b ρ) : Tu (some (.brk, ρ)) (k := k) := .inr (.inl ⟨ρ, rfl, h⟩)
theorem Tu.ret {ρ : Env} {r : Res} {k : Ko} (h : k.r r ρ) : Tu (some (.ret r, ρ)) (k := k) := .inr (.inr ⟨r, ρ, rfl, h⟩)
theorem Tu.mono {x : Option (Out × Env)} {k k' : Ko} (h : Tu x (k := k)) (n : ∀ ρ, k.n ρ → k'.n ρ) (b : ∀ ρ, k.b ρ → k'.b ρ) (r : ∀ s ρ, k.r s ρ → k'.r s ρ) : Tu x (k := k') := by
  rcases h with ⟨ρ, e, p⟩ | ⟨ρ, e, p⟩ | ⟨s, ρ, e, p⟩
  · exact .inl ⟨ρ, e, n ρ p⟩
  · exact .inr (.inl ⟨ρ, e, b ρ p⟩)
  · exact .inr (.inr ⟨s, ρ, e, r s ρ p⟩)
theorem forL_any {b : D → Env → Option (Out × Env)} {ds : List D} {ρ : Env} {x : Option (Out × Env)} (hf : forL b ds ρ = x) (P : Nat → Env → Prop) (B : Env → Prop) (R : Res → Env → Prop) (h0 : P 0 ρ)
    (hs : ∀ (i : Nat) (d : D) (ρ : Env), ds[i]? = some d → P i ρ → Tu (b d ρ) (k := ⟨P (i + 1), B, R⟩)) :
    (∃ ρ', x = some (.next, ρ') ∧ (P ds.length ρ' ∨ B ρ')) ∨ ∃ r ρ', x = some (.ret r, ρ') ∧ R r ρ' := by
  induction ds generalizing ρ P with
  | nil => exact .inl ⟨ρ, by rw [← hf]; rfl, .inl h0⟩
  | cons d ds ih =>
    rcases hs 0 d ρ rfl h0 with ⟨ρ1, e1, h1⟩ | ⟨ρ1, e1, h1⟩ | ⟨r, ρ1, e1, h1⟩
    · have hf' : forL b ds ρ1 = x := by
        rw [forL_cons] at hf
        rcases e1 with e1 | e1 <;> rw [e1] at hf <;> exact hf
      exact ih hf' (fun i => P (i + 1)) h1 fun i d ρ hd hp => hs (i + 1) d ρ (by simpa using hd) hp
    · rw [forL_cons, e1] at hf
      exact .inl ⟨ρ1, hf.symm, .inr h1⟩
    · rw [forL_cons, e1] at hf
      exact .inr ⟨r, ρ1, hf.symm, h1⟩
theorem forR_any {b : D → Env → Option (Out × Env)} {m n : Int} {ρ : Env} {x : Option (Out × Env)} (hf : forL b (rngD m n) ρ = x) (P : Nat → Env → Prop) (B : Env → Prop) (R : Res → Env → Prop) (h0 : P 0 ρ)
    (hs : ∀ (i : Nat) (ρ : Env), i < (n - m).toNat → P i ρ → Tu (b (.int (m + i)) ρ) (k := ⟨P (i + 1), B, R⟩)) :
    (∃ ρ', x = some (.next, ρ') ∧ (P (n - m).toNat ρ' ∨ B ρ')) ∨ ∃ r ρ', x = some (.ret r, ρ') ∧ R r ρ' := by
  have := forL_any hf P B R h0 fun i d ρ hd hp => by
    obtain ⟨hi, rfl⟩ := rng_get hd
    exact hs i ρ hi hp
  rwa [rng_len] at this
theorem forM_any {α : Type} {enc : α → D} {xs : List α} {b : D → Env → Option (Out × Env)} {ρ : Env} {x : Option (Out × Env)} (hf : forL b (xs.map enc) ρ = x) (P : Nat → Env → Prop) (B : Env → Prop) (R : Res → Env → Prop) (h0 : P 0 ρ)
    (hs : ∀ (i : Nat) (a : α) (ρ : Env), xs[i]? = some a → P i ρ → Tu (b (enc a) ρ) (k := ⟨P (i + 1), B, R⟩)) :
    (∃ ρ', x = some (.next, ρ') ∧ (P xs.length ρ' ∨ B ρ')) ∨ ∃ r ρ', x = some (.ret r, ρ') ∧ R r ρ' := by
  have := forL_any hf P B R h0 fun i d ρ hd hp => by
    rw [List.getElem?_map] at hd
    cases e : xs[i]? with
    | none => rw [e] at hd; cases hd
    | some a => rw [e] at hd; cases hd; exact hs i a ρ e hp
  rwa [List.length_map] at this
theorem whileT {σ : Type} {c : Env → Option (Res × Env)} {b : Env → Option (Out × Env)} {n : Nat} {x : Option (Out × Env)} (st : σ → Env) (μ : σ → Nat) (I : σ → Prop) (Q : Env → Prop) (R : Res → Env → Prop) {s : σ} (hf : whileL c b n (st s) = x) (hI : I s) (hn : μ s < n)
    (hs : ∀ s, I s → (c (st s) = some (.fr (.bool false), st s) ∧ Q (st s)) ∨ (c (st s) = some (.fr (.bool true), st s) ∧ Tu (b (st s)) (k := ⟨fun ρ' => ∃ s', ρ' = st s' ∧ I s' ∧ μ s' < μ s, Q, R⟩))) :
    (∃ ρ', x = some (.next, ρ') ∧ Q ρ') ∨ ∃ r ρ', x = some (.ret r, ρ') ∧ R r ρ' := by
  subst hf
  induction n generalizing s with
  | zero => omega
  | succ n ih =>
    rw [whileL]
    rcases hs s hI with ⟨e, q⟩ | ⟨e1, ⟨ρ1, e2, s', rfl, i, m⟩ | ⟨ρ1, e2, q⟩ | ⟨r, ρ1, e2, q⟩⟩
    · rw [e]; exact .inl ⟨_, rfl, q⟩
    · rw [e1]
      rcases e2 with e2 | e2
      · simp only [e2]; exact ih i (by omega)
      · simp only [e2]; exact ih i (by omega)
    · rw [e1]; simp only [e2]; exact .inl ⟨_, rfl, q⟩
    · rw [e1]; simp only [e2]; exact .inr ⟨r, _, rfl, q⟩
/-- the parameter's slot holds the list xs -/
def hasL (s : Slot) (xs : List D) : Prop := s = .fz (.list xs) ∨ s = .bor xs
theorem hasL.S {s : Slot} {xs : List D} (h : hasL s xs) : isS s (.list xs) := by
  rcases h with rfl | rfl
  · exact isS_fz _
  · exact isS_bor _
@[simp] theorem atI_succ {α : Type} (xs : List α) (j : Nat) : atI xs ((j : Int) + 1) = xs[j + 1]? := atI_nat xs (j + 1)
/-- an unset slot or one's own list -/
def os : Option (List D) → Slot
  | none => .un
  | some ds => .own ds
@[simp] theorem os_some (d) : os (some d) = .own d := id rfl
@[simp] theorem os_none : os none = .un := id rfl
@[simp] theorem putK_os (o ρ) : putK (os o) ρ = some ρ := by cases o <;> rfl
theorem fm_some {α β : Type} (f : α → β) (l : List α) : l.filterMap (fun x => some (f x)) = l.map f := by induction l <;> simp [*]
def natD (i : Nat) : D := .int (i : Int)
@[simp] theorem natD_eq (i : Nat) : natD i = .int (i : Int) := rfl
theorem natD_map (ns : List Nat) : ns.map natD = (ns.map fun (i : Nat) => (i : Int)).map .int := by simp [natD]
@[simp] theorem allInts_nat (ns : List Nat) : allInts (ns.map natD) = some (ns.map fun (i : Nat) => (i : Int)) := by
  rw [natD_map, allInts_ints]
@[simp] theorem shaped_nats (xs : List Nat) : SeqAt.shaped (.list (xs.map natD)) = true := by rw [natD_map]; exact shaped_ints _
@[simp] theorem shaped_natsT (xs : List Nat) : SeqAt.shaped (.tuple (xs.map natD)) = true := by rw [natD_map]; exact shaped_intsT _
theorem any_nat (xs : List Nat) (i : Nat) : (xs.map natD).any (fun z => PyData.eqv z (.int (i : Int))) = decide (i ∈ xs) := by
  induction xs with
  | nil => simp
  | cons x xs ih =>
    rw [List.map_cons, List.any_cons, ih, natD_eq, eqv_int]
    by_cases h : i = x
    · subst h; simp
    · have : ¬ ((x : Int) = (i : Int)) := by omega
      simp [h, this]
theorem flat_nat (xs : List Nat) : (xs.map natD).all isFlat = true := by
  rw [List.all_eq_true]
  intro x hx
  obtain ⟨i, _, rfl⟩ := List.mem_map.mp hx
  rfl
@[simp] theorem isFlat_int (i) : isFlat (.int i) = true := id rfl
theorem rngD_nat (n : Nat) : rngD 0 (n : Int) = (List.range n).map natD := by
  unfold rngD
  rw [show ((n : Int) - 0).toNat = n by omega]
  apply List.map_congr_left
  intro i _
  rw [Int.zero_add]; rfl
theorem insN_comm (x y : Int) : ∀ l : List Int, insI x (insI y l) = insI y (insI x l)
  | [] => by
    simp only [insI]
    by_cases h : x ≤ y <;> by_cases h2 : y ≤ x
    · have : x = y := by omega
      subst this; rfl
    · simp [h, h2]
    · simp [h, h2]
    · omega
  | z :: l => by
    have ih := insN_comm x y l
    simp only [insI]
    by_cases h1 : x ≤ z <;> by_cases h2 : y ≤ z <;> by_cases h3 : x ≤ y <;> by_cases h4 : y ≤ x <;> simp [insI, h1, h2, h3, h4] <;> first | omega | (have : x = y := by omega) <;> (subst this; rfl) | exact ih | skip
theorem sortN_perm {l m : List Int} (h : l.Perm m) : sortI l = sortI m := by
  induction h with
  | nil => rfl
  | cons x _ ih => simp only [sortI, ih]
  | swap x y l => simp only [sortI]; exact insN_comm _ _ _
  | trans _ _ i j => exact i.trans j
theorem insN_perm (x : Int) : ∀ l : List Int, (insI x l).Perm (x :: l)
  | [] => List.Perm.refl _
  | y :: l => by
    simp only [insI]
    by_cases h : x ≤ y
    · simp [h]
    · simp only [h, if_false]
      exact ((insN_perm x l).cons y).trans (List.Perm.swap x y l)
theorem sortN_self : ∀ l : List Int, (sortI l).Perm l
  | [] => List.Perm.refl _
  | x :: l => (insN_perm x _).trans ((sortN_self l).cons x)
/-- numbers sorted are numbers -/
theorem sortN_nat (ns : List Nat) : ∃ ms : List Nat, sortI (ns.map fun (i : Nat) => (i : Int)) = ms.map (fun (i : Nat) => (i : Int)) ∧ ms.Perm ns := by
  have hp := sortN_self (ns.map fun (i : Nat) => (i : Int))
  have e : ∀ l : List Int, (∀ x ∈ l, 0 ≤ x) → l = (l.map Int.toNat).map fun (i : Nat) => (i : Int) := by
    intro l hl
    rw [List.map_map]
    symm
    conv => rhs; rw [← List.map_id l]
    apply List.map_congr_left
    intro x hx
    have := hl x hx
    simp; omega
  refine ⟨(sortI (ns.map fun (i : Nat) => (i : Int))).map Int.toNat, ?_, ?_⟩
  · apply e
    intro x hx
    have := hp.mem_iff.mp hx
    obtain ⟨i, _, rfl⟩ := List.mem_map.mp this
    omega
  · have := hp.map Int.toNat
    rw [List.map_map] at this
    have e2 : (Int.toNat ∘ fun (i : Nat) => (i : Int)) = id := by funext i; simp
    rw [e2, List.map_id] at this
    exact this
theorem good_nats {j : Nat} {ns : List Nat} (hl : ns.length ≤ 16777216) (h : ∀ i ∈ ns, i < 18446744073709551616) : Good (j + 2) (.list (ns.map natD)) := by
  refine ⟨by simpa using hl, fun d hd => ?_⟩
  obtain ⟨i, hi, rfl⟩ := List.mem_map.mp hd
  have := lgs (h i hi)
  exact this
theorem cutD_hi (xs : List D) (k : Nat) : cutD xs none (some (k : Int)) = xs.take k := by
  unfold cutD
  rw [HT.sIx_nat, HT.sIx_none]
  simp only [List.drop_zero, Nat.sub_zero]
  rw [List.take_eq_take_iff]
  omega
theorem nats_sorted (ns : List Nat) : (sortI (ns.map fun (i : Nat) => (i : Int))).map PyData.int = (((sortI (ns.map fun (i : Nat) => (i : Int))).map Int.toNat).map natD) := by
  obtain ⟨ms, e, p⟩ := sortN_nat ns
  rw [e, List.map_map, List.map_map, List.map_map]
  apply List.map_congr_left
  intro i _
  simp
theorem cutD_lo (xs : List D) (k : Nat) : cutD xs (some (k : Int)) none = xs.drop k := by
  unfold cutD
  rw [HT.sIx_nat, HT.sIx_none]
  by_cases h : k ≤ xs.length
  · rw [Nat.min_eq_left h, List.take_of_length_le]
    rw [List.length_drop]; exact Nat.le_refl _
  · rw [Nat.min_eq_right (by omega), List.drop_eq_nil_of_le (by omega : xs.length ≤ xs.length), List.drop_eq_nil_of_le (by omega)]
    simp
theorem cutD_lo1 (xs : List D) : cutD xs (some 1) none = xs.drop 1 := cutD_lo xs 1
theorem cutD_lo2 (xs : List D) : cutD xs (some 2) none = xs.drop 2 := cutD_lo xs 2
theorem ints_map_inj : ∀ {a b : List Int}, a.map PyData.int = b.map PyData.int → a = b
  | [], [], _ => rfl
  | [], _ :: _, h => by simp at h
  | _ :: _, [], h => by simp at h
  | x :: a, y :: b, h => by
    simp only [List.map_cons, List.cons.injEq, PyData.int.injEq] at h
    rw [h.1, ints_map_inj h.2]
theorem maxI_zero : ∀ (r : List Int) (x : Int), 0 ≤ x → (∀ y ∈ r, 0 ≤ y) → (maxI x r = 0 ↔ x = 0 ∧ ∀ y ∈ r, y = 0)
  | [], x, _, _ => by simp [maxI]
  | y :: r, x, h0, h => by
    have hy := h y (by simp)
    unfold maxI
    by_cases hxy : y > x
    · rw [if_pos hxy, maxI_zero r y hy fun z hz => h z (by simp [hz])]
      constructor
      · rintro ⟨rfl, _⟩; omega
      · rintro ⟨rfl, h'⟩
        have := h' y (by simp)
        omega
    · rw [if_neg hxy, maxI_zero r x h0 fun z hz => h z (by simp [hz])]
      constructor
      · rintro ⟨rfl, h'⟩
        refine ⟨rfl, fun z hz => ?_⟩
        rcases List.mem_cons.mp hz with rfl | hz
        · omega
        · exact h' z hz
      · rintro ⟨rfl, h'⟩
        exact ⟨rfl, fun z hz => h' z (by simp [hz])⟩
end Ev

set_option maxRecDepth 100000
/-! the defs of lendland_k93_lines_in_columns, printed by pyir.py -/
namespace K93
open Ev
def b_wide_of : Ev.Ss := (.cons (.ret (.comp (.blt .max (.cons (.comp (.len (.idx (.var 2) (.var 1))) (.name 2) (.seq (.var 0)) .none [2]) .nil)) (.name 1) (.rng1 (.len (.idx (.var 0) (.int 0)))) .none [1]))
    .nil)
def d_wide_of : Ev.Def := ⟨"wide_of", 1, [.B], ["rows", "at", "row"], b_wide_of⟩
def b_in_columns : Ev.Ss := (.cons (.ife (.cmp .eq (.len (.var 0)) (.int 0)) (.cons (.ret (.lst .nil))
    .nil) .nil)
    (.cons (.asg (.name 1) (.call "wide_of" (.cons (.var 0) .nil)))
    (.cons (.asg (.name 2) (.lst .nil))
    (.cons (.forr (.name 3) (.seq (.var 0)) (.cons (.asg (.name 4) (.lst (.cons (.tm .ljust (.idx (.var 3) (.int 0)) (.idx (.var 1) (.int 0))) .nil)))
    (.cons (.forr (.name 5) (.rng2 (.int 1) (.len (.var 3))) (.cons (.ex (.chg .append 4 (.cons (.tm .rjust (.idx (.var 3) (.var 5)) (.idx (.var 1) (.var 5))) .nil)))
    .nil))
    (.cons (.ex (.chg .append 2 (.cons (.tm .rstrip (.tm .join (.str "  ") (.var 4)) (.str " ")) .nil)))
    .nil))))
    (.cons (.ret (.var 2))
    .nil)))))
def d_in_columns : Ev.Def := ⟨"in_columns", 2, [.B], ["rows", "sizes", "lines", "row", "words", "at"], b_in_columns⟩
def b_book_lines : Ev.Ss := (.cons (.ife (.cmp .eq (.len (.var 0)) (.int 0)) (.cons (.ret (.lst .nil))
    .nil) .nil)
    (.cons (.ret (.call "in_columns" (.cons (.comp (.blt .tuple (.cons (.bin .add (.lst (.cons (.blt .str (.cons (.var 1) .nil)) .nil)) (.comp (.blt .str (.cons (.idx (.var 2) (.var 1)) .nil)) (.name 2) (.seq (.var 0)) .none [2])) .nil)) (.name 1) (.rng1 (.len (.idx (.var 0) (.int 0)))) .none [1]) .nil)))
    .nil))
def d_book_lines : Ev.Def := ⟨"book_lines", 3, [.B], ["books", "house", "book"], b_book_lines⟩
def b_read_columns : Ev.Ss := (.cons (.ret (.comp (.blt .tuple (.cons (.comp (.var 2) (.name 2) (.seq (.tm .split (.var 1) (.str " "))) (.some (.cmp .ne (.var 2) (.str ""))) [2]) .nil)) (.name 1) (.seq (.var 0)) .none [1]))
    .nil)
def d_read_columns : Ev.Def := ⟨"read_columns", 4, [.B], ["lines", "line", "word"], b_read_columns⟩
def b_u_law_cell : Ev.Ss := (.cons (.ife (.cmp .lt (.var 1) (.len (.var 0))) (.cons (.ret (.idx (.var 0) (.var 1)))
    .nil) .nil)
    (.cons (.ret (.int 0))
    .nil))
def d_u_law_cell : Ev.Def := ⟨"_law_cell", 6, [.B, .I], ["script", "k"], b_u_law_cell⟩
def b_u_law_digits : Ev.Ss := (.cons (.asg (.name 3) (.lst .nil))
    (.cons (.forr (.name 4) (.rng2 (.var 1) (.var 2)) (.cons (.asg (.name 5) (.call "_law_cell" (.cons (.var 0) (.cons (.var 4) .nil))))
    (.cons (.ife (.cmp .lt (.var 5) (.int 0)) (.cons (.asg (.name 5) (.bin .sub (.int 1) (.bin .mul (.int 2) (.var 5))))
    .nil) .nil)
    (.cons (.ife (.cmp .ge (.var 5) (.bin .pow (.int 10) (.int 18))) (.cons (.forr (.name 6) (.rng1 (.int 60)) (.cons (.ife (.cmp .gt (.var 5) (.int 0)) (.cons (.ex (.chg .append 3 (.cons (.bin .mod (.blt .int (.cons (.var 5) .nil)) (.int 1000)) .nil)))
    (.cons (.asg (.name 5) (.bin .fdiv (.var 5) (.int 1000)))
    .nil)) .nil)
    .nil))
    .nil) (.cons (.asg (.name 7) (.bin .mod (.blt .int (.cons (.bin .add (.bin .add (.bin .mul (.var 5) (.int 48271)) (.bin .mul (.var 4) (.int 69621))) (.int 11)) .nil)) (.int 2147483647)))
    (.cons (.forr (.name 6) (.rng1 (.int 12)) (.cons (.asg (.name 7) (.bin .mod (.blt .int (.cons (.bin .add (.bin .add (.bin .mul (.var 7) (.int 16807)) (.bin .mul (.int 7) (.var 6))) (.int 1)) .nil)) (.int 2147483647)))
    (.cons (.ex (.chg .append 3 (.cons (.bin .mod (.blt .int (.cons (.bin .fdiv (.var 7) (.int 997)) .nil)) (.int 1000)) .nil)))
    .nil)))
    .nil)))
    .nil))))
    (.cons (.ret (.var 3))
    .nil)))
def d_u_law_digits : Ev.Def := ⟨"_law_digits", 7, [.B, .I, .I], ["script", "first", "last", "digits", "k", "cell", "turn", "seed"], b_u_law_digits⟩
def b_u_law_draw : Ev.Ss := (.cons (.setIx 0 (.int 1) (.bin .add (.idx (.var 0) (.int 1)) (.int 1)))
    (.cons (.ife (.cmp .gt (.idx (.var 0) (.int 1)) (.len (.idx (.var 0) (.int 0)))) (.cons (.ret (.bin .mod (.blt .int (.cons (.bin .add (.bin .mul (.idx (.var 0) (.int 1)) (.int 7)) (.int 3)) .nil)) (.var 1)))
    .nil) .nil)
    (.cons (.ret (.bin .mod (.blt .int (.cons (.idx (.idx (.var 0) (.int 0)) (.bin .sub (.idx (.var 0) (.int 1)) (.int 1))) .nil)) (.var 1)))
    .nil)))
def d_u_law_draw : Ev.Def := ⟨"_law_draw", 8, [.M, .B], ["box", "many"], b_u_law_draw⟩
def b_u_law_pick : Ev.Ss := (.cons (.ret (.idx (.var 1) (.bin .mod (.blt .int (.cons (.call "_law_draw" (.cons (.var 0) (.cons (.int 1000) .nil))) .nil)) (.len (.var 1)))))
    .nil)
def d_u_law_pick : Ev.Def := ⟨"_law_pick", 9, [.M, .B], ["box", "row"], b_u_law_pick⟩
def b_u_law_same : Ev.Ss := (.cons (.ife (.cmp .is (.var 1) .non) (.cons (.ret (.cmp .is (.var 0) .non))
    .nil) .nil)
    (.cons (.ife (.cmp .is (.var 1) (.bl true)) (.cons (.ret (.cmp .is (.var 0) (.bl true)))
    .nil) .nil)
    (.cons (.ife (.cmp .is (.var 1) (.bl false)) (.cons (.ret (.cmp .is (.var 0) (.bl false)))
    .nil) .nil)
    (.cons (.ife (.isi (.var 1) .str) (.cons (.ret (.and (.isi (.var 0) .str) (.cmp .eq (.blt .repr (.cons (.var 0) .nil)) (.blt .repr (.cons (.var 1) .nil)))))
    .nil) .nil)
    (.cons (.ife (.isi (.var 1) .int) (.cons (.ret (.and (.isi (.var 0) .int) (.and (.no (.isi (.var 0) .bool)) (.cmp .eq (.blt .repr (.cons (.var 0) .nil)) (.blt .repr (.cons (.var 1) .nil))))))
    .nil) .nil)
    (.cons (.ife (.or (.and (.isi (.var 1) .tuple) (.no (.isi (.var 0) .tuple))) (.and (.isi (.var 1) .list) (.no (.isi (.var 0) .list)))) (.cons (.ret (.bl false))
    .nil) .nil)
    (.cons (.ife (.cmp .ne (.len (.var 0)) (.len (.var 1))) (.cons (.ret (.bl false))
    .nil) .nil)
    (.cons (.forr (.name 2) (.rng1 (.len (.var 1))) (.cons (.ife (.no (.call "_law_same" (.cons (.idx (.var 0) (.var 2)) (.cons (.idx (.var 1) (.var 2)) .nil)))) (.cons (.ret (.bl false))
    .nil) .nil)
    .nil))
    (.cons (.ret (.bl true))
    .nil)))))))))
def d_u_law_same : Ev.Def := ⟨"_law_same", 10, [.B, .B], ["told", "due", "k"], b_u_law_same⟩
def b_u_law_columns : Ev.Ss := (.cons (.asg (.name 1) (.lst .nil))
    (.cons (.forr (.name 2) (.seq (.var 0)) (.cons (.asg (.name 3) (.str ""))
    (.cons (.forr (.name 4) (.rng1 (.len (.var 2))) (.cons (.asg (.name 5) (.blt .max (.cons (.comp (.len (.idx (.var 6) (.var 4))) (.name 6) (.seq (.var 0)) .none [6]) .nil)))
    (.cons (.ife (.cmp .eq (.var 4) (.int 0)) (.cons (.asg (.name 3) (.bin .add (.idx (.var 2) (.int 0)) (.bin .mul (.str " ") (.bin .sub (.var 5) (.len (.idx (.var 2) (.int 0)))))))
    .nil) (.cons (.asg (.name 3) (.bin .add (.bin .add (.bin .add (.var 3) (.str "  ")) (.bin .mul (.str " ") (.bin .sub (.var 5) (.len (.idx (.var 2) (.var 4)))))) (.idx (.var 2) (.var 4))))
    .nil))
    .nil)))
    (.cons (.ex (.chg .append 1 (.cons (.tm .rstrip (.var 3) (.str " ")) .nil)))
    .nil))))
    (.cons (.ret (.var 1))
    .nil)))
def d_u_law_columns : Ev.Def := ⟨"_law_columns", 11, [.B], ["rows", "lines", "row", "line", "at", "wide", "other"], b_u_law_columns⟩
def b_u_law_text : Ev.Ss := (.cons (.asg (.name 2) (.str "abcdefghijklmnopqrstuvwxyz0123456789-+.,:!?#ABCXYZ"))
    (.cons (.asg (.name 3) (.str ""))
    (.cons (.forr (.name 4) (.rng1 (.call "_law_draw" (.cons (.var 0) (.cons (.bin .add (.var 1) (.int 1)) .nil)))) (.cons (.asg (.name 3) (.bin .add (.var 3) (.idx (.var 2) (.bin .mod (.blt .int (.cons (.call "_law_draw" (.cons (.var 0) (.cons (.int 1000) .nil))) .nil)) (.len (.var 2))))))
    (.cons (.ife (.cmp .eq (.call "_law_draw" (.cons (.var 0) (.cons (.int 6) .nil))) (.int 0)) (.cons (.asg (.name 3) (.bin .add (.var 3) (.str " ")))
    .nil) .nil)
    .nil)))
    (.cons (.ret (.tm .strip (.var 3) (.str " ")))
    .nil))))
def d_u_law_text : Ev.Def := ⟨"_law_text", 12, [.M, .B], ["box", "most", "signs", "text", "turn"], b_u_law_text⟩
def b_u_law_spaced : Ev.Ss := (.cons (.asg (.name 2) (.bin .mul (.str " ") (.call "_law_draw" (.cons (.var 0) (.cons (.int 3) .nil)))))
    (.cons (.forr (.name 3) (.rng1 (.len (.var 1))) (.cons (.asg (.name 2) (.bin .add (.var 2) (.idx (.var 1) (.var 3))))
    (.cons (.ife (.cmp .lt (.bin .add (.var 3) (.int 1)) (.len (.var 1))) (.cons (.asg (.name 2) (.bin .add (.var 2) (.bin .mul (.str " ") (.bin .add (.int 1) (.call "_law_draw" (.cons (.var 0) (.cons (.int 3) .nil)))))))
    .nil) .nil)
    .nil)))
    (.cons (.ret (.bin .add (.var 2) (.bin .mul (.str " ") (.call "_law_draw" (.cons (.var 0) (.cons (.int 3) .nil))))))
    .nil)))
def d_u_law_spaced : Ev.Def := ⟨"_law_spaced", 13, [.M, .B], ["box", "words", "line", "k"], b_u_law_spaced⟩
def b_u_law_read : Ev.Ss := (.cons (.asg (.name 1) (.lst .nil))
    (.cons (.asg (.name 2) (.lst .nil))
    (.cons (.forr (.name 3) (.rng1 (.call "_law_draw" (.cons (.var 0) (.cons (.int 4) .nil)))) (.cons (.asg (.name 5) (.comp (.bin .add (.repl "_law_text" (.cons (.var 0) (.cons (.int 6) .nil)) " " "-") (.str "x")) (.name 6) (.rng1 (.call "_law_draw" (.cons (.var 0) (.cons (.int 4) .nil)))) .none [6]))
    (.cons (.ex (.chg .append 1 (.cons (.call "_law_spaced" (.cons (.var 0) (.cons (.var 5) .nil))) .nil)))
    (.cons (.ex (.chg .append 2 (.cons (.blt .tuple (.cons (.var 5) .nil)) .nil)))
    .nil))))
    (.cons (.asg (.name 4) (.blt .list (.cons (.var 1) .nil)))
    (.cons (.ret (.and (.call "_law_same" (.cons (.call "read_columns" (.cons (.var 4) .nil)) (.cons (.var 2) .nil))) (.cmp .eq (.var 4) (.var 1))))
    .nil)))))
def d_u_law_read : Ev.Def := ⟨"_law_read", 14, [.M], ["box", "lines", "due", "turn", "copy", "words", "k"], b_u_law_read⟩
def b_u_law_books : Ev.Ss := (.cons (.asg (.name 1) (.bin .add (.int 1) (.call "_law_draw" (.cons (.var 0) (.cons (.int 7) .nil)))))
    (.cons (.asg (.name 2) (.lst .nil))
    (.cons (.forr (.name 3) (.rng1 (.bin .add (.int 1) (.call "_law_draw" (.cons (.var 0) (.cons (.int 4) .nil))))) (.cons (.ex (.chg .append 2 (.cons (.blt .tuple (.cons (.comp (.bin .mul (.call "_law_draw" (.cons (.var 0) (.cons (.int 1000) .nil))) (.bin .sub (.int 1) (.bin .mul (.int 2) (.call "_law_draw" (.cons (.var 0) (.cons (.int 2) .nil)))))) (.name 5) (.rng1 (.var 1)) .none [5]) .nil)) .nil)))
    .nil))
    (.cons (.asg (.name 4) (.comp (.blt .tuple (.cons (.bin .add (.lst (.cons (.blt .str (.cons (.var 5) .nil)) .nil)) (.comp (.blt .str (.cons (.idx (.var 6) (.var 5)) .nil)) (.name 6) (.seq (.var 2)) .none [6])) .nil)) (.name 5) (.rng1 (.var 1)) .none [5]))
    (.cons (.ret (.call "_law_same" (.cons (.call "book_lines" (.cons (.blt .list (.cons (.var 2) .nil)) .nil)) (.cons (.call "_law_columns" (.cons (.var 4) .nil)) .nil))))
    .nil)))))
def d_u_law_books : Ev.Def := ⟨"_law_books", 15, [.M], ["box", "many", "books", "turn", "rows", "house", "book"], b_u_law_books⟩
def b_law : Ev.Ss := (.cons (.asg (.name 1) (.lst (.cons (.call "_law_digits" (.cons (.var 0) (.cons (.int 0) (.cons (.int 40) .nil)))) (.cons (.int 0) .nil))))
    (.cons (.asg (.name 2) (.bin .add (.int 1) (.call "_law_draw" (.cons (.var 1) (.cons (.int 4) .nil)))))
    (.cons (.asg (.name 3) (.lst .nil))
    (.cons (.forr (.name 4) (.rng1 (.bin .add (.int 1) (.call "_law_draw" (.cons (.var 1) (.cons (.int 5) .nil))))) (.cons (.ex (.chg .append 3 (.cons (.blt .tuple (.cons (.comp (.call "_law_text" (.cons (.var 1) (.cons (.call "_law_pick" (.cons (.var 1) (.cons (.lst (.cons (.int 9) (.cons (.int 3) (.cons (.int 1) (.cons (.int 0) (.cons (.int 6) .nil)))))) .nil))) .nil))) (.name 9) (.rng1 (.var 2)) .none [9]) .nil)) .nil)))
    .nil))
    (.cons (.asg (.name 5) (.comp (.blt .max (.cons (.comp (.len (.idx (.var 10) (.var 9))) (.name 10) (.seq (.var 3)) .none [10]) .nil)) (.name 9) (.rng1 (.var 2)) .none [9]))
    (.cons (.asg (.name 6) (.blt .list (.cons (.var 3) .nil)))
    (.cons (.ife (.no (.call "_law_same" (.cons (.call "wide_of" (.cons (.var 6) .nil)) (.cons (.var 5) .nil)))) (.cons (.ret (.bl false))
    .nil) .nil)
    (.cons (.asg (.name 7) (.call "_law_columns" (.cons (.var 3) .nil)))
    (.cons (.asg (.name 8) (.call "in_columns" (.cons (.var 6) .nil)))
    (.cons (.ife (.or (.no (.call "_law_same" (.cons (.var 8) (.cons (.var 7) .nil)))) (.cmp .ne (.var 6) (.var 3))) (.cons (.ret (.bl false))
    .nil) .nil)
    (.cons (.ex (.chg .append 8 (.cons (.str "") .nil)))
    (.cons (.ife (.or (.no (.call "_law_same" (.cons (.call "in_columns" (.cons (.blt .list (.cons (.var 3) .nil)) .nil)) (.cons (.var 7) .nil)))) (.no (.call "_law_same" (.cons (.call "in_columns" (.cons (.lst .nil) .nil)) (.cons (.lst .nil) .nil))))) (.cons (.ret (.bl false))
    .nil) .nil)
    (.cons (.ife (.no (.call "_law_same" (.cons (.call "read_columns" (.cons (.blt .list (.cons (.var 7) .nil)) .nil)) (.cons (.comp (.blt .tuple (.cons (.comp (.var 12) (.name 12) (.seq (.tm .split (.var 11) (.str " "))) (.some (.cmp .ne (.var 12) (.str ""))) [12]) .nil)) (.name 11) (.seq (.var 7)) .none [11]) .nil)))) (.cons (.ret (.bl false))
    .nil) .nil)
    (.cons (.ret (.and (.call "_law_read" (.cons (.var 1) .nil)) (.call "_law_books" (.cons (.var 1) .nil))))
    .nil))))))))))))))
def d_law : Ev.Def := ⟨"law", 16, [.B], ["script", "box", "many", "rows", "turn", "wide", "copy", "lines", "told", "at", "row", "line", "word"], b_law⟩
def T : Ev.Tab := [d_wide_of, d_in_columns, d_book_lines, d_read_columns, d_u_law_cell, d_u_law_digits, d_u_law_draw, d_u_law_pick, d_u_law_same, d_u_law_columns, d_u_law_text, d_u_law_spaced, d_u_law_read, d_u_law_books, d_law]
theorem find_wide_of : Ev.find T "wide_of" = some d_wide_of := rfl
theorem find_in_columns : Ev.find T "in_columns" = some d_in_columns := rfl
theorem find_book_lines : Ev.find T "book_lines" = some d_book_lines := rfl
theorem find_read_columns : Ev.find T "read_columns" = some d_read_columns := rfl
theorem find_u_law_cell : Ev.find T "_law_cell" = some d_u_law_cell := rfl
theorem find_u_law_digits : Ev.find T "_law_digits" = some d_u_law_digits := rfl
theorem find_u_law_draw : Ev.find T "_law_draw" = some d_u_law_draw := rfl
theorem find_u_law_pick : Ev.find T "_law_pick" = some d_u_law_pick := rfl
theorem find_u_law_same : Ev.find T "_law_same" = some d_u_law_same := rfl
theorem find_u_law_columns : Ev.find T "_law_columns" = some d_u_law_columns := rfl
theorem find_u_law_text : Ev.find T "_law_text" = some d_u_law_text := rfl
theorem find_u_law_spaced : Ev.find T "_law_spaced" = some d_u_law_spaced := rfl
theorem find_u_law_read : Ev.find T "_law_read" = some d_u_law_read := rfl
theorem find_u_law_books : Ev.find T "_law_books" = some d_u_law_books := rfl
theorem find_law : Ev.find T "law" = some d_law := rfl
theorem call_wide_of (k : Nat) : callF T (k + 1) "wide_of" = some (d_wide_of.ks, runD (callF T k) d_wide_of) := rfl
theorem call_in_columns (k : Nat) : callF T (k + 1) "in_columns" = some (d_in_columns.ks, runD (callF T k) d_in_columns) := rfl
theorem call_book_lines (k : Nat) : callF T (k + 1) "book_lines" = some (d_book_lines.ks, runD (callF T k) d_book_lines) := rfl
theorem call_read_columns (k : Nat) : callF T (k + 1) "read_columns" = some (d_read_columns.ks, runD (callF T k) d_read_columns) := rfl
theorem call_u_law_cell (k : Nat) : callF T (k + 1) "_law_cell" = some (d_u_law_cell.ks, runD (callF T k) d_u_law_cell) := rfl
theorem call_u_law_digits (k : Nat) : callF T (k + 1) "_law_digits" = some (d_u_law_digits.ks, runD (callF T k) d_u_law_digits) := rfl
theorem call_u_law_draw (k : Nat) : callF T (k + 1) "_law_draw" = some (d_u_law_draw.ks, runD (callF T k) d_u_law_draw) := rfl
theorem call_u_law_pick (k : Nat) : callF T (k + 1) "_law_pick" = some (d_u_law_pick.ks, runD (callF T k) d_u_law_pick) := rfl
theorem call_u_law_same (k : Nat) : callF T (k + 1) "_law_same" = some (d_u_law_same.ks, runD (callF T k) d_u_law_same) := rfl
theorem call_u_law_columns (k : Nat) : callF T (k + 1) "_law_columns" = some (d_u_law_columns.ks, runD (callF T k) d_u_law_columns) := rfl
theorem call_u_law_text (k : Nat) : callF T (k + 1) "_law_text" = some (d_u_law_text.ks, runD (callF T k) d_u_law_text) := rfl
theorem call_u_law_spaced (k : Nat) : callF T (k + 1) "_law_spaced" = some (d_u_law_spaced.ks, runD (callF T k) d_u_law_spaced) := rfl
theorem call_u_law_read (k : Nat) : callF T (k + 1) "_law_read" = some (d_u_law_read.ks, runD (callF T k) d_u_law_read) := rfl
theorem call_u_law_books (k : Nat) : callF T (k + 1) "_law_books" = some (d_u_law_books.ks, runD (callF T k) d_u_law_books) := rfl
theorem call_law (k : Nat) : callF T (k + 1) "law" = some (d_law.ks, runD (callF T k) d_law) := rfl
end K93

set_option maxRecDepth 100000
namespace K93
open Ev PySem L2
/-! ### the shared helpers -/
theorem r_cell {F : FT} (ns : List Int) (k : Nat) : runD F d_u_law_cell [.ro (ns.map .int), .fz (.int k)] = some (.fr (.int (ns.getD k 0)), []) := by
  simp only [runD_eq]
  simp [d_u_law_cell, b_u_law_cell]
  by_cases h : k < ns.length
  · simp [h]
  · simp [h]
theorem r_draw {F : FT} (ds : List Int) (c m : Nat) (hm : 0 < m) : ∃ r : Nat, r < m ∧ runD F d_u_law_draw [.mu [.list (ds.map .int), .int c], .fz (.int m)] = some (.fr (.int r), [[.list (ds.map .int), .int (c + 1 : Nat)]]) := by
  simp only [runD_eq]
  simp [d_u_law_draw, b_u_law_draw]
  by_cases h : ds.length < c + 1
  · obtain ⟨r, hr, e⟩ := fmod_lt (((c : Int) + 1) * 7 + 3) hm
    refine ⟨r, hr, ?_⟩
    have : ((ds.length : Int) < (c : Int) + 1) := by omega
    have hm' : ¬ m = 0 := by omega
    simp [this, mulOk, L2.CMul, hm', e]
  · have h' : ¬ ((ds.length : Int) < (c : Int) + 1) := by omega
    have hc : c < ds.length := by omega
    obtain ⟨r, hr, e⟩ := fmod_lt (ds[c]) hm
    refine ⟨r, hr, ?_⟩
    have hm' : ¬ m = 0 := by omega
    simp [h', hc, hm', e]
/-- data that _law_same finds like themselves -/
def GS : Nat → D → Prop
  | 0, _ => False
  | _ + 1, .none => True
  | _ + 1, .bool _ => True
  | _ + 1, .int i => i.natAbs.log2 < 1920
  | _ + 1, .str x => (reprText x).length ≤ 16777216 ∧ PyData.strOk (reprText x) = true
  | j + 1, .list ds => ds.length ≤ 16777216 ∧ ∀ d ∈ ds, GS j d
  | j + 1, .tuple ds => ds.length ≤ 16777216 ∧ ∀ d ∈ ds, GS j d
  | _ + 1, .dict _ => False
theorem d_u_law_same_ks : d_u_law_same.ks = [.B, .B] := rfl
theorem same_true (k : Nat) : ∀ (j : Nat) (x : D) (s1 s2 : Slot), GS j x → isS s1 x → isS s2 x → runD (callF T (k + j)) d_u_law_same [s1, s2] = some (.fr (.bool true), [])
  | 0, x, s1, s2, g, h1, h2 => g.elim
  | j + 1, x, s1, s2, g, h1, h2 => by
    rw [← Nat.add_assoc]
    simp only [runD_eq]
    cases x with
    | none =>
      rcases h1 with rfl | ⟨ds, e, rfl⟩ <;> rcases h2 with rfl | ⟨es, e', rfl⟩ <;> first | (cases e; done) | (cases e'; done) | skip
      simp [d_u_law_same, b_u_law_same]
    | bool b =>
      rcases h1 with rfl | ⟨ds, e, rfl⟩ <;> rcases h2 with rfl | ⟨es, e', rfl⟩ <;> first | (cases e; done) | (cases e'; done) | skip
      cases b <;> simp [d_u_law_same, b_u_law_same]
    | int i =>
      rcases h1 with rfl | ⟨ds, e, rfl⟩ <;> rcases h2 with rfl | ⟨es, e', rfl⟩ <;> first | (cases e; done) | (cases e'; done) | skip
      have g' : i.natAbs.log2 < 1920 := g
      simp [d_u_law_same, b_u_law_same, g', dCmp_eq, shaped_str]
    | list ds =>
      obtain ⟨gl, g⟩ := g
      have hl : ds.length ≤ 16777216 := gl
      have hb : ((ds.length : Nat) : Int) ≤ 16777216 := by omega
      have hb2 : (-4611686018427387904 : Int) ≤ ds.length := by omega
      have key : ∀ s3 s4 : Slot, (s3 = .fz (.list ds) ∨ s3 = .bor ds) → (s4 = .fz (.list ds) ∨ s4 = .bor ds) → gd (kindsB d_u_law_same.ks [s3, s4] = true) (finD d_u_law_same.ks (exs (callF T (k + j + 1)) d_u_law_same.body ([s3, s4] ++ List.replicate (d_u_law_same.N.length - [s3, s4].length) .un))) = some (.fr (.bool true), []) := by
        intro s3 s4 e3 e4
        rcases e3 with rfl | rfl <;> rcases e4 with rfl | rfl
        all_goals
          simp [d_u_law_same, b_u_law_same, dCmp_eq, hb, hb2]
          generalize hf : forL _ _ _ = x
          obtain ⟨ρ', rfl, o, rfl⟩ := forR_use hf (fun _ ρ => ∃ o, ρ = [_, _, qs o]) ⟨none, rfl⟩ (by
            rintro i ρ hi ⟨o, rfl⟩
            have hi' : i < ds.length := by omega
            have ih := same_true k j (ds[i]) (.fz ds[i]) (.fz ds[i]) (g _ (List.getElem_mem hi')) (isS_fz _) (isS_fz _)
            simp [fstep, call_u_law_same, d_u_law_same_ks, hi', ih]
            exact St.next ⟨some (.int i), rfl⟩)
          simp
      refine key s1 s2 ?_ ?_
      · rcases h1 with h | ⟨es, e, h⟩
        · exact .inl h
        · cases e; exact .inr h
      · rcases h2 with h | ⟨es, e, h⟩
        · exact .inl h
        · cases e; exact .inr h
    | tuple ds =>
      obtain ⟨gl, g⟩ := g
      have hl : ds.length ≤ 16777216 := gl
      have hb : ((ds.length : Nat) : Int) ≤ 16777216 := by omega
      have hb2 : (-4611686018427387904 : Int) ≤ ds.length := by omega
      rcases h1 with rfl | ⟨es, e, rfl⟩ <;> rcases h2 with rfl | ⟨es, e', rfl⟩ <;> first | (cases e; done) | (cases e'; done) | skip
      all_goals
        simp [d_u_law_same, b_u_law_same, dCmp_eq, hb, hb2]
        generalize hf : forL _ _ _ = x
        obtain ⟨ρ', rfl, o, rfl⟩ := forR_use hf (fun _ ρ => ∃ o, ρ = [_, _, qs o]) ⟨none, rfl⟩ (by
          rintro i ρ hi ⟨o, rfl⟩
          have hi' : i < ds.length := by omega
          have ih := same_true k j (ds[i]) (.fz ds[i]) (.fz ds[i]) (g _ (List.getElem_mem hi')) (isS_fz _) (isS_fz _)
          simp [fstep, call_u_law_same, d_u_law_same_ks, hi', ih]
          exact St.next ⟨some (.int i), rfl⟩)
        simp
    | str x =>
      rcases h1 with rfl | ⟨ds, e, rfl⟩ <;> rcases h2 with rfl | ⟨es, e', rfl⟩ <;> first | (cases e; done) | (cases e'; done) | skip
      have g' : (reprText x).length ≤ 16777216 := g.1
      have hs : SeqAt.shaped (.str (reprText x)) = true := by simp [SeqAt.shaped, PyData.canLay0, PyData.depth, g.2]
      simp [d_u_law_same, b_u_law_same, g', dCmp_eq, hs]
    | dict x => exact g.elim
end K93

set_option maxRecDepth 100000
namespace K93
open Ev PySem L2
theorem CPow_18 : CPow 10 18 := ⟨by omega, by omega, by decide⟩
theorem r_digits (k : Nat) (ns : List Int) (last : Nat) (hlast : last ≤ 100) : ∃ ds : List Int, runD (callF T (k + 1)) d_u_law_digits [.ro (ns.map .int), .fz (.int 0), .fz (.int last)] = some (.nw (ds.map .int), []) := by
  have h1 : (last : Int) ≤ 16777216 := by omega
  have h2 : (-4611686018427387904 : Int) ≤ last := by omega
  have h3 : (last : Int) < 4611686018427387904 := by omega
  simp only [runD_eq]
  simp [d_u_law_digits, b_u_law_digits, h1, h2, h3]
  generalize hf : forL _ _ _ = x
  obtain ⟨ρ', rfl, ds, o3, o4, o5, o6, hl, rfl⟩ := forR_use hf (fun i ρ => ∃ (ds : List Int) (o3 o4 o5 o6 : Option D), ds.length ≤ 60 * i ∧ ρ = [_, _, _, .own (ds.map .int), qs o3, qs o4, qs o5, qs o6]) ⟨[], none, none, none, none, by simp, rfl⟩ (by
    rintro i ρ hi ⟨ds, o3, o4, o5, o6, hl, rfl⟩
    have hi' : i < last := by omega
    simp [fstep, call_u_law_cell, show d_u_law_cell.ks = [.B, .I] from rfl]
    have rc := r_cell (F := callF T k) ns i
    simp [rc]
    generalize (ns[i]?.getD 0) = c
    have key : ∀ c : Int, St (sq (some (Out.next, [Slot.ro (ns.map .int), .fz (.int 0), .fz (.int last), .own (ds.map .int), .fz (.int i), .fz (.int c), qs o5, qs o6])) (k := ⟨exs (callF T (k + 1)) (match b_u_law_digits with | .cons _ (.cons (.forr _ _ (.cons _ (.cons _ r))) _) => r | _ => .nil)⟩)) (k := ⟨fun ρ' => ∃ (ds : List Int) (o3 o4 o5 o6 : Option D), ds.length ≤ 60 * (i + 1) ∧ ρ' = [Slot.ro (ns.map .int), .fz (.int 0), .fz (.int last), .own (ds.map .int), qs o3, qs o4, qs o5, qs o6]⟩) := by
      intro c
      simp [b_u_law_digits, CPow_18]
      by_cases hc : 1000000000000000000 ≤ c
      · simp [hc]
        generalize hf : forL _ _ _ = x
        obtain ⟨ρ', rfl, ds', c', o5, hl', rfl⟩ := forR_use hf (fun j ρ => ∃ (ds' : List Int) (c' : Int) (o5 : Option D), ds'.length ≤ 60 * i + j ∧ ρ = [_, _, _, .own (ds'.map .int), _, .fz (.int c'), qs o5, _]) ⟨ds, c, o5, by omega, rfl⟩ (by
          rintro j ρ hj ⟨ds', c', o5, hl', rfl⟩
          have hj' : j < 60 := by omega
          simp [fstep]
          by_cases h0 : 0 < c'
          · have hlen : ds'.length < 16777216 := by omega
            simp [h0, hlen, lg]
            exact St.next ⟨ds' ++ [c'.fmod 1000], c'.fdiv 1000, some (.int j), by simp; omega, by simp⟩
          · simp [h0]
            exact St.next ⟨ds', c', some (.int j), by omega, by simp⟩)
        simp
        exact St.next ⟨ds', some (.int i), some (.int c'), o5, o6, by omega, by simp⟩
      · simp [hc, mulOk_r]
        generalize hs : Int.fmod _ 2147483647 = sd
        generalize hf : forL _ _ _ = x
        obtain ⟨ρ', rfl, ds', c', o5, hl', rfl⟩ := forR_use hf (fun j ρ => ∃ (ds' : List Int) (c' : Int) (o5 : Option D), ds'.length ≤ 60 * i + j ∧ ρ = [_, _, _, .own (ds'.map .int), _, _, qs o5, .fz (.int c')]) ⟨ds, sd, o5, by omega, rfl⟩ (by
          rintro j ρ hj ⟨ds', c', o5, hl', rfl⟩
          have hj' : j < 12 := by omega
          have hlen : ds'.length < 16777216 := by omega
          simp [fstep, mulOk_r, mulOk_l, hlen, lg]
          generalize Int.fmod _ 2147483647 = sd
          refine St.next ⟨ds' ++ [(sd.fdiv 997).fmod 1000], sd, some (.int j), by simp; omega, by simp⟩)
        simp
        exact St.next ⟨ds', some (.int i), some (.int c), o5, some (.int c'), by simp at hl'; omega, by simp⟩
    by_cases hn : c < 0
    · have := key (1 - 2 * c)
      simp [b_u_law_digits] at this
      simp [hn, mulOk_l]
      exact this
    · have := key c
      simp [b_u_law_digits] at this
      simp [hn]
      exact this)
  simp
  exact ⟨ds, rfl⟩
end K93

set_option maxRecDepth 100000
/-! K93T: plain facts on texts. -/
namespace K93
open PySem Ev
def Tx (n : Nat) (x : Str) : Prop := x.length ≤ n ∧ ∀ c ∈ x.cps.toList, c < 1114112
theorem str_ext {x y : Str} (h : x.cps.toList = y.cps.toList) : x = y := by
  obtain ⟨⟨a⟩⟩ := x; obtain ⟨⟨b⟩⟩ := y
  simp only at h; subst h; rfl
theorem L_app (x y : Str) : (x ++ y).cps.toList = x.cps.toList ++ y.cps.toList := by
  show (x.cps ++ y.cps).toList = _
  simp
theorem len_L (x : Str) : x.length = x.cps.toList.length := by simp [Str.length]
theorem len_app (x y : Str) : (x ++ y).length = x.length + y.length := by
  rw [len_L, len_L, len_L, L_app, List.length_append]
theorem app_assoc (x y z : Str) : x ++ y ++ z = x ++ (y ++ z) := str_ext (by simp [L_app])
theorem Tx.mono {n m x} (h : Tx n x) (l : n ≤ m) : Tx m x := ⟨Nat.le_trans h.1 l, h.2⟩
theorem Tx.ok {n x} (h : Tx n x) : PyData.strOk x = true := by
  unfold PyData.strOk
  rw [Array.all_eq_true_iff_forall_mem]
  intro c hc
  exact decide_eq_true (h.2 c (by simpa using hc))
theorem Tx.app {n m x y} (h : Tx n x) (k : Tx m y) : Tx (n + m) (x ++ y) := ⟨by rw [len_app]; have := h.1; have := k.1; omega, fun c hc => by
  rw [L_app] at hc
  rcases List.mem_append.mp hc with hc | hc
  · exact h.2 c hc
  · exact k.2 c hc⟩
theorem ofS_L (s : String) : (Str.ofString s).cps.toList = s.toList.map Char.toNat := by rw [Str.ofString_eq_toList]
theorem char_lt (c : Char) : c.toNat < 1114112 := by
  have h := c.valid
  have e : c.toNat = c.val.toNat := rfl
  simp only [UInt32.isValidChar, Nat.isValidChar] at h
  omega
theorem Tx.of (s : String) : Tx s.length (Str.ofString s) := ⟨by rw [len_L, ofS_L, List.length_map, String.length_toList]; omega, fun c hc => by
  rw [ofS_L] at hc
  obtain ⟨d, _, rfl⟩ := List.mem_map.mp hc
  exact char_lt d⟩
theorem Tx.one {c : Nat} (h : c < 1114112) : Tx 1 ⟨#[c]⟩ := ⟨Nat.le_refl _, fun d hd => by simp at hd; subst hd; exact h⟩
theorem Tx.sub {n x} (h : Tx n x) (i j : Nat) : Tx n (Builtin.Str.strSub x i j) := by
  have e : (Builtin.Str.strSub x i j).cps.toList = (x.cps.toList.take j).drop i := by
    show (x.cps.extract i j).toList = _
    simp [List.drop_take]
  refine ⟨?_, fun c hc => ?_⟩
  · have := h.1
    rw [len_L] at this ⊢
    rw [e]; simp at this ⊢; omega
  · rw [e] at hc
    exact h.2 c (List.mem_of_mem_take (List.mem_of_mem_drop hc))
theorem Tx.stripBy {n x} (h : Tx n x) (g : Nat → Bool) (l r : Bool) : Tx n (Txt.stripBy g l r x) := by
  unfold Txt.stripBy
  split
  · exact h
  · exact h.sub _ _
theorem Tx.strip {n x} (h : Tx n x) (y) : Tx n (Txt.stripChars x y) := h.stripBy _ _ _
theorem Tx.rstrip {n x} (h : Tx n x) (y) : Tx n (Txt.rstripChars x y) := h.stripBy _ _ _
theorem sp_cps : (Str.ofString " ").cps = #[32] := by decide +kernel
theorem fold_replicate (m : Nat) : ∀ acc : Array Nat, ((List.replicate m (#[32] : Array Nat)).foldl (· ++ ·) acc).toList = acc.toList ++ List.replicate m 32 := by
  induction m with
  | zero => intro acc; simp
  | succ m ih => intro acc; rw [List.replicate_succ, List.foldl_cons, ih]; simp [List.replicate_succ]
theorem L_rep (n : Int) : (repS (Str.ofString " ") n).cps.toList = List.replicate n.toNat 32 := by
  unfold repS
  by_cases h : n < 1
  · rw [if_pos h]
    have : n.toNat = 0 := by omega
    rw [this]; rfl
  · rw [if_neg h]
    by_cases h2 : (n == 1 || (Str.ofString " ").length == 0) = true
    · rw [if_pos h2]
      have h3 : ((Str.ofString " ").length == 0) = false := by decide +kernel
      rw [h3] at h2
      have : n = 1 := by simpa using h2
      subst this
      rw [sp_cps]; rfl
    · rw [if_neg h2, sp_cps]
      have := fold_replicate n.toNat #[]
      simpa using this
theorem Tx.rep (n : Int) : Tx n.toNat (repS (Str.ofString " ") n) := ⟨by rw [len_L, L_rep]; simp, fun c hc => by
  rw [L_rep] at hc
  have := List.eq_of_mem_replicate hc
  omega⟩
theorem L_ljust (x : Str) (i : Int) : Txt.ljust x i = x ++ repS (Str.ofString " ") (i - x.length) := by
  apply str_ext
  rw [L_app, L_rep]
  unfold Txt.ljust
  by_cases h : i ≤ x.length
  · rw [if_pos h]
    have : (i - (x.length : Int)).toNat = 0 := by omega
    rw [this]; simp
  · rw [if_neg h]
    have : (i - (x.length : Int)).toNat = i.toNat - x.length := by omega
    rw [this]
    unfold Builtin.Str.padded
    simp
theorem L_rjust (x : Str) (i : Int) : Txt.rjust x i = repS (Str.ofString " ") (i - x.length) ++ x := by
  apply str_ext
  rw [L_app, L_rep]
  unfold Txt.rjust
  by_cases h : i ≤ x.length
  · rw [if_pos h]
    have : (i - (x.length : Int)).toNat = 0 := by omega
    rw [this]; simp
  · rw [if_neg h]
    have : (i - (x.length : Int)).toNat = i.toNat - x.length := by omega
    rw [this]
    unfold Builtin.Str.padded
    simp
theorem join_one (s x : Str) : Txt.join s [x] = x := rfl
theorem join_snoc (s x : Str) (w : Str) (ws : List Str) : Txt.join s ((w :: ws) ++ [x]) = Txt.join s (w :: ws) ++ s ++ x := by
  unfold Txt.join Builtin.Str.glued
  simp only [List.cons_append, List.drop_succ_cons, List.drop_zero, List.foldl_append, List.foldl_cons, List.foldl_nil, List.headD_cons]
  rfl
theorem reprChar_lt {q c : Nat} (hq : q < 1114112) (hc : c < 1114112) : ∀ d ∈ Builtin.Str.reprChar q c, d < 1114112 := by
  have hx : ∀ w, ∀ d ∈ List.replicate (w - ((Nat.toDigits 16 c).map Char.toNat).length) 48 ++ (Nat.toDigits 16 c).map Char.toNat, d < 1114112 := fun w d hd => by
    rcases List.mem_append.mp hd with hd | hd
    · have := List.eq_of_mem_replicate hd; omega
    · obtain ⟨e, _, rfl⟩ := List.mem_map.mp hd
      exact char_lt e
  unfold Builtin.Str.reprChar
  dsimp only
  intro d
  repeat' split
  all_goals intro hd
  all_goals first
    | (simp only [List.mem_cons, List.not_mem_nil, or_false] at hd; omega)
    | (rcases List.mem_append.mp hd with hd | hd
       · simp only [List.mem_cons, List.not_mem_nil, or_false] at hd; omega
       · exact hx _ d hd)
theorem Tx.repr {n x} (h : Tx n x) : Tx (10 * n + 2) (reprText x) := by
  refine ⟨Nat.le_trans (StrLaws.reprText_len x fun c hc => by have := h.2 c hc; omega) (by have := h.1; omega), fun c hc => ?_⟩
  have key : ∀ (q : Nat) (hq : q < 1114112) (l : List Nat) (acc : Array Nat), (∀ c ∈ l, c < 1114112) → (∀ c ∈ acc.toList, c < 1114112) → ∀ c ∈ (l.foldl (fun out c => out ++ (Builtin.Str.reprChar q c).toArray) acc).toList, c < 1114112 := fun q hq l => by
    induction l with
    | nil => intro acc _ ha; exact ha
    | cons d r ih =>
      intro acc hl ha
      rw [List.foldl_cons]
      refine ih _ (fun c hc => hl c (List.mem_cons_of_mem _ hc)) fun c hc => ?_
      rw [Array.toList_append] at hc
      rcases List.mem_append.mp hc with hc | hc
      · exact ha c hc
      · exact reprChar_lt hq (hl d List.mem_cons_self) c hc
  have hq : reprQuote x < 1114112 := by
    unfold reprQuote
    split <;> omega
  unfold reprText at hc
  simp only [Array.toList_push] at hc
  rcases List.mem_append.mp hc with hc | hc
  · rw [← Array.foldl_toList] at hc
    exact key _ hq _ _ h.2 (fun c hc => by simp at hc; subst hc; exact hq) c hc
  · simp at hc; subst hc; exact hq
theorem Tx.int {i : Int} (h : i.natAbs < 1000) : Tx 4 (Str.ofString (toString i)) :=
  (Tx.of (toString i)).mono (int_text_length_le10 (k := 3) (by omega) (by omega))
end K93

set_option maxRecDepth 100000
namespace K93
open Ev PySem L2
theorem ks_draw : d_u_law_draw.ks = [.M, .B] := rfl
theorem ks_pick : d_u_law_pick.ks = [.M, .B] := rfl
theorem ks_same : d_u_law_same.ks = [.B, .B] := rfl
theorem ks_digits : d_u_law_digits.ks = [.B, .I, .I] := rfl
theorem ks_text : d_u_law_text.ks = [.M, .B] := rfl
/-- the box: digits and a count -/
abbrev bx (ds : List Int) (c : Nat) : List D := [.list (ds.map .int), .int (c : Int)]
theorem r_drawI {F : FT} (ds : List Int) (c : Nat) (m : Int) (hm : 0 < m) : ∃ r c' : Nat, (r : Int) < m ∧ runD F d_u_law_draw [.mu [.list (ds.map .int), .int c], .fz (.int m)] = some (.fr (.int r), [[.list (ds.map .int), .int (c' : Nat)]]) := by
  obtain ⟨r, h1, h2⟩ := r_draw (F := F) ds c m.toNat (by omega)
  have e : ((m.toNat : Nat) : Int) = m := by omega
  rw [e] at h2
  exact ⟨r, c + 1, by omega, h2⟩
theorem r_pick (k : Nat) (ds : List Int) (c : Nat) (xs : List D) (h0 : xs ≠ []) : ∃ (z : D) (c' : Nat), z ∈ xs ∧ runD (callF T (k + 1)) d_u_law_pick [.mu (bx ds c), .fz (.list xs)] = some (.fr z, [bx ds c']) := by
  have hl : 0 < xs.length := List.length_pos_iff.mpr h0
  obtain ⟨r0, c2, h1, h2⟩ := r_drawI (F := callF T k) ds c 1000 (by omega)
  have hm : (r0 : Int).fmod (xs.length : Int) = ((r0 % xs.length : Nat) : Int) := fmod_nat r0 xs.length
  have h1' : r0 % xs.length < xs.length := Nat.mod_lt _ hl
  have hln : ¬ xs.length = 0 := by omega
  generalize r0 % xs.length = r at *
  refine ⟨xs[r], c2, List.getElem_mem _, ?_⟩
  simp only [runD_eq]
  simp [d_u_law_pick, b_u_law_pick, call_u_law_draw, ks_draw, h2, h1', hm, h0, hln, bx]
theorem idx_str {S : Str} {n r : Nat} (h : Tx n S) (hn : n ≤ 16777216) (hr : r < S.length) : ∃ c, c < 1114112 ∧ dIdx (.str S) (.int (r : Int)) = some (.str ⟨#[c]⟩) := by
  have hl : S.cps.toList.length = S.length := (len_L S).symm
  have h1 : r < S.cps.toList.length := by omega
  refine ⟨S.cps.toList[r], h.2 _ (List.getElem_mem h1), ?_⟩
  have h2 : S.length ≤ sizeLine := by have := h.1; rw [Ev.sizeLine_eq]; omega
  simp only [dIdx]
  rw [if_pos h2, Ev.atI_nat, List.getElem?_eq_getElem h1]
  rfl
def SG : Str := Str.ofString "abcdefghijklmnopqrstuvwxyz0123456789-+.,:!?#ABCXYZ"
theorem SG_len : SG.length = 50 := by decide +kernel
theorem SG_tx : Tx 100 SG := (Tx.of _).mono (by decide +kernel)
theorem dLen_str {n : Nat} {x : Str} (h : Tx n x) (hn : n ≤ 16777216) : dLen (.str x) = some (.int (x.length : Nat)) := if_pos (by have := h.1; rw [Ev.sizeLine_eq]; omega)
theorem sp1 : Tx 1 (Str.ofString " ") := (Tx.of _).mono (by decide +kernel)
theorem r_text (k : Nat) (ds : List Int) (c m : Nat) (hm : m ≤ 9) : ∃ (x : Str) (c' : Nat), runD (callF T (k + 1)) d_u_law_text [.mu (bx ds c), .fz (.int (m : Int))] = some (.fr (.str x), [bx ds c']) ∧ Tx 18 x := by
  suffices h : Rt (runD (callF T (k + 1)) d_u_law_text [.mu (bx ds c), .fz (.int (m : Int))]) (k := ⟨fun r o => ∃ (x : Str) (c' : Nat), r = .fr (.str x) ∧ o = [bx ds c'] ∧ Tx 18 x⟩) by
    obtain ⟨r, o, e, x, c', rfl, rfl, h⟩ := h
    exact ⟨x, c', e, h⟩
  obtain ⟨n, c1, hn, e1⟩ := r_drawI (F := callF T k) ds c ((m : Int) + 1) (by omega)
  have y1 : (-4611686018427387904 : Int) ≤ n := by omega
  have y2 : (n : Int) ≤ 16777216 := by omega
  simp only [runD_eq]
  simp [d_u_law_text, b_u_law_text, call_u_law_draw, ks_draw, e1, y1, y2]
  generalize hf : forL _ _ _ = x
  obtain ⟨ρ', rfl, text, c2, o4, ht, rfl⟩ := forR_use hf (fun i ρ => ∃ (t : Str) (c : Nat) (o4 : Option D), Tx (2 * i) t ∧ ρ = [.mu (bx ds c), .fz (.int (m : Int)), .fz (.str SG), .fz (.str t), qs o4]) ⟨Str.ofString "", c1, none, (Tx.of "").mono (by decide +kernel), by rfl⟩ (by
    rintro i ρ hi ⟨t, c, o4, ht, rfl⟩
    obtain ⟨r0, c2, h1, h2⟩ := r_drawI (F := callF T k) ds c 1000 (by omega)
    obtain ⟨r1, c3, h3, h4⟩ := r_drawI (F := callF T k) ds c2 6 (by omega)
    have hm : (r0 : Int).fmod 50 = ((r0 % 50 : Nat) : Int) := fmod_nat r0 50
    have hq : r0 % 50 < 50 := by omega
    generalize r0 % 50 = q at *
    obtain ⟨d, hd, hx⟩ := idx_str (r := q) SG_tx (by omega) (by rw [SG_len]; omega)
    have hl := dLen_str SG_tx (by omega)
    rw [SG_len] at hl
    have b1 : t.length + 1 ≤ 16777216 := by have := ht.1; omega
    have b2 : t.length + 1 + 1 ≤ 16777216 := by have := ht.1; omega
    have t1 := ht.app (Tx.one hd)
    have l1 : ((⟨#[d]⟩ : Str)).length = 1 := rfl
    have l2 : (Str.ofString " ").length = 1 := by decide +kernel
    by_cases h0 : r1 = 0
    · subst h0
      simp [-dIdx_3, -dLen_3, fstep, call_u_law_draw, ks_draw, h2, hl, hm, hx, h4, l1, l2, b1, b2, len_app]
      refine St.next ?_
      exact ⟨_, c3, some (.int i), (t1.app sp1).mono (by omega), by simp⟩
    · have h0' : ¬ (r1 : Int) = 0 := by omega
      simp [-dIdx_3, -dLen_3, fstep, call_u_law_draw, ks_draw, h2, hl, hm, hx, h4, l1, l2, b1, b2, len_app, h0, h0']
      refine St.next ?_
      exact ⟨_, c3, some (.int i), t1.mono (by omega), by simp⟩)
  have hb : text.length ≤ 16777216 := by have := ht.1; omega
  simp [hb]
  exact Rt.ok ⟨_, c2, rfl, rfl, (ht.strip _).mono (by omega)⟩
end K93

set_option maxRecDepth 100000
namespace K93
open Ev PySem L2
theorem fm_some {α β : Type} (f : α → β) (l : List α) : l.filterMap (fun x => some (f x)) = l.map f := by
  induction l with
  | nil => rfl
  | cons x l ih => simp [ih]
def encR (r : List Str) : D := .tuple (r.map .str)
structure Tab (m B : Nat) (R : List (List Str)) : Prop where
  ne : R ≠ []
  len : R.length ≤ 100
  row : ∀ r ∈ R, r.length = m
  tx : ∀ r ∈ R, ∀ x ∈ r, Tx B x
  m0 : 0 < m
  m1 : m ≤ 100
  b : B ≤ 100
def at' (r : List Str) (a : Nat) : Str := r.getD a Str.empty
theorem at_ix {r : List Str} {a : Nat} (h : a < r.length) : (r.map PyData.str)[a]? = some (.str (at' r a)) := by simp [at', h]
theorem Tab.at {m B R} (t : Tab m B R) {r : List Str} (hr : r ∈ R) {a : Nat} (ha : a < m) : Tx B (at' r a) := by
  have : a < r.length := by rw [t.row r hr]; exact ha
  have e : at' r a = r[a] := by simp [at', this]
  rw [e]; exact t.tx r hr _ (List.getElem_mem this)
def Wd (R : List (List Str)) (a : Nat) : Int := match R.map fun r => ((at' r a).length : Int) with
  | [] => 0
  | x :: l => maxI x l
theorem maxI_mem : ∀ (l : List Int) (x : Int), maxI x l ∈ x :: l
  | [], x => by simp [maxI]
  | y :: l, x => by
    rw [maxI]
    split
    · exact List.mem_cons_of_mem _ (maxI_mem l y)
    · rcases List.mem_cons.mp (maxI_mem l x) with h | h
      · rw [h]; exact List.mem_cons_self
      · exact List.mem_cons_of_mem _ (List.mem_cons_of_mem _ h)
theorem Wd_b {m B R} (t : Tab m B R) {a : Nat} (ha : a < m) : 0 ≤ Wd R a ∧ Wd R a ≤ B := by
  unfold Wd
  split
  · omega
  · rename_i x l e
    have := maxI_mem l x
    rw [← e] at this
    obtain ⟨r, hr, e2⟩ := List.mem_map.mp this
    have := (t.at hr ha).1
    omega
theorem mx_rows {R : List (List Str)} (h : R ≠ []) (a : Nat) (xs : List D) : mxR (allInts (R.map fun r => PyData.int ((at' r a).length : Nat))) xs = some (.fr (.int (Wd R a))) := by
  have e : (R.map fun r => PyData.int ((at' r a).length : Nat)) = (R.map fun r => ((at' r a).length : Int)).map .int := by rw [List.map_map]; rfl
  rw [e]
  rw [allInts_ints]
  unfold Wd
  cases R with
  | nil => exact absurd rfl h
  | cons r R => rfl
theorem ks_wide : d_wide_of.ks = [.B] := rfl
theorem r_wide {F : FT} {m B : Nat} {R : List (List Str)} (t : Tab m B R) (s : Slot) (hs : hasL s (R.map encR)) : runD F d_wide_of [s] = some (.nw ((List.range m).map fun a => .int (Wd R a)), []) := by
  obtain ⟨r0, R', e0⟩ : ∃ r R', R = r :: R' := by
    cases R with
    | nil => exact absurd rfl t.ne
    | cons r R' => exact ⟨r, R', rfl⟩
  have h0 : (R.map encR)[0]? = some (encR r0) := by rw [e0]; rfl
  have hl : r0.length = m := t.row r0 (by rw [e0]; exact List.mem_cons_self)
  have y1 : (-4611686018427387904 : Int) ≤ m := by omega
  have y2 : (m : Int) ≤ 16777216 := by have := t.m1; omega
  simp only [runD_eq]
  rcases hs with rfl | rfl
  all_goals
    simp [d_wide_of, b_wide_of, h0, encR, hl, y1, y2]
    generalize hf : compL _ _ _ = x
    have e := compR_use hf (fun a => some (.int (Wd R a))) fun a ha => by
      have ha' : a < m := by omega
      simp [cstep]
      generalize hf2 : compL _ _ _ = x2
      have e2 := compM_use hf2 (fun r => some (.int ((at' r a).length : Nat))) fun r hr => by
        have h1 : a < r.length := by rw [t.row r hr]; exact ha'
        have h2 := dLen_str (t.at hr ha') (by have := t.b; omega)
        simp [-dLen_3, cstep, encR, at_ix h1, h2]
      subst e2
      rw [fm_some]
      simp [mx_rows t.ne]
    subst e
    rw [fm_some]
    simp
end K93

set_option maxRecDepth 100000
namespace K93
open Ev PySem L2
def pad (R : List (List Str)) (r : List Str) (a : Nat) : Str := repS (Str.ofString " ") (Wd R a - (at' r a).length)
def lnW (R : List (List Str)) (r : List Str) : Nat → Str
  | 0 => Str.ofString ""
  | 1 => at' r 0 ++ pad R r 0
  | a + 2 => lnW R r (a + 1) ++ Str.ofString "  " ++ pad R r (a + 1) ++ at' r (a + 1)
theorem sp2 : Tx 2 (Str.ofString "  ") := (Tx.of _).mono (by decide +kernel)
theorem sp1l : (Str.ofString " ").length = 1 := by decide +kernel
theorem sp2l : (Str.ofString "  ").length = 2 := by decide +kernel
theorem len_rep (n : Int) : (repS (Str.ofString " ") n).length = n.toNat := by rw [len_L, L_rep]; simp
theorem pad_tx {m B R} (t : Tab m B R) {r : List Str} {a : Nat} (ha : a < m) : Tx B (pad R r a) := by
  have := Wd_b t ha
  exact (Tx.rep _).mono (by omega)
theorem lnW_tx {m B R} (t : Tab m B R) {r : List Str} (hr : r ∈ R) : ∀ a, a ≤ m → Tx (a * 204) (lnW R r a)
  | 0, _ => (Tx.of _).mono (by decide +kernel)
  | 1, h => by
    have h1 := t.at hr (a := 0) (by have := t.m0; omega)
    exact (h1.app (pad_tx t (by have := t.m0; omega))).mono (by have := t.b; omega)
  | a + 2, h => by
    have h0 := lnW_tx t hr (a + 1) (by omega)
    exact (((h0.app sp2).app (pad_tx t (a := a + 1) (by omega))).app (t.at hr (a := a + 1) (by omega))).mono (by have := t.b; omega)
def lineS (R : List (List Str)) (m : Nat) (r : List Str) : Str := Txt.rstripChars (lnW R r m) (Str.ofString " ")
theorem ks_columns : d_u_law_columns.ks = [.B] := rfl
theorem r_columns {F : FT} {m B : Nat} {R : List (List Str)} (t : Tab m B R) (s : Slot) (hs : hasL s (R.map encR)) : runD F d_u_law_columns [s] = some (.nw (R.map fun r => .str (lineS R m r)), []) := by
  have b1 := t.b
  have b2 := t.m1
  have b3 := t.len
  have b4 := t.m0
  simp only [runD_eq]
  rcases hs with rfl | rfl
  · simp [d_u_law_columns, b_u_law_columns]
    generalize hf : forL _ _ _ = x
    obtain ⟨ρ', rfl, o2, o3, o4, o5, rfl⟩ := forM_use hf (fun i ρ => ∃ (o2 o3 o4 o5 : Option D), ρ = [.fz (.list (R.map encR)), .own ((R.take i).map fun r => .str (lineS R m r)), qs o2, qs o3, qs o4, qs o5, .un]) ⟨none, none, none, none, by simp⟩ (by
      rintro i r ρ hi ⟨o2, o3, o4, o5, rfl⟩
      obtain ⟨hil, hia⟩ := List.getElem?_eq_some_iff.mp hi
      have hr := List.mem_of_getElem? hi
      have hrl := t.row r hr
      have y1 : (-4611686018427387904 : Int) ≤ m := by omega
      have y2 : (m : Int) ≤ 16777216 := by omega
      simp [fstep, encR, hrl, y1, y2]
      generalize hf2 : forL _ _ _ = x2
      obtain ⟨ρ', rfl, o4, o5, rfl⟩ := forR_use hf2 (fun j ρ => ∃ (o4 o5 : Option D), ρ = [.fz (.list (R.map encR)), .own ((R.take i).map fun r => .str (lineS R m r)), .fz (.tuple (r.map .str)), .fz (.str (lnW R r j)), qs o4, qs o5, .un]) ⟨o4, o5, by simp [lnW]⟩ (by
        rintro j ρ hj ⟨o4, o5, rfl⟩
        have hj' : j < m := by omega
        simp [fstep]
        generalize hf3 : compL _ _ _ = x3
        have e3 := compM_use hf3 (fun r => some (.int ((at' r j).length : Nat))) fun r hr => by
          have h1 : j < r.length := by rw [t.row r hr]; exact hj'
          have h2 := dLen_str (t.at hr hj') (by omega)
          simp [-dLen_3, cstep, encR, at_ix h1, h2]
        subst e3
        rw [fm_some]
        have hw := Wd_b t hj'
        have ha := (t.at hr hj').1
        have d1 : ∀ (a : Nat), j = a → dLen (.str (at' r a)) = some (.int ((at' r a).length : Nat)) := fun a e => by subst e; exact dLen_str (t.at hr hj') (by omega)
        have ix : (r.map PyData.str)[j]? = some (.str (at' r j)) := at_ix (by omega)
        have q1 : -(4611686018427387904 : Int) ≤ Wd R j - (at' r j).length := by omega
        have q2 : Wd R j - (at' r j).length < 4611686018427387904 := by omega
        have q3 : (Wd R j - ((at' r j).length : Int)).toNat ≤ 16777216 := by omega
        have hn := (lnW_tx t hr j (by omega)).1
        cases j with
        | zero =>
          have q4 : (at' r 0).length + ((Wd R 0).toNat - (at' r 0).length) ≤ 16777216 := by omega
          have h0 : (r.map PyData.str)[0]? = some (.str (at' r 0)) := ix
          rw [List.getElem?_map] at h0
          have h0' := d1 0 rfl
          have r1 : (-4611686018427387904 : Int) + (at' r 0).length ≤ Wd R 0 := by omega
          have r2 : Wd R 0 < 4611686018427387904 + ((at' r 0).length : Int) := by omega
          have r3 : Wd R 0 ≤ 16777216 + ((at' r 0).length : Int) := by omega
          simp [mx_rows t.ne, h0, h0', -dLen_3, sp1l, len_rep, q1, q2, q3, q4, r1, r2, r3]
          skip
          refine St.next ?_
          exact ⟨some (.int (0 : Nat)), some (.int (Wd R 0)), by simp [lnW, pad]⟩
        | succ j =>
          have ix' : (r.map PyData.str)[(j + 1 : Nat)]? = some (.str (at' r (j + 1))) := ix
          rw [List.getElem?_map] at ix'
          have d1' := d1 (j + 1) rfl
          have z0 : ¬ ((j : Int) + 1 = 0) := by omega
          have q4 : (lnW R r (j + 1)).length + 2 ≤ 16777216 := by omega
          have q5 : (lnW R r (j + 1)).length + 2 + ((Wd R (j + 1)).toNat - (at' r (j + 1)).length) ≤ 16777216 := by omega
          have q6 : (lnW R r (j + 1)).length + 2 + ((Wd R (j + 1)).toNat - (at' r (j + 1)).length) + (at' r (j + 1)).length ≤ 16777216 := by omega
          have r1 : (-4611686018427387904 : Int) + (at' r (j + 1)).length ≤ Wd R (j + 1) := by omega
          have r2 : Wd R (j + 1) < 4611686018427387904 + ((at' r (j + 1)).length : Int) := by omega
          have r3 : Wd R (j + 1) ≤ 16777216 + ((at' r (j + 1)).length : Int) := by omega
          simp [mx_rows t.ne, ix', d1', -dLen_3, sp1l, sp2l, len_app, len_rep, q1, q2, q3, q4, q5, q6, z0, r1, r2, r3]
          skip
          refine St.next ?_
          exact ⟨some (.int ((j + 1 : Nat) : Int)), some (.int (Wd R (j + 1))), by simp [lnW, pad]⟩)
      have hn := (lnW_tx t hr m (Nat.le_refl _)).1
      have hb : (lnW R r m).length ≤ 16777216 := by omega
      have hk : i < 16777216 := by omega
      have hk2 : min i R.length < 16777216 := by omega
      simp [hb, hk, hk2]
      skip
      have ht : (R.take (i + 1)).map (fun r => PyData.str (lineS R m r)) = List.take i (List.map (fun r => PyData.str (lineS R m r)) R) ++ [PyData.str (lineS R m r)] := by
        rw [List.take_succ_eq_append_getElem hil, hia]
        simp [List.map_take]
      rw [ht]
      refine St.next ?_
      exact ⟨some (encR r), some (.str (lnW R r m)), o4, o5, by simp [lineS, encR]⟩)
    simp
  · simp [d_u_law_columns, b_u_law_columns]
    generalize hf : forL _ _ _ = x
    obtain ⟨ρ', rfl, o2, o3, o4, o5, rfl⟩ := forM_use hf (fun i ρ => ∃ (o2 o3 o4 o5 : Option D), ρ = [.bor (R.map encR), .own ((R.take i).map fun r => .str (lineS R m r)), qs o2, qs o3, qs o4, qs o5, .un]) ⟨none, none, none, none, by simp⟩ (by
      rintro i r ρ hi ⟨o2, o3, o4, o5, rfl⟩
      obtain ⟨hil, hia⟩ := List.getElem?_eq_some_iff.mp hi
      have hr := List.mem_of_getElem? hi
      have hrl := t.row r hr
      have y1 : (-4611686018427387904 : Int) ≤ m := by omega
      have y2 : (m : Int) ≤ 16777216 := by omega
      simp [fstep, encR, hrl, y1, y2]
      generalize hf2 : forL _ _ _ = x2
      obtain ⟨ρ', rfl, o4, o5, rfl⟩ := forR_use hf2 (fun j ρ => ∃ (o4 o5 : Option D), ρ = [.bor (R.map encR), .own ((R.take i).map fun r => .str (lineS R m r)), .fz (.tuple (r.map .str)), .fz (.str (lnW R r j)), qs o4, qs o5, .un]) ⟨o4, o5, by simp [lnW]⟩ (by
        rintro j ρ hj ⟨o4, o5, rfl⟩
        have hj' : j < m := by omega
        simp [fstep]
        generalize hf3 : compL _ _ _ = x3
        have e3 := compM_use hf3 (fun r => some (.int ((at' r j).length : Nat))) fun r hr => by
          have h1 : j < r.length := by rw [t.row r hr]; exact hj'
          have h2 := dLen_str (t.at hr hj') (by omega)
          simp [-dLen_3, cstep, encR, at_ix h1, h2]
        subst e3
        rw [fm_some]
        have hw := Wd_b t hj'
        have ha := (t.at hr hj').1
        have d1 : ∀ (a : Nat), j = a → dLen (.str (at' r a)) = some (.int ((at' r a).length : Nat)) := fun a e => by subst e; exact dLen_str (t.at hr hj') (by omega)
        have ix : (r.map PyData.str)[j]? = some (.str (at' r j)) := at_ix (by omega)
        have q1 : -(4611686018427387904 : Int) ≤ Wd R j - (at' r j).length := by omega
        have q2 : Wd R j - (at' r j).length < 4611686018427387904 := by omega
        have q3 : (Wd R j - ((at' r j).length : Int)).toNat ≤ 16777216 := by omega
        have hn := (lnW_tx t hr j (by omega)).1
        cases j with
        | zero =>
          have q4 : (at' r 0).length + ((Wd R 0).toNat - (at' r 0).length) ≤ 16777216 := by omega
          have h0 : (r.map PyData.str)[0]? = some (.str (at' r 0)) := ix
          rw [List.getElem?_map] at h0
          have h0' := d1 0 rfl
          have r1 : (-4611686018427387904 : Int) + (at' r 0).length ≤ Wd R 0 := by omega
          have r2 : Wd R 0 < 4611686018427387904 + ((at' r 0).length : Int) := by omega
          have r3 : Wd R 0 ≤ 16777216 + ((at' r 0).length : Int) := by omega
          simp [mx_rows t.ne, h0, h0', -dLen_3, sp1l, len_rep, q1, q2, q3, q4, r1, r2, r3]
          skip
          refine St.next ?_
          exact ⟨some (.int (0 : Nat)), some (.int (Wd R 0)), by simp [lnW, pad]⟩
        | succ j =>
          have ix' : (r.map PyData.str)[(j + 1 : Nat)]? = some (.str (at' r (j + 1))) := ix
          rw [List.getElem?_map] at ix'
          have d1' := d1 (j + 1) rfl
          have z0 : ¬ ((j : Int) + 1 = 0) := by omega
          have q4 : (lnW R r (j + 1)).length + 2 ≤ 16777216 := by omega
          have q5 : (lnW R r (j + 1)).length + 2 + ((Wd R (j + 1)).toNat - (at' r (j + 1)).length) ≤ 16777216 := by omega
          have q6 : (lnW R r (j + 1)).length + 2 + ((Wd R (j + 1)).toNat - (at' r (j + 1)).length) + (at' r (j + 1)).length ≤ 16777216 := by omega
          have r1 : (-4611686018427387904 : Int) + (at' r (j + 1)).length ≤ Wd R (j + 1) := by omega
          have r2 : Wd R (j + 1) < 4611686018427387904 + ((at' r (j + 1)).length : Int) := by omega
          have r3 : Wd R (j + 1) ≤ 16777216 + ((at' r (j + 1)).length : Int) := by omega
          simp [mx_rows t.ne, ix', d1', -dLen_3, sp1l, sp2l, len_app, len_rep, q1, q2, q3, q4, q5, q6, z0, r1, r2, r3]
          skip
          refine St.next ?_
          exact ⟨some (.int ((j + 1 : Nat) : Int)), some (.int (Wd R (j + 1))), by simp [lnW, pad]⟩)
      have hn := (lnW_tx t hr m (Nat.le_refl _)).1
      have hb : (lnW R r m).length ≤ 16777216 := by omega
      have hk : i < 16777216 := by omega
      have hk2 : min i R.length < 16777216 := by omega
      simp [hb, hk, hk2]
      skip
      have ht : (R.take (i + 1)).map (fun r => PyData.str (lineS R m r)) = List.take i (List.map (fun r => PyData.str (lineS R m r)) R) ++ [PyData.str (lineS R m r)] := by
        rw [List.take_succ_eq_append_getElem hil, hia]
        simp [List.map_take]
      rw [ht]
      refine St.next ?_
      exact ⟨some (encR r), some (.str (lnW R r m)), o4, o5, by simp [lineS, encR]⟩)
    simp
end K93

set_option maxRecDepth 100000
namespace K93
open Ev PySem L2
def wsW (R : List (List Str)) (r : List Str) : Nat → List Str
  | 0 => []
  | 1 => [Txt.ljust (at' r 0) (Wd R 0)]
  | a + 2 => wsW R r (a + 1) ++ [Txt.rjust (at' r (a + 1)) (Wd R (a + 1))]
theorem wsW_ne (R r) : ∀ a, ∃ w ws, wsW R r (a + 1) = w :: ws
  | 0 => ⟨_, _, rfl⟩
  | a + 1 => by
    obtain ⟨w, ws, e⟩ := wsW_ne R r a
    exact ⟨w, ws ++ [Txt.rjust (at' r (a + 1)) (Wd R (a + 1))], by rw [wsW, e]; rfl⟩
theorem join_ws (R r) : ∀ a, Txt.join (Str.ofString "  ") (wsW R r (a + 1)) = lnW R r (a + 1)
  | 0 => by
    show Txt.ljust _ _ = _
    rw [L_ljust]; rfl
  | a + 1 => by
    obtain ⟨w, ws, e⟩ := wsW_ne R r a
    have ih := join_ws R r a
    rw [wsW, e, join_snoc, ← e, ih, L_rjust, lnW]
    rw [← app_assoc]
    rfl
theorem wsW_len (R r) : ∀ a, (wsW R r a).length = a
  | 0 => rfl
  | 1 => rfl
  | a + 2 => by rw [wsW, List.length_append, wsW_len R r (a + 1)]; rfl
theorem wsW_sum {m B R} (t : Tab m B R) {r : List Str} (hr : r ∈ R) : ∀ a, a ≤ m → ((wsW R r a).map (·.length)).sum ≤ a * 200
  | 0, _ => by simp [wsW]
  | 1, h => by
    have h0 : 0 < m := by omega
    have h1 := (t.at hr h0).1
    have h2 := Wd_b t h0
    have h3 := t.b
    simp [wsW, L_ljust, len_app, len_rep]
    omega
  | a + 2, h => by
    have ih := wsW_sum t hr (a + 1) (by omega)
    have h1 := (t.at hr (a := a + 1) (by omega)).1
    have h2 := Wd_b t (a := a + 1) (by omega)
    have h3 := t.b
    simp only [wsW, List.map_append, List.sum_append, List.map_cons, List.map_nil, List.sum_cons, List.sum_nil, L_rjust, len_app, len_rep]
    omega
theorem padOk {i : Int} (h0 : 0 ≤ i) (h1 : i ≤ 100) : PadOk i = true := by
  unfold PadOk
  rw [Bool.and_eq_true]
  constructor
  · unfold fitsSsize
    have a1 : decide (i < -(2 ^ 63 : Int)) = false := decide_eq_false (by omega)
    have a2 : decide (i ≥ (2 ^ 63 : Int)) = false := decide_eq_false (by omega)
    simp [a1, a2]
    try omega
  · have : Builtin.Str.tooLong i.toNat = false := decide_eq_false (by show ¬ (i.toNat > 16777216); omega)
    rw [this]; rfl
theorem ks_cols : d_in_columns.ks = [.B] := rfl
theorem r_cols (k : Nat) {m B : Nat} {R : List (List Str)} (t : Tab m B R) (s : Slot) (hs : hasL s (R.map encR)) : runD (callF T (k + 1)) d_in_columns [s] = some (.nw (R.map fun r => .str (lineS R m r)), []) := by
  have b1 := t.b
  have b2 := t.m1
  have b3 := t.len
  have b4 := t.m0
  have c0 : ¬ R.length = 0 := fun h => t.ne (List.length_eq_zero_iff.mp h)
  have c1 := t.ne
  have e1 := r_wide (F := callF T k) t (.fz (.list (R.map encR))) (.inl rfl)
  have e2 := r_wide (F := callF T k) t (.bor (R.map encR)) (.inr rfl)
  simp only [runD_eq]
  rcases hs with rfl | rfl
  · simp [d_in_columns, b_in_columns, c0, c1, call_wide_of, ks_wide, e1]
    generalize hf : forL _ _ _ = x
    obtain ⟨ρ', rfl, o3, o4, o5, rfl⟩ := forM_use hf (fun i ρ => ∃ (o3 : Option D) (o4 : Option (List D)) (o5 : Option D), ρ = [.fz (.list (R.map encR)), .own ((List.range m).map fun a => .int (Wd R a)), .own ((R.take i).map fun r => .str (lineS R m r)), qs o3, os o4, qs o5]) ⟨none, none, none, by simp⟩ (by
      rintro i r ρ hi ⟨o3, o4, o5, rfl⟩
      obtain ⟨hil, hia⟩ := List.getElem?_eq_some_iff.mp hi
      have hr := List.mem_of_getElem? hi
      have hrl := t.row r hr
      have y1 : (m : Int) < 4611686018427387904 := by omega
      have y2 : (m : Int) - 1 ≤ 16777216 := by omega
      have h0 : (r.map PyData.str)[0]? = some (.str (at' r 0)) := at_ix (by omega)
      have h0w := h0
      rw [List.getElem?_map] at h0
      have w0 := Wd_b t b4
      have hz : 0 < r.length := by omega
      have p0 := padOk w0.1 (by omega)
      simp [fstep, encR, hrl, h0, b4, p0, y1, y2]
      generalize hf2 : forL _ _ _ = x2
      obtain ⟨ρ', rfl, o5, rfl⟩ := forR_use hf2 (fun j ρ => ∃ (o5 : Option D), ρ = [.fz (.list (R.map encR)), .own ((List.range m).map fun a => .int (Wd R a)), .own ((R.take i).map fun r => .str (lineS R m r)), .fz (.tuple (r.map .str)), .own ((wsW R r (j + 1)).map .str), qs o5]) ⟨o5, by simp [wsW, at', hz]⟩ (by
        rintro j ρ hj ⟨o5, rfl⟩
        have hj' : j + 1 < m := by omega
        have ix : (r.map PyData.str)[j + 1]? = some (.str (at' r (j + 1))) := at_ix (by omega)
        rw [List.getElem?_map] at ix
        have w1 := Wd_b t hj'
        have p1 := padOk w1.1 (by omega)
        have q1 : (wsW R r (j + 1)).length < 16777216 := by rw [wsW_len]; omega
        have e1 : (1 : Int) + (j : Int) = ((j + 1 : Nat) : Int) := by omega
        rw [e1]
        simp [fstep, ix, hj', p1, q1]
        refine St.next ?_
        exact ⟨some (.int ((j + 1 : Nat) : Int)), by simp [wsW]⟩)
      have em : ((m : Int) - 1).toNat + 1 = m := by omega
      rw [em]
      have hs := wsW_sum t hr m (Nat.le_refl _)
      have hl := wsW_len R r m
      have ej : Txt.join (Str.ofString "  ") (wsW R r m) = lnW R r m := by
        have := join_ws R r (m - 1)
        rwa [show m - 1 + 1 = m by omega] at this
      have hn := (lnW_tx t hr m (Nat.le_refl _)).1
      have hb : (lnW R r m).length ≤ 16777216 := by omega
      have hq : ((wsW R r m).map (·.length)).sum + m * 2 ≤ 16777216 := by omega
      have hq' : (List.map Str.length (wsW R r m)).sum + m * 2 ≤ 16777216 := hq
      have hk : i < 16777216 := by omega
      have hk2 : min i R.length < 16777216 := by omega
      simp [hl, sp2l, hq, hq', ej, hb, hk, hk2]
      have ht : (R.take (i + 1)).map (fun r => PyData.str (lineS R m r)) = List.take i (List.map (fun r => PyData.str (lineS R m r)) R) ++ [PyData.str (lineS R m r)] := by
        rw [List.take_succ_eq_append_getElem hil, hia]
        simp [List.map_take]
      rw [ht]
      refine St.next ?_
      exact ⟨some (encR r), some ((wsW R r m).map .str), o5, by simp [lineS, encR]⟩)
    simp
  · simp [d_in_columns, b_in_columns, c0, c1, call_wide_of, ks_wide, e2]
    generalize hf : forL _ _ _ = x
    obtain ⟨ρ', rfl, o3, o4, o5, rfl⟩ := forM_use hf (fun i ρ => ∃ (o3 : Option D) (o4 : Option (List D)) (o5 : Option D), ρ = [.bor (R.map encR), .own ((List.range m).map fun a => .int (Wd R a)), .own ((R.take i).map fun r => .str (lineS R m r)), qs o3, os o4, qs o5]) ⟨none, none, none, by simp⟩ (by
      rintro i r ρ hi ⟨o3, o4, o5, rfl⟩
      obtain ⟨hil, hia⟩ := List.getElem?_eq_some_iff.mp hi
      have hr := List.mem_of_getElem? hi
      have hrl := t.row r hr
      have y1 : (m : Int) < 4611686018427387904 := by omega
      have y2 : (m : Int) - 1 ≤ 16777216 := by omega
      have h0 : (r.map PyData.str)[0]? = some (.str (at' r 0)) := at_ix (by omega)
      have h0w := h0
      rw [List.getElem?_map] at h0
      have w0 := Wd_b t b4
      have hz : 0 < r.length := by omega
      have p0 := padOk w0.1 (by omega)
      simp [fstep, encR, hrl, h0, b4, p0, y1, y2]
      generalize hf2 : forL _ _ _ = x2
      obtain ⟨ρ', rfl, o5, rfl⟩ := forR_use hf2 (fun j ρ => ∃ (o5 : Option D), ρ = [.bor (R.map encR), .own ((List.range m).map fun a => .int (Wd R a)), .own ((R.take i).map fun r => .str (lineS R m r)), .fz (.tuple (r.map .str)), .own ((wsW R r (j + 1)).map .str), qs o5]) ⟨o5, by simp [wsW, at', hz]⟩ (by
        rintro j ρ hj ⟨o5, rfl⟩
        have hj' : j + 1 < m := by omega
        have ix : (r.map PyData.str)[j + 1]? = some (.str (at' r (j + 1))) := at_ix (by omega)
        rw [List.getElem?_map] at ix
        have w1 := Wd_b t hj'
        have p1 := padOk w1.1 (by omega)
        have q1 : (wsW R r (j + 1)).length < 16777216 := by rw [wsW_len]; omega
        have e1 : (1 : Int) + (j : Int) = ((j + 1 : Nat) : Int) := by omega
        rw [e1]
        simp [fstep, ix, hj', p1, q1]
        refine St.next ?_
        exact ⟨some (.int ((j + 1 : Nat) : Int)), by simp [wsW]⟩)
      have em : ((m : Int) - 1).toNat + 1 = m := by omega
      rw [em]
      have hs := wsW_sum t hr m (Nat.le_refl _)
      have hl := wsW_len R r m
      have ej : Txt.join (Str.ofString "  ") (wsW R r m) = lnW R r m := by
        have := join_ws R r (m - 1)
        rwa [show m - 1 + 1 = m by omega] at this
      have hn := (lnW_tx t hr m (Nat.le_refl _)).1
      have hb : (lnW R r m).length ≤ 16777216 := by omega
      have hq : ((wsW R r m).map (·.length)).sum + m * 2 ≤ 16777216 := by omega
      have hq' : (List.map Str.length (wsW R r m)).sum + m * 2 ≤ 16777216 := hq
      have hk : i < 16777216 := by omega
      have hk2 : min i R.length < 16777216 := by omega
      simp [hl, sp2l, hq, hq', ej, hb, hk, hk2]
      have ht : (R.take (i + 1)).map (fun r => PyData.str (lineS R m r)) = List.take i (List.map (fun r => PyData.str (lineS R m r)) R) ++ [PyData.str (lineS R m r)] := by
        rw [List.take_succ_eq_append_getElem hil, hia]
        simp [List.map_take]
      rw [ht]
      refine St.next ?_
      exact ⟨some (encR r), some ((wsW R r m).map .str), o5, by simp [lineS, encR]⟩)
    simp
theorem r_cols0 (k : Nat) : runD (callF T (k + 1)) d_in_columns [.fz (.list [])] = some (.nw [], []) := by
  simp only [runD_eq]
  simp [d_in_columns, b_in_columns]
end K93

set_option maxRecDepth 100000
/-! K93S: the words of a line. -/
namespace K93
open PySem Ev
theorem sp_eq : Str.ofString " " = ⟨#[32]⟩ := by decide +kernel
theorem em_eq : Str.ofString "" = Str.empty := by decide +kernel
def ws (acc : List Nat) : List Nat → List (List Nat)
  | [] => if acc = [] then [] else [acc]
  | c :: r => if c = 32 then (if acc = [] then ws [] r else acc :: ws [] r) else ws (acc ++ [c]) r
theorem ws_free (p : List Nat) : ∀ acc r, 32 ∉ p → ws acc (p ++ r) = ws (acc ++ p) r := by
  induction p with
  | nil => intro acc r _; simp
  | cons c p ih =>
    intro acc r h
    have h1 : ¬ c = 32 := fun e => h (by rw [e]; exact List.mem_cons_self)
    have h2 : 32 ∉ p := fun e => h (List.mem_cons_of_mem _ e)
    rw [List.cons_append, ws, if_neg h1, ih _ _ h2]
    simp
theorem ws_sp (n : Nat) (r : List Nat) : ws [] (List.replicate n 32 ++ r) = ws [] r := by
  induction n with
  | zero => rfl
  | succ n ih => rw [List.replicate_succ, List.cons_append, ws, if_pos rfl, if_pos rfl, ih]
theorem ws_end {acc : List Nat} (h : acc ≠ []) (n : Nat) (r : List Nat) : ws acc (List.replicate (n + 1) 32 ++ r) = acc :: ws [] r := by
  rw [List.replicate_succ, List.cons_append, ws, if_pos rfl, if_neg h, ws_sp]
theorem ws_fin {acc : List Nat} (h : acc ≠ []) (n : Nat) : ws acc (List.replicate n 32) = [acc] := by
  cases n with
  | zero => show ws acc [] = _; rw [ws, if_neg h]
  | succ n =>
    have := ws_end h n []
    rw [List.append_nil] at this
    rw [this]; rfl
def nonE (w : Str) : Bool := !(w == Str.ofString "")
theorem nonE_iff (w : Str) : nonE w = true ↔ w.cps.toList ≠ [] := by
  unfold nonE
  rw [em_eq]
  simp only [Bool.not_eq_true', beq_eq_false_iff_ne, ne_eq]
  constructor
  · intro h e; exact h (str_ext e)
  · intro h e; subst e; exact h rfl
theorem ws_join : ∀ (ps : List Str), (∀ p ∈ ps, 32 ∉ p.cps.toList) → ws [] (Str.join ⟨#[32]⟩ ps).cps.toList = (ps.filter nonE).map fun w => w.cps.toList
  | [], _ => rfl
  | [x], h => by
    have h1 := h x List.mem_cons_self
    show ws [] x.cps.toList = _
    have := ws_free x.cps.toList [] [] h1
    rw [List.append_nil, List.nil_append] at this
    rw [this, ws]
    by_cases e : x.cps.toList = []
    · have : nonE x = false := by
        rw [Bool.eq_false_iff]; exact fun z => (nonE_iff x).mp z e
      simp [e, this]
    · have : nonE x = true := (nonE_iff x).mpr e
      simp [e, this]
  | x :: y :: r, h => by
    have h1 := h x List.mem_cons_self
    have ih := ws_join (y :: r) fun p hp => h p (List.mem_cons_of_mem _ hp)
    have e1 : (Str.join ⟨#[32]⟩ (x :: y :: r)).cps.toList = x.cps.toList ++ (32 :: (Str.join ⟨#[32]⟩ (y :: r)).cps.toList) := by
      show (x ++ ⟨#[32]⟩ ++ Str.join ⟨#[32]⟩ (y :: r)).cps.toList = _
      rw [L_app, L_app]; simp
    rw [e1, ws_free _ _ _ h1, List.nil_append, ws, if_pos rfl]
    by_cases e : x.cps.toList = []
    · have : nonE x = false := by
        rw [Bool.eq_false_iff]; exact fun z => (nonE_iff x).mp z e
      rw [if_pos e, ih, List.filter_cons_of_neg (a := x) (by simp [this])]
    · have : nonE x = true := (nonE_iff x).mpr e
      rw [if_neg e, ih, List.filter_cons_of_pos this, List.map_cons]
def wordsOf (l : Str) : List Str := (Txt.split l (Str.ofString " ")).filter nonE
theorem ws_words (l : Str) : ws [] l.cps.toList = (wordsOf l).map fun w => w.cps.toList := by
  have h := ws_join (Txt.split l ⟨#[32]⟩) (StrLaws.split_free l 32)
  rw [StrLaws.join_split] at h
  unfold wordsOf
  rw [sp_eq]; exact h
theorem words_eq {l : Str} {W : List Str} (h : ws [] l.cps.toList = W.map fun w => w.cps.toList) : wordsOf l = W := by
  rw [ws_words] at h
  have inj : ∀ (a b : List Str), a.map (fun w => w.cps.toList) = b.map (fun w => w.cps.toList) → a = b := fun a => by
    induction a with
    | nil => intro b h; cases b with
      | nil => rfl
      | cons => cases h
    | cons x a ih => intro b h; cases b with
      | nil => cases h
      | cons y b =>
        rw [List.map_cons, List.map_cons] at h
        injection h with h1 h2
        rw [str_ext h1, ih b h2]
  exact inj _ _ h
theorem split_tx {n : Nat} {x : Str} (h : Tx n x) (y : Str) : ∀ p ∈ Txt.split x y, Tx n p := by
  intro p hp
  unfold Txt.split at hp
  split at hp
  · simp only [List.mem_singleton] at hp; subst hp; exact h
  · split at hp
    · simp only [List.mem_singleton] at hp; subst hp; exact h
    · unfold Builtin.Str.partsBetween at hp
      obtain ⟨q, _, rfl⟩ := List.mem_map.mp hp
      exact h.sub _ _
theorem join_len (y z : Str) (e : y.length = z.length) : ∀ ps : List Str, (Str.join y ps).length = (Str.join z ps).length
  | [] => rfl
  | [x] => rfl
  | x :: w :: r => by
    show (x ++ y ++ Str.join y (w :: r)).length = (x ++ z ++ Str.join z (w :: r)).length
    rw [len_app, len_app, len_app, len_app, e, join_len y z e (w :: r)]
theorem join_mem (y : Str) : ∀ (ps : List Str) (c : Nat), c ∈ (Str.join y ps).cps.toList → c ∈ y.cps.toList ∨ ∃ p ∈ ps, c ∈ p.cps.toList
  | [], c, h => by cases h
  | [x], c, h => .inr ⟨x, List.mem_cons_self, h⟩
  | x :: w :: r, c, h => by
    have h' : c ∈ (x ++ y ++ Str.join y (w :: r)).cps.toList := h
    rw [L_app, L_app] at h'
    rcases List.mem_append.mp h' with h1 | h1
    · rcases List.mem_append.mp h1 with h2 | h2
      · exact .inr ⟨x, List.mem_cons_self, h2⟩
      · exact .inl h2
    · rcases join_mem y (w :: r) c h1 with h2 | ⟨p, h2, h3⟩
      · exact .inl h2
      · exact .inr ⟨p, List.mem_cons_of_mem _ h2, h3⟩
theorem da_eq : Str.ofString "-" = ⟨#[45]⟩ := by decide +kernel
theorem repl_tx {n : Nat} {x : Str} (h : Tx n x) : Tx n (Txt.replace x (Str.ofString " ") (Str.ofString "-")) ∧ 32 ∉ (Txt.replace x (Str.ofString " ") (Str.ofString "-")).cps.toList := by
  rw [sp_eq, da_eq, StrLaws.replace_one]
  refine ⟨⟨?_, fun c hc => ?_⟩, fun hc => ?_⟩
  · rw [join_len ⟨#[45]⟩ ⟨#[32]⟩ rfl, StrLaws.join_split]; exact h.1
  · rcases join_mem _ _ c hc with h1 | ⟨p, h1, h2⟩
    · simp at h1; omega
    · exact (split_tx h _ p h1).2 c h2
  · rcases join_mem _ _ 32 hc with h1 | ⟨p, h1, h2⟩
    · simp at h1
    · exact StrLaws.split_free x 32 p h1 h2
end K93

set_option maxRecDepth 100000
namespace K93
open Ev PySem L2
theorem fm_filter {α β : Type} (p : α → Bool) (f : α → β) (l : List α) : l.filterMap (fun x => if p x = true then some (f x) else none) = (l.filter p).map f := by
  induction l with
  | nil => rfl
  | cons a l ih => by_cases h : p a = true <;> simp [h, ih]
theorem shaped_tx {n : Nat} {x : Str} (h : Tx n x) : SeqAt.shaped (.str x) = true := by simp [SeqAt.shaped, PyData.canLay0, PyData.depth, h.ok]
theorem ks_read : d_read_columns.ks = [.B] := rfl
theorem sp1t : ((Str.ofString " ").length == 0) = false := by decide +kernel
theorem r_readcols {F : FT} (n : Nat) (hn : n ≤ 100000) (Ls : List Str) (hL : ∀ l ∈ Ls, Tx n l) (s : Slot) (hs : hasL s (Ls.map .str)) :
    runD F d_read_columns [s] = some (.nw (Ls.map fun l => encR (wordsOf l)), []) := by
  simp only [runD_eq]
  rcases hs with rfl | rfl
  all_goals
    simp [d_read_columns, b_read_columns]
    generalize hf : compL _ _ _ = x
    have e := compM_use hf (fun l => some (encR (wordsOf l))) fun l hl => by
      have h1 := hL l hl
      have h2 : l.length + 2 ≤ 16777216 := by have := h1.1; omega
      simp [cstep, sp1t, sp1l, h2]
      generalize hf2 : compL _ _ _ = x2
      have e2 := compM_use hf2 (fun w => if nonE w = true then some (.str w) else none) fun w hw => by
        have t1 := shaped_tx (split_tx h1 _ w hw)
        have t2 := shaped_str ""
        cases hz : (w == Str.ofString "") <;> simp [cstep, dCmp_ne, t1, t2, nonE, hz]
      subst e2
      rw [fm_filter]
      simp [encR, wordsOf]
    subst e
    rw [fm_some]
    simp
theorem ks_spaced : d_u_law_spaced.ks = [.M, .B] := rfl
theorem L_sp (n : Int) : (repS (Str.ofString " ") n).cps.toList = List.replicate n.toNat 32 := L_rep n
theorem r_spaced (k : Nat) (ds : List Int) (c : Nat) (W : List Str) (hW : ∀ w ∈ W, Tx 20 w ∧ 32 ∉ w.cps.toList ∧ w.cps.toList ≠ []) (hl : W.length ≤ 10) :
    ∃ (l : Str) (c' : Nat), runD (callF T (k + 1)) d_u_law_spaced [.mu (bx ds c), .bor (W.map .str)] = some (.fr (.str l), [bx ds c']) ∧ Tx 1000 l ∧ wordsOf l = W := by
  suffices h : Rt (runD (callF T (k + 1)) d_u_law_spaced [.mu (bx ds c), .bor (W.map .str)]) (k := ⟨fun r o => ∃ (l : Str) (c' : Nat), r = .fr (.str l) ∧ o = [bx ds c'] ∧ Tx 1000 l ∧ wordsOf l = W⟩) by
    obtain ⟨r, o, e, l, c', rfl, rfl, h⟩ := h
    exact ⟨l, c', e, h⟩
  obtain ⟨n, c1, hn, e1⟩ := r_drawI (F := callF T k) ds c 3 (by omega)
  have y1 : (-4611686018427387904 : Int) ≤ W.length := by omega
  have y2 : (W.length : Int) ≤ 16777216 := by omega
  have z1 : (-4611686018427387904 : Int) ≤ n := by omega
  have z2 : (n : Int) < 4611686018427387904 := by omega
  have z3 : n ≤ 16777216 := by omega
  simp only [runD_eq]
  simp [d_u_law_spaced, b_u_law_spaced, call_u_law_draw, ks_draw, e1, y1, y2, sp1l, z1, z2, z3]
  generalize hf : forL _ _ _ = x
  obtain ⟨ρ', rfl, l, c2, o3, ht, h1, h2, rfl⟩ := forR_use hf (fun i ρ => ∃ (l : Str) (c : Nat) (o3 : Option D), Tx (3 + 30 * i) l ∧ (i < W.length ∨ i = 0 → ∀ r, ws [] (l.cps.toList ++ r) = ((W.take i).map fun w => w.cps.toList) ++ ws [] r) ∧
      (∀ j, i = j + 1 → i = W.length → ∀ r, ∃ w, W[j]? = some w ∧ ws [] (l.cps.toList ++ r) = ((W.take j).map fun w => w.cps.toList) ++ ws w.cps.toList r) ∧
      ρ = [.mu (bx ds c), .bor (W.map .str), .fz (.str l), qs o3]) ⟨_, c1, none, (Tx.rep n).mono (by omega), fun _ r => by rw [L_rep, ws_sp]; simp, fun j e => by omega, by rfl⟩ (by
    rintro i ρ hi ⟨l, c, o3, ht, h1, h2, rfl⟩
    have hi' : i < W.length := by omega
    have h3 := h1 (.inl hi')
    have ix : W[i]? = some W[i] := List.getElem?_eq_getElem hi'
    obtain ⟨w1, w2, w3⟩ := hW _ (List.getElem_mem hi')
    generalize W[i] = w at *
    have b1 : l.length + w.length ≤ 16777216 := by have := ht.1; have := w1.1; omega
    have lw : ∀ r, ws [] ((l ++ w).cps.toList ++ r) = ((W.take i).map fun w => w.cps.toList) ++ ws w.cps.toList r := fun r => by
      rw [L_app, List.append_assoc, h3, ws_free _ _ _ w2, List.nil_append]
    by_cases hlast : i + 1 < W.length
    · obtain ⟨r0, c2, h4, h5⟩ := r_drawI (F := callF T k) ds c 3 (by omega)
      have q0 : (i : Int) + 1 < (W.length : Int) := by omega
      have q1 : (-4611686018427387904 : Int) ≤ 1 + r0 := by omega
      have q2 : (1 : Int) + r0 < 4611686018427387904 := by omega
      have q3 : (1 + (r0 : Int)).toNat = r0 + 1 := by omega
      have q4 : r0 + 1 ≤ 16777216 := by omega
      have q5 : l.length + w.length + (r0 + 1) ≤ 16777216 := by have := ht.1; have := w1.1; omega
      simp [fstep, ix, b1, q0, call_u_law_draw, ks_draw, h5, sp1l, q1, q2, q3, q4, q5, len_app, len_rep]
      refine St.next ?_
      refine ⟨_, c2, some (.int i), ((ht.app w1).app (Tx.rep (1 + r0))).mono (by omega), fun _ r => ?_, fun j e1 e2 => by omega, by simp⟩
      rw [L_app, List.append_assoc, lw, L_rep, q3, ws_end w3, List.take_succ_eq_append_getElem hi', (List.getElem?_eq_some_iff.mp ix).2]
      simp
    · have q0 : ¬ (i : Int) + 1 < (W.length : Int) := by omega
      simp [fstep, ix, b1, q0]
      refine St.next ?_
      refine ⟨_, c, some (.int i), (ht.app w1).mono (by omega), fun e => by omega, fun j e1 e2 r => ?_, by simp⟩
      obtain rfl : i = j := by omega
      exact ⟨w, ix, lw r⟩)
  obtain ⟨n2, c3, hn2, e3⟩ := r_drawI (F := callF T k) ds c2 3 (by omega)
  have q1 : (-4611686018427387904 : Int) ≤ n2 := by omega
  have q2 : (n2 : Int) < 4611686018427387904 := by omega
  have q3 : n2 ≤ 16777216 := by omega
  have q5 : l.length + n2 ≤ 16777216 := by have := ht.1; omega
  simp [call_u_law_draw, ks_draw, e3, sp1l, q1, q2, q3, q5, len_rep]
  refine Rt.ok ⟨_, c3, rfl, rfl, ((ht.app (Tx.rep n2)).mono (by omega)), words_eq ?_⟩
  rw [L_app, L_rep]
  have ez : ((W.length : Int) - 0).toNat = W.length := by omega
  rw [ez] at h1 h2
  by_cases h0 : W.length = 0
  · have hW0 : W = [] := List.length_eq_zero_iff.mp h0
    rw [h1 (.inr h0)]
    subst hW0
    have := ws_sp n2 []
    rw [List.append_nil] at this
    simpa [ws] using this
  · obtain ⟨m, hm⟩ : ∃ m, W.length = m + 1 := ⟨W.length - 1, by omega⟩
    obtain ⟨w, e4, e5⟩ := h2 m hm rfl (List.replicate n2 32)
    have hw := hW w (List.mem_of_getElem? e4)
    obtain ⟨hml, e6⟩ := List.getElem?_eq_some_iff.mp e4
    have e7 : W = W.take m ++ [w] := by
      have := List.take_succ_eq_append_getElem hml
      rw [← hm, List.take_length, e6] at this
      exact this
    have e8 : (Int.toNat (n2 : Int)) = n2 := by omega
    rw [e8, e5, ws_fin hw.2.2]
    conv => rhs; rw [e7]
    simp
end K93

set_option maxRecDepth 100000
namespace K93
open Ev PySem L2
theorem shp_tx {n x} (h : Tx n x) : shp 0 (.str x) := ⟨h.ok, by simp [PyData.depth]⟩
theorem eq_self {n : Nat} {d : D} (h : shp n d) (hn : n ≤ 64) : dCmp .eq d d = some true := by
  rw [dCmp_eq, gd_pos (by rw [shaped_of h hn]; rfl), PySem.SeqAt.eqv_refl d h.1]
theorem ks_repl_text : d_u_law_text.ks = [.M, .B] := rfl
theorem gs_str {n : Nat} {x : Str} (h : Tx n x) (hn : n ≤ 100000) (j : Nat) : GS (j + 1) (.str x) := by
  have := h.repr
  exact ⟨by have := this.1; omega, this.ok⟩
theorem gs_row {n : Nat} {r : List Str} (h : ∀ x ∈ r, Tx n x) (hn : n ≤ 100000) (hl : r.length ≤ 1000) : GS 2 (encR r) := ⟨by simp; omega, fun d hd => by
  obtain ⟨x, hx, rfl⟩ := List.mem_map.mp hd
  exact gs_str (h x hx) hn 0⟩
theorem x_eq : Str.ofString "x" = ⟨#[120]⟩ := by decide +kernel
theorem r_lawread (k : Nat) (ds : List Int) (c : Nat) : ∃ c' : Nat, runD (callF T (k + 4)) d_u_law_read [.mu (bx ds c)] = some (.fr (.bool true), [bx ds c']) := by
  suffices h : Rt (runD (callF T (k + 4)) d_u_law_read [.mu (bx ds c)]) (k := ⟨fun r o => ∃ c' : Nat, r = .fr (.bool true) ∧ o = [bx ds c']⟩) by
    obtain ⟨r, o, e, c', rfl, rfl⟩ := h
    exact ⟨c', e⟩
  obtain ⟨n, c1, hn, e1⟩ := r_drawI (F := callF T (k + 3)) ds c 4 (by omega)
  have z1 : (-4611686018427387904 : Int) ≤ n := by omega
  have z2 : (n : Int) ≤ 16777216 := by omega
  simp only [runD_eq]
  simp [d_u_law_read, b_u_law_read, call_u_law_draw, ks_draw, e1, z1, z2]
  generalize hf : forL _ _ _ = x
  obtain ⟨ρ', rfl, Ls, Ws, c2, o3, o5, hl, hw, ht, htw, rfl⟩ := forR_use hf (fun i ρ => ∃ (Ls : List Str) (Ws : List (List Str)) (c : Nat) (o3 : Option D) (o5 : Option (List D)), Ls.length = i ∧ Ls.map wordsOf = Ws ∧ (∀ l ∈ Ls, Tx 1000 l) ∧ (∀ W ∈ Ws, W.length ≤ 10 ∧ ∀ w ∈ W, Tx 20 w) ∧
      ρ = [.mu (bx ds c), .own (Ls.map .str), .own (Ws.map encR), qs o3, .un, os o5, .un]) ⟨[], [], c1, none, none, rfl, rfl, by simp, by simp, by rfl⟩ (by
    rintro i ρ hi ⟨Ls, Ws, c, o3, o5, hl, hw, ht, htw, rfl⟩
    obtain ⟨n2, c2, hn2, e2⟩ := r_drawI (F := callF T (k + 3)) ds c 4 (by omega)
    have z1 : (-4611686018427387904 : Int) ≤ n2 := by omega
    have z2 : (n2 : Int) ≤ 16777216 := by omega
    simp [fstep, call_u_law_draw, ks_draw, e2, z1, z2]
    generalize hf2 : compL _ _ _ = x2
    obtain ⟨r, ρ', rfl, W, c3, rfl, hWl, hW, rfl⟩ := compT_use hf2 (fun j r ρ => ∃ (W : List Str) (c : Nat), r = W.map .str ∧ W.length = j ∧ (∀ w ∈ W, Tx 20 w ∧ 32 ∉ w.cps.toList ∧ w.cps.toList ≠ []) ∧ ρ = [.mu (bx ds c), .own (Ls.map .str), .own (Ws.map encR), .fz (.int (i : Int)), .un, os o5, .un]) ⟨[], c2, rfl, rfl, by simp, by simp⟩ (by
      rintro j d r ρ hd ⟨W, c, rfl, hWl, hW, rfl⟩
      obtain ⟨x, c3, e3, tx⟩ := r_text (k + 2) ds c 6 (by omega)
      have q1 : x.length + (x.length + 1) ≤ 16777216 := by have := tx.1; omega
      obtain ⟨t1, t2⟩ := repl_tx tx
      have q0 : (Str.ofString " " == Str.ofString "-") = false := by decide +kernel
      have q2 : (Str.ofString "-").length = 1 := by decide +kernel
      have q3 : (Str.ofString "x").length = 1 := by decide +kernel
      have q4 : (Txt.replace x (Str.ofString " ") (Str.ofString "-")).length + 1 ≤ 16777216 := by have := t1.1; omega
      rw [show ((6 : Nat) : Int) = 6 from rfl] at e3
      simp [cstep, call_u_law_text, ks_text, e3, q0, q1, q2, q3, q4]
      refine Ct.ok ⟨W ++ [Txt.replace x (Str.ofString " ") (Str.ofString "-") ++ Str.ofString "x"], c3, by simp, by simp [hWl], fun w hw => ?_, by simp⟩
      rcases List.mem_append.mp hw with hw | hw
      · exact hW w hw
      · simp only [List.mem_singleton] at hw
        subst hw
        refine ⟨(t1.app ((Tx.of "x").mono (m := 1) (by decide +kernel))).mono (by omega), ?_, ?_⟩
        · rw [L_app, x_eq]
          simp [t2]
        · rw [L_app, x_eq]; simp)
    have hWl' : W.length ≤ 10 := by simp at hWl; omega
    obtain ⟨l, c4, e4, tl, wl⟩ := r_spaced (k + 2) ds c3 W hW hWl'
    have b1 : Ls.length < 16777216 := by omega
    have b2 : Ws.length < 16777216 := by rw [← hw, List.length_map]; omega
    simp [call_u_law_spaced, ks_spaced, e4, b1, b2]
    refine St.next ?_
    refine ⟨Ls ++ [l], Ws ++ [W], c4, some (.int i), some (W.map .str), by simp [hl], by simp [hw, wl], fun y hy => ?_, fun Y hY => ?_, by simp [encR]⟩
    · rcases List.mem_append.mp hy with hy | hy
      · exact ht y hy
      · simp only [List.mem_singleton] at hy; subst hy; exact tl
    · rcases List.mem_append.mp hY with hY | hY
      · exact htw Y hY
      · simp only [List.mem_singleton] at hY; subst hY; exact ⟨hWl', fun w hw => (hW w hw).1⟩)
  have e5 := r_readcols (F := callF T (k + 3)) 1000 (by omega) Ls ht (.bor (Ls.map .str)) (.inr rfl)
  have e6 : (Ls.map fun l => encR (wordsOf l)) = Ws.map encR := by rw [← hw, List.map_map]; rfl
  rw [e6] at e5
  have hWn : Ws.length ≤ 100 := by rw [← hw, List.length_map]; omega
  have e7 := same_true k 3 (.list (Ws.map encR)) (.fz (.list (Ws.map encR))) (.bor (Ws.map encR)) ⟨by simp; omega, fun d hd => by
    obtain ⟨W, hW, rfl⟩ := List.mem_map.mp hd
    exact gs_row (htw W hW).2 (by omega) (by have := (htw W hW).1; omega)⟩ (isS_fz _) (isS_bor _)
  have e8 : dCmp .eq (.list (Ls.map .str)) (.list (Ls.map .str)) = some true := eq_self (n := 1) (shp_list fun d hd => by
    obtain ⟨l, hl, rfl⟩ := List.mem_map.mp hd
    exact shp_tx (ht l hl)) (by omega)
  simp [call_read_columns, ks_read, e5, call_u_law_same, ks_same, e7, e8]
  exact Rt.ok ⟨c2, rfl, rfl⟩
/-! ### books -/
theorem ks_book : d_book_lines.ks = [.B] := rfl
def rowS (Bs : List (List Int)) (h : Nat) : List Str := Str.ofString (toString (h : Int)) :: Bs.map fun b => Str.ofString (toString (b.getD h 0))
def encB (b : List Int) : D := .tuple (b.map .int)
structure Bk (n : Nat) (Bs : List (List Int)) : Prop where
  n1 : n ≤ 10
  n0 : 0 < n
  len : Bs.length ≤ 10
  ne : Bs ≠ []
  row : ∀ b ∈ Bs, b.length = n
  lt : ∀ b ∈ Bs, ∀ x ∈ b, x.natAbs < 1000
def rowsS (n : Nat) (Bs : List (List Int)) : List (List Str) := (List.range n).map (rowS Bs)
theorem Bk.getD {n Bs} (t : Bk n Bs) {b : List Int} (hb : b ∈ Bs) (h : Nat) : (b.getD h 0).natAbs < 1000 := by
  by_cases hh : h < b.length
  · have : b.getD h 0 = b[h] := by simp [hh]
    rw [this]; exact t.lt b hb _ (List.getElem_mem hh)
  · have : b.getD h 0 = 0 := by simp [hh]
    rw [this]; decide
theorem Bk.tab {n Bs} (t : Bk n Bs) : Tab (Bs.length + 1) 4 (rowsS n Bs) := by
  have h0 := t.n0
  have h1 := t.n1
  have h2 := t.len
  refine ⟨fun e => ?_, by simp [rowsS]; omega, fun r hr => ?_, fun r hr x hx => ?_, by omega, by omega, by omega⟩
  · have := congrArg List.length e
    simp [rowsS] at this; omega
  · obtain ⟨h, _, rfl⟩ := List.mem_map.mp hr
    simp [rowS]
  · obtain ⟨h, hh, rfl⟩ := List.mem_map.mp hr
    have hh' : h < n := by simpa using hh
    rcases List.mem_cons.mp hx with rfl | hx
    · exact Tx.int (by omega)
    · obtain ⟨b, hb, rfl⟩ := List.mem_map.mp hx
      exact Tx.int (t.getD hb h)
theorem r_book (k : Nat) {n : Nat} {Bs : List (List Int)} (t : Bk n Bs) : runD (callF T (k + 2)) d_book_lines [.fz (.list (Bs.map encB))] = some (.nw ((rowsS n Bs).map fun r => .str (lineS (rowsS n Bs) (Bs.length + 1) r)), []) := by
  obtain ⟨b0, B', e0⟩ : ∃ r R', Bs = r :: R' := by
    have := t.ne
    cases Bs with
    | nil => exact absurd rfl this
    | cons r R' => exact ⟨r, R', rfl⟩
  have h0 : (Bs.map encB)[0]? = some (encB b0) := by rw [e0]; rfl
  have hl : b0.length = n := t.row b0 (by rw [e0]; exact List.mem_cons_self)
  have h1 := t.n1
  have h2 := t.len
  have y1 : (-4611686018427387904 : Int) ≤ n := by omega
  have y2 : (n : Int) ≤ 16777216 := by omega
  have c0 : ¬ Bs.length = 0 := fun h => t.ne (List.length_eq_zero_iff.mp h)
  have c1 := t.ne
  have e1 := r_cols k t.tab (.fz (.list ((rowsS n Bs).map encR))) (.inl rfl)
  simp only [runD_eq]
  simp [d_book_lines, b_book_lines, c0, c1, h0, encB, hl, y1, y2, call_in_columns, ks_cols]
  generalize hf : compL _ _ _ = x
  have e := compR_use hf (fun h => some (encR (rowS Bs h))) fun h hh => by
    have hh' : h < n := by omega
    have g1 : h.log2 < 1920 := lgs (by omega)
    simp [cstep, g1]
    generalize hf2 : compL _ _ _ = x2
    have e2 := compM_use hf2 (fun b => some (.str (Str.ofString (toString (b.getD h 0))))) fun b hb => by
      have ix : b[h]? = some (b.getD h 0) := by
        have : h < b.length := by rw [t.row b hb]; exact hh'
        simp [this]
      have g2 : (b.getD h 0).natAbs.log2 < 1920 := lgs (by have := t.getD hb h; omega)
      generalize b.getD h 0 = z at *
      simp [cstep, encB, ix, g2]
    subst e2
    rw [fm_some]
    have g3 : Bs.length + 1 ≤ 16777216 := by omega
    have g4 : 1 + Bs.length ≤ 16777216 := by omega
    simp [g3, g4, encR, rowS]
  subst e
  rw [fm_some]
  have em : ((n : Int) - 0).toNat = n := by omega
  rw [em]
  have er : (List.range n).map (fun h => encR (rowS Bs h)) = (rowsS n Bs).map encR := by simp [rowsS]
  rw [er]
  simp [call_in_columns, ks_cols, e1]
end K93

set_option maxRecDepth 100000
namespace K93
open Ev PySem L2
theorem gs_lines {m B R} (t : Tab m B R) (j : Nat) : GS (j + 2) (.list (R.map fun r => .str (lineS R m r))) := ⟨by have := t.len; simp; omega, fun d hd => by
  obtain ⟨r, hr, rfl⟩ := List.mem_map.mp hd
  exact gs_str (((lnW_tx t hr m (Nat.le_refl _)).rstrip _).mono (m := 20400) (by have := t.m1; omega)) (by omega) j⟩
theorem r_lawbooks (k : Nat) (ds : List Int) (c : Nat) : ∃ c' : Nat, runD (callF T (k + 4)) d_u_law_books [.mu (bx ds c)] = some (.fr (.bool true), [bx ds c']) := by
  suffices h : Rt (runD (callF T (k + 4)) d_u_law_books [.mu (bx ds c)]) (k := ⟨fun r o => ∃ c' : Nat, r = .fr (.bool true) ∧ o = [bx ds c']⟩) by
    obtain ⟨r, o, e, c', rfl, rfl⟩ := h
    exact ⟨c', e⟩
  obtain ⟨n0, c1, hn, e1⟩ := r_drawI (F := callF T (k + 3)) ds c 7 (by omega)
  obtain ⟨nb, c2, hb, e2⟩ := r_drawI (F := callF T (k + 3)) ds c1 4 (by omega)
  obtain ⟨n, en⟩ : ∃ n : Nat, n = n0 + 1 := ⟨_, rfl⟩
  have en' : (1 : Int) + (n0 : Int) = (n : Int) := by omega
  have z1 : (-4611686018427387904 : Int) ≤ 1 + nb := by omega
  have z2 : (1 : Int) + nb ≤ 16777216 := by omega
  have z3 : (-4611686018427387904 : Int) ≤ n := by omega
  have z4 : (n : Int) ≤ 16777216 := by omega
  simp only [runD_eq]
  simp [d_u_law_books, b_u_law_books, call_u_law_draw, ks_draw, e1, e2, z1, z2, en']
  generalize hf : forL _ _ _ = x
  obtain ⟨ρ', rfl, Bs, c3, o3, hl, hr, hlt, rfl⟩ := forR_use hf (fun i ρ => ∃ (Bs : List (List Int)) (c : Nat) (o3 : Option D), Bs.length = i ∧ (∀ b ∈ Bs, b.length = n) ∧ (∀ b ∈ Bs, ∀ x ∈ b, x.natAbs < 1000) ∧
      ρ = [.mu (bx ds c), .fz (.int (n : Int)), .own (Bs.map encB), qs o3, .un, .un, .un]) ⟨[], c2, none, rfl, by simp, by simp, by rfl⟩ (by
    rintro i ρ hi ⟨Bs, c, o3, hl, hr, hlt, rfl⟩
    simp [fstep, z3, z4]
    generalize hf2 : compL _ _ _ = x2
    obtain ⟨r, ρ', rfl, b, c4, rfl, hbl, hbt, rfl⟩ := compT_use hf2 (fun j r ρ => ∃ (b : List Int) (c : Nat), r = b.map .int ∧ b.length = j ∧ (∀ x ∈ b, x.natAbs < 1000) ∧ ρ = [.mu (bx ds c), .fz (.int (n : Int)), .own (Bs.map encB), .fz (.int (i : Int)), .un, .un, .un]) ⟨[], c, rfl, rfl, by simp, by simp⟩ (by
      rintro j d r ρ hd ⟨b, c, rfl, hbl, hbt, rfl⟩
      obtain ⟨r0, c5, h0, e3⟩ := r_drawI (F := callF T (k + 3)) ds c 1000 (by omega)
      obtain ⟨r1, c6, h1, e4⟩ := r_drawI (F := callF T (k + 3)) ds c5 2 (by omega)
      have m1 : mulOk 2 (r1 : Int) := mulOk_r (by omega) (by omega)
      have m2 : mulOk (r0 : Int) (1 - 2 * (r1 : Int)) := mulOk_l (by omega) (by omega)
      simp [cstep, call_u_law_draw, ks_draw, e3, e4, m1, m2]
      refine Ct.ok ⟨b ++ [(r0 : Int) * (1 - 2 * (r1 : Int))], c6, by simp, by simp [hbl], fun x hx => ?_, by simp⟩
      rcases List.mem_append.mp hx with hx | hx
      · exact hbt x hx
      · simp only [List.mem_singleton] at hx
        subst hx
        rcases (by omega : r1 = 0 ∨ r1 = 1) with rfl | rfl
        · simp; omega
        · simp; omega)
    rw [rng_len] at hbl
    have hbl' : b.length = n := by omega
    have q1 : Bs.length < 16777216 := by omega
    simp [q1]
    refine St.next ?_
    refine ⟨Bs ++ [b], c4, some (.int (i : Int)), by simp [hl], fun y hy => ?_, fun y hy => ?_, by simp [encB]⟩
    · rcases List.mem_append.mp hy with hy | hy
      · exact hr y hy
      · simp only [List.mem_singleton] at hy; subst hy; exact hbl'
    · rcases List.mem_append.mp hy with hy | hy
      · exact hlt y hy
      · simp only [List.mem_singleton] at hy; subst hy; exact hbt)
  have t : Bk n Bs := ⟨by omega, by omega, by omega, fun e => by subst e; simp at hl; omega, hr, hlt⟩
  have tt := t.tab
  simp [z3, z4]
  generalize hf : compL _ _ _ = x
  have e := compR_use hf (fun h => some (encR (rowS Bs h))) fun h hh => by
    have hh' : h < n := by omega
    have g1 : h.log2 < 1920 := lgs (by omega)
    simp [cstep, g1]
    generalize hf2 : compL _ _ _ = x2
    have e2 := compM_use hf2 (fun b => some (.str (Str.ofString (toString (b.getD h 0))))) fun b hb => by
      have ix : b[h]? = some (b.getD h 0) := by
        have : h < b.length := by rw [t.row b hb]; exact hh'
        simp [this]
      have g2 : (b.getD h 0).natAbs.log2 < 1920 := lgs (by have := t.getD hb h; omega)
      generalize b.getD h 0 = z at *
      simp [cstep, encB, ix, g2]
    subst e2
    rw [fm_some]
    have g3 : Bs.length + 1 ≤ 16777216 := by omega
    have g4 : 1 + Bs.length ≤ 16777216 := by omega
    simp [g3, g4, encR, rowS]
  subst e
  rw [fm_some]
  have em : ((n : Int) - 0).toNat = n := by omega
  rw [em]
  have er : (List.range n).map (fun h => encR (rowS Bs h)) = (rowsS n Bs).map encR := by simp [rowsS]
  rw [er]
  have e5 := r_book (k + 1) t
  have e6 := r_columns (F := callF T (k + 3)) tt (.bor ((rowsS n Bs).map encR)) (.inr rfl)
  have e7 := same_true (k + 1) 2 _ _ _ (gs_lines tt 0) (isS_fz _) (isS_fz _)
  simp [call_book_lines, ks_book, e5, call_u_law_columns, ks_columns, e6, call_u_law_same, ks_same, e7]
  exact Rt.ok ⟨c3, rfl, rfl⟩
end K93

set_option maxRecDepth 100000
namespace K93
open Ev PySem L2
theorem ne_self {n : Nat} {d : D} (h : shp n d) (hn : n ≤ 64) : dCmp .ne d d = some false := by
  rw [dCmp_ne, gd_pos (by rw [shaped_of h hn]; rfl), PySem.SeqAt.eqv_refl d h.1]; rfl
theorem ks_lread : d_u_law_read.ks = [.M] := rfl
theorem ks_lbooks : d_u_law_books.ks = [.M] := rfl
theorem r_law (k : Nat) (ns : List Int) : runD (callF T (k + 5)) d_law [.ro (ns.map .int)] = some (.fr (.bool true), []) := by
  suffices h : Rt (runD (callF T (k + 5)) d_law [.ro (ns.map .int)]) (k := ⟨fun r o => r = .fr (.bool true) ∧ o = []⟩) by
    obtain ⟨r, o, e, rfl, rfl⟩ := h
    exact e
  obtain ⟨ds, e0⟩ := r_digits (k + 3) ns 40 (by omega)
  obtain ⟨m0, c1, g1, e1⟩ := r_drawI (F := callF T (k + 4)) ds 0 4 (by omega)
  obtain ⟨n0, c2, g2, e2⟩ := r_drawI (F := callF T (k + 4)) ds c1 5 (by omega)
  rw [show ((0 : Nat) : Int) = 0 from rfl] at e1
  rw [show ((40 : Nat) : Int) = 40 from rfl] at e0
  obtain ⟨m, em⟩ : ∃ m : Nat, m = m0 + 1 := ⟨_, rfl⟩
  have em' : (1 : Int) + (m0 : Int) = (m : Int) := by omega
  have z1 : (-4611686018427387904 : Int) ≤ 1 + n0 := by omega
  have z2 : (1 : Int) + n0 ≤ 16777216 := by omega
  have z3 : (-4611686018427387904 : Int) ≤ m := by omega
  have z4 : (m : Int) ≤ 16777216 := by omega
  simp only [runD_eq]
  simp [d_law, b_law, call_u_law_digits, ks_digits, e0, call_u_law_draw, ks_draw, e1, e2, em', z1, z2]
  generalize hf : forL _ _ _ = x
  obtain ⟨ρ', rfl, R, c3, o4, hl, hr, hx, rfl⟩ := forR_use hf (fun i ρ => ∃ (R : List (List Str)) (c : Nat) (o4 : Option D), R.length = i ∧ (∀ r ∈ R, r.length = m) ∧ (∀ r ∈ R, ∀ x ∈ r, Tx 18 x) ∧
      ρ = [.ro (ns.map .int), .own (bx ds c), .fz (.int (m : Int)), .own (R.map encR), qs o4, .un, .un, .un, .un, .un, .un, .un, .un]) ⟨[], c2, none, rfl, by simp, by simp, by rfl⟩ (by
    rintro i ρ hi ⟨R, c, o4, hl, hr, hx, rfl⟩
    simp [fstep, z3, z4]
    generalize hf2 : compL _ _ _ = x2
    obtain ⟨r, ρ', rfl, b, c4, rfl, hbl, hbt, rfl⟩ := compT_use hf2 (fun j r ρ => ∃ (b : List Str) (c : Nat), r = b.map .str ∧ b.length = j ∧ (∀ x ∈ b, Tx 18 x) ∧ ρ = [.ro (ns.map .int), .own (bx ds c), .fz (.int (m : Int)), .own (R.map encR), .fz (.int (i : Int)), .un, .un, .un, .un, .un, .un, .un, .un]) ⟨[], c, rfl, rfl, by simp, by simp⟩ (by
      rintro j d r ρ hd ⟨b, c, rfl, hbl, hbt, rfl⟩
      obtain ⟨z, c5, hz, e3⟩ := r_pick (k + 3) ds c [.int 9, .int 3, .int 1, .int 0, .int 6] (by simp)
      have hn : ∃ n : Nat, z = .int (n : Int) ∧ n ≤ 9 := by
        simp at hz
        rcases hz with rfl | rfl | rfl | rfl | rfl
        · exact ⟨9, rfl, by omega⟩
        · exact ⟨3, rfl, by omega⟩
        · exact ⟨1, rfl, by omega⟩
        · exact ⟨0, rfl, by omega⟩
        · exact ⟨6, rfl, by omega⟩
      obtain ⟨n, rfl, hn⟩ := hn
      obtain ⟨x, c6, e4, tx⟩ := r_text (k + 3) ds c5 n hn
      simp [cstep, call_u_law_pick, ks_pick, e3, call_u_law_text, ks_text, e4]
      refine Ct.ok ⟨b ++ [x], c6, by simp, by simp [hbl], fun y hy => ?_, by simp⟩
      rcases List.mem_append.mp hy with hy | hy
      · exact hbt y hy
      · simp only [List.mem_singleton] at hy; subst hy; exact tx)
    rw [rng_len] at hbl
    have hbl' : b.length = m := by omega
    have q1 : R.length < 16777216 := by omega
    simp [q1]
    refine St.next ?_
    refine ⟨R ++ [b], c4, some (.int (i : Int)), by simp [hl], fun y hy => ?_, fun y hy => ?_, by simp [encR]⟩
    · rcases List.mem_append.mp hy with hy | hy
      · exact hr y hy
      · simp only [List.mem_singleton] at hy; subst hy; exact hbl'
    · rcases List.mem_append.mp hy with hy | hy
      · exact hx y hy
      · simp only [List.mem_singleton] at hy; subst hy; exact hbt)
  have t : Tab m 18 R := ⟨fun e => by subst e; simp at hl; omega, by omega, hr, hx, by omega, by omega, by omega⟩
  simp [z3, z4]
  generalize hf : compL _ _ _ = x
  have e := compR_use hf (fun a => some (.int (Wd R a))) fun a ha => by
    have ha' : a < m := by omega
    simp [cstep]
    generalize hf2 : compL _ _ _ = x2
    have e2 := compM_use hf2 (fun r => some (.int ((at' r a).length : Nat))) fun r hr => by
      have h1 : a < r.length := by rw [t.row r hr]; exact ha'
      have h2 := dLen_str (t.at hr ha') (by have := t.b; omega)
      simp [-dLen_3, cstep, encR, at_ix h1, h2]
    subst e2
    rw [fm_some]
    simp [mx_rows t.ne]
  subst e
  rw [fm_some]
  have emn : ((m : Int) - 0).toNat = m := by omega
  rw [emn]
  have w1 := r_wide (F := callF T (k + 4)) t (.bor (R.map encR)) (.inr rfl)
  have s1 := same_true (k + 2) 2 (.list ((List.range m).map fun a => .int (Wd R a))) (.fz (.list ((List.range m).map fun a => .int (Wd R a)))) (.bor ((List.range m).map fun a => .int (Wd R a))) ⟨by simp; omega, fun d hd => by
    obtain ⟨a, ha, rfl⟩ := List.mem_map.mp hd
    have := Wd_b t (a := a) (by simpa using ha)
    exact lgs (by omega)⟩ (isS_fz _) (isS_bor _)
  have l1 := r_columns (F := callF T (k + 4)) t (.bor (R.map encR)) (.inr rfl)
  have l2 := r_cols (k + 3) t (.bor (R.map encR)) (.inr rfl)
  have l3 := r_cols (k + 3) t (.fz (.list (R.map encR))) (.inl rfl)
  have l4 := r_cols0 (k + 3)
  have gl := gs_lines t 0
  have eL : (R.map fun r => PyData.str (lineS R m r)) = (R.map (lineS R m)).map .str := by simp
  have hLs : ∀ l ∈ R.map (lineS R m), Tx 20400 l := fun l hl => by
    obtain ⟨r, hr, rfl⟩ := List.mem_map.mp hl
    exact ((lnW_tx t hr m (Nat.le_refl _)).rstrip _).mono (by have := t.m1; omega)
  have hLn : (R.map (lineS R m)).length < 16777216 := by have := t.len; simp; omega
  rw [eL] at l1 l2 l3 gl
  generalize R.map (lineS R m) = Ls at *
  have s2 := same_true (k + 2) 2 (.list (Ls.map .str)) (.bor (Ls.map .str)) (.bor (Ls.map .str)) gl (isS_bor _) (isS_bor _)
  have s3 := same_true (k + 2) 2 (.list (Ls.map .str)) (.fz (.list (Ls.map .str))) (.bor (Ls.map .str)) gl (isS_fz _) (isS_bor _)
  have s4 := same_true (k + 2) 2 (.list []) (.fz (.list [])) (.fz (.list [])) ⟨by simp, by simp⟩ (isS_fz _) (isS_fz _)
  have n1 : dCmp .ne (.list (R.map encR)) (.list (R.map encR)) = some false := ne_self (n := 2) (shp_list fun d hd => by
    obtain ⟨r, hr, rfl⟩ := List.mem_map.mp hd
    exact shp_tuple fun d hd => by
      obtain ⟨x, hx, rfl⟩ := List.mem_map.mp hd
      exact shp_tx (t.tx r hr x hx)) (by omega)
  have rc := r_readcols (F := callF T (k + 4)) 20400 (by omega) Ls hLs (.fz (.list (Ls.map .str))) (.inl rfl)
  simp [call_wide_of, ks_wide, w1, call_u_law_same, ks_same, s1, call_u_law_columns, ks_columns, l1, call_in_columns, ks_cols, l2, s2, n1, hLn, l3, s3, l4, s4, call_read_columns, ks_read, rc]
  generalize hf : compL _ _ _ = x
  have e := compM_use hf (fun l => some (encR (wordsOf l))) fun l hl => by
    have h1 := hLs l hl
    have h2 : l.length + 2 ≤ 16777216 := by have := h1.1; omega
    simp [cstep, sp1t, sp1l, h2]
    generalize hf2 : compL _ _ _ = x2
    have e2 := compM_use hf2 (fun w => if nonE w = true then some (.str w) else none) fun w hw => by
      have t1 := shaped_tx (split_tx h1 _ w hw)
      have t2 := shaped_str ""
      cases hz : (w == Str.ofString "") <;> simp [cstep, dCmp_ne, t1, t2, nonE, hz]
    subst e2
    rw [fm_filter]
    simp [encR, wordsOf]
  subst e
  rw [fm_some]
  have gr : GS 3 (.list (Ls.map fun l => encR (wordsOf l))) := ⟨by simp; omega, fun d hd => by
    obtain ⟨l, hl, rfl⟩ := List.mem_map.mp hd
    have h1 := hLs l hl
    have hwl : (wordsOf l).length ≤ 20402 := Nat.le_trans (List.length_filter_le _ _) (Nat.le_trans (PyProof.Rows.split_le _ _) (by have := h1.1; omega))
    exact ⟨by simp; omega, fun d hd => by
      obtain ⟨w, hw, rfl⟩ := List.mem_map.mp hd
      exact gs_str (split_tx h1 _ w (List.mem_filter.mp hw).1) (by omega) 0⟩⟩
  have s5 := same_true (k + 1) 3 _ _ _ gr (isS_fz _) (isS_fz _)
  obtain ⟨c5, f1⟩ := r_lawread k ds c3
  obtain ⟨c6, f2⟩ := r_lawbooks k ds c5
  simp [s5, call_u_law_read, ks_lread, f1, call_u_law_books, ks_lbooks, f2]
  exact Rt.ok ⟨rfl, rfl⟩
end K93

set_option maxRecDepth 100000
set_option maxHeartbeats 0
/-! the head of lendland_k93_lines_in_columns, printed by pyir.py -/
namespace K93
open PySem PySem.Spec PyProof.Rows L2 Ev
def top (i : Nat) : Stmt := PySem.Challenge.pw_lendland_k93_lines_in_columns.main.body.getD i (.Pass ⟨0, 0, 0, 0⟩)
theorem chk_wide_of [TheK] : chkSs (namesOf d_wide_of.N) ⟨defScope (top 1), fun _ => true, false⟩ d_wide_of.body (defBody (top 1)) = true := by decide +kernel
theorem sc_wide_of : FnScope (namesOf d_wide_of.N) (namesOf ["rows"]) (defScope (top 1)) := ⟨rfl, rfl, rfl, by decide +kernel, rfl, by decide +kernel, by decide +kernel⟩
theorem chk_in_columns [TheK] : chkSs (namesOf d_in_columns.N) ⟨defScope (top 2), fun _ => true, false⟩ d_in_columns.body (defBody (top 2)) = true := by decide +kernel
theorem sc_in_columns : FnScope (namesOf d_in_columns.N) (namesOf ["rows"]) (defScope (top 2)) := ⟨rfl, rfl, rfl, by decide +kernel, rfl, by decide +kernel, by decide +kernel⟩
theorem chk_book_lines [TheK] : chkSs (namesOf d_book_lines.N) ⟨defScope (top 3), fun _ => true, false⟩ d_book_lines.body (defBody (top 3)) = true := by decide +kernel
theorem sc_book_lines : FnScope (namesOf d_book_lines.N) (namesOf ["books"]) (defScope (top 3)) := ⟨rfl, rfl, rfl, by decide +kernel, rfl, by decide +kernel, by decide +kernel⟩
theorem chk_read_columns [TheK] : chkSs (namesOf d_read_columns.N) ⟨defScope (top 4), fun _ => true, false⟩ d_read_columns.body (defBody (top 4)) = true := by decide +kernel
theorem sc_read_columns : FnScope (namesOf d_read_columns.N) (namesOf ["lines"]) (defScope (top 4)) := ⟨rfl, rfl, rfl, by decide +kernel, rfl, by decide +kernel, by decide +kernel⟩
theorem chk_u_law_cell [TheK] : chkSs (namesOf d_u_law_cell.N) ⟨defScope (top 6), fun _ => true, false⟩ d_u_law_cell.body (defBody (top 6)) = true := by decide +kernel
theorem sc_u_law_cell : FnScope (namesOf d_u_law_cell.N) (namesOf ["script", "k"]) (defScope (top 6)) := ⟨rfl, rfl, rfl, by decide +kernel, rfl, by decide +kernel, by decide +kernel⟩
theorem chk_u_law_digits [TheK] : chkSs (namesOf d_u_law_digits.N) ⟨defScope (top 7), fun _ => true, false⟩ d_u_law_digits.body (defBody (top 7)) = true := by decide +kernel
theorem sc_u_law_digits : FnScope (namesOf d_u_law_digits.N) (namesOf ["script", "first", "last"]) (defScope (top 7)) := ⟨rfl, rfl, rfl, by decide +kernel, rfl, by decide +kernel, by decide +kernel⟩
theorem chk_u_law_draw [TheK] : chkSs (namesOf d_u_law_draw.N) ⟨defScope (top 8), fun _ => true, false⟩ d_u_law_draw.body (defBody (top 8)) = true := by decide +kernel
theorem sc_u_law_draw : FnScope (namesOf d_u_law_draw.N) (namesOf ["box", "many"]) (defScope (top 8)) := ⟨rfl, rfl, rfl, by decide +kernel, rfl, by decide +kernel, by decide +kernel⟩
theorem chk_u_law_pick [TheK] : chkSs (namesOf d_u_law_pick.N) ⟨defScope (top 9), fun _ => true, false⟩ d_u_law_pick.body (defBody (top 9)) = true := by decide +kernel
theorem sc_u_law_pick : FnScope (namesOf d_u_law_pick.N) (namesOf ["box", "row"]) (defScope (top 9)) := ⟨rfl, rfl, rfl, by decide +kernel, rfl, by decide +kernel, by decide +kernel⟩
theorem chk_u_law_same [TheK] : chkSs (namesOf d_u_law_same.N) ⟨defScope (top 10), fun _ => true, false⟩ d_u_law_same.body (defBody (top 10)) = true := by decide +kernel
theorem sc_u_law_same : FnScope (namesOf d_u_law_same.N) (namesOf ["told", "due"]) (defScope (top 10)) := ⟨rfl, rfl, rfl, by decide +kernel, rfl, by decide +kernel, by decide +kernel⟩
theorem chk_u_law_columns [TheK] : chkSs (namesOf d_u_law_columns.N) ⟨defScope (top 11), fun _ => true, false⟩ d_u_law_columns.body (defBody (top 11)) = true := by decide +kernel
theorem sc_u_law_columns : FnScope (namesOf d_u_law_columns.N) (namesOf ["rows"]) (defScope (top 11)) := ⟨rfl, rfl, rfl, by decide +kernel, rfl, by decide +kernel, by decide +kernel⟩
theorem chk_u_law_text [TheK] : chkSs (namesOf d_u_law_text.N) ⟨defScope (top 12), fun _ => true, false⟩ d_u_law_text.body (defBody (top 12)) = true := by decide +kernel
theorem sc_u_law_text : FnScope (namesOf d_u_law_text.N) (namesOf ["box", "most"]) (defScope (top 12)) := ⟨rfl, rfl, rfl, by decide +kernel, rfl, by decide +kernel, by decide +kernel⟩
theorem chk_u_law_spaced [TheK] : chkSs (namesOf d_u_law_spaced.N) ⟨defScope (top 13), fun _ => true, false⟩ d_u_law_spaced.body (defBody (top 13)) = true := by decide +kernel
theorem sc_u_law_spaced : FnScope (namesOf d_u_law_spaced.N) (namesOf ["box", "words"]) (defScope (top 13)) := ⟨rfl, rfl, rfl, by decide +kernel, rfl, by decide +kernel, by decide +kernel⟩
theorem chk_u_law_read [TheK] : chkSs (namesOf d_u_law_read.N) ⟨defScope (top 14), fun _ => true, false⟩ d_u_law_read.body (defBody (top 14)) = true := by decide +kernel
theorem sc_u_law_read : FnScope (namesOf d_u_law_read.N) (namesOf ["box"]) (defScope (top 14)) := ⟨rfl, rfl, rfl, by decide +kernel, rfl, by decide +kernel, by decide +kernel⟩
theorem chk_u_law_books [TheK] : chkSs (namesOf d_u_law_books.N) ⟨defScope (top 15), fun _ => true, false⟩ d_u_law_books.body (defBody (top 15)) = true := by decide +kernel
theorem sc_u_law_books : FnScope (namesOf d_u_law_books.N) (namesOf ["box"]) (defScope (top 15)) := ⟨rfl, rfl, rfl, by decide +kernel, rfl, by decide +kernel, by decide +kernel⟩
theorem chk_law [TheK] : chkSs (namesOf d_law.N) ⟨defScope (top 16), fun _ => true, false⟩ d_law.body (defBody (top 16)) = true := by decide +kernel
theorem sc_law : FnScope (namesOf d_law.N) (namesOf ["script"]) (defScope (top 16)) := ⟨rfl, rfl, rfl, by decide +kernel, rfl, by decide +kernel, by decide +kernel⟩
def x_wide_of : He.DefD := ⟨(Str.ofString "wide_of", none), Str.ofString "wide_of", Str.ofString "wide_of", defArgs (top 1), defBody (top 1), defScope (top 1), [], []⟩
def x_in_columns : He.DefD := ⟨(Str.ofString "in_columns", none), Str.ofString "in_columns", Str.ofString "in_columns", defArgs (top 2), defBody (top 2), defScope (top 2), [], []⟩
def x_book_lines : He.DefD := ⟨(Str.ofString "book_lines", none), Str.ofString "book_lines", Str.ofString "book_lines", defArgs (top 3), defBody (top 3), defScope (top 3), [], []⟩
def x_read_columns : He.DefD := ⟨(Str.ofString "read_columns", none), Str.ofString "read_columns", Str.ofString "read_columns", defArgs (top 4), defBody (top 4), defScope (top 4), [], []⟩
def x_u_law_cell : He.DefD := ⟨(Str.ofString "_law_cell", none), Str.ofString "_law_cell", Str.ofString "_law_cell", defArgs (top 6), defBody (top 6), defScope (top 6), [], []⟩
def x_u_law_digits : He.DefD := ⟨(Str.ofString "_law_digits", none), Str.ofString "_law_digits", Str.ofString "_law_digits", defArgs (top 7), defBody (top 7), defScope (top 7), [], []⟩
def x_u_law_draw : He.DefD := ⟨(Str.ofString "_law_draw", none), Str.ofString "_law_draw", Str.ofString "_law_draw", defArgs (top 8), defBody (top 8), defScope (top 8), [], []⟩
def x_u_law_pick : He.DefD := ⟨(Str.ofString "_law_pick", none), Str.ofString "_law_pick", Str.ofString "_law_pick", defArgs (top 9), defBody (top 9), defScope (top 9), [], []⟩
def x_u_law_same : He.DefD := ⟨(Str.ofString "_law_same", none), Str.ofString "_law_same", Str.ofString "_law_same", defArgs (top 10), defBody (top 10), defScope (top 10), [], []⟩
def x_u_law_columns : He.DefD := ⟨(Str.ofString "_law_columns", none), Str.ofString "_law_columns", Str.ofString "_law_columns", defArgs (top 11), defBody (top 11), defScope (top 11), [], []⟩
def x_u_law_text : He.DefD := ⟨(Str.ofString "_law_text", none), Str.ofString "_law_text", Str.ofString "_law_text", defArgs (top 12), defBody (top 12), defScope (top 12), [], []⟩
def x_u_law_spaced : He.DefD := ⟨(Str.ofString "_law_spaced", none), Str.ofString "_law_spaced", Str.ofString "_law_spaced", defArgs (top 13), defBody (top 13), defScope (top 13), [], []⟩
def x_u_law_read : He.DefD := ⟨(Str.ofString "_law_read", none), Str.ofString "_law_read", Str.ofString "_law_read", defArgs (top 14), defBody (top 14), defScope (top 14), [], []⟩
def x_u_law_books : He.DefD := ⟨(Str.ofString "_law_books", none), Str.ofString "_law_books", Str.ofString "_law_books", defArgs (top 15), defBody (top 15), defScope (top 15), [], []⟩
def x_law : He.DefD := ⟨(Str.ofString "law", none), Str.ofString "law", Str.ofString "law", defArgs (top 16), defBody (top 16), defScope (top 16), [], []⟩
def fn : List He.DefD := [x_wide_of, x_in_columns, x_book_lines, x_read_columns, x_u_law_cell, x_u_law_digits, x_u_law_draw, x_u_law_pick, x_u_law_same, x_u_law_columns, x_u_law_text, x_u_law_spaced, x_u_law_read, x_u_law_books, x_law]
def fa : List He.Fa := (T.map fun d => He.Fa.glo (Str.ofString d.name)) ++ bltNames.map fun x => He.Fa.free (Str.ofString x)
abbrev R : PySem.W.OpenRow := PySem.W.OpenLaw.row PySem.Challenge.rw_lendland_k93_lines_in_columns
abbrev V0 : Program := PySem.W.view R.prog [16]
def loose : List Str := [Str.ofString "__name__", Str.ofString "wide_of", Str.ofString "in_columns", Str.ofString "book_lines", Str.ofString "read_columns", Str.ofString "_law_cell", Str.ofString "_law_digits", Str.ofString "_law_draw", Str.ofString "_law_pick", Str.ofString "_law_same", Str.ofString "_law_columns", Str.ofString "_law_text", Str.ofString "_law_spaced", Str.ofString "_law_read", Str.ofString "_law_books"]
abbrev hk : PySem.W.Hook := Ev.hookG 4 fa fn false
def ob (s : PySem.W.SharedT) : hk.α := Ev.obsGG 4 fa fn false (HandSHeadRun.getT s)
theorem ob_eq (s : PySem.W.SharedT) : ob s = hk.obs s.abs := Ev.obsGG_eq (HandSHeadRun.getT_eq s)
theorem run (w : World) : HandSHeadRun.RunEq R V0 hk ob 2000 loose w := by
  intro os
  kernel_rfl
section
variable {K : PySem.W.Frag} {h : Heap} {mg : Str → Option Value} [TheK]
theorem gl (X : K.In h) (G : h.Ns mainGlobals mg) (c : Ev.SaysG fa fn false K) (i : Nat) (d : Def) (e : T[i]? = some d) : mg (Str.ofString d.name) = some (.ref (He.ga K (Str.ofString d.name))) :=
  He.glo_ok X G (c.1.fact i (f := .glo (Str.ofString d.name)) (by unfold fa; rw [List.getElem?_append_left (by rw [List.length_map]; exact (List.getElem?_eq_some_iff.mp e).1), List.getElem?_map, e]; rfl))
theorem ok_wide_of (X : K.In h) (G : h.Ns mainGlobals mg) (c : Ev.SaysG fa fn false K) : ∃ fd, (∀ (s : Shared) (us : List Value), us.length = 1 → BindsTo s fd ⟨us, []⟩ ((namesOf ["rows"]).zip us)) ∧ DefOk K mg false d_wide_of (top 1) (namesOf ["rows"]) (He.ga K (Str.ofString "wide_of")) fd := by
  obtain ⟨fd, F⟩ := c.1.def_ 0 (d := x_wide_of) rfl
  have b := F.bindsN (ps := namesOf ["rows"]) fun _ _ _ _ _ _ us hl => match us, hl with | [_], _ => rfl
  have b2 := F.bindsA (ps := namesOf ["rows"]) fun _ _ _ _ _ _ us hl => match us, hl with | [_], _ => rfl
  exact ⟨fd, fun s us hl => b2 s us hl, gl X G c 0 _ rfl, F, b, sc_wide_of, rfl, by decide, chk_wide_of⟩
theorem ok_in_columns (X : K.In h) (G : h.Ns mainGlobals mg) (c : Ev.SaysG fa fn false K) : ∃ fd, (∀ (s : Shared) (us : List Value), us.length = 1 → BindsTo s fd ⟨us, []⟩ ((namesOf ["rows"]).zip us)) ∧ DefOk K mg false d_in_columns (top 2) (namesOf ["rows"]) (He.ga K (Str.ofString "in_columns")) fd := by
  obtain ⟨fd, F⟩ := c.1.def_ 1 (d := x_in_columns) rfl
  have b := F.bindsN (ps := namesOf ["rows"]) fun _ _ _ _ _ _ us hl => match us, hl with | [_], _ => rfl
  have b2 := F.bindsA (ps := namesOf ["rows"]) fun _ _ _ _ _ _ us hl => match us, hl with | [_], _ => rfl
  exact ⟨fd, fun s us hl => b2 s us hl, gl X G c 1 _ rfl, F, b, sc_in_columns, rfl, by decide, chk_in_columns⟩
theorem ok_book_lines (X : K.In h) (G : h.Ns mainGlobals mg) (c : Ev.SaysG fa fn false K) : ∃ fd, (∀ (s : Shared) (us : List Value), us.length = 1 → BindsTo s fd ⟨us, []⟩ ((namesOf ["books"]).zip us)) ∧ DefOk K mg false d_book_lines (top 3) (namesOf ["books"]) (He.ga K (Str.ofString "book_lines")) fd := by
  obtain ⟨fd, F⟩ := c.1.def_ 2 (d := x_book_lines) rfl
  have b := F.bindsN (ps := namesOf ["books"]) fun _ _ _ _ _ _ us hl => match us, hl with | [_], _ => rfl
  have b2 := F.bindsA (ps := namesOf ["books"]) fun _ _ _ _ _ _ us hl => match us, hl with | [_], _ => rfl
  exact ⟨fd, fun s us hl => b2 s us hl, gl X G c 2 _ rfl, F, b, sc_book_lines, rfl, by decide, chk_book_lines⟩
theorem ok_read_columns (X : K.In h) (G : h.Ns mainGlobals mg) (c : Ev.SaysG fa fn false K) : ∃ fd, (∀ (s : Shared) (us : List Value), us.length = 1 → BindsTo s fd ⟨us, []⟩ ((namesOf ["lines"]).zip us)) ∧ DefOk K mg false d_read_columns (top 4) (namesOf ["lines"]) (He.ga K (Str.ofString "read_columns")) fd := by
  obtain ⟨fd, F⟩ := c.1.def_ 3 (d := x_read_columns) rfl
  have b := F.bindsN (ps := namesOf ["lines"]) fun _ _ _ _ _ _ us hl => match us, hl with | [_], _ => rfl
  have b2 := F.bindsA (ps := namesOf ["lines"]) fun _ _ _ _ _ _ us hl => match us, hl with | [_], _ => rfl
  exact ⟨fd, fun s us hl => b2 s us hl, gl X G c 3 _ rfl, F, b, sc_read_columns, rfl, by decide, chk_read_columns⟩
theorem ok_u_law_cell (X : K.In h) (G : h.Ns mainGlobals mg) (c : Ev.SaysG fa fn false K) : ∃ fd, (∀ (s : Shared) (us : List Value), us.length = 2 → BindsTo s fd ⟨us, []⟩ ((namesOf ["script", "k"]).zip us)) ∧ DefOk K mg false d_u_law_cell (top 6) (namesOf ["script", "k"]) (He.ga K (Str.ofString "_law_cell")) fd := by
  obtain ⟨fd, F⟩ := c.1.def_ 4 (d := x_u_law_cell) rfl
  have b := F.bindsN (ps := namesOf ["script", "k"]) fun _ _ _ _ _ _ us hl => match us, hl with | [_, _], _ => rfl
  have b2 := F.bindsA (ps := namesOf ["script", "k"]) fun _ _ _ _ _ _ us hl => match us, hl with | [_, _], _ => rfl
  exact ⟨fd, fun s us hl => b2 s us hl, gl X G c 4 _ rfl, F, b, sc_u_law_cell, rfl, by decide, chk_u_law_cell⟩
theorem ok_u_law_digits (X : K.In h) (G : h.Ns mainGlobals mg) (c : Ev.SaysG fa fn false K) : ∃ fd, (∀ (s : Shared) (us : List Value), us.length = 3 → BindsTo s fd ⟨us, []⟩ ((namesOf ["script", "first", "last"]).zip us)) ∧ DefOk K mg false d_u_law_digits (top 7) (namesOf ["script", "first", "last"]) (He.ga K (Str.ofString "_law_digits")) fd := by
  obtain ⟨fd, F⟩ := c.1.def_ 5 (d := x_u_law_digits) rfl
  have b := F.bindsN (ps := namesOf ["script", "first", "last"]) fun _ _ _ _ _ _ us hl => match us, hl with | [_, _, _], _ => rfl
  have b2 := F.bindsA (ps := namesOf ["script", "first", "last"]) fun _ _ _ _ _ _ us hl => match us, hl with | [_, _, _], _ => rfl
  exact ⟨fd, fun s us hl => b2 s us hl, gl X G c 5 _ rfl, F, b, sc_u_law_digits, rfl, by decide, chk_u_law_digits⟩
theorem ok_u_law_draw (X : K.In h) (G : h.Ns mainGlobals mg) (c : Ev.SaysG fa fn false K) : ∃ fd, (∀ (s : Shared) (us : List Value), us.length = 2 → BindsTo s fd ⟨us, []⟩ ((namesOf ["box", "many"]).zip us)) ∧ DefOk K mg false d_u_law_draw (top 8) (namesOf ["box", "many"]) (He.ga K (Str.ofString "_law_draw")) fd := by
  obtain ⟨fd, F⟩ := c.1.def_ 6 (d := x_u_law_draw) rfl
  have b := F.bindsN (ps := namesOf ["box", "many"]) fun _ _ _ _ _ _ us hl => match us, hl with | [_, _], _ => rfl
  have b2 := F.bindsA (ps := namesOf ["box", "many"]) fun _ _ _ _ _ _ us hl => match us, hl with | [_, _], _ => rfl
  exact ⟨fd, fun s us hl => b2 s us hl, gl X G c 6 _ rfl, F, b, sc_u_law_draw, rfl, by decide, chk_u_law_draw⟩
theorem ok_u_law_pick (X : K.In h) (G : h.Ns mainGlobals mg) (c : Ev.SaysG fa fn false K) : ∃ fd, (∀ (s : Shared) (us : List Value), us.length = 2 → BindsTo s fd ⟨us, []⟩ ((namesOf ["box", "row"]).zip us)) ∧ DefOk K mg false d_u_law_pick (top 9) (namesOf ["box", "row"]) (He.ga K (Str.ofString "_law_pick")) fd := by
  obtain ⟨fd, F⟩ := c.1.def_ 7 (d := x_u_law_pick) rfl
  have b := F.bindsN (ps := namesOf ["box", "row"]) fun _ _ _ _ _ _ us hl => match us, hl with | [_, _], _ => rfl
  have b2 := F.bindsA (ps := namesOf ["box", "row"]) fun _ _ _ _ _ _ us hl => match us, hl with | [_, _], _ => rfl
  exact ⟨fd, fun s us hl => b2 s us hl, gl X G c 7 _ rfl, F, b, sc_u_law_pick, rfl, by decide, chk_u_law_pick⟩
theorem ok_u_law_same (X : K.In h) (G : h.Ns mainGlobals mg) (c : Ev.SaysG fa fn false K) : ∃ fd, (∀ (s : Shared) (us : List Value), us.length = 2 → BindsTo s fd ⟨us, []⟩ ((namesOf ["told", "due"]).zip us)) ∧ DefOk K mg false d_u_law_same (top 10) (namesOf ["told", "due"]) (He.ga K (Str.ofString "_law_same")) fd := by
  obtain ⟨fd, F⟩ := c.1.def_ 8 (d := x_u_law_same) rfl
  have b := F.bindsN (ps := namesOf ["told", "due"]) fun _ _ _ _ _ _ us hl => match us, hl with | [_, _], _ => rfl
  have b2 := F.bindsA (ps := namesOf ["told", "due"]) fun _ _ _ _ _ _ us hl => match us, hl with | [_, _], _ => rfl
  exact ⟨fd, fun s us hl => b2 s us hl, gl X G c 8 _ rfl, F, b, sc_u_law_same, rfl, by decide, chk_u_law_same⟩
theorem ok_u_law_columns (X : K.In h) (G : h.Ns mainGlobals mg) (c : Ev.SaysG fa fn false K) : ∃ fd, (∀ (s : Shared) (us : List Value), us.length = 1 → BindsTo s fd ⟨us, []⟩ ((namesOf ["rows"]).zip us)) ∧ DefOk K mg false d_u_law_columns (top 11) (namesOf ["rows"]) (He.ga K (Str.ofString "_law_columns")) fd := by
  obtain ⟨fd, F⟩ := c.1.def_ 9 (d := x_u_law_columns) rfl
  have b := F.bindsN (ps := namesOf ["rows"]) fun _ _ _ _ _ _ us hl => match us, hl with | [_], _ => rfl
  have b2 := F.bindsA (ps := namesOf ["rows"]) fun _ _ _ _ _ _ us hl => match us, hl with | [_], _ => rfl
  exact ⟨fd, fun s us hl => b2 s us hl, gl X G c 9 _ rfl, F, b, sc_u_law_columns, rfl, by decide, chk_u_law_columns⟩
theorem ok_u_law_text (X : K.In h) (G : h.Ns mainGlobals mg) (c : Ev.SaysG fa fn false K) : ∃ fd, (∀ (s : Shared) (us : List Value), us.length = 2 → BindsTo s fd ⟨us, []⟩ ((namesOf ["box", "most"]).zip us)) ∧ DefOk K mg false d_u_law_text (top 12) (namesOf ["box", "most"]) (He.ga K (Str.ofString "_law_text")) fd := by
  obtain ⟨fd, F⟩ := c.1.def_ 10 (d := x_u_law_text) rfl
  have b := F.bindsN (ps := namesOf ["box", "most"]) fun _ _ _ _ _ _ us hl => match us, hl with | [_, _], _ => rfl
  have b2 := F.bindsA (ps := namesOf ["box", "most"]) fun _ _ _ _ _ _ us hl => match us, hl with | [_, _], _ => rfl
  exact ⟨fd, fun s us hl => b2 s us hl, gl X G c 10 _ rfl, F, b, sc_u_law_text, rfl, by decide, chk_u_law_text⟩
theorem ok_u_law_spaced (X : K.In h) (G : h.Ns mainGlobals mg) (c : Ev.SaysG fa fn false K) : ∃ fd, (∀ (s : Shared) (us : List Value), us.length = 2 → BindsTo s fd ⟨us, []⟩ ((namesOf ["box", "words"]).zip us)) ∧ DefOk K mg false d_u_law_spaced (top 13) (namesOf ["box", "words"]) (He.ga K (Str.ofString "_law_spaced")) fd := by
  obtain ⟨fd, F⟩ := c.1.def_ 11 (d := x_u_law_spaced) rfl
  have b := F.bindsN (ps := namesOf ["box", "words"]) fun _ _ _ _ _ _ us hl => match us, hl with | [_, _], _ => rfl
  have b2 := F.bindsA (ps := namesOf ["box", "words"]) fun _ _ _ _ _ _ us hl => match us, hl with | [_, _], _ => rfl
  exact ⟨fd, fun s us hl => b2 s us hl, gl X G c 11 _ rfl, F, b, sc_u_law_spaced, rfl, by decide, chk_u_law_spaced⟩
theorem ok_u_law_read (X : K.In h) (G : h.Ns mainGlobals mg) (c : Ev.SaysG fa fn false K) : ∃ fd, (∀ (s : Shared) (us : List Value), us.length = 1 → BindsTo s fd ⟨us, []⟩ ((namesOf ["box"]).zip us)) ∧ DefOk K mg false d_u_law_read (top 14) (namesOf ["box"]) (He.ga K (Str.ofString "_law_read")) fd := by
  obtain ⟨fd, F⟩ := c.1.def_ 12 (d := x_u_law_read) rfl
  have b := F.bindsN (ps := namesOf ["box"]) fun _ _ _ _ _ _ us hl => match us, hl with | [_], _ => rfl
  have b2 := F.bindsA (ps := namesOf ["box"]) fun _ _ _ _ _ _ us hl => match us, hl with | [_], _ => rfl
  exact ⟨fd, fun s us hl => b2 s us hl, gl X G c 12 _ rfl, F, b, sc_u_law_read, rfl, by decide, chk_u_law_read⟩
theorem ok_u_law_books (X : K.In h) (G : h.Ns mainGlobals mg) (c : Ev.SaysG fa fn false K) : ∃ fd, (∀ (s : Shared) (us : List Value), us.length = 1 → BindsTo s fd ⟨us, []⟩ ((namesOf ["box"]).zip us)) ∧ DefOk K mg false d_u_law_books (top 15) (namesOf ["box"]) (He.ga K (Str.ofString "_law_books")) fd := by
  obtain ⟨fd, F⟩ := c.1.def_ 13 (d := x_u_law_books) rfl
  have b := F.bindsN (ps := namesOf ["box"]) fun _ _ _ _ _ _ us hl => match us, hl with | [_], _ => rfl
  have b2 := F.bindsA (ps := namesOf ["box"]) fun _ _ _ _ _ _ us hl => match us, hl with | [_], _ => rfl
  exact ⟨fd, fun s us hl => b2 s us hl, gl X G c 13 _ rfl, F, b, sc_u_law_books, rfl, by decide, chk_u_law_books⟩
theorem ok_law (X : K.In h) (G : h.Ns mainGlobals mg) (c : Ev.SaysG fa fn false K) : ∃ fd, (∀ (s : Shared) (us : List Value), us.length = 1 → BindsTo s fd ⟨us, []⟩ ((namesOf ["script"]).zip us)) ∧ DefOk K mg false d_law (top 16) (namesOf ["script"]) (He.ga K (Str.ofString "law")) fd := by
  obtain ⟨fd, F⟩ := c.1.def_ 14 (d := x_law) rfl
  have b := F.bindsN (ps := namesOf ["script"]) fun _ _ _ _ _ _ us hl => match us, hl with | [_], _ => rfl
  have b2 := F.bindsA (ps := namesOf ["script"]) fun _ _ _ _ _ _ us hl => match us, hl with | [_], _ => rfl
  exact ⟨fd, fun s us hl => b2 s us hl, gl X G c 14 _ rfl, F, b, sc_law, rfl, by decide, chk_law⟩
theorem tab (X : K.In h) (G : h.Ns mainGlobals mg) (c : Ev.SaysG fa fn false K) : TabOk K mg false T := by
  intro d hd
  unfold T at hd
  rcases List.mem_cons.mp hd with e | hd
  · subst e; obtain ⟨fd, _, o⟩ := ok_wide_of X G c; exact ⟨_, _, _, fd, o⟩
  rcases List.mem_cons.mp hd with e | hd
  · subst e; obtain ⟨fd, _, o⟩ := ok_in_columns X G c; exact ⟨_, _, _, fd, o⟩
  rcases List.mem_cons.mp hd with e | hd
  · subst e; obtain ⟨fd, _, o⟩ := ok_book_lines X G c; exact ⟨_, _, _, fd, o⟩
  rcases List.mem_cons.mp hd with e | hd
  · subst e; obtain ⟨fd, _, o⟩ := ok_read_columns X G c; exact ⟨_, _, _, fd, o⟩
  rcases List.mem_cons.mp hd with e | hd
  · subst e; obtain ⟨fd, _, o⟩ := ok_u_law_cell X G c; exact ⟨_, _, _, fd, o⟩
  rcases List.mem_cons.mp hd with e | hd
  · subst e; obtain ⟨fd, _, o⟩ := ok_u_law_digits X G c; exact ⟨_, _, _, fd, o⟩
  rcases List.mem_cons.mp hd with e | hd
  · subst e; obtain ⟨fd, _, o⟩ := ok_u_law_draw X G c; exact ⟨_, _, _, fd, o⟩
  rcases List.mem_cons.mp hd with e | hd
  · subst e; obtain ⟨fd, _, o⟩ := ok_u_law_pick X G c; exact ⟨_, _, _, fd, o⟩
  rcases List.mem_cons.mp hd with e | hd
  · subst e; obtain ⟨fd, _, o⟩ := ok_u_law_same X G c; exact ⟨_, _, _, fd, o⟩
  rcases List.mem_cons.mp hd with e | hd
  · subst e; obtain ⟨fd, _, o⟩ := ok_u_law_columns X G c; exact ⟨_, _, _, fd, o⟩
  rcases List.mem_cons.mp hd with e | hd
  · subst e; obtain ⟨fd, _, o⟩ := ok_u_law_text X G c; exact ⟨_, _, _, fd, o⟩
  rcases List.mem_cons.mp hd with e | hd
  · subst e; obtain ⟨fd, _, o⟩ := ok_u_law_spaced X G c; exact ⟨_, _, _, fd, o⟩
  rcases List.mem_cons.mp hd with e | hd
  · subst e; obtain ⟨fd, _, o⟩ := ok_u_law_read X G c; exact ⟨_, _, _, fd, o⟩
  rcases List.mem_cons.mp hd with e | hd
  · subst e; obtain ⟨fd, _, o⟩ := ok_u_law_books X G c; exact ⟨_, _, _, fd, o⟩
  rcases List.mem_cons.mp hd with e | hd
  · subst e; obtain ⟨fd, _, o⟩ := ok_law X G c; exact ⟨_, _, _, fd, o⟩
  cases hd
end
end K93
open PySem PySem.W PySem.Calls PyProof.Rows Ev
theorem K93.holds (law : ∀ ns : List Int, ns.length ≤ 63 → runD (callF K93.T 39) K93.d_law [.ro (ns.map .int)] = some (.fr (.bool true), [])) : PySem.Challenge.rw_lendland_k93_lines_in_columns.Holds := by
  w_on; o_law
  refine HandSHeadRun.head_any (r := K93.R) (q := K93.V0) (H := K93.hk) (ob := K93.ob) (M := 2000) (loose := K93.loose) (d := HandSHeadRun.topDef K93.R.prog 16) (kwd := []) K93.ob_eq
    (by kernel_rfl) (fun s => by kernel_rfl) K93.run (by kernel_rfl) (by kernel_rfl) (by kernel_rfl) (by rfl) (by first | assumption | decide +kernel) (by decide +kernel) ⟨rfl, rfl, rfl, rfl, rfl, by decide +kernel⟩ ?hw ?hc
  case hw => w_witness2
  case hc =>
    refine L2.walk_ofE (l := PySem.Challenge.rw_lendland_k93_lines_in_columns) (n := 63) (k := 40) (x := "script") (CX := L2.CX0) rfl (by decide) (by kernel_rfl) ⟨rfl, by decide, by decide⟩ ?F (fun _ _ _ _ z => z)
    intro w mg fa h Y G hmg0
    obtain ⟨K, KX, c⟩ := Y
    letI : TheK := ⟨K⟩
    have hmg : mg ("law" : PySem.Str) = some (.ref fa) := by
      have e : (HandSHeadRun.topDef K93.R.prog 16).name = ("law" : PySem.Str) := by kernel_rfl
      rw [← e]
      exact hmg0
    have M : ModOk K mg false := Ev.mod_ok rfl KX G c (fun x hx => by
      obtain ⟨i, hi⟩ := List.mem_iff_getElem?.mp hx
      refine ⟨15 + i, ?_⟩
      unfold K93.fa
      rw [List.getElem?_append_right (by show 15 ≤ 15 + i; omega)]
      show (bltNames.map fun x => He.Fa.free (Str.ofString x))[15 + i - 15]? = _
      rw [Nat.add_sub_cancel_left, List.getElem?_map, hi]
      rfl)
    have TB := K93.tab KX G c
    obtain ⟨fd, hb, o⟩ := K93.ok_law KX G c
    have ea : fa = He.ga K (Str.ofString "law") := by
      have := hmg.symm.trans o.at_
      cases this
      rfl
    subst ea
    exact ⟨K, fd, spOf [.B] (runD (callF K93.T 39) K93.d_law), KX, fun s u => hb s [u] rfl, fun H a ns hl hO hS => law_sp rfl (Nat.le_trans hl (by decide)) hO hS (law ns hl), fun base _ _ => law_fn M TB o⟩

theorem PySem.Challenge.cw_lendland_k93_lines_in_columns_holds : PySem.Challenge.rw_lendland_k93_lines_in_columns.Holds := by
  exact K93.holds fun ns _ => K93.r_law 34 ns
