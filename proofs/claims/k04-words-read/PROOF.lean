import PyProof.Rows.All
import OpenK.AllK
import PyProof.InstNe
import HandS.Iter
import KE.GoesMore
import HandS.SortInts
import KE.KExcInit
import HandS.ExcInit
import HandS.ExcField
import HandS.ExcIs
import PyProof.ExcBaseAll.ValueError
import PyProof.ExcBaseAll.LookupError
import PyProof.ExcBaseAll.IndexError
import HandS.TryMany
import KE.KTryMore
import HandS.Lambda
import HandS.HotCalls
import HandS.Defaults
import Wide.All
import Wide.FinOn
import HandS.ForMost
import HandS.StrMore
import HandS.HeadHook2
import HandS.Wide
import HandS.TupAny
import HandS.Deep
import HandS.Codes
import HandS.HeadHook4
import HandS.Property
import HandS.IsInst
import HandS.More
import HandS.Head0
import HandS.Head1
import HandS.Head2
import HandS.HeadNt
import PySem.Challenge.RW_lastkept_k04_words_read
import PyProof.Rows.SortShellAny
import HandS.SetFor
import HandS.Strs
import HandS.ForExc
import HandS.CallSlots
import HandS.Zip
import HandS.RaiseMore
import HandS.FStr
import HandS.Style
import HandS.MakeKw
import HandS.CallRecv
import HandS.HeadEnd
import HandS.HeadWalk
import PyProof.Rows.StrLawsPart
import PyProof.P3Eq
set_option Elab.async false
set_option linter.all false
set_option maxRecDepth 100000
set_option maxHeartbeats 2000000
/-! Dx0: != of an own == (object.__ne__ asks it). -/
namespace DxK
open PySem PySem.W PySem.Calls PyProof.Rows Builtin
section
variable {prog : Program} {w : World} {A : Around} {E : Value → Shared → Prop} {s : Shared} {K : Frag} {x C L f : Addr} {h₀ : Heap} {m : Str → Option Value} {ox : Obj} {od : Option Obj} {b tb : Value}
theorem ifBoundB_K {M : Model} {name : Str} {id : String} {args : List Value} {Q : Option Value → Shared → Prop} (X : K.In s.heap) (I : InstAt s.heap x ox C od) (hs : findIn K (.ref C) name = some (some (.builtin id))) (hb : ∀ self : Value, bindSpecial (.builtin id) self = pure (.builtin id, [self]))
    (h : wpAny M A (call (.builtin id) (.ref x :: args)) (fun v => Q (some v)) E s) : wpAny M A (callSpecialIfBound? (.ref x) name args) Q E s := by
  simp only [callSpecialIfBound?, bindSpecialIfBound?]
  refine wpAny_holding (wpAny_bind (wpAny_bind (wpAny_bind (I.type.here ((looks_findIn X hs).here ?_)))))
  refine wpAny_bind (wpAny_askSetting (wpAny_ite ?_))
  have fin : wpAny M A (call (.builtin id) ([.ref x] ++ args) >>= fun v => pure (some v)) Q E s := wpAny_bind (wpAny_mono h (fun v s' h' => wpAny_pure h') fun _ _ h' => h')
  simp only [hb]
  split
  · exact wpAny_bind (wpAny_pure (wpAny_pure fin))
  · exact wpAny_tryCatch (wpAny_bind (wpAny_pure (wpAny_pure fin)))
theorem ne_entry (hu : A.units < cLine) (X : K.In s.heap) (I : InstAt s.heap x ox C od) (hs : findIn K (.ref C) "__eq__" = some (some (.ref f))) (hf : isFn K (.ref f) = true) {Q : Fin → Shared → Prop}
    (h : wpAny (model prog w) A (call (.ref f) [.ref x, b]) (fun v s' => ∃ y, v = .bool y ∧ Q (.done (.ret (.bool (!y)))) s') E s) : wpAny (model prog w) A (Builtin.«object.__ne__» ⟨[.ref x, b], []⟩) Q E s := by
  unfold Builtin.«object.__ne__»
  repeat (first
    | with_reducible refine wpAny_cRoomFor hu ?_
    | (refine wpAny_bind (m := callSpecialIfBound? (.ref x) (Str.ofString "__eq__") [b])
        (ifBound_K X I hs hf (wpAny_mono h (fun r s' hr => by
          obtain ⟨y, rfl, hq⟩ := hr
          repeat (first | exact hq | exact wpAny_pure hq | exact wpAny_truthy_bool hq | (refine wpAny_bind (m := truthy (.bool _)) (wpAny_truthy_bool ?_)) | wp_step)) fun _ _ e => e)))
    | wp_step)
theorem ne_K {Q : Value → Shared → Prop} (hu : A.units + 1 < cLine) (FR : Fr h₀ L s.heap m) (X₀ : K.In h₀) (I : InstAt s.heap x ox C od) (hb : Looks (model prog w) s.heap (typeOf b) tb) (hn : notFirst K C tb = true)
    (hne : findIn K (.ref C) "__ne__" = some (some (.builtin "object.__ne__"))) (hm : mroIn K C (.type "object") = some true) (hs : findIn K (.ref C) "__eq__" = some (some (.ref f))) (hf : isFn K (.ref f) = true)
    (h : wpAny (model prog w) A.in1 (call (.ref f) [.ref x, b]) (fun v s' => ∃ y, v = .bool y ∧ Q (.bool (!y)) s') E s) : wpAny (model prog w) A (richCompare .NotEq (.ref x) b) Q E s := by
  have X := X₀.keeps FR.keep
  have sub : Looks (model prog w) s.heap (isInstance (.ref x) (.type "object")) true := I.type.andThen (looks_mroIn X hm)
  have one : wpAny (model prog w) A (tryCompare (.ref x) "__ne__" b) (fun r s' => ∃ v, r = some v ∧ Q v s') E s := by
    unfold tryCompare
    refine wpAny_bind (ifBoundB_K X I hne (fun self => PySem.F.cmp_object.ne.bind self) (wpAny_call (codeAny_call_builtin PySem.F.cmp_object.ne.plain PySem.F.cmpEntry_ne
      (@check_slot (model prog w) _ _ s "object.__ne__" "object" "__ne__" (.ref x) [b] [] _ PySem.F.cmpKind_ne PySem.F.cmpSplit_ne sub (PySem.F.cmpArgs_ne (.ref x) b) (ne_entry (A := A.in1) hu X I hs hf (wpAny_mono h (fun v s' hv => ?_) fun _ _ e => e))))))
    obtain ⟨y, rfl, hq⟩ := hv
    first | exact ⟨y, rfl, wpAny_pure ⟨_, rfl, hq⟩⟩ | exact ⟨y, rfl, wpAny_pure (wpAny_pure ⟨_, rfl, hq⟩)⟩ | exact ⟨y, rfl, _, rfl, hq⟩
  unfold richCompare
  simp only [oneThing_ref]
  refine wpAny_holding (wpAny_bind (wpAny_cRoomFor (Nat.lt_of_succ_lt hu) ?_))
  refine wpAny_bind (I.type.here (wpAny_bind (hb.here ?_)))
  split
  · rename_i q
    have e : subIn K tb (.ref C) = some false := by
      rcases Bool.or_eq_true_iff.mp hn with e | e
      · rw [beq_iff_eq.mp e] at q; simp at q
      · exact beq_iff_eq.mp e
    refine wpAny_bind ((looks_subIn X e).here ?_)
    simp only [Bool.false_eq_true, if_false]
    refine wpAny_bind (wpAny_mono one (fun r s' z => ?_) fun _ _ e => e)
    obtain ⟨v, rfl, hq⟩ := z
    exact wpAny_pure hq
  · refine wpAny_bind (wpAny_pure ?_)
    simp only [Bool.false_eq_true, if_false]
    refine wpAny_bind (wpAny_mono one (fun r s' z => ?_) fun _ _ e => e)
    obtain ⟨v, rfl, hq⟩ := z
    exact wpAny_pure hq
end
end DxK

set_option maxRecDepth 100000
set_option maxHeartbeats 2000000
/-! Dx0b: enumerate(tuple). -/
namespace DxE
open PySem
open Sem (wp)
open AutoSeq1 (wpAny_loadPart')
theorem meets_enumerate_newT (l : Addr) (items : Array Value) (n : Nat) (dct : Option Addr) (sl : Array (Option Value)) :
    Meets (Builtin.«enumerate.__new__» ⟨[.type "enumerate", .ref l], []⟩) (fun _ R s => s.heap.get? l = some { cls := .type "tuple", dict := dct, data := .seq items n, slots := sl } ∧
      R (.ok (.ret (.ref (s.heap.push { cls := .type "tuple_iterator", data := .fields #[.ref l, .int 0 0] }).objs.size)))
        { s with heap := (s.heap.push { cls := .type "tuple_iterator", data := .fields #[.ref l, .int 0 0] }).push { cls := .type "enumerate", data := .fields #[.none, .bool false, .ref s.heap.objs.size, rawInt 0, .none, .none] } }) :=
  .of_wp fun prog w A R s h => by
    obtain ⟨hp, g, d, tk, os⟩ := s; obtain ⟨hl, h⟩ := h
    have hsub := sub_enumerate
    have hL : Heap.IsTuple (Shared.heap ⟨hp, g, d, tk, os⟩) l items := ⟨_, hl, rfl, n, rfl⟩
    wp_walk using wpAny_loadPart' hl
    refine wpAny_stack_any fun st => wpAny_pure ?_
    split
    · rename_i c _ _ _ _ _
      cases (c == Value.type "enumerate")
      · wp_walk using wpAny_loadPart' hl, wpAny_pyIter_tuple hL
        exact ⟨_, rfl, h⟩
      · wp_walk using wpAny_loadPart' hl, wpAny_pyIter_tuple hL
        exact ⟨_, rfl, h⟩
    · wp_walk using wpAny_loadPart' hl, wpAny_pyIter_tuple hL
      exact ⟨_, rfl, h⟩
section
variable {prog : Program} {w : World} {A : Around} {E : Value → Shared → Prop} {s : Shared}
theorem call_enumerate_tuple {l : Addr} {items : Array Value} {Q : Value → Shared → Prop} (hL : s.heap.IsTuple l items)
    (h : ∀ h', IsEnum h' (s.heap.objs.size + 1) s.heap.objs.size 0 .none → h'.IsTupleIter s.heap.objs.size l 0 → h'.objs.size = s.heap.objs.size + 2 →
      (∀ b o, s.heap.get? b = some o → h'.get? b = some o) → Q (.ref (s.heap.objs.size + 1)) { s with heap := h' }) :
    wpAny (model prog w) A (call (.type "enumerate") [.ref l]) Q E s := by
  obtain ⟨⟨c, dct, dt, sl⟩, hl, hc, n, hd⟩ := hL
  replace hc : c = .type "tuple" := hc
  replace hd : dt = .seq items n := hd
  subst hc hd
  refine callType_new F.called_enumerate (by decide) (F.typeCall_enumerate_1 _) (F.newCall_enumerate_1 _) (fun obj => F.args_object_init_2 obj _) F.entry_enumerate_new
    (meets_enumerate_newT l items n dct sl) ⟨hl, ?_⟩
  have hz : (s.heap.push { cls := .type "tuple_iterator", data := .fields #[.ref l, .int 0 0] }).objs.size = s.heap.objs.size + 1 := Heap.size_push ..
  show _ ∧ _
  rw [hz]
  have he : IsEnum ((s.heap.push { cls := .type "tuple_iterator", data := .fields #[.ref l, .int 0 0] }).push
      { cls := .type "enumerate", data := .fields #[.none, .bool false, .ref s.heap.objs.size, rawInt 0, .none, .none] }) (s.heap.objs.size + 1) s.heap.objs.size 0 .none := by
    have := Heap.get?_push_size (s.heap.push { cls := .type "tuple_iterator", data := .fields #[.ref l, .int 0 0] })
      (o := { cls := .type "enumerate", data := .fields #[.none, .bool false, .ref s.heap.objs.size, rawInt 0, .none, .none] }) rfl
    rw [hz] at this; exact this
  refine ⟨⟨_, he, rfl⟩, h _ he ⟨_, Heap.get?_push_of_some _ (Heap.get?_push_size _ rfl), rfl, rfl⟩ (by rw [Heap.size_push, hz]) fun b o x => Heap.get?_push_of_some _ (Heap.get?_push_of_some _ x)⟩
theorem enum_endT {e it a : Addr} {items : Array Value} {i : Nat} {c : Int} {old : Value} {Q : Option Value → Shared → Prop} (hh : A.handled = none) (he : IsEnum s.heap e it c old) (hit : s.heap.IsTupleIter it a i) (ht : s.heap.IsTuple a items) (hx : items[i]? = none)
    (hQ : ∀ h', Heap.ExtBut it s.heap h' → Q none { s with heap := h' }) : wpAny (model prog w) A (pyNext (.ref e)) Q E s := by
  have hT : s.TypeIs (.ref e) "enumerate" := ⟨_, he, rfl⟩
  unfold pyNext
  refine wpAny_bind (wpAny_attempt (wpAny_callSpecial?_slot (name := Str.ofString "__next__") hT F.slot_enumerate_next
    (wpAny_call_entry F.slot_enumerate_next hT F.entry_enumerate_next ?_ (F.args_enumerate_next_1 _))))
  show wpAny _ _ (field (.ref e) 2 >>= _) _ _ _
  refine wpAny_bind (wpAny_field he rfl (x := .ref it) rfl ?_)
  refine wpAny_bind (wpAny_nextOf_tuple_end (A := A.in1) hh hit ht hx fun h' x he' hx' => ?_)
  obtain ⟨o, ho, hc⟩ := hx'
  refine wpAny_bind (wpAny_isInstance (T := "StopIteration") (b := true) ⟨o, ho, hc⟩ isSubtype_stop ?_)
  exact wpAny_pure (hQ _ he')
end
end DxE
namespace L2
open PySem PySem.Spec PyProof.Rows
/-- the tuple at a as it stands, each item in a new pair -/
def IteT (K : PySem.W.Frag) (a : Addr) : It :=
  ⟨fun i H => ∃ (xs : List V) (x : V), SqT K H a xs ∧ xs[i]? = some x, fun i H v H' => ∃ T x, v = .ref T ∧ H T = none ∧ H' = upd H T (.tup [.int (i : Nat), x]) ∧ ∀ xs, SqT K H a xs → xs[i]? = some x, fun i H => ∃ xs : List V, SqT K H a xs ∧ xs.length ≤ i⟩
theorem turn_enumT {P : Program} {w : World} {K : PySem.W.Frag} {elts : List Expr} {kk : Nat} {tpos : Pos} (a e it : Addr) :
    Turn P w K (.Tuple elts kk tpos) (IteT K a) [e, it] e (fun i h => (∃ old, IsEnum h e it ((i : Nat) : Int) old) ∧ h.IsTupleIter it a i ∧ e ≠ it) where
  mem := by simp
  obj := fun i h st b hb => by
    obtain ⟨⟨old, he⟩, ⟨o, ho, hc, hd⟩, _⟩ := st
    have e' : b = e ∨ b = it := by simpa using hb
    rcases e' with z | z
    · rw [z]; exact ⟨_, he, fun v q => nomatch q⟩
    · rw [z]; exact ⟨o, ho, fun v q => by rw [hd] at q; cases q⟩
  keep := fun i h h' st k => let ⟨⟨old, he⟩, hi, hne⟩ := st; ⟨⟨old, k e (by simp) _ he⟩, hi.at fun o q => k it (by simp) o q, hne⟩
  item := by
    intro X hP hw hK hc i pins s σ H E I hf st hg
    subst hP hw hK
    obtain ⟨⟨old, he⟩, hit, hne⟩ := st
    obtain ⟨xs, x, hq, hx⟩ := hg
    obtain ⟨its, rv, p, hz⟩ := I.tuple hq
    obtain ⟨u, hu, ru⟩ := rv.get hx
    have hel : e < s.heap.objs.size := Heap.lt_size he
    have hil : it < s.heap.objs.size := by obtain ⟨_, q, _⟩ := hit; exact Heap.lt_size q
    have pT : s.heap.IsTuple a its.toArray := p
    have ht : a ≠ it := fun z => by
      obtain ⟨o, q, hcl, _⟩ := hit
      obtain ⟨o2, q2, hcl2, _⟩ := pT
      rw [z, q] at q2
      cases q2
      rw [hcl] at hcl2
      simp at hcl2
    have hea : e ≠ a := fun z => by
      obtain ⟨o2, q2, hcl2, _⟩ := pT
      rw [← z, he] at q2
      cases q2
      simp at hcl2
    have hlen : i < its.toArray.size := by
      have := (List.getElem?_eq_some_iff.mp hu).1
      simpa using this
    refine wpAny_pyNext_enum_itemD (Draws.tuple (A := X.A.in1) (I.ok.hd hc) it a ht its.toArray) he ⟨hit, pT⟩ hlen hne (by simp [hne, hea]) fun x' h' tk hx' ho hit' hT hsz hk => ?_
    have ex : x' = u := by
      have : its.toArray[i]? = some x' := hx'
      rw [List.getElem?_toArray, hu] at this
      exact (Option.some.inj this).symm
    subst ex
    refine ⟨_, rfl, wpAny_letOwnedTupleGo_enum (s := { s with heap := h', toks := tk + 1 }) ho fun h'' he' sb => ?_⟩
    have hT2 : h''.get? s.heap.objs.size = some { cls := .type "tuple", data := .seq #[.int i tk, x'] } := (sb.2 _ (Nat.ne_of_gt hel)).trans hT
    have new : ObjOk X.prog X.w (upd H s.heap.objs.size (.tup [.int (i : Nat), x])) h'' s.heap.objs.size (.tup [.int (i : Nat), x]) :=
      ⟨by show 2 ≤ sizeLine; decide, [.int i tk, x'], .cons ⟨_, rfl⟩ (.cons ru .nil), ⟨_, hT2, rfl, _, rfl⟩⟩
    have I1 : Inv X pins σ (upd H s.heap.objs.size (.tup [.int (i : Nat), x])) { s with heap := h'', toks := tk + 1 } :=
      I.turnedNew (ch := [e, it]) (fun b ob hb q => (sb.2 b (fun z => hb (by simp [z]))).trans (hk b ob (fun z => hb (by simp [z])) (fun z => hb (by simp [z])) q)) hf (Nat.le_refl _) new
    refine ⟨.ref s.heap.objs.size, _, I1, rfl, ⟨_, x, rfl, I.hok.fresh (Nat.le_refl _), rfl, fun ys hy => by rw [I.tuple_inj hy hq]; exact hx⟩, ⟨⟨x', ?_⟩, hit'.1.at fun o q => (sb.2 it (Ne.symm hne)).trans q, hne⟩, fun b hb => ?_⟩
    · have e1 : ((i + 1 : Nat) : Int) = (i : Int) + 1 := by omega
      rw [e1]; exact he'
    · have hb' : b < s.heap.objs.size := by
        have e' : b = e ∨ b = it := by simpa using hb
        rcases e' with z | z
        · rw [z]; exact hel
        · rw [z]; exact hil
      rw [upd_ne (Nat.ne_of_lt hb')]
      exact (hf b hb).1
  done := by
    intro X hP hw hK hc i pins s σ H E I hf st hg
    subst hP hw hK
    obtain ⟨⟨old, he⟩, hit, hne⟩ := st
    obtain ⟨xs, hq, hx⟩ := hg
    obtain ⟨its, rv, p, hz⟩ := I.tuple hq
    obtain ⟨f0, f1, f2, f3, f4, f5⟩ := hf it (by simp)
    have hl := rv.length
    have pT : s.heap.IsTuple a its.toArray := p
    have ht : a ≠ it := fun z => by
      obtain ⟨o, q, hcl, _⟩ := hit
      obtain ⟨o2, q2, hcl2, _⟩ := pT
      rw [z, q] at q2
      cases q2
      rw [hcl] at hcl2
      simp at hcl2
    exact DxE.enum_endT (I.ok.hd hc) he hit pT (by simp; omega) fun h' eb => ⟨rfl, I.turned (t' := s.toks) (fun b o hb q => eb b o hb q) f0 f1 f3 f4 f5⟩
  self := fun A i s Q E st h => let ⟨⟨_, he⟩, _⟩ := st; wpAny_pyIter_enum he h
def iEnumT (K : PySem.W.Frag) (ta : TA) : TI := fun σ H R => ta σ H fun vs H1 => ∃ a xs, vs = [.ref a] ∧ ((SqL K H1 a xs ∧ R (Ite K a) H1) ∨ (SqT K H1 a xs ∧ R (IteT K a) H1))
/-- enumerate(a list or a tuple) -/
theorem pi_enumT {X : Cx} {e : Expr} {ta : TA} {p pos tpos : Pos} {elts : List Expr} {kk : Nat} (hg : Gl X "enumerate") (hm : X.mg "enumerate" = none) (ha : PA X [e] ta) (hs : starEach [e] X.env = [(false, eval e X.env)] := by rfl) :
    PI X (.Tuple elts kk tpos) (.Call (.Name "enumerate" p) [e] [] pos) (iEnumT X.K ta) := by
  refine ⟨fun pins s σ H R I h => ?_⟩
  refine Call_ (ld_blt I hg hm boot_enumerate (PyProof.Rows.callWith_type1 (thn (ha.run pos pins s σ H _ I h) fun us s1 ⟨vs, H1, I1, r1, q1⟩ => ?_) hs rfl))
  obtain ⟨a, xs, ex, q1⟩ := q1
  subst ex
  cases r1 with
  | cons r rr =>
    cases rr
    cases r
    rcases q1 with ⟨hq, q⟩ | ⟨hq, q⟩
    · obtain ⟨its, rv, p', hz⟩ := I1.list hq
      refine call_enumerate_list p'.isList fun h' he hit hsz hk => wpAny_pyIter_enum he ?_
      have I2 : Inv X pins σ H1 { s1 with heap := h' } := I1.kept (t' := s1.toks) hk
      refine ⟨s1.heap.objs.size + 1, [s1.heap.objs.size + 1, s1.heap.objs.size], _, _, H1, rfl, I2, turn_enum a (s1.heap.objs.size + 1) s1.heap.objs.size, ⟨⟨.none, he⟩, hit, Nat.succ_ne_self _⟩, fun b hb => ?_, q⟩
      have e' : b = s1.heap.objs.size + 1 ∨ b = s1.heap.objs.size := by simpa using hb
      have hle : s1.heap.objs.size ≤ b := by
        rcases e' with z | z
        · rw [z]; exact Nat.le_add_right _ _
        · rw [z]; exact Nat.le_refl _
      exact I1.fpOk hle (I1.hok.fresh hle)
    · obtain ⟨its, rv, p', hz⟩ := I1.tuple hq
      refine DxE.call_enumerate_tuple (items := its.toArray) p' fun h' he hit hsz hk => wpAny_pyIter_enum he ?_
      have I2 : Inv X pins σ H1 { s1 with heap := h' } := I1.kept (t' := s1.toks) hk
      refine ⟨s1.heap.objs.size + 1, [s1.heap.objs.size + 1, s1.heap.objs.size], _, _, H1, rfl, I2, turn_enumT a (s1.heap.objs.size + 1) s1.heap.objs.size, ⟨⟨.none, he⟩, hit, Nat.succ_ne_self _⟩, fun b hb => ?_, q⟩
      have e' : b = s1.heap.objs.size + 1 ∨ b = s1.heap.objs.size := by simpa using hb
      have hle : s1.heap.objs.size ≤ b := by
        rcases e' with z | z
        · rw [z]; exact Nat.le_add_right _ _
        · rw [z]; exact Nat.le_refl _
      exact I1.fpOk hle (I1.hok.fresh hle)
end L2

set_option maxRecDepth 100000
set_option maxHeartbeats 2000000
/-! Dx0c: sorted(tuple of ints). -/
namespace SrtO
open PySem PyProof.Rows Srt
section
variable {prog : Program} {w : World} {A : Around} {E : Value → Shared → Prop} {s : Shared}
theorem collect_tupleX {l : Addr} {vs : List Value} {Q : List Value → Shared → Prop} (hl : s.heap.IsTuple l vs.toArray)
    (h : Q vs { s with heap := (s.heap.push (seqObj "list" #[] 0)).update s.heap.objs.size (Obj.mapSeq (· ++ vs.toArray)) }) (hsz : vs.length ≤ sizeLine) :
    wpAny (model prog w) A (collect (.ref l)) Q E s := by
  obtain ⟨o, ho, hc, n, hd⟩ := id hl
  unfold collect
  refine wpAny_bind (wpAny_runValue (codeAny_builtin entry_proto_collect' ?_))
  show wpAny _ _ (do again (.builtin "list.__iadd__" ⟨[← newList [], .ref l], []⟩)) _ _ s
  refine wpAny_bind (wpAny_newList (wpAny_pure ⟨Code.quiet_builtin _ (by decide +kernel), codeAny_builtin entry_list_iadd' ?_⟩))
  show wpAny _ _ (Builtin.List.listExtendWith (.ref s.heap.objs.size) (.ref l) (.ref s.heap.objs.size)) _ _ { s with heap := s.heap.push (seqObj "list" #[] 0) }
  unfold Builtin.List.listExtendWith
  have ho' : (s.heap.push (seqObj "list" #[] 0)).get? l = some o := Heap.get?_push_of_some _ ho
  refine wpAny_bind (wpAny_typeOf (T := "tuple") ⟨o, ho', hc⟩ ?_)
  have ht : (Value.type "tuple" == Value.type "tuple") = true := by rfl
  rw [if_pos (by rw [ht]; simp)]
  refine wpAny_bind (listItems_at ho' hd ?_)
  refine wpAny_bind (listItems_at (xs := #[]) (n := 0) (Heap.get?_push_size _ rfl) rfl ?_)
  rw [if_neg (by simp)]
  refine wpAny_bind (listUpdate_at (xs := #[]) (n := 0) (Heap.get?_push_size _ rfl) rfl ?_ (Nat.zero_le _) (by show (#[] ++ vs.toArray).size ≤ sizeLine + 1; simp only [Array.size_append, List.size_toArray, List.length_nil]; omega))
  refine wpAny_pure ?_
  show wpAny (model prog w) A (do
      let o ← load s.heap.objs.size
      match o.data with
      | .seq xs _ => pure xs.toList
      | _ => unsupported "internal:collect") Q E { s with heap := (s.heap.push (seqObj "list" #[] 0)).update s.heap.objs.size (Obj.mapSeq (· ++ vs.toArray)) }
  refine wpAny_bind (wpAny_load (get?_update_seq (Heap.get?_push_size _ rfl) _) ?_)
  show wpAny _ _ (pure ((#[] : Array Value) ++ vs.toArray).toList) Q E _
  rw [show ((#[] : Array Value) ++ vs.toArray).toList = vs by simp]
  exact wpAny_pure h
theorem sorted_ordT {l : Addr} {vs : List Value} {ltv : Value → Value → Bool} {Q : Value → Shared → Prop} (O : Swo ltv) (hl : s.heap.IsTuple l vs.toArray) (hz : vs.length ≤ sizeLine)
    (hS : 2 ≤ vs.length → ∀ (h₁ : Heap) (a : Addr), h₁.get? a = some (seqObj "list" vs.toArray 0) → (∀ b o, s.heap.get? b = some o → b ≠ a ∧ h₁.get? b = some o) → SortableO prog w A.in1.in1 { s with heap := h₁ } a vs ltv)
    (h : ∀ out : List Value, Srtd ltv out → Stb ltv out vs → Q (.ref (s.heap.objs.size + 1)) { s with heap := sortedAll s.heap vs out.toArray }) :
    wpAny (model prog w) A (call (.builtin "sorted") [.ref l]) Q E s := by
  refine Calls.call_function_entry kind_sorted plain_sorted entry_sorted (args_sorted1 _) ?_
  unfold Builtin.«sorted»
  refine wpAny_bind (m := checkCount "sorted" 1 1 _) (wpAny_pure ?_)
  refine wpAny_bind (collect_tupleX hl ?_ hz)
  refine wpAny_bind (wpAny_newList ?_ hz)
  have hsz : ((s.heap.push (seqObj "list" #[] 0)).update s.heap.objs.size (Obj.mapSeq (· ++ vs.toArray))).objs.size = s.heap.objs.size + 1 := by
    rw [Heap.size_update, size_push']
  have hoL : (((s.heap.push (seqObj "list" #[] 0)).update s.heap.objs.size (Obj.mapSeq (· ++ vs.toArray))).push (seqObj "list" vs.toArray 0)).get? (s.heap.objs.size + 1) = some (seqObj "list" vs.toArray 0) := by
    rw [← hsz]; exact Heap.get?_push_size _ rfl
  have keep : ∀ b o, s.heap.get? b = some o → b ≠ s.heap.objs.size + 1 ∧ (((s.heap.push (seqObj "list" #[] 0)).update s.heap.objs.size (Obj.mapSeq (· ++ vs.toArray))).push (seqObj "list" vs.toArray 0)).get? b = some o := fun b o q => by
    have hlt : b < s.heap.objs.size := Heap.lt_size q
    refine ⟨Nat.ne_of_lt (Nat.lt_succ_of_lt hlt), Heap.get?_push_of_some _ ?_⟩
    rw [Heap.get?_update_ne _ _ _ _ (Nat.ne_of_lt hlt)]
    exact Heap.get?_push_of_some _ q
  show wpAny _ _ _ _ _ { s with heap := ((s.heap.push (seqObj "list" #[] 0)).update s.heap.objs.size (Obj.mapSeq (· ++ vs.toArray))).push (seqObj "list" vs.toArray 0) }
  rw [hsz]
  refine wpAny_bind (wpAny_holding (wpAny_call_entry slot_list_sort ⟨_, hoL, rfl⟩ entry_list_sort (list_sort_ord O hoL hz (fun h2 => hS h2 _ _ hoL keep) fun out hs hb => ⟨_, rfl, ?_⟩) (args_list_sort _)))
  exact wpAny_pure ⟨_, rfl, h out hs hb⟩
end
end SrtO
namespace L2
open PySem PySem.Spec PyProof.Rows
/-- sorted(t), a tuple of ints -/
def rSortedIT (K : PySem.W.Frag) : List V → Hp → VK → Prop := fun vs H Q => ∃ (a : Addr) (ns : List Int), vs = [V.ref a] ∧ SqT K H a (ns.map V.int) ∧
  ∀ (ns' : List Int) (p : Addr), ns'.Perm ns → ns'.Pairwise (· ≤ ·) → H p = none → Q (.ref p) (upd H p (.lst (ns'.map V.int)))
theorem cr_sortedIT {X : Cx} : CallR X (.builtin "sorted") (rSortedIT X.K) := by
  intro pins s σ H vs us Q I r h
  obtain ⟨a, ns, rfl, hs, q⟩ := h
  obtain ⟨its, rv, hl, hz⟩ := I.tuple hs
  rw [Vals.ref1 r]
  have hi := rv.ints
  refine SrtO.sorted_ordT SrtO.swo_int (vs := its) hl (by rw [← rv.length]; exact hz) (fun h2 h₁ a' _ _ => SrtO.ints_sortable hi h2) fun out h1 h2 => ?_
  obtain ⟨k1, k2, k3⟩ := SrtO.ints_out hi h1 h2
  obtain ⟨ep, he'⟩ := PyProof.Rows.sortedAll_at s.heap its out.toArray
  have hlen : ((out.map SrtO.iv).map V.int).length ≤ sizeLine := by
    rw [List.length_map, k2.length_eq]
    rw [List.length_map] at hz
    exact hz
  exact ⟨.ref _, upd H (s.heap.objs.size + 1) (.lst ((out.map SrtO.iv).map V.int)), I.laid (t' := s.toks) (fun _ _ => PyProof.Rows.sortedAll_old) (Nat.le_succ _) ⟨hlen, out, ep, vals_of_ints k1, he'⟩, rfl, q _ _ k2 k3 (I.hok.fresh (Nat.le_succ _))⟩
end L2

set_option maxRecDepth 100000
set_option maxHeartbeats 4000000
/-! Dx0d: instances of own exception classes over ValueError, LookupError, IndexError: stores, reads, isinstance, making. -/
namespace Dx
open PySem PySem.Spec PyProof.Rows L2
/-- what the written part says of an own exception class -/
structure XcC (K : PySem.W.Frag) (C : Addr) : Prop where
  base : ∃ B newId initId bmB, ExcBaseFacts B newId initId bmB ∧ StoreFacts B bmB "object.__setattr__" "object" ∧ PySem.W.excInitIn K C bmB newId = true ∧ PySem.W.excOver K C bmB = true
  sa : PySem.W.findIn K (.ref C) "__setattr__" = some (some (.builtin "object.__setattr__"))
  tyC : PySem.W.typeIn K (.ref C) = some (.type "type")
  kC : PySem.W.keepIn K (.ref C) = true
  ex : ExcC K C
abbrev leTail : List Value := [.type "LookupError", .type "Exception", .type "BaseException", .type "object"]
abbrev ieTail : List Value := [.type "IndexError", .type "LookupError", .type "Exception", .type "BaseException", .type "object"]
abbrev veTl : List Value := [.type "ValueError", .type "Exception", .type "BaseException", .type "object"]
def xbB (K : PySem.W.Frag) (C : Addr) : Bool := (PySem.W.excInitIn K C veTl "ValueError.__new__" && PySem.W.excOver K C veTl) || (PySem.W.excInitIn K C leTail "LookupError.__new__" && PySem.W.excOver K C leTail) || (PySem.W.excInitIn K C ieTail "IndexError.__new__" && PySem.W.excOver K C ieTail)
def excCB (K : PySem.W.Frag) (C : Addr) : Bool := decide (PySem.W.findIn K (.ref C) "__getattribute__" = some (some (.builtin "BaseException.__getattribute__"))) && (decide (PySem.W.findIn K (.ref C) "__getattr__" = some none) && (decide (PySem.W.subIn K (.ref C) (.type "BaseException") = some true) && (PySem.W.hasDictIn K C &&
  (decide (PySem.W.findIn K (.ref C) "__class__" = some (some (.builtin "object.__class__"))) && (decide (PySem.W.specialIn K (.builtin "object.__class__") "__get__" = some (some (.builtin "getset_descriptor.__get__"))) && (decide (PySem.W.takesIn K (.builtin "object.__class__") = some true) && decide (PySem.W.mroIn K C (.type "object") = some true)))))))
def xcB (K : PySem.W.Frag) (C : Addr) : Bool := xbB K C && (decide (PySem.W.findIn K (.ref C) "__setattr__" = some (some (.builtin "object.__setattr__"))) && (decide (PySem.W.typeIn K (.ref C) = some (.type "type")) && (PySem.W.keepIn K (.ref C) && excCB K C)))
theorem excCB_ok {K : PySem.W.Frag} {C : Addr} (h : excCB K C = true) : ExcC K C := by
  simp only [excCB, Bool.and_eq_true, decide_eq_true_eq] at h
  obtain ⟨h1, h2, h3, h4, h5, h6, h7, h8⟩ := h
  exact ⟨h1, h2, h3, h4, h5, h6, h7, h8⟩
theorem xcB_ok {K : PySem.W.Frag} {C : Addr} (h : xcB K C = true) : XcC K C := by
  simp only [xcB, Bool.and_eq_true, decide_eq_true_eq] at h
  obtain ⟨h1, h2, h3, h4, h5⟩ := h
  refine ⟨?_, h2, h3, h4, excCB_ok h5⟩
  simp only [xbB, Bool.or_eq_true, Bool.and_eq_true] at h1
  rcases h1 with (⟨q1, q2⟩ | ⟨q1, q2⟩) | ⟨q1, q2⟩
  · exact ⟨_, _, _, _, F.excBase_ValueError, F.store_ValueError, q1, q2⟩
  · exact ⟨_, _, _, _, F.excBase_LookupError, F.store_LookupError, q1, q2⟩
  · exact ⟨_, _, _, _, F.excBase_IndexError, F.store_IndexError, q1, q2⟩
end Dx
namespace PySem
namespace OEX
open PySem.W PySem.Calls PyProof.Rows PySem.HandSPX
section
open Builtin Builtin.ObjectAttr
variable {prog : Program} {w : World} {A : Around} {E : Value → Shared → Prop} {R : Result → Shared → Prop} {hp : Heap} {g : Array GenState} {d : Drawn} {t : Nat} {os : OsState}
theorem taker_none {K : W.Frag} {C : Addr} {name : Str} (ha : W.findIn K (.ref C) name = some none) : W.takerIn K C name = some none := by
  unfold W.takerIn
  rw [ha]
  rfl
theorem xosa_new {K : W.Frag} {name : Str} {tk : Tok} {v : Value} {x C : Addr} {fv : Array Value} (T : Dx.XcC K C)
    (X : K.In hp) (hx : hp.get? x = some { cls := .ref C, data := .fields fv }) (ha : W.findIn K (.ref C) name = some none)
    (hq : ∀ h' tk' dx, (∀ b o, b ≠ x → hp.get? b = some o → h'.get? b = some o) → hp.objs.size ≤ dx → dx ≠ x → h'.get? x = some { cls := .ref C, dict := some dx, data := .fields fv } →
      h'.Ns1 dx (fun y => if y = name then some v else none) → R (.ok (.ret .none)) ⟨h', g, d, tk', os⟩) :
    codeAny (model prog w) A (.call (.builtin "object.__setattr__") ⟨[.ref x, .str name tk, v], []⟩) R ⟨hp, g, d, t, os⟩ := by
  obtain ⟨B, newId, initId, bmB, FB, SF, q1, q2⟩ := T.base
  obtain ⟨cd, hcd, hh⟩ := any_some T.ex.hd
  have hxs : x ≠ hp.objs.size := Nat.ne_of_lt (Heap.lt_size hx)
  refine W.osa_openX (s := ⟨hp, g, d, t, os⟩) (od := none) SF X ⟨hx, rfl, rfl, trivial⟩ q2 (taker_none ha) fun b => ?_
  have hcls : W.Looks (model prog w) hp (classData C) cd := W.looks_clsIn X hcd
  show wpAny _ _ (storeInOwnDict (.ref x) (.ref C) (.str name tk) name v b) _ _ _
  obtain ⟨nm, bs, mro, ns, qn, hd, sn, sb, ab, col, del⟩ := cd
  dsimp only at hh
  subst hh
  unfold storeInOwnDict ownDictForStores
  repeat (first | with_reducible refine store_in_new ?_ ?_ | with_reducible refine wpAny_loadPart_at hx ?_ | with_reducible refine hcls.at ?_ | wp_step)
  · exact ⟨_, #[], _, (Heap.get?_update_ne _ _ _ _ hxs.symm).trans (Heap.get?_push_at rfl rfl), rfl, fun e he => absurd he (by simp), fun _ => rfl⟩
  · intro h' tk' hn' hs
    have hx₁ : (hp.push { cls := .type "dict", data := .dict #[] }).get? x = some { cls := .ref C, data := .fields fv } := Heap.get?_push_of_some _ hx
    refine hq h' tk' hp.objs.size (fun b o hb ho => ?_) (Nat.le_refl _) hxs.symm ?_ hn'
    · exact (hs.2 b (Nat.ne_of_lt (Heap.lt_size ho))).trans ((Heap.get?_update_ne _ _ _ _ hb).trans (Heap.get?_push_of_some _ ho))
    · exact (hs.2 x hxs).trans (Heap.get?_update_self _ hx₁ rfl)
theorem xosa_old {K : W.Frag} {name : Str} {tk : Tok} {v : Value} {x C dx : Addr} {fv : Array Value} {m0 : Str → Option Value} {nl : List Str} (T : Dx.XcC K C)
    (X : K.In hp) (hx : hp.get? x = some { cls := .ref C, dict := some dx, data := .fields fv }) (hns : hp.Ns1 dx m0) (hw : Within m0 nl) (hz : nl.length ≤ 1000)
    (ha : W.findIn K (.ref C) name = some none)
    (hq : ∀ h' tk', (∀ b o, b ≠ dx → hp.get? b = some o → h'.get? b = some o) → h'.Ns1 dx (fun y => if y = name then some v else m0 y) → R (.ok (.ret .none)) ⟨h', g, d, tk', os⟩) :
    codeAny (model prog w) A (.call (.builtin "object.__setattr__") ⟨[.ref x, .str name tk, v], []⟩) R ⟨hp, g, d, t, os⟩ := by
  obtain ⟨B, newId, initId, bmB, FB, SF, q1, q2⟩ := T.base
  obtain ⟨cd, hcd, hh⟩ := any_some T.ex.hd
  obtain ⟨oD, esD, epD, hoD, hdD, _⟩ := hns.count hw
  refine W.osa_openX (s := ⟨hp, g, d, t, os⟩) (od := some oD) SF X ⟨hx, rfl, rfl, hoD⟩ q2 (taker_none ha) fun b => ?_
  have hcls : W.Looks (model prog w) hp (classData C) cd := W.looks_clsIn X hcd
  show wpAny _ _ (storeInOwnDict (.ref x) (.ref C) (.str name tk) name v b) _ _ _
  obtain ⟨nm, bs, mro, ns, qn, hd, sn, sb, ab, col, del⟩ := cd
  dsimp only at hh
  subst hh
  unfold storeInOwnDict ownDictForStores
  repeat (first | with_reducible refine store_in_old hns hw hz ?_ | with_reducible refine wpAny_loadPart_at hx ?_ | with_reducible refine hcls.at ?_ | wp_step)
  intro h' tk' hn' hs
  exact hq h' tk' (fun b o hb ho => (hs.2 b hb).trans ho) hn'
end
end OEX
end PySem
namespace PySem.W
open PySem PySem.Spec PySem.Calls PyProof.Rows
section
variable {prog : Program} {w : World} {A : Around} {E : Value → Shared → Prop} {s : Shared} {K : Frag} {x D : Addr} {ox od : Obj}
theorem xkin_class {Q : Option Value → Shared → Prop} (T : L2.ExcC K D) (X : K.In s.heap) (I : InstAt s.heap x ox D (some od)) (h : Q (some (.ref D)) { s with toks := s.toks + 1 }) : wpAny (model prog w) A (getAttr? (.ref x) "__class__") Q E s := by
  have hf : findObj K D (some od) "__class__" = some (.bind (.builtin "getset_descriptor.__get__") (.builtin "object.__class__")) := findObj_data (by obtain ⟨cd, hc, _⟩ := any_some T.hd; rw [hc]; rfl) T.ha T.hn T.ht
  obtain ⟨hp, g, d, t, os⟩ := s
  have L0 := I.type (M := model prog w)
  have L1 := looks_findIn (M := model prog w) X T.hg
  have L2 := looks_findIn (M := model prog w) X T.hk
  have L3 := looks_find (M := model prog w) X I hf
  have sub : Looks (model prog w) hp (isInstance (.ref x) (.type "BaseException")) true := L0.andThen (looks_subIn X T.hs)
  have hx0 : (false && onTheHeap (Value.builtin "BaseException.__getattribute__")) = false := rfl
  have hx2 : (Value.builtin "BaseException.__getattribute__" == Value.builtin "object.__getattribute__") = false := by decide +kernel
  have hx1 : (onTheHeap (Value.ref D) && Value.builtin "BaseException.__getattribute__" == Value.builtin "object.__getattribute__") = false := by rw [hx2]; rfl
  unfold getAttr? getAttrBy? getAttrBy
  refine wpAny_bind (wpAny_mkText (wpAny_bind (wpAny_attempt (wpAny_holding (wpAny_bind (L0.at (wpAny_bind (L1.at ?_))))))))
  show wpAny _ _ (if (onTheHeap (Value.ref D) && Value.builtin "BaseException.__getattribute__" == Value.builtin "object.__getattribute__") = true then _ else _) _ _ _
  rw [hx1, if_neg Bool.false_ne_true]
  unfold getAttrByItsOwn hookBefore
  refine wpAny_bind ?_
  rw [if_pos (show onTheHeap (Value.ref D) = true from rfl)]
  refine L2.at ?_
  refine wpAny_bind (wpAny_attempt (wpAny_holding ?_))
  unfold callGetattribute
  rw [hx0, if_neg Bool.false_ne_true]
  unfold boundAndCalled
  rw [PySem.F.excAttr_ValueError.ga.bind (.ref x)]
  refine wpAny_bind (wpAny_pure ?_)
  show wpAny _ _ (call (.builtin "BaseException.__getattribute__") [.ref x, .str "__class__" t]) _ _ _
  refine wpAny_call (codeAny_call_builtin PySem.F.excAttr_ValueError.ga.plain PySem.F.entry_bexc_ga ?_)
  refine @check_slot (model prog w) _ _ ⟨hp, g, d, t + 1, os⟩ "BaseException.__getattribute__" "BaseException" "__getattribute__" (.ref x) [.str "__class__" t] [] _ (by decide +kernel) (by decide +kernel) sub (PySem.F.args_bexc_ga (.ref x) (.str "__class__" t)) ?_
  unfold Builtin.«object.__getattribute__»
  refine wpAny_bind (wpAny_of_eq (a := ((Value.ref x : Value), [Value.str "__class__" t])) (by first | rfl | (simp only [slotArgs]; rfl)) ?_)
  refine wpAny_bind (wpAny_pure (wpAny_bind (L0.at (wpAny_bind (L3.at ?_)))))
  show wpAny _ _ (holding [Value.builtin "object.__class__"] (call (.builtin "getset_descriptor.__get__") [.builtin "object.__class__", .ref x, .ref D]) >>= ret) _ _ _
  refine wpAny_bind (wpAny_holding (wpAny_call (class_get (s := ⟨hp, g, d, t + 1, os⟩) (ox := ox) (od := some od) X I T.hm ?_)))
  refine wpAny_pure ?_
  show wpAny _ _ (handedOut (.ref D)) _ _ _
  rw [handedOut_of (v := .ref D) rfl]
  first
    | exact wpAny_pure (wpAny_pure h)
    | exact wpAny_pure h
    | exact wpAny_pure (wpAny_bind (wpAny_pure (wpAny_pure h)))
theorem xkit (T : L2.ExcC K D) : KitX K (.ref x) (.ref D) (fun h => InstAt h x ox D (some od)) where
  ty := fun _ _ _ I => I.type
  it := fun _ _ X _ => by
    obtain ⟨cdD, hcD, _⟩ := any_some T.hd
    unfold clsIn at hcD
    split at hcD
    · rename_i c' d' cd' sl' ho
      intro A' Q' E' s' k q
      unfold isType loadHead
      exact wpAny_bind (wpAny_loadPart (k _ _ (X _ _ ho)) (wpAny_pure q))
    · cases hcD
  ne := fun h tp dd its n sl X htp => by
    obtain ⟨cdD, hcD, _⟩ := any_some T.hd
    refine Bool.eq_false_iff.mpr fun q => ?_
    have e : D = tp := Value.ref.inj (beq_iff_eq.mp q)
    subst e
    unfold clsIn at hcD
    split at hcD
    · rename_i c' d' cd' sl' ho
      have z := (X _ _ ho).symm.trans htp
      cases z
    · cases hcD
  ca := fun X I k => xkin_class T X I k
end
end PySem.W

set_option maxRecDepth 100000
set_option maxHeartbeats 4000000
/-! Dx0e: the same, told of the tracked heap. -/
namespace Dx
open PySem PySem.Spec PyProof.Rows L2
section
variable {X : Cx} {pins : List (Addr × Obj)} {σ : L2.St} {H : Hp} {s : Shared} {a C dx : Addr} {f : Str} {y : V} {u : Value} {fs : List (Str × V)} {Q : Unit → Shared → Prop} {E : Value → Shared → Prop} {A : Around}
/-- self.f = y, the first one -/
theorem xst_new (T : XcC X.K C) (I : L2.Inv X pins σ H s) (e : H a = some (exo a C none)) (hno : PySem.W.findIn X.K (.ref C) f = some none) (ry : RelV y u)
    (h : ∀ dx s', H dx = none → dx ≠ a → L2.Inv X pins σ (upd (upd H dx (exd dx [(f, y)])) a (exo a C (some dx))) s' → Q () s') : wpAny (model X.prog X.w) A (setAttr (.ref a) f u) Q E s := by
  obtain ⟨t1, ho⟩ := exo_at I.hok e
  obtain ⟨hp, g, d, t, os⟩ := s
  refine PySem.W.set_plain I.kIn (ox := { cls := .ref C, dict := none, data := .fields #[.ref t1, .none, .none, .none, .bool false, .none] }) (od := none) ⟨ho, rfl, rfl, trivial⟩ T.sa ?_
  refine PySem.OEX.xosa_new T I.kIn ho hno (fun h' tk' dx k dn dne hx hn => ?_)
  have hnd : H dx = none := I.hok.fresh dn
  have nd : ∀ {b : Addr} {o : Obj}, hp.get? b = some o → b ≠ dx := fun {b o} q => Nat.ne_of_lt (Nat.lt_of_lt_of_le (Heap.lt_size q) dn)
  have na : ∀ {b : Addr}, H b = none → b ≠ a := fun {b} n z => by
    rw [z, e] at n
    cases n
  have Un1 : Un X.fs [] H (upd (upd H dx (exd dx [(f, y)])) a (exo a C (some dx))) hp h' := {
    keep := fun b o q n _ _ => k b o (na n) q
    slot := fun b o q n _ _ => ⟨o.slots, k b o (na n) q⟩
    free := fun b o q n _ => by rw [upd_ne (na n), upd_ne (nd q)]; exact n
    there := fun b o q _ => by
      by_cases hb : b = a
      · exact ⟨_, by rw [hb]; exact hx⟩
      · exact ⟨o, k b o hb q⟩
    tups := fun b xs q => by rw [upd_ne (at_ne e q exo_tup), upd_ne (ne_of_none q hnd)]; exact q
    frzs := fun b o v q => by rw [upd_ne (at_ne e q exo_frz), upd_ne (ne_of_none q hnd)]; exact q
    tbls := fun b ps q => ⟨#[], by rw [upd_ne (at_ne e q exo_tbl), upd_ne (ne_of_none q hnd), q]; simp⟩ }
  refine h dx _ hnd dne (I.un (t' := tk') Un1 fun b o q => ?_)
  by_cases hb : b = a
  · subst hb
    rw [upd_same] at q
    cases q
    exact exo_ok hx
  · rw [upd_ne hb] at q
    by_cases hd : b = dx
    · subst hd
      rw [upd_same] at q
      cases q
      exact exd_ok hn (relO_put (fs := []) ry fun g => True.intro)
    · rw [upd_ne hd] at q
      exact (I.hok b o q).stay (fun c v hc z => k c v (by
          rcases hc with hc | hc
          · rw [hc]
            exact hb
          · exact at_ne e hc exo_own) z)
        (fun c hc => by rw [upd_ne (at_ne e hc exo_own), upd_ne (ne_of_none hc hnd)]; exact hc) (fun c xs hc => by rw [upd_ne (at_ne e hc exo_tup), upd_ne (ne_of_none hc hnd)]; exact hc)
/-- self.f = y, a further one -/
theorem xst_old (T : XcC X.K C) (I : L2.Inv X pins σ H s) (e : H a = some (exo a C (some dx))) (ed : H dx = some (exd dx fs)) (hl : fs.length ≤ 900) (hno : PySem.W.findIn X.K (.ref C) f = some none) (ry : RelV y u)
    (h : ∀ s', L2.Inv X pins σ (upd H dx (exd dx ((f, y) :: fs))) s' → Q () s') : wpAny (model X.prog X.w) A (setAttr (.ref a) f u) Q E s := by
  obtain ⟨t1, ho⟩ := exo_at I.hok e
  obtain ⟨mA, hns, rel⟩ := exd_at I.hok ed
  have hw := within_of rel
  obtain ⟨hp, g, d, t, os⟩ := s
  obtain ⟨oD, _, _, hoD, _, _⟩ := hns.count hw
  refine PySem.W.set_plain I.kIn (ox := { cls := .ref C, dict := some dx, data := .fields #[.ref t1, .none, .none, .none, .bool false, .none] }) (od := some oD) ⟨ho, rfl, rfl, hoD⟩ T.sa ?_
  refine PySem.OEX.xosa_old T I.kIn ho hns hw (by rw [List.length_map]; omega) hno (fun h' tk' k hn => ?_)
  have hd : ∃ o, h'.get? dx = some o := by
    obtain ⟨o, _, _, e', _⟩ := hn
    exact ⟨o, e'⟩
  exact h _ (I.write (t' := tk') (x := dx) (e := dx) (o := exd dx ((f, y) :: fs)) (by rw [ed]; exact True.intro) (.inl rfl) k hd (exd_ok hn (relO_put ry rel)))
/-- e.f -/
theorem xget_ok {n : Str} {v : V} {Q : Value → Shared → Prop} {expr : Bool} (T : XcC X.K C) (I : L2.Inv X pins σ H s) (e : H a = some (exo a C (some dx))) (ed : H dx = some (exd dx fs)) (hno : PySem.W.findIn X.K (.ref C) n = some none) (l : fs.lookup n = some v)
    (h : ∀ u s', L2.Inv X pins σ H s' → RelV v u → Q u s') : wpAny (model X.prog X.w) A (getAttr (.ref a) n expr) Q E s := by
  obtain ⟨t1, ho⟩ := exo_at I.hok e
  obtain ⟨mA, hns, rel⟩ := exd_at I.hok ed
  obtain ⟨od, hod, hl⟩ := lookIn_ns hns
  obtain ⟨u, hu, ru⟩ := RelO.some_of (v := v) (o := mA n) (by rw [← l]; exact rel n)
  have J : PySem.W.InstAt s.heap a { cls := .ref C, dict := some dx, data := .fields #[.ref t1, .none, .none, .none, .bool false, .none] } C (some od) := ⟨ho, rfl, rfl, hod⟩
  exact PySem.HandSPX.exc_get I.kIn J T.ex.hg T.ex.hk T.ex.hs (PySem.W.findObj_own T.ex.hd hno rfl (by rw [hl, hu])) (handed_of ru) (h u _ (I.tok _) ru)
/-- isinstance(e, c), e an exception as a value -/
def rIsX (K : PySem.W.Frag) : List V → Hp → VK → Prop := fun xs H Q => ∃ (a D dx : Addr) (fs : List (Str × V)) (c : V) (cv : Value) (b : Bool), xs = [.ref a, c] ∧ XcC K D ∧ H a = some (exo a D (some dx)) ∧ H dx = some (exd dx fs) ∧ (∀ u, RelV c u → u = cv) ∧ PySem.W.kitOne K (.ref D) cv = some b ∧ Q (.bl b) H
theorem call_isX : CallR X (.builtin "isinstance") (rIsX X.K) := by
  intro pins s σ H xs us Q I r h
  obtain ⟨a, D, dx, fs, c, cv, b, rfl, T, ea, ed, hcv, e, q⟩ := h
  cases r with
  | cons rx rr =>
    cases rr with
    | cons rt rr =>
      cases rr
      cases rx
      have ec := hcv _ rt
      subst ec
      obtain ⟨t1, ho⟩ := exo_at I.hok ea
      obtain ⟨mA, hns, rel⟩ := exd_at I.hok ed
      obtain ⟨od, hod, hl⟩ := lookIn_ns hns
      have J : PySem.W.InstAt s.heap a { cls := .ref D, dict := some dx, data := .fields #[.ref t1, .none, .none, .none, .bool false, .none] } D (some od) := ⟨ho, rfl, rfl, hod⟩
      exact PySem.W.kia_one (PySem.W.xkit T.ex) I.kIn J e (fun z => nomatch z) fun tk => ⟨.bl b, H, I.kept (t' := tk) fun _ _ z => z, rfl, q⟩
/-- C(..): a new exception, as a value; init: what its __init__ makes of it -/
theorem xmake_ok {fI : Addr} {us : List Value} {Q : Value → Shared → Prop} {R : V → Hp → Prop} (T : XcC X.K C) (iC : PySem.W.findIn X.K (.ref C) "__init__" = some (some (.ref fI))) (tI : PySem.W.typeIn X.K (.ref fI) = some (.type "function")) (hus : us.length ≤ sizeLine)
    (I : L2.Inv X pins σ H s) {CXx : Value → Shared → Prop}
    (run : ∀ a s', H a = none → L2.Inv X pins σ (upd H a (exo a C none)) s' → codeAny (model X.prog X.w) (X.A.under (.builtin "type.__call__" ⟨.ref C :: us, []⟩)) (.call (.ref fI) ⟨.ref a :: us, []⟩) (PySem.W.InitBack a fun r s' => match r with | .ok (.ret v) => Q v s' | .ok _ => False | .error x => E x s') s') :
    wpAny (model X.prog X.w) X.A (call (.ref C) us) Q E s := by
  obtain ⟨B, newId, initId, bmB, FB, SF, q1, q2⟩ := T.base
  obtain ⟨hp, g, dr, tk, os⟩ := s
  obtain ⟨nm, N', qn, bs, bm, hdct, sn, sub, ab, col, dd, k0, k1, k2, k3, k5, hC, hT⟩ := PySem.W.excInit_of (h := hp) I.kIn q1
  have hsz : hp.objs.size ≤ hp.objs.size + 1 := Nat.le_succ _
  have hn : H (hp.objs.size + 1) = none := I.hok.fresh hsz
  have kk : ∀ b o, hp.get? b = some o → ((hp.push (PySem.W.kdv_tup us)).push (PySem.HandSPX.excO C hp.objs.size)).get? b = some o := fun b o e => Heap.get?_push_of_some _ (Heap.get?_push_of_some _ e)
  have hget : ((hp.push (PySem.W.kdv_tup us)).push (PySem.HandSPX.excO C hp.objs.size)).get? (hp.objs.size + 1) = some (PySem.HandSPX.excO C hp.objs.size) := by heap_get
  have I2 : L2.Inv X pins σ (upd H (hp.objs.size + 1) (exo (hp.objs.size + 1) C none)) ⟨(hp.push (PySem.W.kdv_tup us)).push (PySem.HandSPX.excO C hp.objs.size), g, dr, tk, os⟩ :=
    I.laid (t' := tk) (a := hp.objs.size + 1) (o := exo (hp.objs.size + 1) C none) (h' := (hp.push (PySem.W.kdv_tup us)).push (PySem.HandSPX.excO C hp.objs.size)) kk hsz (exo_ok hget)
  exact wpAny_call (PySem.HandSPX.call_own FB hT hC (PySem.W.looks_findIn I.kIn iC) (fun self => PySem.W.bind_fn I.kIn self tI) hus (codeAny_mono (run _ _ hn I2) fun r s' z => z))
end
end Dx

set_option maxRecDepth 100000
set_option maxHeartbeats 2000000
/-! Dx14: try: .. / except x as n: .. / except (y, z) as n: .. -/
namespace Dx
open PySem PySem.Spec PyProof.Rows L2
theorem flying_keeps {base h h' : Heap} {l : List Env} {e : Addr} {Z : Obj → Prop} (k : ∀ b o, h.get? b = some o → h'.get? b = some o) (f : HandSPX.FlyingZ base l e Z h) : HandSPX.FlyingZ base l e Z h' := by
  obtain ⟨f1, f2, f3, oe, vs, T, oT, ts, g1, g2, g3, g4, g5, g6, g7, g8, g9⟩ := f
  exact ⟨fun b o q => k b o (f1 b o q), f2, Heap.FunFrames.of_keeps (fun b o q _ => ⟨o, k b o q, rfl⟩) f3, oe, vs, T, oT, ts, k _ _ g1, g2, g3, g4, g5, g6, k _ _ g7, g8, g9⟩
/-- what a clause's test answers of an exception of the class cls -/
def TestA (X : Cx) (e : Expr) (m : Value → Option Bool) : Prop := ∀ (cls : Value) (b : Bool), m cls = some b → ∀ (a : Addr) (oe : Obj) (pn : List (Addr × Obj)) (σ : L2.St) (H : Hp) (s : Shared) (A2 : Around) (Q : Bool → Shared → Prop) (E E2 : Value → Shared → Prop),
  L2.Inv (X.suite a ((a, oe) :: pn)) [] σ H s → PySem.W.Looks (model X.prog X.w) s.heap (typeOf (.ref a)) cls → (∀ h', (∀ q o, s.heap.get? q = some o → h'.get? q = some o) → Q b { s with heap := h' }) →
  wpAny (model X.prog X.w) (X.A.mark (some (.ref a))) (eval e X.env) (fun c s1 => wpAny (model X.prog X.w) A2 (excMatches (.ref a) c) Q E2 s1) E s
theorem name_ok {X : Cx} {x : Str} {c : Value} {np : Pos} (hc : L2.Names X x c) {a : Addr} {oe : Obj} {pn : List (Addr × Obj)} {σ : L2.St} {H : Hp} {s : Shared} {Q : Value → Shared → Prop} {E : Value → Shared → Prop} (S : L2.Inv (X.suite a ((a, oe) :: pn)) [] σ H s) (q : Q c s) :
    wpAny (model X.prog X.w) (X.A.mark (some (.ref a))) (eval (.Name x np) X.env) Q E s := by
  obtain ⟨hg, hdbg, hm | ⟨hm, hv, hnn⟩⟩ := hc
  · exact ld_glob (X := X.suite a ((a, oe) :: pn)) S hg hm q hdbg
  · exact ld_blt (X := X.suite a ((a, oe) :: pn)) S hg hm hv q hnn hdbg
theorem test_one {X : Cx} {x : Str} {c : Value} {np : Pos} (hc : L2.Names X x c) : TestA X (.Name x np) (fun cls => PySem.W.exmOne X.K cls c) := by
  intro cls b hb a oe pn σ H s A2 Q E E2 S LT q
  have LM := PySem.W.exm_one (M := model X.prog X.w) S.kIn LT hb
  refine name_ok hc S (LM.here ?_)
  have z := q s.heap fun _ _ z => z
  exact z
theorem test_two {X : Cx} {x1 x2 : Str} {c1 c2 : Value} {p1 p2 p3 : Pos} {kk : Nat} (h1 : L2.Names X x1 c1) (h2 : L2.Names X x2 c2) : TestA X (.Tuple [.Name x1 p1, .Name x2 p2] kk p3) (fun cls => PySem.W.exmAny X.K cls [c1, c2]) := by
  intro cls b hb a oe pn σ H s A2 Q E E2 S LT q
  refine wpAny_Tuple ?_
  refine wpAny_items_cons (name_ok h1 S ?_)
  refine wpAny_items_cons (name_ok h2 S ?_)
  refine wpAny_items_nil ⟨by size_fits, ?_⟩
  have kp : ∀ q o, s.heap.get? q = some o → (s.heap.push { cls := .type "tuple", data := .seq [c1, c2].toArray }).get? q = some o := fun _ _ z => Heap.get?_push_of_some _ z
  exact (PySem.W.exm_tup2 (PySem.W.Frag.In.keeps S.kIn kp) (LT.keeps kp) (Heap.get?_push_size s.heap rfl) hb).here (q _ kp)
abbrev ClA : Type := (Value → Option Bool) × (Addr → Value → Option Addr → TS)
/-- what the clauses wish of an exception of the body, slot i the name's -/
def wAsM (i : Nat) (Wout : WX) (D : Ends) : List ClA → WX
  | [] => Wout
  | (m, ts) :: r => fun cls d σ H => ∃ b, m cls = some b ∧ (b = true → ∀ a, H a = none → ts a cls d { nx := fun σ' H' => D.nx (σ'.set i none) H', rt := D.rt, bk := fun σ' H' => D.bk (σ'.set i none) H', ct := fun σ' H' => D.ct (σ'.set i none) H' } (σ.set i (some (.ref a))) H) ∧
    (b = false → wAsM i Wout D r cls d σ H)
inductive HdsA (X : Cx) (n : Str) : List ExceptHandler → List ClA → Prop
  | nil : HdsA X n [] []
  | cons {e : Expr} {m : Value → Option Bool} {ts : Addr → Value → Option Addr → TS} {b₀ : Stmt} {suite : List Stmt} {pos' : Pos} {hds : List ExceptHandler} {l : List ClA} (hc : TestA X e m)
      (hsu : ∀ (a : Addr) (oe : Obj) (cls : Value) (d : Option Addr) (pn : List (Addr × Obj)), Zc cls d oe → (∃ vs, oe.data = .fields vs) → PSs (X.suite a ((a, oe) :: pn)) (b₀ :: suite) (ts a cls d)) (r : HdsA X n hds l) :
      HdsA X n (.ExceptHandler (some e) (some n) (b₀ :: suite) pos' :: hds) ((m, ts) :: l)
section
variable {X : Cx} {n : Str} {i : Nat} {body : List Stmt} {h₀ : ExceptHandler} {hds : List ExceptHandler} {l : List ClA} {pos : Pos} {tb : WX → TS} {Wout : WX}
theorem ps_try_asM (hs : X.stack = X.env :: X.outer) (hf : X.env.frame = some X.env.locals) (hN : X.N.Nodup) (hi : X.N[i]? = some n) (hln : X.env.kindOf n = some .local) (tk : Takes X Wout)
    (hb : ∀ (W : WX) (pn : List (Addr × Obj)) (xe : Value → Shared → Prop), Takes (X.tr pn xe) W → PassesOwn (model X.prog X.w) X.A X.env xe → PSs (X.tr pn xe) body (tb W))
    (hh : HdsA X n (h₀ :: hds) l) : PS X (.Try body (h₀ :: hds) [] [] pos) (fun D σ H => tb (wAsM i Wout D l) D σ H) := by
  refine ⟨fun pins s σ H D I h => ?_⟩
  have ok := I.ok
  have hfr : X.A.frames = some (X.env :: X.outer) := by rw [ok.frames, hs]
  have hloc : L2.Loc X.env.scope n := .inl hln
  refine wpAny_Try_except ?_
  refine wpAny_mono ((hb (wAsM i Wout D l) (X.pn ++ pins) (fun e s₁ => wpAny (model X.prog X.w) X.A (noteFrame e X.env) (fun _ s₂ => wpAny (model X.prog X.w) X.A (setFlight e none) (fun _ s₃ =>
    wpAny (model X.prog X.w) X.A (handleBy e X.env (h₀ :: hds)) (SP X pins D) X.xe s₃) X.xe s₂) X.xe s₁) (fun u s' xx => ?_) PassesOwn.looking).run [] s σ H D (I.toTry _) h) (fun f s1 hsp => ?_) (fun e s1 he => he)
  · obtain ⟨a, B, sI, pins', σ', H', cls, d, rfl, J', nb, up, sky, na, os, ag, w⟩ := xx
    have J : L2.Inv X pins σ' H' sI := J'.ofTry ok
    have sky' : Sky B (X.env :: X.outer) a (Zc cls d) X.env.locals s'.heap := by rw [← hs]; exact sky
    show wpAny (model X.prog X.w) X.A (noteFrame (.ref a) X.env) _ _ _
    refine Sky.land Zc.steady hfr hf sky' fun h3 fl3 up3 => ?_
    have notFr : ∀ {h : Heap} {o : Obj} {vs : Array Value}, h.FunFrames B (X.env :: X.outer) → h.get? a = some o → o.data = .fields vs → a ∉ frs (X.env :: X.outer) := fun {h o vs} ff e dd hm => by
      obtain ⟨_, o', e', hnf⟩ := ff.mem hm
      rw [e] at e'; cases e'
      exact hnf _ dd
    obtain ⟨oe0, vs0, he0, hz0, hd0⟩ := fl3.there
    have nfr := notFr fl3.2.2.1 he0 hd0
    have nL : a ≠ X.env.locals := fun z => nfr (List.mem_filterMap.mpr ⟨X.env, List.mem_cons_self, by rw [hf, z]⟩)
    have nF : a ∉ X.fs := fun hm => by
      obtain ⟨e, he, q⟩ := List.mem_filterMap.mp hm
      exact nfr (List.mem_filterMap.mpr ⟨e, List.mem_cons_of_mem _ he, q⟩)
    have go : ∀ {hds' : List ExceptHandler} {l' : List ClA}, HdsA X n hds' l' → ∀ h3 : Heap, HandSPX.FlyingZ B (X.env :: X.outer) a (Zc cls d) h3 → sI.heap.UpToSlots h3 → wAsM i Wout D l' cls d σ' H' →
        wpAny (model X.prog X.w) X.A (handleBy (.ref a) X.env hds') (SP X pins D) X.xe { s' with heap := h3 } := by
      intro hds' l' hk
      induction hk with
      | nil =>
        intro h3 fl3 up3 w
        refine wpAny_handleBy_nil ?_
        obtain ⟨k1, k2, k3, oe, vs, T, oT, ts', he, hz, hd, h1, hr⟩ := id fl3
        unfold PySem.passOn
        refine wpAny_bind (wpAny_field he hd h1 ?_)
        rw [if_neg (show ¬ ((Value.ref T == Value.none) = true) from by simp)]
        have fin : wpAny (model X.prog X.w) X.A (setFlight (.ref a) X.env.frame) (fun _ s4 => wpAny (model X.prog X.w) X.A (throw (.ref a) : Sem Flow) (SP X pins D) X.xe s4) X.xe { s' with heap := h3 } := by
          rw [hf]
          refine HandSPX.setFlight_upZ fl3 fun h4 hh4 up4 => wpAny_throw (tk _ _ ?_)
          exact ⟨a, B, sI, pins, σ', H', cls, d, rfl, J, nb, up3.trans up4, .inr (.inr (by rw [hs]; exact hh4)), na, os, ag, w⟩
        first
          | exact wpAny_bind (wpAny_pure (wpAny_bind fin))
          | exact wpAny_bind fin
      | @cons e m ts b₀ suite pos' hds2 l2 hc hsu r ih =>
        intro h3 fl3 up3 w
        obtain ⟨b, hb1, hyes, hno⟩ := w
        have J3 : L2.Inv X pins σ' H' { s' with heap := h3 } := J.landed nb fl3.1 up3 os ag
        obtain ⟨oe3, vs3, he3, hz3, hd3⟩ := fl3.there
        have S3 := J3.suite he3 hd3 na nL nF
        refine wpAny_handleBy_cons (codeAny_handlers_test ?_) (by intro q; cases q)
        have LT : PySem.W.Looks (model X.prog X.w) h3 (typeOf (.ref a)) cls := fun A Q E s k q => wpAny_typeOf_ref (k _ _ he3) (by rw [hz3.1]; exact q)
        refine hc cls b hb1 a oe3 (X.pn ++ pins) σ' H' _ _ _ _ _ S3 LT fun h5 k5 => ?_
        have fl5 := flying_keeps k5 fl3
        have up5 : sI.heap.UpToSlots h5 := up3.trans fun b o q _ => ⟨o.slots, k5 b o q⟩
        cases b with
        | true =>
          refine codeAny_handlers_suite_as ?_
          refine HandSPX.lands_againZ fl5 fun h4 fl4 up4 => ?_
          have J4 : L2.Inv X pins σ' H' { s' with heap := h4 } := J.landed nb fl4.1 (up5.trans up4) os ag
          obtain ⟨oe4, vs4, he4, hz4, hd4⟩ := fl4.there
          have S4 := J4.suite he4 hd4 na nL nF
          refine store_ok (X := X.suite a ((a, oe4) :: (X.pn ++ pins))) (v := .ref a) S4 hN hi hloc rfl (fun s5 S5 => ?_) (.inr hln)
          refine wpAny_mono ((hsu a oe4 cls d (X.pn ++ pins) hz4 ⟨_, hd4⟩).run [] s5 _ H' _ S5 (hyes rfl a na)) (fun f s6 hsp => ?_) (fun _ _ z => False.elim z)
          have end_ : ∀ {σ6 : L2.St} {H6 : Hp} {Q : Shared → Prop}, L2.Inv (X.suite a ((a, oe4) :: (X.pn ++ pins))) [] σ6 H6 s6 → (∀ s7, L2.Inv X pins (σ6.set i none) H6 s7 → Q s7) →
              wpAny (model X.prog X.w) X.A (do bindName X.env n .none; unbindBehindTheSuite X.env n pos') (fun _ s7 => Q s7) X.xe s6 := fun {σ6 H6 Q} S6 hq => gone_ok (S6.unsuite ok) hN hi hln hq
          cases f with
          | next =>
            obtain ⟨σ6, H6, S6, q6⟩ := hsp
            exact end_ S6 fun s7 J7 => ⟨_, _, J7, q6⟩
          | brk =>
            obtain ⟨σ6, H6, S6, q6⟩ := hsp
            exact end_ S6 fun s7 J7 => ⟨_, _, J7, q6⟩
          | cont =>
            obtain ⟨σ6, H6, S6, q6⟩ := hsp
            exact end_ S6 fun s7 J7 => ⟨_, _, J7, q6⟩
          | ret u =>
            obtain ⟨v6, σ6, H6, S6, r6, q6⟩ := hsp
            exact end_ S6 fun s7 J7 => ⟨_, _, _, J7, r6, q6⟩
        | false =>
          show wpAny _ X.A (handleBy (.ref a) X.env hds2) _ _ _
          exact ih h5 fl5 up5 (hno rfl)
    exact go hh h3 fl3 (up.trans up3) w
  · cases f with
    | next =>
      obtain ⟨σ', H', J', q⟩ := hsp
      exact wpAny_execs_nil ⟨σ', H', J'.ofTry ok, q⟩
    | brk =>
      obtain ⟨σ', H', J', q⟩ := hsp
      exact ⟨σ', H', J'.ofTry ok, q⟩
    | cont =>
      obtain ⟨σ', H', J', q⟩ := hsp
      exact ⟨σ', H', J'.ofTry ok, q⟩
    | ret u =>
      obtain ⟨v, σ', H', J', r, q⟩ := hsp
      exact ⟨v, σ', H', J'.ofTry ok, r, q⟩
end
end Dx

set_option maxRecDepth 100000
set_option maxHeartbeats 2000000
/-! Dx15: own exceptions, made and raised. -/
namespace Dx
open PySem PySem.Spec PyProof.Rows L2
/-- self.f = e -/
def tXst (K : PySem.W.Frag) (f : Str) (to te : TE) : TS := fun D σ H => te σ H fun y H1 => to σ H1 fun x H2 => ∃ a C : Addr, x = .ref a ∧ XcC K C ∧ PySem.W.findIn K (.ref C) f = some none ∧
  ((H2 a = some (exo a C none) ∧ ∀ dx, H2 dx = none → dx ≠ a → D.nx σ (upd (upd H2 dx (exd dx [(f, y)])) a (exo a C (some dx)))) ∨
    ∃ (dx : Addr) (fs : List (Str × V)), H2 a = some (exo a C (some dx)) ∧ H2 dx = some (exd dx fs) ∧ fs.length ≤ 900 ∧ D.nx σ (upd H2 dx (exd dx ((f, y) :: fs))))
theorem ps_xst {X : Cx} {o e : Expr} {to te : TE} {f : Str} {p' pos : Pos} (ho : PE X o to) (he : PE X e te) (hs : swapsWith e (some (.Attribute o f p')) pos.line X.env = pure false := by rfl) : PS X (.Assign [.Attribute o f p'] e pos) (tXst X.K f to te) := by
  refine ⟨fun pins s σ H D I h => ?_⟩
  refine plainObj_wpAny_Assign_Attribute (thn (he.run pins s σ H _ I h) fun v s1 ⟨y, H1, I1, r1, q1⟩ => thn (ho.run pins s1 σ H1 _ I1 q1) fun u s2 ⟨x, H2, I2, r2, a, C, ex, T, hno, q⟩ => ?_) hs
  subst ex
  obtain rfl : u = Value.ref a := r2
  rcases q with ⟨ea, q⟩ | ⟨dx, fs, ea, ed, hl, q⟩
  · exact xst_new T I2 ea hno r1 fun dx s' n ne J => ⟨σ, _, J, q dx n ne⟩
  · exact xst_old T I2 ea ed hl hno r1 fun s' J => ⟨σ, _, J, q⟩
/-- the fields of a made exception -/
def fsI (tag : Str) : Option Str → List V → List (Str × V)
  | some f, [v] => [(f, v), ("tag", .str tag)]
  | _, _ => [("tag", .str tag)]
def nI : Option Str → Nat
  | none => 0
  | some _ => 1
/-- what C's __init__ does -/
def spIni (C : Addr) (tag : Str) (fo : Option Str) : Sp := fun vs H Q _ => ∃ (a : Addr) (as : List V), vs = .ref a :: as ∧ as.length = nI fo ∧ H a = some (exo a C none) ∧ ∀ dx, H dx = none → dx ≠ a → Q .non (upd (upd H dx (exd dx (fsI tag fo as))) a (exo a C (some dx)))
def parOk (sc : Scope) (y : Str) : Bool := (match sc.names.lookup y with
  | some .local => true
  | some .cell => true
  | _ => false) && y != ("__debug__" : Str) && y != ("__classdict__" : Str)
/-- the text of such an __init__ -/
def iniB (ps : List Str) (sc : Scope) (tag : Str) (fo : Option Str) (body : List Stmt) : Bool := match ps, fo, body with
  | [x], none, [.Assign [.Attribute (.Name y _) n _] (.Constant (.str t) _ _) _] => decide (y = x) && decide (n = ("tag" : Str)) && decide (t = tag) && parOk sc x
  | [x, z], some f, [.Assign [.Attribute (.Name y _) n _] (.Constant (.str t) _ _) _, .Assign [.Attribute (.Name y2 _) n2 _] (.Name z2 _) _] =>
    decide (y = x) && decide (n = ("tag" : Str)) && decide (t = tag) && parOk sc x && decide (y2 = x) && decide (n2 = f) && decide (z2 = z) && parOk sc z
  | _, _, _ => false
theorem parOk_ok {sc : Scope} {y : Str} (h : parOk sc y = true) : Vis sc y ∧ (y == ("__debug__" : Str)) = false ∧ (y == ("__classdict__" : Str)) = false := by
  simp only [parOk, Bool.and_eq_true, bne_iff_ne, ne_eq] at h
  obtain ⟨⟨h1, h2⟩, h3⟩ := h
  refine ⟨?_, by simpa using h2, by simpa using h3⟩
  split at h1
  · exact .inl (by assumption)
  · exact .inr (.inl (by assumption))
  · cases h1
theorem upd_swap2 {H : Hp} {dx a : Addr} {u1 u2 v : HO} (h : dx ≠ a) : upd (upd (upd H dx u1) a v) dx u2 = upd (upd H dx u2) a v := by
  funext b
  by_cases h1 : b = dx
  · subst h1
    rw [upd_same, upd_ne h, upd_same]
  · by_cases h2 : b = a
    · subst h2
      rw [upd_ne h1, upd_same, upd_same]
    · rw [upd_ne h1, upd_ne h2, upd_ne h1, upd_ne h2, upd_ne h1]
section
variable {P : Program} {w : World} {K : PySem.W.Frag} {mg : Str → Option Value} {base : Heap} {x qual : Str} {params : Arguments} {body : List Stmt} {scope : Scope} {fI C : Addr} {fd : FuncData} {ps : List Str} {tag : Str} {fo : Option Str} {CX : CXT}
theorem init_fn (F : FunD K x qual params body scope [] [] fI fd) (S : FnScope ps ps scope) (hb : iniB ps scope tag fo body = true) (T : XcC K C) (hno1 : PySem.W.findIn K (.ref C) "tag" = some none) (hno2 : ∀ f, fo = some f → PySem.W.findIn K (.ref C) f = some none) :
    FnOk P w K mg base CX 1 fI fd ps (spIni C tag fo) := by
  unfold iniB at hb
  split at hb
  · rename_i ps x0 y p1 n p2 t j p3 p4
    simp only [Bool.and_eq_true, decide_eq_true_eq] at hb
    obtain ⟨⟨⟨rfl, rfl⟩, rfl⟩, h4⟩ := hb
    obtain ⟨v1, v2, v3⟩ := parOk_ok h4
    refine F.ok S (fun vs H Q E ⟨a, as, e, l, _⟩ => by rw [e]; simp [nI] at l; simp [l]) fun cdv A outer s H vs Q E hr ⟨a, as, e, l, ea, q⟩ => ?_
    have l0 : as = [] := by simpa [nI] using l
    subst l0 e
    refine ⟨_, pss_one (ps_xst (pe_var (i := 0) rfl v1 v2 v3) pe_str), ?_⟩
    refine ⟨.ref a, rfl, a, C, rfl, T, hno1, .inl ⟨ea, fun dx h1 h2 => q dx h1 h2⟩⟩
  · rename_i ps x0 z f y p1 n p2 t j p3 p4 y2 p5 n2 p6 z2 p7 p8
    simp only [Bool.and_eq_true, decide_eq_true_eq] at hb
    obtain ⟨⟨⟨⟨⟨⟨⟨rfl, rfl⟩, rfl⟩, h4⟩, rfl⟩, rfl⟩, rfl⟩, h8⟩ := hb
    obtain ⟨v1, v2, v3⟩ := parOk_ok h4
    obtain ⟨w1, w2, w3⟩ := parOk_ok h8
    refine F.ok S (fun vs H Q E ⟨a, as, e, l, _⟩ => by rw [e]; simp [nI] at l; simp [l]) fun cdv A outer s H vs Q E hr ⟨a, as, e, l, ea, q⟩ => ?_
    obtain ⟨v, rfl⟩ : ∃ v, as = [v] := List.length_eq_one_iff.mp (by simpa [nI] using l)
    subst e
    refine ⟨_, pss_cons (ps_xst (pe_var (i := 0) rfl v1 v2 v3) pe_str) (pss_one (ps_xst (pe_var (i := 0) rfl v1 v2 v3) (pe_var (i := 1) rfl w1 w2 w3))), ?_⟩
    refine ⟨.ref a, rfl, a, C, rfl, T, hno1, .inl ⟨ea, fun dx h1 h2 => ?_⟩⟩
    refine ⟨v, rfl, .ref a, rfl, a, C, rfl, T, hno2 _ rfl, .inr ⟨dx, [("tag", .str t)], upd_same, by rw [upd_ne h2, upd_same], by simp, ?_⟩⟩
    rw [upd_swap2 h2]
    exact q dx h1 h2
  · cases hb
/-- what an init needs -/
structure IniOk (P : Program) (w : World) (K : PySem.W.Frag) (mg : Str → Option Value) (base : Heap) (CX : CXT) (C : Addr) (tag : Str) (fo : Option Str) : Prop where
  ex : ∃ (fI : Addr) (fd : FuncData) (ps : List Str), PySem.W.findIn K (.ref C) "__init__" = some (some (.ref fI)) ∧ PySem.W.typeIn K (.ref fI) = some (.type "function") ∧ FnOk P w K mg base CX 1 fI fd ps (spIni C tag fo) ∧ L2.Binds K fd ps [] ∧ ps.length = nI fo + 1
end
section
variable {X : Cx} {pins : List (Addr × Obj)} {σ : L2.St} {C : Addr} {tag : Str} {fo : Option Str}
theorem nocx {P : Program} {w : World} {outer : List PySem.Env} {H : Hp} {s : Shared} {e : Value} {s' : Shared} (h : L2.CX P w outer H s (fun _ _ _ => False) e s') : False := by
  obtain ⟨_, _, _, _, _, _, _, _, _, _, _, _, z⟩ := h
  exact z
theorem pmk_fin (T : XcC X.K C) (Io : IniOk X.prog X.w X.K X.mg X.base (L2.CX X.prog X.w) C tag fo) (hr : Room 2 X.A) {s1 : Shared} {H1 : Hp} {us : List Value} {vs : List V} {Q : XK} (I1 : L2.Inv X pins σ H1 s1) (r1 : Vals vs us) (hl : vs.length = nI fo)
    (q : ∀ d, H1 d = none → Q (.ref C) (some d) (upd H1 d (.xd (fsI tag fo vs)))) : wpAny (model X.prog X.w) X.A (call (.ref C) us) (L2.MkP X pins σ Q) X.xe s1 := by
  obtain ⟨fI, fd, ps, iC, tI, F1, hb, hps⟩ := Io.ex
  obtain ⟨B, newId, initId, bmB, FB, SF, q1, q2⟩ := T.base
  obtain ⟨hp, g, dr, tk, os⟩ := s1
  obtain ⟨nm, N', qn, bs, bm, hdct, sn, sub, ab, col, dd, k0, k1, k2, k3, k5, hC, hT⟩ := PySem.W.excInit_of (h := hp) I1.kIn q1
  have hsz : hp.objs.size ≤ hp.objs.size + 1 := Nat.le_succ _
  have hn : H1 (hp.objs.size + 1) = none := I1.hok.fresh hsz
  have kk : ∀ b o, hp.get? b = some o → ((hp.push (PySem.W.kdv_tup us)).push (PySem.HandSPX.excO C hp.objs.size)).get? b = some o := fun b o e => Heap.get?_push_of_some _ (Heap.get?_push_of_some _ e)
  have hget : ((hp.push (PySem.W.kdv_tup us)).push (PySem.HandSPX.excO C hp.objs.size)).get? (hp.objs.size + 1) = some (PySem.HandSPX.excO C hp.objs.size) := by heap_get
  have I2 : L2.Inv X pins σ (upd H1 (hp.objs.size + 1) (exo (hp.objs.size + 1) C none)) ⟨(hp.push (PySem.W.kdv_tup us)).push (PySem.HandSPX.excO C hp.objs.size), g, dr, tk, os⟩ :=
    I1.laid (t' := tk) (a := hp.objs.size + 1) (o := exo (hp.objs.size + 1) C none) (h' := (hp.push (PySem.W.kdv_tup us)).push (PySem.HandSPX.excO C hp.objs.size)) kk hsz (exo_ok hget)
  have r2 : Vals (V.ref (hp.objs.size + 1) :: vs) (Value.ref (hp.objs.size + 1) :: us) := .cons rfl r1
  have hlu : us.length = nI fo := by rw [← r1.length]; exact hl
  have hus : us.length ≤ sizeLine := by
    rw [hlu, sizeLine_eq]
    cases fo <;> simp [nI]
  have hbb : (Value.ref (hp.objs.size + 1) :: us ++ []).length = ps.length := by simp [hlu, hps]
  have b := hb ⟨(hp.push (PySem.W.kdv_tup us)).push (PySem.HandSPX.excO C hp.objs.size), g, dr, tk, os⟩ (Value.ref (hp.objs.size + 1) :: us) I2.kIn hbb
  rw [List.append_nil] at b
  have hq : spIni C tag fo (V.ref (hp.objs.size + 1) :: vs) (upd H1 (hp.objs.size + 1) (exo (hp.objs.size + 1) C none)) (fun v H2 => v = .non ∧ ∃ d, H1 d = none ∧ d ≠ hp.objs.size + 1 ∧ H2 = upd (upd (upd H1 (hp.objs.size + 1) (exo (hp.objs.size + 1) C none)) d (exd d (fsI tag fo vs))) (hp.objs.size + 1) (exo (hp.objs.size + 1) C (some d))) (fun _ _ _ => False) :=
    ⟨_, _, rfl, hl, upd_same, fun dx h1 h2 => ⟨rfl, dx, by rw [upd_ne h2] at h1; exact h1, h2, rfl⟩⟩
  refine wpAny_call (PySem.HandSPX.call_own FB hT hC (PySem.W.looks_findIn I1.kIn iC) (fun self => PySem.W.bind_fn I1.kIn self tI) hus
    (codeAny_mono (F1.run _ X.stack _ _ ⟨Value.ref (hp.objs.size + 1) :: us, []⟩ (Value.ref (hp.objs.size + 1) :: us) _ _ (fun _ _ _ => False) (hr.make C us []) (I2.env0.make C us []) b r2 hq) fun r s' hq' => ?_))
  cases r with
  | error er => exact (nocx hq').elim
  | ok fl =>
    cases fl with
    | ret u =>
      obtain ⟨v, H2, os2, bare2, un2, hok2, rv, ev, d, hd1, hne, e2⟩ := hq'
      subst ev e2
      obtain ⟨h2, g2, d2, t2, os'⟩ := s'
      have ea : (upd (upd (upd H1 (hp.objs.size + 1) (exo (hp.objs.size + 1) C none)) d (exd d (fsI tag fo vs))) (hp.objs.size + 1) (exo (hp.objs.size + 1) C (some d))) (hp.objs.size + 1) = some (exo (hp.objs.size + 1) C (some d)) := upd_same
      have ed : (upd (upd (upd H1 (hp.objs.size + 1) (exo (hp.objs.size + 1) C none)) d (exd d (fsI tag fo vs))) (hp.objs.size + 1) (exo (hp.objs.size + 1) C (some d))) d = some (exd d (fsI tag fo vs)) := by rw [upd_ne hne, upd_same]
      refine ⟨rv, mk_end (raises_own T.ex.hs T.tyC) I1 hsz kk un2 hok2 os2 bare2 ea ed hd1 ?_⟩
      have eH : upd (del (upd (upd (upd H1 (hp.objs.size + 1) (exo (hp.objs.size + 1) C none)) d (exd d (fsI tag fo vs))) (hp.objs.size + 1) (exo (hp.objs.size + 1) C (some d))) (hp.objs.size + 1)) d (.xd (fsI tag fo vs)) = upd H1 d (.xd (fsI tag fo vs)) := by
        funext b
        by_cases h1 : b = d
        · subst h1; rw [upd_same, upd_same]
        · rw [upd_ne h1, upd_ne h1]
          by_cases h2 : b = hp.objs.size + 1
          · subst h2; rw [del_same, hn]
          · rw [del_ne h2, upd_ne h2, upd_ne h1, upd_ne h2]
      rw [eH]
      exact q d hd1
    | next => exact False.elim hq'
    | brk => exact False.elim hq'
    | cont => exact False.elim hq'
end
end Dx

set_option maxRecDepth 100000
set_option maxHeartbeats 2000000
/-! Dx16: the field of a caught exception, told by a def that is called in the suite. -/
namespace Dx
open PySem PySem.Spec PyProof.Rows L2
/-- only new objects -/
def More (H H' : Hp) : Prop := ∀ a u, H a = some u → H' a = some u
theorem More.refl (H : Hp) : More H H := fun _ _ h => h
theorem More.trans {H H1 H2 : Hp} (a : More H H1) (b : More H1 H2) : More H H2 := fun c u h => b c u (a c u h)
theorem More.new {H : Hp} {p : Addr} {u : HO} (h : H p = none) : More H (upd H p u) := fun a v e => by rw [upd_ne (ne_of_none e h)]; exact e
theorem pe_xfP {X : Cx} {a C : Addr} {oe : Obj} {cls : Value} {d : Option Addr} {e : Expr} {te : TE} {pos : Pos} {n : Str} (hp : (a, oe) ∈ X.pn) (T : XfC X.K C) (hno : PySem.W.findIn X.K (.ref C) n = some none)
    (hz : Zc cls d oe) (hf : ∃ vs, oe.data = .fields vs) (he : PE X e te) (hb : attributeBase e n X.env (eval e X.env) = eval e X.env := by rfl) :
    PE X (.Attribute e n pos) (tXf a cls d C n te) := by
  refine ⟨fun pins s σ H Q I h => ?_⟩
  refine attr_of hb (thn (he.run pins s σ H _ I h) fun u s1 hh => ?_)
  obtain ⟨x, H1, I1, rx, ex, ec, dd, fs, v, ed, ea, l, q⟩ := hh
  subst ex
  obtain rfl : u = Value.ref a := rx
  subst ec
  subst ed
  obtain ⟨ha, _⟩ := I1.pin (a, oe) (List.mem_append_left _ hp)
  obtain ⟨vs, hd⟩ := hf
  have hx : ObjOk X.prog X.w H1 s1.heap dd (.xd fs) := I1.hok dd _ ea
  obtain ⟨mA, hns, hr⟩ := hx
  obtain ⟨od, ho, hl⟩ := lookIn_ns hns
  obtain ⟨u, hu, ru⟩ := RelO.some_of (v := v) (o := mA n) (by rw [← l]; exact hr n)
  have J : PySem.W.InstAt s1.heap a oe C (some od) := ⟨ha, hz.1, by unfold PySem.W.notCls; rw [hd] <;> rfl, by rw [hz.2]; exact ho⟩
  exact HandSPX.exc_get I1.kIn J T.ga T.gg T.exC (PySem.W.findObj_own T.hdC hno rfl (by rw [hl, hu])) (handed_of ru) ⟨v, H1, I1.tok _, ru, q⟩
/-- constant texts -/
def cstr : Expr → Option Str
  | .Constant (.str t) _ _ => some t
  | _ => none
theorem pa_strs {X : Cx} : ∀ {ts : List Str} {es : List Expr}, es.map cstr = ts.map some → PA X es (fun _ H Q => Q (ts.map V.str) H)
  | [], [], _ => pa_nil
  | t :: ts, e :: es, h => by
    injection h with h1 h2
    cases e with
    | Constant c j p =>
      cases c with
      | str s =>
        have h1 : some s = some t := h1
        cases h1
        exact pa_cons pe_str (pa_strs h2)
      | _ => cases h1
    | _ => cases h1
  | [], e :: es, h => by cases h
  | t :: ts, [], h => by cases h
/-- x.tag in (..), x.tag == .. -/
def tgTest (y : Str) (tags : List Str) : Expr → Bool
  | .Compare (.Attribute (.Name z _) n _) [.In] [.Tuple es _ _] _ => decide (z = y) && decide (n = ("tag" : Str)) && decide (es.map cstr = tags.map some) && decide (tags.length ≤ 100)
  | .Compare (.Attribute (.Name z _) n _) [.Eq] [.Constant (.str t) _ _] _ => decide (z = y) && decide (n = ("tag" : Str)) && decide (tags = [t])
  | _ => false
def rowsB (y : Str) : List (List Str × Str) → List Stmt → Bool
  | [(tags, f)], [.Return (some (.IfExp t (.Attribute (.Name z _) n _) (.Constant .none _ _) _)) _] => tgTest y tags t && decide (z = y) && decide (n = f)
  | (tags, f) :: r, .If t [.Return (some (.Attribute (.Name z _) n _)) _] [] _ :: ss => tgTest y tags t && decide (z = y) && decide (n = f) && rowsB y r ss
  | _, _ => false
def fieldOf : List (List Str × Str) → Str → Option Str
  | [], _ => none
  | (tags, f) :: r, t => if t ∈ tags then some f else fieldOf r t
section
variable {X : Cx} {a C dd : Addr} {oe : Obj} {fs : List (Str × V)} {tag y : Str}
/-- the caught exception as it stands -/
structure Cau (K : PySem.W.Frag) (C dd : Addr) (oe : Obj) (fs : List (Str × V)) (tag : Str) : Prop where
  T : XfC K C
  hz : Zc (.ref C) (some dd) oe
  hf : ∃ vs, oe.data = .fields vs
  tg : fs.lookup ("tag" : Str) = some (V.str tag)
  no : ∀ f v, fs.lookup f = some v → PySem.W.findIn K (.ref C) f = some none
theorem pe_cf {j : Nat} (hp : (a, oe) ∈ X.pn) (c : Cau X.K C dd oe fs tag) {p p2 : Pos} {f : Str} (hN : X.N[j]? = some y) (hv : Vis X.env.scope y) (h1 : (y == ("__debug__" : Str)) = false) (h2 : (y == ("__classdict__" : Str)) = false) :
    PE X (.Attribute (.Name y p) f p2) (fun σ H Q => σ[j]? = some (some (.ref a)) ∧ H dd = some (.xd fs) ∧ ∃ v, fs.lookup f = some v ∧ Q v H) :=
  ⟨fun pins s σ H Q I ⟨q1, q2, v, hl, q3⟩ => (pe_xfP hp c.T (c.no f v hl) c.hz c.hf (pe_var (i := j) hN hv h1 h2)).run pins s σ H Q I ⟨.ref a, q1, rfl, rfl, dd, fs, v, rfl, q2, hl, q3⟩⟩
theorem flat_strs (ts : List Str) : (ts.map V.str).all flatV = true := by
  rw [List.all_eq_true]
  intro v hv
  obtain ⟨k, _, rfl⟩ := List.mem_map.mp hv
  rfl
theorem inV_strs (t : Str) : ∀ ts : List Str, inV (.str t) (ts.map V.str) = decide (t ∈ ts)
  | [] => rfl
  | k :: ts => by
    show (eqV (.str k) (.str t) || inV (.str t) (ts.map V.str)) = _
    rw [inV_strs t ts]
    have e : eqV (.str k) (.str t) = decide (t = k) := by
      show (k == t) = _
      by_cases h : t = k
      · subst h; simp
      · have : (k == t) = false := by simpa using fun z => h z.symm
        rw [this]; simp [h]
    rw [e]
    simp [List.mem_cons]
theorem pt_tag (hp : (a, oe) ∈ X.pn) (c : Cau X.K C dd oe fs tag) (hN : X.N[0]? = some y) (hv : Vis X.env.scope y) (h1 : (y == ("__debug__" : Str)) = false) (h2 : (y == ("__classdict__" : Str)) = false) {tags : List Str} {t : Expr} (h : tgTest y tags t = true) :
    PT X t (fun σ H Q => σ[0]? = some (some (.ref a)) ∧ H dd = some (.xd fs) ∧ ∀ H', More H H' → Q (decide (tag ∈ tags)) H') := by
  unfold tgTest at h
  split at h
  · rename_i z p1 n p2 es k p3 p4
    simp only [Bool.and_eq_true, decide_eq_true_eq] at h
    obtain ⟨⟨⟨rfl, rfl⟩, h3⟩, h4⟩ := h
    refine ⟨fun pins s σ H Q I ⟨q1, q2, q3⟩ => (pt_cmpR op_in_seq (pe_cf hp c hN hv h1 h2) (pe_tup (pa_strs h3)) rfl).run pins s σ H Q I ⟨q1, q2, _, c.tg, by rw [List.length_map, sizeLine_eq]; omega, fun p hp => ?_⟩⟩
    refine ⟨p, tags.map V.str, rfl, .inr (.inl (.inl upd_same)), rfl, flat_strs _, ⟨_, rfl, ?_⟩⟩
    show Q (inV (.str tag) (tags.map V.str)) _
    rw [inV_strs]
    exact q3 _ (More.new hp)
  · rename_i z p1 n p2 t j p3 p4
    simp only [Bool.and_eq_true, decide_eq_true_eq] at h
    obtain ⟨⟨rfl, rfl⟩, rfl⟩ := h
    refine ⟨fun pins s σ H Q I ⟨q1, q2, q3⟩ => (pt_cmpR op_eq (pe_cf hp c hN hv h1 h2) pe_str rfl).run pins s σ H Q I ⟨q1, q2, _, c.tg, rfl, _, rfl, ?_⟩⟩
    have e : decide (V.str tag = V.str t) = decide (tag ∈ [t]) := by
      rw [decide_eq_decide]
      simp
    rw [e]
    exact q3 H (More.refl H)
  · cases h
/-- what the def answers -/
def ansF (rows : List (List Str × Str)) (fs : List (Str × V)) (tag : Str) (R : V → Prop) : Prop := match fieldOf rows tag with
  | some f => ∃ v, fs.lookup f = some v ∧ R v
  | none => R .non
theorem pss_rows (hp : (a, oe) ∈ X.pn) (c : Cau X.K C dd oe fs tag) (hN : X.N[0]? = some y) (hv : Vis X.env.scope y) (h1 : (y == ("__debug__" : Str)) = false) (h2 : (y == ("__classdict__" : Str)) = false) (rows : List (List Str × Str)) : ∀ {ss : List Stmt}, rowsB y rows ss = true →
    PSs X ss (fun D σ H => σ[0]? = some (some (.ref a)) ∧ H dd = some (.xd fs) ∧ ansF rows fs tag fun v => ∀ H', More H H' → D.rt v H') := by
  induction rows with
  | nil => intro ss h; cases ss <;> cases h
  | cons hd tl ih =>
    intro ss h
    unfold rowsB at h
    split at h
    · rename_i tags f t z p1 n p2 k p3 p4 p5 e1
      cases e1
      simp only [Bool.and_eq_true, decide_eq_true_eq] at h
      obtain ⟨⟨h3, rfl⟩, rfl⟩ := h
      refine ⟨fun pins s σ H D I ⟨q1, q2, q3⟩ => (pss_one (ps_ret (pe_ifExp (pt_tag hp c hN hv h1 h2 h3) (pe_cf hp c hN hv h1 h2) pe_non))).run pins s σ H D I ⟨q1, q2, fun H' m => ?_⟩⟩
      unfold ansF fieldOf at q3
      by_cases ht : tag ∈ tags
      · rw [if_pos ht] at q3
        obtain ⟨v, hl, q3⟩ := q3
        rw [if_pos (decide_eq_true ht)]
        exact ⟨q1, m _ _ q2, v, hl, q3 H' m⟩
      · rw [if_neg ht] at q3
        rw [if_neg (by simpa using ht)]
        exact q3 H' m
    · rename_i tags f r t z p1 n p2 p3 p4 ss e1
      cases e1
      simp only [Bool.and_eq_true, decide_eq_true_eq] at h
      obtain ⟨⟨⟨h3, rfl⟩, rfl⟩, h4⟩ := h
      refine ⟨fun pins s σ H D I ⟨q1, q2, q3⟩ => (pss_cons (ps_if (pt_tag hp c hN hv h1 h2 h3) (pss_one (ps_ret (pe_cf hp c hN hv h1 h2))) pss_nil) (ih h4)).run pins s σ H D I ⟨q1, q2, fun H' m => ?_⟩⟩
      unfold ansF fieldOf at q3
      by_cases ht : tag ∈ tags
      · rw [if_pos ht] at q3
        obtain ⟨v, hl, q3⟩ := q3
        rw [if_pos (decide_eq_true ht)]
        exact ⟨q1, m _ _ q2, v, hl, q3 H' m⟩
      · rw [if_neg ht] at q3
        rw [if_neg (by simpa using ht)]
        refine ⟨q1, m _ _ q2, ?_⟩
        unfold ansF
        cases e : fieldOf tl tag with
        | none =>
          rw [e] at q3
          exact fun H2 m2 => q3 H2 (m.trans m2)
        | some f2 =>
          rw [e] at q3
          obtain ⟨v, hl, q3⟩ := q3
          exact ⟨v, hl, fun H2 m2 => q3 H2 (m.trans m2)⟩
    · cases h
end
/-- what _law_field does, called in a suite -/
structure FldOk (P : Program) (w : World) (K : PySem.W.Frag) (mg : Str → Option Value) (base : Heap) (f : Addr) (rows : List (List Str × Str)) : Prop where
  kp : PySem.W.keepIn K (.ref f) = true
  run : ∀ (A : Around) (outer : List PySem.Env) (s : Shared) (H : Hp) (p : Addr × Obj) (C dd : Addr) (fs : List (Str × V)) (tag : Str) (Q : VK), L2H.RoomH 1 A → L2H.PinOk outer H s p → Env0 P w K mg base A outer s H → Cau K C dd p.2 fs tag → H dd = some (.xd fs) →
    ansF rows fs tag (fun v => ∀ H', More H H' → Q v H') → codeAny (model P w) A (.call (.ref f) ⟨[.ref p.1], []⟩) (CR (L2.CX P w) outer P w H s Q (fun _ _ _ => False)) s
theorem fld_ok {P : Program} {w : World} {K : PySem.W.Frag} {mg : Str → Option Value} {base : Heap} {x qual y : Str} {params : Arguments} {body : List Stmt} {scope : Scope} {f : Addr} {fd : FuncData} {rows : List (List Str × Str)}
    (F : FunD K x qual params body scope [] [] f fd) (S : FnScope [y] [y] scope) (hv : parOk scope y = true) (hb : rowsB y rows body = true) (hbd : L2.Binds K fd [y] []) : FldOk P w K mg base f rows := by
  refine ⟨F.kp, fun A outer s H p C dd fs tag Q hr hpin e0 c hd hq => ?_⟩
  obtain ⟨oc, od, dV, kV, doc, pm, an, cdv, ct, osl, rfl, lk, hcd, _, _⟩ := F.ex
  obtain ⟨v1, v2, v3⟩ := parOk_ok hv
  have KX : K.In s.heap := e0.mod.kin.keeps fun b o e => (e0.bs b o e).1
  have lim : s.heap.NoLimit := e0.mod.nolimit.keeps fun b o e => (e0.bs b o e).1
  have r : Vals [V.ref p.1] [Value.ref p.1] := .cons rfl .nil
  have hbb := hbd s [Value.ref p.1] KX rfl
  rw [List.append_nil] at hbb
  have hkind : ∀ z ∈ [y].zip [Value.ref p.1], scope.names.lookup z.1 = some .local ∨ (scope.names.lookup z.1 = some .cell ∧ ((cellsFrom (s.heap.objs.size + 1) scope.names []).lookup z.1).isSome = true) := fun ⟨n, v⟩ hy => by
    rcases S.par n (List.of_mem_zip hy).1 with q | q
    · exact .inl q
    · exact .inr ⟨q, PySem.W.cellsFrom_some _ _ _ (.inl q)⟩
  refine codeAny_call_function hr.depth (KX _ _ lk) rfl S.co S.gen rfl (PySem.W.codeRec_of KX hcd) (hbb _ _ _ _ ?_)
  refine wpAny_newFunctionEnv_cells S.kind hkind fun env he s1 x => ?_
  subst he
  refine ⟨lim.keeps x.toInCall.keep, codeAny_func ?_⟩
  have ht := pss_rows (X := L2H.cxH (L2.CX P w) P w K mg base [y] qual scope f cdv A outer s H (fun _ _ _ => False) p) (a := p.1) (oe := p.2) (y := y) List.mem_cons_self c rfl v1 v2 v3 rows hb
  have I : L2.Inv (L2H.cxH (L2.CX P w) P w K mg base [y] qual scope f cdv A outer s H (fun _ _ _ => False) p) [] (L2.start [y] [V.ref p.1]) H s1 := L2H.inv_startH S hpin e0 rfl r x
  refine wpAny_mono (ht.run [] s1 (L2.start [y] [V.ref p.1]) H { nx := fun _ _ => False, rt := Q } I ⟨rfl, hd, hq⟩) (fun fl s' hs => ?_) fun e s' hs => hs
  have fin : ∀ {σ' : L2.St} {H' : Hp} {v : V} {u : Value}, L2.Inv (L2H.cxH (L2.CX P w) P w K mg base [y] qual scope f cdv A outer s H (fun _ _ _ => False) p) [] σ' H' s' → L2.RelV v u → Q v H' → CE outer P w H s Q u s' :=
    fun {σ' H' v u} J rv q => ⟨v, H', J.os, J.bare, J.base, J.hok, rv, q⟩
  cases fl with
  | ret u =>
    obtain ⟨v, σ', H', J, rv, q⟩ := hs
    exact fin J rv q
  | next =>
    obtain ⟨_, _, _, q⟩ := hs
    exact False.elim q
  | brk =>
    obtain ⟨_, _, _, q⟩ := hs
    exact False.elim q
  | cont =>
    obtain ⟨_, _, _, q⟩ := hs
    exact False.elim q
/-- x(e) in the suite, e the caught exception -/
theorem pe_fcall {X : Cx} {a C dd f : Addr} {oe : Obj} {fs : List (Str × V)} {tag y x : Str} {rows : List (List Str × Str)} {j : Nat} {p1 p2 pos : Pos} (hp : (a, oe) ∈ X.pn) (c : Cau X.K C dd oe fs tag) (Fk : FldOk X.prog X.w X.K X.mg X.base f rows) (hr : L2H.RoomH 1 X.A)
    (hg : Gl X x) (hm : X.mg x = some (.ref f)) (hdb : (x == ("__debug__" : Str)) = false) (hN : X.N[j]? = some y) (hv : Vis X.env.scope y) (h1 : (y == ("__debug__" : Str)) = false) (h2 : (y == ("__classdict__" : Str)) = false) :
    PE X (.Call (.Name x p1) [.Name y p2] [] pos) (fun σ H Q => σ[j]? = some (some (.ref a)) ∧ H dd = some (.xd fs) ∧ ansF rows fs tag fun v => ∀ H', More H H' → Q v H') := by
  refine ⟨fun pins s σ H Q I ⟨q1, q2, q3⟩ => ?_⟩
  refine wpAny_Call_Name_kw (ld_glob I hg hm ?_ hdb)
  have ha : PA X [.Name y p2] (tCons (tVar j) tNil) := pa_cons (pe_var (i := j) hN hv h1 h2) pa_nil
  refine PySem.W.callWith_K (h₀ := X.base) I.ok.mod.kin Fk.kp (thn (ha.run pos pins s σ H (fun vs H1 => vs = [.ref a] ∧ H1 = H) I ⟨.ref a, q1, rfl, rfl⟩) fun us s1 ⟨vs, H1, I1, r, e1, e2⟩ => ⟨I1.kIn, ?_⟩) (by rfl) (by rfl)
  subst e1 e2
  cases r with
  | cons r0 rr =>
    cases rr
    obtain rfl : _ = Value.ref a := r0
    have P1 := I1.pin (a, oe) (List.mem_append_left _ hp)
    have hpin : L2H.PinOk X.stack H1 s1 (a, oe) := ⟨P1.1, P1.2.1, fun hm => (List.mem_cons.mp (I1.stkSub a hm)).elim P1.2.2.1 P1.2.2.2.1, P1.2.2.2.2⟩
    refine wpAny_call (codeAny_mono (Fk.run X.A X.stack s1 H1 (a, oe) C dd fs tag Q hr hpin I1.env0 c q2 q3) fun r s' hq => ?_)
    cases r with
    | error e => exact (nocx hq).elim
    | ok fl =>
      cases fl with
      | ret u => exact I1.after hq
      | next => exact False.elim hq
      | brk => exact False.elim hq
      | cont => exact False.elim hq
end Dx

set_option maxRecDepth 100000
set_option maxHeartbeats 2000000
/-! Dx17: _law_why. -/
namespace Dx
open PySem PySem.Spec PyProof.Rows L2
/-- the text of _law_why -/
def whyB (sc : Scope) : List Stmt → Bool
  | [.Assign [.Name t1 _] (.Tuple [.Constant (.str s1) _ _, .Constant .none _ _] _ _) _,
     .Try [.Assign [.Name t2 _] (.Tuple [.Constant (.str s2) _ _, .Call (.Name a _) [] [] _] _ _) _]
       [.ExceptHandler (some (.Tuple [.Name k1 _, .Name k2 _] _ _)) (some e1) [.Assign [.Name t3 _] (.Tuple [.Attribute (.Name e2 _) n1 _, .Call (.Name fl _) [.Name e3 _] [] _] _ _) _] _,
        .ExceptHandler (some (.Name k3 _)) (some e4) [.Assign [.Name t4 _] (.Tuple [.Attribute (.Name e5 _) n2 _, .Constant .none _ _] _ _) _] _] [] [] _,
     .Return (some (.Name t5 _)) _] =>
    decide (t1 = ("_law_told" : Str)) && (decide (t2 = ("_law_told" : Str)) && (decide (t3 = ("_law_told" : Str)) && (decide (t4 = ("_law_told" : Str)) && (decide (t5 = ("_law_told" : Str)) && (decide (s1 = ("" : Str)) && (decide (s2 = ("" : Str)) && (decide (a = ("_law_ask" : Str)) &&
    (decide (e1 = ("_law_e" : Str)) && (decide (e2 = ("_law_e" : Str)) && (decide (e3 = ("_law_e" : Str)) && (decide (e4 = ("_law_e" : Str)) && (decide (e5 = ("_law_e" : Str)) && (decide (n1 = ("tag" : Str)) && (decide (n2 = ("tag" : Str)) &&
    (decide (k1 = ("KeptError" : Str)) && (decide (k2 = ("Missing" : Str)) && (decide (k3 = ("NothingLeft" : Str)) && (decide (fl = ("_law_field" : Str)) &&
    (decide (sc.names.lookup ("_law_told" : Str) = some .local) && (decide (sc.names.lookup ("_law_e" : Str) = some .local) && (decide (sc.names.lookup ("_law_ask" : Str) = some .local) && (decide (sc.names.lookup ("KeptError" : Str) = some .globalImplicit) && (decide (sc.names.lookup ("Missing" : Str) = some .globalImplicit) &&
    (decide (sc.names.lookup ("NothingLeft" : Str) = some .globalImplicit) && decide (sc.names.lookup ("_law_field" : Str) = some .globalImplicit)))))))))))))))))))))))))
  | _ => false
abbrev Ng : List Str := [("_law_ask" : Str), ("_law_told" : Str), ("_law_e" : Str)]
/-- what is wished of the lambda's exceptions -/
def ewhy (K : PySem.W.Frag) (KE MI NL : Addr) (rows : List (List Str × Str)) (Q : VK) : XK := fun cls d H => ∃ (C dd : Addr) (fs : List (Str × V)) (tag : Str), cls = .ref C ∧ d = some dd ∧ XfC K C ∧ fs.lookup ("tag" : Str) = some (V.str tag) ∧
  (∀ f v, fs.lookup f = some v → PySem.W.findIn K (.ref C) f = some none) ∧ H dd = some (.xd fs) ∧
  ((PySem.W.exmAny K cls [.ref KE, .ref MI] = some true ∧ ansF rows fs tag fun v => ∀ H' t, More H H' → H' t = none → Q (.ref t) (upd H' t (.tup [.str tag, v]))) ∨
    (PySem.W.exmAny K cls [.ref KE, .ref MI] = some false ∧ PySem.W.exmOne K cls (.ref NL) = some true ∧ ∀ t, H t = none → Q (.ref t) (upd H t (.tup [.str tag, .non]))))
def twhy (K : PySem.W.Frag) (KE MI NL : Addr) (rows : List (List Str × Str)) : (XK → Hp → VK → Prop) → Hp → VK → Prop := fun tl H Q =>
  ∀ t0, H t0 = none → ∀ Qx : VK, (∀ v H1, (∀ t, H1 t = none → Q (.ref t) (upd H1 t (.tup [.str ("" : Str), v]))) → Qx v H1) → tl (ewhy K KE MI NL rows Q) (upd H t0 (.tup [.str ("" : Str), .non])) Qx
/-- the readings of the suites -/
def ts1 (K : PySem.W.Frag) (rows : List (List Str × Str)) : Addr → Value → Option Addr → TS := fun a cls d D σ H => ∃ (σ0 : L2.St) (C dd : Addr) (fs : List (Str × V)) (tag : Str), σ = σ0.set 2 (some (.ref a)) ∧ cls = .ref C ∧ d = some dd ∧ XfC K C ∧ fs.lookup ("tag" : Str) = some (V.str tag) ∧
  (∀ f v, fs.lookup f = some v → PySem.W.findIn K (.ref C) f = some none) ∧ H dd = some (.xd fs) ∧ ansF rows fs tag fun v => ∀ H' t σ1, More H H' → H' t = none → σ1[1]? = some (some (.ref t)) → D.nx σ1 (upd H' t (.tup [.str tag, v]))
def ts2 (K : PySem.W.Frag) : Addr → Value → Option Addr → TS := fun a cls d D σ H => ∃ (σ0 : L2.St) (C dd : Addr) (fs : List (Str × V)) (tag : Str), σ = σ0.set 2 (some (.ref a)) ∧ cls = .ref C ∧ d = some dd ∧ XfC K C ∧ fs.lookup ("tag" : Str) = some (V.str tag) ∧
  (∀ f v, fs.lookup f = some v → PySem.W.findIn K (.ref C) f = some none) ∧ H dd = some (.xd fs) ∧ ∀ t σ1, H t = none → σ1[1]? = some (some (.ref t)) → D.nx σ1 (upd H t (.tup [.str tag, .non]))
theorem ansF_imp {rows : List (List Str × Str)} {fs : List (Str × V)} {tag : Str} {R R' : V → Prop} (h : ansF rows fs tag R) (k : ∀ v, R v → R' v) : ansF rows fs tag R' := by
  unfold ansF at h ⊢
  cases e : fieldOf rows tag with
  | none => rw [e] at h; exact k _ h
  | some f =>
    rw [e] at h
    obtain ⟨v, h1, h2⟩ := h
    exact ⟨v, h1, k _ h2⟩
section
variable {Y : Cx} {sg : Scope} {a fl : Addr} {oe : Obj} {cls : Value} {d : Option Addr} {pn : List (Addr × Obj)} {rows : List (List Str × Str)}
theorem ps_suite1 (hN : Y.N = Ng) (hsc : Y.env.scope = sg) (s1 : sg.names.lookup ("_law_told" : Str) = some .local) (s2 : sg.names.lookup ("_law_e" : Str) = some .local) (s7 : sg.names.lookup ("_law_field" : Str) = some .globalImplicit) (h4 : Y.mg "_law_field" = some (.ref fl))
    (Fk : FldOk Y.prog Y.w Y.K Y.mg Y.base fl rows) (hr : L2H.RoomH 1 Y.A) (hz : Zc cls d oe) (hf : ∃ vs, oe.data = .fields vs) {p1 p2 p3 p4 p5 p6 p7 p8 : Pos} {k : Nat} :
    PSs (Y.suite a ((a, oe) :: pn)) [.Assign [.Name "_law_told" p1] (.Tuple [.Attribute (.Name "_law_e" p2) "tag" p3, .Call (.Name "_law_field" p4) [.Name "_law_e" p5] [] p6] k p7) p8] (ts1 Y.K rows a cls d) := by
  subst hsc
  refine ⟨fun pins s σ H D I h => ?_⟩
  obtain ⟨σ0, C, dd, fs, tag, e0, ec, ed, T, tg, no, hd, ans⟩ := h
  subst ec ed
  have c : Cau Y.K C dd oe fs tag := ⟨T, hz, hf, tg, no⟩
  have hlen : σ.length = 3 := by
    have z : σ.length = Y.N.length := I.len
    rw [z, hN]
    rfl
  have hσ : σ[2]? = some (some (.ref a)) := by
    subst e0
    rw [List.length_set] at hlen
    exact List.getElem?_set_self (by omega)
  have n1 : (Y.suite a ((a, oe) :: pn)).N[1]? = some ("_law_told" : Str) := by show Y.N[1]? = _; rw [hN]; rfl
  have n2 : (Y.suite a ((a, oe) :: pn)).N[2]? = some ("_law_e" : Str) := by show Y.N[2]? = _; rw [hN]; rfl
  have nd : (Y.suite a ((a, oe) :: pn)).N.Nodup := by show Y.N.Nodup; rw [hN]; decide
  have hg : Gl (Y.suite a ((a, oe) :: pn)) "_law_field" := s7
  refine (pss_one (ps_asg (pe_tup (pa_cons (pe_cf (X := Y.suite a ((a, oe) :: pn)) (a := a) (oe := oe) (j := 2) List.mem_cons_self c n2 (.inl s2) (by decide) (by decide)) (pa_cons (pe_fcall (X := Y.suite a ((a, oe) :: pn)) (a := a) (oe := oe) (j := 2) List.mem_cons_self c Fk ⟨hr.dp, hr.un⟩ hg h4 (by decide) n2 (.inl s2) (by decide) (by decide)) pa_nil))) (pg_name (i := 1) nd n1 (.inl s1) (.inr s1)))).run pins s σ H D I ⟨hσ, hd, _, tg, hσ, hd, ?_⟩
  refine ansF_imp ans fun v r H' m => ⟨by rw [sizeLine_eq]; simp, fun t ht => ?_⟩
  exact r H' t (σ.set 1 (some (.ref t))) m ht (List.getElem?_set_self (by omega))
theorem ps_suite2 (hN : Y.N = Ng) (hsc : Y.env.scope = sg) (s1 : sg.names.lookup ("_law_told" : Str) = some .local) (s2 : sg.names.lookup ("_law_e" : Str) = some .local)
    (hz : Zc cls d oe) (hf : ∃ vs, oe.data = .fields vs) {p1 p2 p3 p4 p7 p8 : Pos} {k j : Nat} :
    PSs (Y.suite a ((a, oe) :: pn)) [.Assign [.Name "_law_told" p1] (.Tuple [.Attribute (.Name "_law_e" p2) "tag" p3, .Constant .none j p4] k p7) p8] (ts2 Y.K a cls d) := by
  subst hsc
  refine ⟨fun pins s σ H D I h => ?_⟩
  obtain ⟨σ0, C, dd, fs, tag, e0, ec, ed, T, tg, no, hd, r⟩ := h
  subst ec ed
  have c : Cau Y.K C dd oe fs tag := ⟨T, hz, hf, tg, no⟩
  have hlen : σ.length = 3 := by
    have z : σ.length = Y.N.length := I.len
    rw [z, hN]
    rfl
  have hσ : σ[2]? = some (some (.ref a)) := by
    subst e0
    rw [List.length_set] at hlen
    exact List.getElem?_set_self (by omega)
  have n1 : (Y.suite a ((a, oe) :: pn)).N[1]? = some ("_law_told" : Str) := by show Y.N[1]? = _; rw [hN]; rfl
  have n2 : (Y.suite a ((a, oe) :: pn)).N[2]? = some ("_law_e" : Str) := by show Y.N[2]? = _; rw [hN]; rfl
  have nd : (Y.suite a ((a, oe) :: pn)).N.Nodup := by show Y.N.Nodup; rw [hN]; decide
  refine (pss_one (ps_asg (pe_tup (pa_cons (pe_cf (X := Y.suite a ((a, oe) :: pn)) (a := a) (oe := oe) (j := 2) List.mem_cons_self c n2 (.inl s2) (by decide) (by decide)) (pa_cons pe_non pa_nil))) (pg_name (i := 1) nd n1 (.inl s1) (.inr s1)))).run pins s σ H D I ⟨hσ, hd, _, tg, by rw [sizeLine_eq]; simp, fun t ht => ?_⟩
  exact r t (σ.set 1 (some (.ref t))) ht (List.getElem?_set_self (by omega))
end
abbrev wcx (X : Cx) (sg : Scope) (g : Addr) (cdg : Value) (s : Shared) (H : Hp) : Cx := (cxOf C8.CX0 X.prog X.w X.K X.mg X.base Ng "_law_why" sg g cdg X.A X.stack s H C8.E0).nox
theorem why_gives {X : Cx} {sg : Scope} {g KE MI NL fl : Addr} {cdg : Value} {bg : List Stmt} {q : Str} {rows : List (List Str × Str)} (hb : whyB sg bg = true) (h1 : X.mg "KeptError" = some (.ref KE)) (h2 : X.mg "Missing" = some (.ref MI)) (h3 : X.mg "NothingLeft" = some (.ref NL)) (h4 : X.mg "_law_field" = some (.ref fl))
    (Fk : FldOk X.prog X.w X.K X.mg X.base fl rows) (hr : L2H.RoomH 3 X.A) : LamX.GivesTo X Ng "_law_why" sg g cdg bg "_law_ask" q (twhy X.K KE MI NL rows) := by
  unfold whyB at hb
  split at hb <;> try cases hb
  simp only [Bool.and_eq_true, decide_eq_true_eq] at hb
  obtain ⟨rfl, rfl, rfl, rfl, rfl, rfl, rfl, rfl, rfl, rfl, rfl, rfl, rfl, rfl, rfl, rfl, rfl, rfl, rfl, s1, s2, s3, s4, s5, s6, s7⟩ := hb
  intro f c' s H Q tl act hc h
  have hg1 : Gl (wcx X sg g cdg s H) "KeptError" := s4
  have hg2 : Gl (wcx X sg g cdg s H) "Missing" := s5
  have hg3 : Gl (wcx X sg g cdg s H) "NothingLeft" := s6
  have hr1 : L2H.RoomH 1 (wcx X sg g cdg s H).A := (hr.deeper _).mono (by decide)
  have nd : (wcx X sg g cdg s H).N.Nodup := show Ng.Nodup by decide
  refine ⟨_, pss_cons (ps_asg (X := wcx X sg g cdg s H) (pe_tup (pa_cons pe_str (pa_cons pe_non pa_nil))) (pg_name (i := 1) nd rfl (.inl s1) (.inr s1))) (pss_cons (ps_try_asM (X := wcx X sg g cdg s H) (n := "_law_e") (i := 2) (Wout := fun _ _ _ _ => False)
    (tb := fun W D σ H => ∃ Ech : XK, (∀ cls d σ' H', Ech cls d H' → W cls d σ' H') ∧ σ[0]? = some (some (.ref f)) ∧ H c' = some (LamX.CodeO c' q) ∧ ∀ Qx : VK, (∀ v H1, (∀ t σ1, H1 t = none → σ1[1]? = some (some (.ref t)) → D.nx σ1 (upd H1 t (.tup [.str ("" : Str), v]))) → Qx v H1) → tl Ech H Qx)
    (l := [(fun cls => PySem.W.exmAny X.K cls [.ref KE, .ref MI], ts1 X.K rows), (fun cls => PySem.W.exmOne X.K cls (.ref NL), ts2 X.K)]) rfl rfl nd rfl s2 LamX.takes0 (fun W pn xe tk _ => ?hbody)
    (.cons (test_two ⟨hg1, by decide, .inl h1⟩ ⟨hg2, by decide, .inl h2⟩) (fun a oe cls d pn hz hf => ps_suite1 (Y := wcx X sg g cdg s H) rfl rfl s1 s2 s7 h4 Fk hr1 hz hf) (.cons (test_one ⟨hg3, by decide, .inl h3⟩) (fun a oe cls d pn hz hf => ps_suite2 (Y := wcx X sg g cdg s H) rfl rfl s1 s2 hz hf) .nil)))
    (pss_one (ps_ret (pe_var (i := 1) rfl (.inl s1))))), ?_⟩
  case hbody =>
    refine ⟨fun pins s' σ H' D I h' => ?_⟩
    obtain ⟨Ech, hW, e1, e3, e4⟩ := h'
    have hlen : σ.length = 3 := I.len
    refine (pss_one (ps_asg (pe_tup (pa_cons pe_str (pa_cons (act W pn xe Ech _ _ tk hW) pa_nil))) (pg_name (i := 1) (show Ng.Nodup by decide) rfl (.inl s1) (.inr s1)))).run pins s' σ H' D I ⟨e1, e3, ?_⟩
    refine e4 _ fun v H1 k => ⟨by rw [sizeLine_eq]; simp, fun t ht => ?_⟩
    exact k t _ ht (List.getElem?_set_self (by omega))
  · refine ⟨by rw [sizeLine_eq]; simp, fun t0 ht0 => ⟨ewhy X.K KE MI NL rows Q, fun cls d σ' H' w => ?_, rfl, ?_, fun Qx k => h t0 ht0 Qx fun v H1 k2 => k v H1 fun t σ1 ht hs => ⟨.ref t, hs, k2 t ht⟩⟩⟩
    · obtain ⟨C, dd, fs, tag, ec, ed, T, tg, no, hd, w⟩ := w
      rcases w with ⟨w1, w2⟩ | ⟨w1, w2, w3⟩
      · refine ⟨true, w1, fun _ a na => ⟨σ', C, dd, fs, tag, rfl, ec, ed, T, tg, no, hd, ?_⟩, fun z => (by cases z)⟩
        refine ansF_imp w2 fun v r H2 t σ1 m ht hs => ⟨.ref t, ?_, r H2 t m ht⟩
        rw [List.getElem?_set_ne (by decide)]
        exact hs
      · refine ⟨false, w1, fun z => (by cases z), fun _ => ⟨true, w2, fun _ a na => ⟨σ', C, dd, fs, tag, rfl, ec, ed, T, tg, no, hd, fun t σ1 ht hs => ⟨.ref t, ?_, w3 t ht⟩⟩, fun z => (by cases z)⟩⟩
        rw [List.getElem?_set_ne (by decide)]
        exact hs
    · rw [upd_ne (ne_of_none hc ht0)]
      exact hc
end Dx

set_option maxRecDepth 100000
/-! Dx1: the small language, its values and its evaluator (plain Lean, no machine). -/
namespace Dx
open PySem PySem.Spec

abbrev Txt := List Nat

inductive W where
  | non | bl (b : Bool) | int (i : Int) | str (x : Txt) | tup (ws : List W) | ref (l : Nat)
  | exn (c : Nat) (fs : List W) | clo (k : Nat) (cs : List Nat) | scr (ws : List W)
instance : Inhabited W := ⟨.non⟩

/-- a dict's key: a number, a text, a tuple of such -/
inductive Ky where
  | i (i : Int) | s (x : Txt) | t (ks : List (Int ⊕ Txt))
  deriving DecidableEq
inductive O where
  | lst (ws : List W) | ro (ws : List W) | dct (tt : Bool) (kvs : List (Ky × W)) | ins (c : Nat) (fs : List (Nat × W))
  /-- an exception as a value, where its fields stand; the fields -/
  | exi (c : Nat) (d : Option Nat) | xdc (fs : List (Nat × W))
abbrev Hh := List O

inductive Res (α : Type) where
  | ok (a : α) (L : Hh) | exc (e : W) (L : Hh) | bad
def M (α : Type) := Hh → Res α
@[reducible] def ret {α : Type} (a : α) : M α := fun L => .ok a L
@[reducible] def fail {α : Type} : M α := fun _ => .bad
@[reducible] def thr {α : Type} (e : W) : M α := fun L => .exc e L
def noX {α : Type} (m : M α) : M α := fun L => match m L with
  | .ok a L1 => .ok a L1
  | _ => .bad
def bnd {α β : Type} (m : M α) (f : α → M β) : M β := fun L => match m L with
  | .ok a L1 => f a L1
  | .exc e L1 => .exc e L1
  | .bad => .bad
@[reducible] def gets {α : Type} (f : Hh → M α) : M α := fun L => f L L

/-- what is wanted of a run -/
def wp {α : Type} (m : M α) (L : Hh) (Q : α → Hh → Prop) (E : W → Hh → Prop) : Prop := match m L with
  | .ok a L1 => Q a L1
  | .exc e L1 => E e L1
  | .bad => False
section
variable {α β : Type} {L : Hh} {Q : α → Hh → Prop} {E : W → Hh → Prop}
@[simp] theorem wp_ret {a : α} : wp (ret a) L Q E = Q a L := rfl
@[simp] theorem wp_fail : wp (fail : M α) L Q E = False := rfl
@[simp] theorem wp_thr {e : W} : wp (thr e : M α) L Q E = E e L := rfl
@[simp] theorem wp_gets {f : Hh → M α} : wp (gets f) L Q E = wp (f L) L Q E := rfl
@[simp] theorem wp_bnd {m : M α} {f : α → M β} {Q : β → Hh → Prop} : wp (bnd m f) L Q E = wp m L (fun a L1 => wp (f a) L1 Q E) E := by
  unfold wp bnd
  cases m L <;> rfl
@[simp] theorem wp_noX {m : M α} : wp (noX m) L Q E = wp m L Q (fun _ _ => False) := by
  unfold wp noX
  cases m L <;> rfl
theorem wp_mono {m : M α} {Q' : α → Hh → Prop} {E' : W → Hh → Prop} (h : wp m L Q E) (hq : ∀ a L, Q a L → Q' a L) (he : ∀ e L, E e L → E' e L) : wp m L Q' E' := by
  unfold wp at h ⊢
  cases e : m L with
  | ok a L1 => rw [e] at h; exact hq _ _ h
  | exc x L1 => rw [e] at h; exact he _ _ h
  | bad => rw [e] at h; exact h
end

/-! ### heaps -/
def alloc (o : O) : M W := fun L => .ok (.ref L.length) (L ++ [o])
def put (l : Nat) (o : O) : M Unit := fun L => .ok () (L.set l o)

/-! ### operations by values -/
inductive BOp where | add | sub | mul | fdiv | mod | pow
inductive COp where | eq | ne | lt | le | gt | ge | is | isn | inn | nin

def lenOk (n : Nat) : Bool := decide (n ≤ sizeLine)
/-- the value as plain data, lists read through the heap (n: a bound of the depth) -/
def asData (L : Hh) : Nat → W → Option PyData
  | _, .non => some .none
  | _, .bl b => some (.bool b)
  | _, .int i => some (.int i)
  | _, .str x => some (.str ⟨x.toArray⟩)
  | n + 1, .tup ws => (ws.mapM (asData L n)).map PyData.tuple
  | n + 1, .ref l => match L[l]? with
    | some (.lst ws) => (ws.mapM (asData L n)).map PyData.list
    | some (.ro ws) => (ws.mapM (asData L n)).map PyData.list
    | _ => none
  | _, _ => none

def smallI (i : Int) : Bool := decide (-(2 ^ 64) < i) && decide (i < 2 ^ 64)

def binop : BOp → W → W → M W
  | .add, .int i, .int j => ret (.int (i + j))
  | .add, .str x, .str y => if lenOk (x.length + y.length) then ret (.str (x ++ y)) else fail
  | .add, .tup x, .tup y => if lenOk (x.length + y.length) then ret (.tup (x ++ y)) else fail
  | .add, .ref a, .ref b => gets fun L => match L[a]?, L[b]? with
    | some (.lst x), some (.lst y) => if lenOk (x.length + y.length) then alloc (.lst (x ++ y)) else fail
    | _, _ => fail
  | .sub, .int i, .int j => ret (.int (i - j))
  | .mul, .int i, .int j => if smallI i || smallI j then ret (.int (i * j)) else fail
  | .fdiv, .int i, .int j => if decide (0 < j) && decide (j < 1073741824) then ret (.int (i / j)) else fail
  | .mod, .int i, .int j => if decide (0 < j) then ret (.int (i % j)) else fail
  | .pow, .int i, .int j => if decide (0 ≤ j) && decide (j ≤ 1000000) && decide (i.natAbs < 2 ^ 64) then ret (.int (i ^ j.toNat)) else fail
  | _, _, _ => fail

/-- == of scalars, of data -/
def eqop (x y : W) : M Bool := gets fun L => match asData L 64 x, asData L 64 y with
  | some d, some e => if SeqAt.shaped d && SeqAt.shaped e then ret (PyData.eqv d e) else fail
  | _, _ => fail

/-- x is y where y is None; flat membership -/
def isNone : W → Bool
  | .non => true
  | _ => false
/-- the places of a text's signs, as texts -/
def signs (x : Txt) : List W := x.map fun c => .str [c]
/-- [lo:hi] of n items: where it begins and how many -/
def cutI (n : Nat) (lo hi : Option Int) : Nat × Nat := (HT.sIx n 0 lo, HT.sIx n n hi - HT.sIx n 0 lo)
def cutL {α : Type} (xs : List α) (lo hi : Option Int) : List α := (xs.drop (cutI xs.length lo hi).1).take (cutI xs.length lo hi).2
/-- keys, dicts -/
def keyAt : W → Option (Int ⊕ Txt)
  | .int i => some (.inl i)
  | .str x => some (.inr x)
  | _ => none
def keyOf : W → Option Ky
  | .int i => some (.i i)
  | .str x => some (.s x)
  | .tup ws => (ws.mapM keyAt).map .t
  | _ => none
def Ky.isT : Ky → Bool
  | .t _ => true
  | _ => false
def dGet (kvs : List (Ky × W)) (k : Ky) : Option W := (kvs.find? fun p => decide (p.1 = k)).map (·.2)
def dPut (kvs : List (Ky × W)) (k : Ky) (w : W) : List (Ky × W) := if (kvs.any fun p => decide (p.1 = k)) = true then kvs.map fun p => if p.1 = k then (p.1, w) else p else kvs ++ [(k, w)]
def dctAt (L : Hh) : W → Option (Bool × List (Ky × W))
  | .ref l => match L[l]? with
    | some (.dct tt kvs) => some (tt, kvs)
    | _ => none
  | _ => none
/-- the key, if it fits the dict -/
def keyFit (tt : Bool) (w : W) : Option Ky := match keyOf w with
  | some k => if k.isT = tt then some k else none
  | none => none
/-- the item at i -/
def itemAt (x i : W) : M W := match x, i with
  | .str t, .int i => if lenOk t.length then (match L2.atI t i with | some c => ret (.str [c]) | none => fail) else fail
  | .tup ws, .int i => (match L2.atI ws i with | some w => ret w | none => fail)
  | .ref l, i => gets fun L => match L[l]? with
    | some (.lst ws) => (match i with
      | .int i => (match L2.atI ws i with | some w => ret w | none => fail)
      | _ => fail)
    | some (.ro ws) => (match i with
      | .int i => (match L2.atI ws i with | some w => ret w | none => fail)
      | _ => fail)
    | some (.dct tt kvs) => (match keyFit tt i with
      | some k => (match dGet kvs k with | some w => ret w | none => fail)
      | none => fail)
    | _ => fail
  | _, _ => fail
def sliceOf (x : W) (lo hi : Option Int) : M W := match x with
  | .str t => if lenOk t.length then ret (.str (cutL t lo hi)) else fail
  | .tup ws => ret (.tup (cutL ws lo hi))
  | .scr ws => alloc (.lst (cutL ws lo hi))
  | .ref l => gets fun L => match L[l]? with
    | some (.lst ws) => alloc (.lst (cutL ws lo hi))
    | some (.ro ws) => alloc (.lst (cutL ws lo hi))
    | _ => fail
  | _ => fail

/-! ### expressions -/
inductive Bi where | len | absf | maxf | minf | intf | allf | anyf | sortedf | listf | tuplef | strf | reprf | sumf | boolf
  deriving DecidableEq
inductive Bm where | join | append | pop | find | islower | isalpha | startswith | endswith | split | index | indexs
  deriving DecidableEq
/-- a class as isinstance has it: a built-in one, one of the program's -/
inductive Cl where | ty (n : String) | own (c : Nat)
  deriving DecidableEq
mutual
inductive Ex where
  | var (i : Nat) | kn | kb (b : Bool) | ki (i : Int) | ks (x : Txt)
  | gi (g : Str) (i : Int) | gs (g : Str) (x : Txt)
  | bin (op : BOp) (a b : Ex) | neg (a : Ex)
  | cmp (op : COp) (a b : Ex) | chn (o1 o2 : COp) (a b c : Ex)
  | band (xs : List Ex) | bor (xs : List Ex) | bnot (a : Ex)
  | ifx (c : Tx) (a b : Ex)
  | sub (a i : Ex) | slc (a : Ex) (lo hi : Option Ex)
  | lst (xs : List Ex) | tup (xs : List Ex)
  | call (t : Nat) (xs ys : List Ex)
  | bi (b : Bi) (xs : List Ex) | met (m : Bm) (o : Ex) (xs : List Ex)
  | lc (own : List (Str × Nat)) (t : Tgt) (it : It) (cs : List Tx) (x : Ex)
  | fld (o : Ex) (f : Nat) | prp (o : Ex) (m : Nat) | mcall (m : Nat) (o : Ex) (xs ys : List Ex) | mk (c : Nat) (xs ys : List Ex)
  | isi (x : Ex) (c : Cl) | isis (x : Ex) (cs : List Cl)
  | srtset (x : Ex) | lenset (x : Ex)
  | rev (a : Ex) | fst (ps : List Ex) | dnew (tt : Bool) | dsp (ps : List Ex) | dgetd (o k x : Ex)
  | kin (ng : Bool) (x : Ex) (g : Str) (ks : List Txt) | kget (x : Ex) (g : Str) (kvs : List (Txt × W)) | gt (g : Str) (ws : List W)
  | dun (i : Nat) (a b : Ex) | why (x : Ex)
  | xmk (k : Nat) (xs : List Ex) | xfl (o : Ex) (f : Nat) | xis (x : Ex) (cl : Cl)
inductive Tx where
  | val (x : Ex) | bv (x : Ex) | all (ts : List Tx) | any (ts : List Tx) | nt (t : Tx)
inductive It where
  | e (x : Ex) | rng (xs : List Ex) | enum (x : Ex) | zip (x y : Ex)
inductive Tgt where
  | nm (i : Nat) | tup (ts : List Tgt) | sub (o i : Ex) | fld (o : Ex) (f : Nat) | xfl (o : Ex) (f : Nat)
end

abbrev Fr := List (Option W)
structure Env where
  call : Nat → List W → M W
  /-- the same by one frame less: what an instance's making, a property calls -/
  callM : Nat → List W → M W := fun _ _ => fail
  /-- a field of a class's instances, that the class itself has not -/
  cf : Nat → Nat → Bool := fun _ _ => false
  /-- a class's method, property: its target -/
  mt : Nat → Nat → Option Nat := fun _ _ => none
  pt : Nat → Nat → Option Nat := fun _ _ => none
  mks : Nat → Option (Nat × Nat) := fun _ => none
  /-- an operator's method: 0 len, 1 repr, 2 in, 3 ==, 4 +, 5 *, 6 bool -/
  du : Nat → Nat → Option Nat := fun _ _ => none
  tag : Nat → Txt := fun _ => []
  /-- is a class below another -/
  sub : Nat → Nat → Bool := fun a b => a == b
  /-- exceptions: a making: its class, its __init__; a field that the class has not; isinstance -/
  xmks : Nat → Option (Nat × Nat) := fun _ => none
  xcf : Nat → Nat → Bool := fun _ _ => false
  xsub : Nat → Cl → Bool := fun _ _ => false
  /-- exceptions that are raised: class, how many arguments -/
  xin : Nat → Nat → Bool := fun _ _ => false
  /-- expressions one level, two levels less (a lambda's body, called by _law_why) -/
  ev1 : Fr → Ex → M W := fun _ _ => fail
  lamE : Fr → Ex → M W := fun _ _ => fail

def truth : W → M Bool
  | .non => ret false
  | .bl b => ret b
  | .int i => ret (i != 0)
  | .str x => if lenOk x.length then ret (!x.isEmpty) else fail
  | .tup ws => ret (!ws.isEmpty)
  | .ref l => gets fun L => match L[l]? with
    | some (.lst ws) => ret (!ws.isEmpty)
    | some (.ro ws) => ret (!ws.isEmpty)
    | _ => fail
  | _ => fail
/-- flat things, and == among them -/
def flatW : W → Bool
  | .non => true
  | .int _ => true
  | .bl _ => true
  | .str _ => true
  | _ => false
def eqW : W → W → Bool
  | .non, .non => true
  | .bl a, .bl b => a == b
  | .bl a, .int b => (if a then 1 else 0) == b
  | .int a, .bl b => a == (if b then 1 else 0)
  | .int a, .int b => a == b
  | .str a, .str b => a == b
  | _, _ => false
/-- x in y, y a list, a tuple, a dict -/
def inW (L : Hh) (x y : W) : Option Bool := match y with
  | .tup ws => if flatW x && ws.all flatW then some (ws.any fun y => eqW y x) else none
  | .ref l => match L[l]? with
    | some (.lst _) => (match asData L 64 x, asData L 64 (.ref l) with
      | some d, some (.list ds) => if SeqAt.shaped d && SeqAt.shaped (.list ds) then some (ds.any fun z => PyData.eqv z d) else none
      | _, _ => none)
    | some (.dct tt kvs) => (match keyFit tt x with
      | some k => some (dGet kvs k).isSome
      | none => none)
    | _ => none
  | _ => none
def inM (f : Bool → Bool) (x y : W) : M W := gets fun L => match inW L x y with
  | some b => ret (.bl (f b))
  | none => fail
def cmpop : COp → W → W → M W
  | .eq, x, y => bnd (eqop x y) fun b => ret (.bl b)
  | .ne, x, y => bnd (eqop x y) fun b => ret (.bl (!b))
  | .lt, .int i, .int j => ret (.bl (decide (i < j)))
  | .le, .int i, .int j => ret (.bl (decide (i ≤ j)))
  | .gt, .int i, .int j => ret (.bl (decide (j < i)))
  | .ge, .int i, .int j => ret (.bl (decide (j ≤ i)))
  | .is, x, .non => ret (.bl (isNone x))
  | .isn, x, .non => ret (.bl (!isNone x))
  | .inn, .str [c], .str y => ret (.bl (decide (c ∈ y)))
  | .nin, .str [c], .str y => ret (.bl (!decide (c ∈ y)))
  | .inn, x, .tup ws => inM id x (.tup ws)
  | .inn, x, .ref l => inM id x (.ref l)
  | .nin, x, .tup ws => inM not x (.tup ws)
  | .nin, x, .ref l => inM not x (.ref l)
  | _, _, _ => fail
def clsOf (L : Hh) : W → Option Nat
  | .ref l => match L[l]? with
    | some (.ins c _) => some c
    | _ => none
  | _ => none
/-- what is a list's or a tuple's items -/
def itemsOf (L : Hh) : W → Option (List W)
  | .tup ws => some ws
  | .ref l => match L[l]? with
    | some (.lst ws) => some ws
    | some (.ro ws) => some ws
    | _ => none
  | _ => none
def blOf : W → Option Bool
  | .bl b => some b
  | _ => none
def intOf : W → Option Int
  | .int i => some i
  | _ => none
def txtOf : W → Option Txt
  | .str x => some x
  | _ => none
/-- the order of texts, sorting them -/
def txtLe (x y : Txt) : Bool := !ltCps y x
def insT (x : Txt) : List Txt → List Txt
  | [] => [x]
  | y :: ys => if txtLe x y then x :: y :: ys else y :: insT x ys
def sortT : List Txt → List Txt
  | [] => []
  | x :: xs => insT x (sortT xs)
def insI (x : Int) : List Int → List Int
  | [] => [x]
  | y :: ys => if decide (x ≤ y) then x :: y :: ys else y :: insI x ys
def sortI : List Int → List Int
  | [] => []
  | x :: xs => insI x (sortI xs)
def callB : Bi → List W → M W
  | .len, [.str x] => if lenOk x.length then ret (.int x.length) else fail
  | .len, [w] => gets fun L => match itemsOf L w with
    | some ws => ret (.int ws.length)
    | none => fail
  | .intf, [.int i] => ret (.int i)
  | .intf, [.bl b] => ret (.int (if b then 1 else 0))
  | .allf, [.ref l] => gets fun L => match (itemsOf L (.ref l)).bind fun ws => ws.mapM blOf with
    | some bs => ret (.bl (bs.all id))
    | none => fail
  | .anyf, [.ref l] => gets fun L => match (itemsOf L (.ref l)).bind fun ws => ws.mapM blOf with
    | some bs => ret (.bl (bs.any id))
    | none => fail
  | .listf, [.str x] => if lenOk x.length then alloc (.lst (signs x)) else fail
  | .tuplef, [.str x] => if lenOk x.length then ret (.tup (signs x)) else fail
  | .sortedf, [.str x] => if lenOk x.length then alloc (.lst ((sortT (x.map fun c => [c])).map .str)) else fail
  | .listf, [w] => gets fun L => match itemsOf L w with
    | some ws => alloc (.lst ws)
    | none => fail
  | .tuplef, [w] => gets fun L => match itemsOf L w with
    | some ws => ret (.tup ws)
    | none => fail
  | .strf, [.int i] => if decide (i.natAbs.log2 < 1920) then ret (.str (toString i : Str).cps.toList) else fail
  | .strf, [.str x] => ret (.str x)
  | .minf, [.int i, .int j] => ret (.int (if j < i then j else i))
  | .maxf, [.int i, .int j] => ret (.int (if j > i then j else i))
  | .absf, [.int i] => ret (.int (if i < 0 then -i else i))
  | .sortedf, [.tup ws] => (match ws.mapM intOf with
    | some is => alloc (.lst ((sortI is).map .int))
    | none => fail)
  | .sortedf, [.ref l] => gets fun L => match itemsOf L (.ref l) with
    | some ws => (match ws.mapM intOf with
      | some is => alloc (.lst ((sortI is).map .int))
      | none => (match ws.mapM txtOf with
        | some ts => if decide (ts.length < 64) then alloc (.lst ((sortT ts).map .str)) else fail
        | none => fail))
    | none => fail
  | _, _ => fail
/-- sep.join(texts) -/
def joinT (sep : Txt) : List Txt → Txt
  | [] => []
  | [x] => x
  | x :: y :: xs => x ++ (sep ++ joinT sep (y :: xs))
def callM : Bm → W → List W → M W
  | .islower, .str x, [] => ret (.bl (PySem.Txt.islower ⟨x.toArray⟩))
  | .isalpha, .str x, [] => ret (.bl (PySem.Txt.isalpha ⟨x.toArray⟩))
  | .pop, .ref l, [] => gets fun L => match L[l]? with
    | some (.lst ws) => (match ws.getLast? with
      | some w => bnd (put l (.lst ws.dropLast)) fun _ => ret w
      | none => fail)
    | _ => fail
  | .find, .str x, [.str y] => ret (.int (PySem.Txt.find ⟨x.toArray⟩ ⟨y.toArray⟩))
  | .indexs, .str x, [.str y] => (match PySem.Txt.index0 ⟨x.toArray⟩ ⟨y.toArray⟩ with
    | some k => ret (.int (k : Nat))
    | none => fail)
  | .split, .str x, [.str y] => if decide (x.length + 2 ≤ sizeLine) && !y.isEmpty then alloc (.lst ((PySem.Txt.split ⟨x.toArray⟩ ⟨y.toArray⟩).map fun z => .str z.cps.toList)) else fail
  | .startswith, .str x, [.str y] => ret (.bl (PySem.Txt.startswith ⟨x.toArray⟩ ⟨y.toArray⟩))
  | .endswith, .str x, [.str y] => ret (.bl (PySem.Txt.endswith ⟨x.toArray⟩ ⟨y.toArray⟩))
  | .append, .ref l, [w] => gets fun L => match L[l]? with
    | some (.lst ws) => if decide (ws.length < sizeLine) then bnd (put l (.lst (ws ++ [w]))) fun _ => ret .non else fail
    | _ => fail
  | .join, .str sep, [w] => gets fun L => match (itemsOf L w).bind fun ws => ws.mapM txtOf with
    | some ts => if decide ((ts.map List.length).sum + ts.length * sep.length ≤ 16777216) then ret (.str (joinT sep ts)) else fail
    | none => fail
  | _, _, _ => fail
/-- a built-in value's type -/
def typeNm (L : Hh) : W → Option String
  | .non => some "NoneType"
  | .bl _ => some "bool"
  | .int _ => some "int"
  | .str _ => some "str"
  | .tup _ => some "tuple"
  | .ref l => match L[l]? with
    | some (.lst _) => some "list"
    | some (.ro _) => some "list"
    | some (.dct _ _) => some "dict"
    | _ => none
  | _ => none
/-- a method's receiver -/
def rcvOk (L : Hh) : Bm → W → Bool
  | .append, .ref l => (itemsOf L (.ref l)).isSome
  | .pop, .ref l => (itemsOf L (.ref l)).isSome
  | .append, _ => false
  | .pop, _ => false
  | _, .str _ => true
  | _, _ => false
/-- is the value of the class -/
def isKind (sb : Nat → Nat → Bool) (L : Hh) (w : W) : Cl → Option Bool
  | .ty n => (typeNm L w).map fun a => a == n || (a == "bool" && n == "int")
  | .own c => match w with
    | .ref l => (match L[l]? with
      | some (.ins k _) => some (sb k c)
      | some (.lst _) => some false
      | some (.ro _) => some false
      | some (.dct _ _) => some false
      | _ => none)
    | .exn _ _ => none
    | .clo _ _ => none
    | .scr _ => none
    | _ => some false
def anyKind (sb : Nat → Nat → Bool) (L : Hh) (w : W) : List Cl → Option Bool
  | [] => some false
  | c :: cs => match isKind sb L w c, anyKind sb L w cs with
    | some a, some b => some (a || b)
    | _, _ => none

def optI (m : M W) : M (Option Int) := bnd m fun w => match w with
  | .int i => ret (some i)
  | _ => fail
/-! ### what is walked -/
inductive Src where
  | seq (l : Nat) | vals (ws : List W) | rng (lo : Int) (n : Nat) | enum (l : Nat) | enumT (ws : List W) | zipL (a b : Nat) | zipT (xs ys : List W)
/-- the item at a turn: none: no answer; some none: the end -/
def srcAt (L : Hh) (i : Nat) : Src → Option (Option W)
  | .seq l => (itemsOf L (.ref l)).map fun ws => ws[i]?
  | .vals ws => some ws[i]?
  | .rng lo n => some (if i < n then some (.int (lo + i)) else none)
  | .enum l => (itemsOf L (.ref l)).map fun ws => ws[i]?.map fun w => .tup [.int i, w]
  | .enumT ws => some (ws[i]?.map fun w => .tup [.int i, w])
  | .zipL a b => match itemsOf L (.ref a), itemsOf L (.ref b) with
    | some xs, some ys => some (match xs[i]?, ys[i]? with
      | some x, some y => some (.tup [x, y])
      | _, _ => none)
    | _, _ => none
  | .zipT xs ys => some (match xs[i]?, ys[i]? with
      | some x, some y => some (.tup [x, y])
      | _, _ => none)
def fuel : Nat := 1099511627776
/-- a comprehension's turns: f gives the item's value, or nothing -/
def loopC (s : Src) (f : W → M (Option W)) : Nat → Nat → List W → M (List W)
  | 0, _, _ => fail
  | n + 1, i, acc => gets fun L => match srcAt L i s with
    | none => fail
    | some none => ret acc
    | some (some w) => bnd (f w) fun r => match r with
      | none => loopC s f n (i + 1) acc
      | some v => if decide (acc.length < sizeLine) then loopC s f n (i + 1) (acc ++ [v]) else fail
def wipeF (ρ : Fr) : List Nat → Fr
  | [] => ρ
  | v :: vs => (wipeF ρ vs).set v none
def getFld (fs : List (Nat × W)) (f : Nat) : Option W := (fs.find? fun p => p.1 == f).map (·.2)
def putFld (f : Nat) (w : W) : List (Nat × W) → List (Nat × W)
  | [] => [(f, w)]
  | (g, x) :: r => if g = f then (g, w) :: r else (g, x) :: putFld f w r
def smallR (i : Int) : Bool := decide (-(2 ^ 62) ≤ i) && decide (i < 2 ^ 62)
def setItem (o i w : W) : M Unit := match o with
  | .ref l => gets fun L => match L[l]? with
    | some (.lst ws) => (match i with
      | .int k => (match L2.ixN ws.length k with
        | some j => put l (.lst (ws.set j w))
        | none => fail)
      | _ => fail)
    | some (.dct tt kvs) => (match keyFit tt i with
      | some k => if decide (kvs.length < sizeLine) then put l (.dct tt (dPut kvs k w)) else fail
      | none => fail)
    | _ => fail
  | _ => fail
def setFld (C : Env) (o w : W) (f : Nat) : M Unit := match o with
  | .ref l => gets fun L => match L[l]? with
    | some (.ins c fs) => if C.cf c f && decide (fs.length < 900) then put l (.ins c (putFld f w fs)) else fail
    | _ => fail
  | _ => fail
def fldOf (C : Env) (o : W) (f : Nat) : M W := match o with
  | .ref l => gets fun L => match L[l]? with
    | some (.ins c fs) => if C.cf c f then (match getFld fs f with
      | some w => ret w
      | none => fail) else fail
    | _ => fail
  | _ => fail
def propOf (C : Env) (o : W) (m : Nat) : M W := gets fun L => match (clsOf L o).bind fun c => C.pt c m with
  | some t => noX (C.callM t [o])
  | none => fail
def makeOf (C : Env) (k : Nat) (as : List W) : M W := match C.mks k with
  | some (c, t) => bnd (alloc (.ins c [])) fun o => bnd (C.callM t (o :: as)) fun r => match r with
    | .non => ret o
    | _ => fail
  | none => fail
/-- exceptions as values -/
def makeX (C : Env) (k : Nat) (as : List W) : M W := match C.xmks k with
  | some (c, t) => bnd (alloc (.exi c none)) fun o => bnd (C.callM t (o :: as)) fun r => match r with
    | .non => ret o
    | _ => fail
  | none => fail
def xfldOf (C : Env) (o : W) (f : Nat) : M W := match o with
  | .ref l => gets fun L => match L[l]? with
    | some (.exi c (some d)) => (match L[d]? with
      | some (.xdc fs) => if C.xcf c f then (match getFld fs f with
        | some w => ret w
        | none => fail) else fail
      | _ => fail)
    | _ => fail
  | _ => fail
def setX (C : Env) (o w : W) (f : Nat) : M Unit := match o with
  | .ref l => gets fun L => match L[l]? with
    | some (.exi c none) => if C.xcf c f then bnd (alloc (.xdc [(f, w)])) fun _ => put l (.exi c (some L.length)) else fail
    | some (.exi c (some d)) => (match L[d]? with
      | some (.xdc fs) => if C.xcf c f && decide (fs.length ≤ 900) then put d (.xdc ((f, w) :: fs)) else fail
      | _ => fail)
    | _ => fail
  | _ => fail
def xisOf (C : Env) (o : W) (j : Cl) : M W := match o with
  | .ref l => gets fun L => match L[l]? with
    | some (.exi c (some d)) => (match L[d]? with
      | some (.xdc _) => ret (.bl (C.xsub c j))
      | _ => fail)
    | _ => fail
  | _ => fail
def dedup {α : Type} [DecidableEq α] : List α → List α
  | [] => []
  | x :: xs => if x ∈ dedup xs then dedup xs else x :: dedup xs
/-- sorted(set(x)), len(set(x)) -/
def sortSet : W → M W
  | .str x => if decide (x.length < 4000) then alloc (.lst ((sortT (dedup (x.map fun c => [c]))).map .str)) else fail
  | _ => fail
def lenSet (w : W) : M W := gets fun L => match (itemsOf L w).bind fun ws => ws.mapM intOf with
  | some is => ret (.int (dedup is).length)
  | none => fail

/-- an operator's own method -/
def callDu (C : Env) (i : Nat) (o : W) (as : List W) : M W := gets fun L => match (clsOf L o).bind fun c => C.du c i with
  | some t => noX (C.callM t (o :: as))
  | none => fail
def blM (f : Bool → Bool) (m : M W) : M W := bnd m fun r => match r with
  | .bl b => ret (.bl (f b))
  | _ => fail
/-- the second is of no class below the first one's -/
def sndOk (C : Env) (L : Hh) (x y : W) : Bool := match clsOf L x with
  | some c => (match clsOf L y with
    | some d => d == c || !C.sub d c
    | none => (typeNm L y).isSome)
  | none => false
def cmpX (C : Env) (op : COp) (x y : W) : M W := gets fun L => match op with
  | .eq => if (clsOf L x).isSome = true then (if sndOk C L x y = true then blM id (callDu C 3 x [y]) else fail) else cmpop .eq x y
  | .ne => if (clsOf L x).isSome = true then (if sndOk C L x y = true then blM not (callDu C 3 x [y]) else fail) else cmpop .ne x y
  | .inn => if (clsOf L y).isSome = true then blM id (callDu C 2 y [x]) else cmpop .inn x y
  | .nin => if (clsOf L y).isSome = true then blM not (callDu C 2 y [x]) else cmpop .nin x y
  | op => cmpop op x y
def lenM (m : M W) : M W := bnd m fun r => match r with
  | .int n => if decide (0 ≤ n) && decide (n < 2 ^ 63) then ret (.int n) else fail
  | _ => fail
def strM (m : M W) : M W := bnd m fun r => match r with
  | .str x => ret (.str x)
  | _ => fail
def callBX (C : Env) (b : Bi) (ws : List W) : M W := match b, ws with
  | .len, [w] => gets fun L => if (clsOf L w).isSome = true then lenM (callDu C 0 w []) else callB .len [w]
  | .reprf, [w] => gets fun L => if (clsOf L w).isSome = true then strM (callDu C 1 w []) else callB .reprf [w]
  | b, ws => callB b ws
/-- a part of an f-string -/
def fmtW : W → Option Txt
  | .str x => if lenOk x.length then some x else none
  | .int i => if decide (i.natAbs.log2 < 1920) then some (toString i : Str).cps.toList else none
  | _ => none
def revOf (w : W) : M W := match w with
  | .ref l => gets fun L => match itemsOf L (.ref l) with
    | some ws => alloc (.lst ws.reverse)
    | none => fail
  | _ => fail
/-- d.get(k, x) -/
def getD (o k x : W) : M W := gets fun L => match dctAt L o with
  | some (tt, kvs) => (match keyFit tt k with
    | some k => ret ((dGet kvs k).getD x)
    | none => fail)
  | none => fail
/-- what an error is told as -/
def whyW (C : Env) : W → Option W
  | .exn c fs => some (.tup [.str (C.tag c), fs.headD .non])
  | _ => none
mutual
def evE (C : Env) (ρ : Fr) : Ex → M W
  | .var i => (match ρ[i]? with
    | some (some w) => ret w
    | _ => fail)
  | .kn => ret .non
  | .kb b => ret (.bl b)
  | .ki i => ret (.int i)
  | .ks x => ret (.str x)
  | .gi _ i => ret (.int i)
  | .gs _ x => ret (.str x)
  | .bin op a b => bnd (evE C ρ a) fun x => bnd (evE C ρ b) fun y => binop op x y
  | .neg a => bnd (evE C ρ a) fun x => match x with
    | .int i => ret (.int (-i))
    | _ => fail
  | .cmp op a b => bnd (evE C ρ a) fun x => bnd (evE C ρ b) fun y => cmpX C op x y
  | .chn o1 o2 a b c => bnd (evE C ρ a) fun x => bnd (evE C ρ b) fun y => bnd (cmpop o1 x y) fun r => match r with
    | .bl true => bnd (evE C ρ c) fun z => cmpop o2 y z
    | .bl false => ret (.bl false)
    | _ => fail
  | .band xs => evAnd C ρ xs
  | .bor xs => evOr C ρ xs
  | .bnot a => bnd (evE C ρ a) fun x => bnd (truth x) fun b => ret (.bl (!b))
  | .ifx c a b => bnd (evT C ρ c) fun t => if t = true then evE C ρ a else evE C ρ b
  | .sub a i => bnd (evE C ρ a) fun x => bnd (evE C ρ i) fun y => itemAt x y
  | .slc a lo hi => bnd (evE C ρ a) fun x => bnd (evO C ρ lo) fun l => bnd (evO C ρ hi) fun h => sliceOf x l h
  | .lst xs => bnd (evEs C ρ xs) fun ws => if lenOk ws.length then alloc (.lst ws) else fail
  | .tup xs => bnd (evEs C ρ xs) fun ws => if lenOk ws.length then ret (.tup ws) else fail
  | .call t xs ys => bnd (evEs C ρ xs) fun ws => bnd (evEs C ρ ys) fun zs => C.call t (ws ++ zs)
  | .bi b xs => bnd (evEs C ρ xs) fun ws => callBX C b ws
  | .met m o xs => bnd (evE C ρ o) fun x => gets fun L => if rcvOk L m x then bnd (evEs C ρ xs) fun ws => callM m x ws else fail
  | .lc own t it cs x => bnd (evI C ρ it) fun s => noX (bnd (loopC s (fun w => bnd (asgT C t w (wipeF ρ (own.map (·.2)))) fun ρ1 => bnd (tsAnd C ρ1 cs) fun b => if b = true then bnd (evE C ρ1 x) fun v => ret (some v) else ret none) fuel 0 []) fun ws => alloc (.lst ws))
  | .fld o f => bnd (evE C ρ o) fun x => fldOf C x f
  | .prp o m => bnd (evE C ρ o) fun x => propOf C x m
  | .mcall m o xs ys => bnd (evE C ρ o) fun x => gets fun L => match (clsOf L x).bind fun c => C.mt c m with
    | some t => bnd (evEs C ρ xs) fun ws => bnd (evEs C ρ ys) fun zs => C.call t (x :: (ws ++ zs))
    | none => fail
  | .mk c xs ys => bnd (evEs C ρ xs) fun ws => bnd (evEs C ρ ys) fun zs => makeOf C c (ws ++ zs)
  | .isi x c => bnd (evE C ρ x) fun w => gets fun L => match isKind C.sub L w c with
    | some b => ret (.bl b)
    | none => fail
  | .isis x cs => bnd (evE C ρ x) fun w => gets fun L => if cs ≠ [] ∧ cs.length < 64 then match anyKind C.sub L w cs with
    | some b => ret (.bl b)
    | none => fail else fail
  | .srtset x => bnd (evE C ρ x) sortSet
  | .lenset x => bnd (evE C ρ x) lenSet
  | .rev x => bnd (evE C ρ x) revOf
  | .fst ps => bnd (evFs C ρ ps []) fun t => ret (.str t)
  | .dnew tt => alloc (.dct tt [])
  | .dsp ps => bnd (evPs C ρ ps) fun kvs => if decide (kvs.length ≤ 15) then alloc (.dct false (kvs.foldl (fun acc p => dPut acc p.1 p.2) [])) else fail
  | .dgetd o k x => bnd (evE C ρ o) fun d => gets fun L => if (dctAt L d).isSome = true then bnd (evE C ρ k) fun kv => bnd (evE C ρ x) fun xv => getD d kv xv else fail
  | .kin ng x _ ks => bnd (evE C ρ x) fun w => match w with
    | .str t => ret (.bl (if ng = true then !decide (t ∈ ks) else decide (t ∈ ks)))
    | _ => fail
  | .kget x _ kvs => bnd (evE C ρ x) fun w => match w with
    | .str t => (match kvs.lookup t with
      | some v => ret v
      | none => fail)
    | _ => fail
  | .gt _ ws => ret (.tup ws)
  | .dun i a b => bnd (evE C ρ a) fun x => bnd (evE C ρ b) fun y => gets fun L => if (clsOf L x).isSome = true ∧ clsOf L x = clsOf L y then callDu C i x [y] else fail
  | .xmk k xs => bnd (evEs C ρ xs) fun ws => makeX C k ws
  | .xfl o f => bnd (evE C ρ o) fun x => xfldOf C x f
  | .xis x j => bnd (evE C ρ x) fun w => xisOf C w j
  | .why x => fun L => match C.lamE ρ x L with
    | .ok w L1 => .ok (.tup [.str [], w]) L1
    | .exc e L1 => (match whyW C e with
      | some w => .ok w L1
      | none => .bad)
    | .bad => .bad
def evEs (C : Env) (ρ : Fr) : List Ex → M (List W)
  | [] => ret []
  | x :: xs => bnd (evE C ρ x) fun w => bnd (evEs C ρ xs) fun ws => ret (w :: ws)
def evFs (C : Env) (ρ : Fr) : List Ex → Txt → M Txt
  | [], acc => ret acc
  | x :: xs, acc => bnd (evE C ρ x) fun w => match fmtW w with
    | some y => if lenOk (acc.length + y.length) then evFs C ρ xs (acc ++ y) else fail
    | none => fail
def evPs (C : Env) (ρ : Fr) : List Ex → M (List (Ky × W))
  | [] => ret []
  | [_] => fail
  | k :: v :: r => bnd (evE C ρ k) fun kw => bnd (evE C ρ v) fun vw => bnd (evPs C ρ r) fun ps => match keyFit false kw with
    | some ky => ret ((ky, vw) :: ps)
    | none => fail
def evO (C : Env) (ρ : Fr) : Option Ex → M (Option Int)
  | none => ret none
  | some x => optI (evE C ρ x)
def evAnd (C : Env) (ρ : Fr) : List Ex → M W
  | [] => ret (.bl true)
  | x :: xs => bnd (evE C ρ x) fun w => if xs.isEmpty then ret w else match w with
    | .bl true => evAnd C ρ xs
    | .bl false => ret (.bl false)
    | _ => fail
def evOr (C : Env) (ρ : Fr) : List Ex → M W
  | [] => ret (.bl false)
  | x :: xs => bnd (evE C ρ x) fun w => if xs.isEmpty then ret w else match w with
    | .bl true => ret (.bl true)
    | .bl false => evOr C ρ xs
    | _ => fail
def evT (C : Env) (ρ : Fr) : Tx → M Bool
  | .val x => bnd (evE C ρ x) truth
  | .bv x => bnd (evE C ρ x) fun w => match w with
    | .bl b => ret b
    | _ => fail
  | .all ts => tsAnd C ρ ts
  | .any ts => tsOr C ρ ts
  | .nt t => bnd (evT C ρ t) fun b => ret (!b)
def tsAnd (C : Env) (ρ : Fr) : List Tx → M Bool
  | [] => ret true
  | x :: xs => bnd (evT C ρ x) fun b => if b = true then tsAnd C ρ xs else ret false
def tsOr (C : Env) (ρ : Fr) : List Tx → M Bool
  | [] => ret false
  | x :: xs => bnd (evT C ρ x) fun b => if b = true then ret true else tsOr C ρ xs
def evI (C : Env) (ρ : Fr) : It → M Src
  | .e x => bnd (evE C ρ x) fun w => match w with
    | .ref l => gets fun L => (match itemsOf L (.ref l) with
      | some _ => ret (.seq l)
      | none => fail)
    | .tup ws => ret (.vals ws)
    | .str x => ret (.vals (signs x))
    | _ => fail
  | .rng xs => bnd (evEs C ρ xs) fun ws => match ws with
    | [.int n] => if smallR n then ret (.rng 0 n.toNat) else fail
    | [.int a, .int b] => if smallR a && smallR b then ret (.rng a (b - a).toNat) else fail
    | _ => fail
  | .enum x => bnd (evE C ρ x) fun w => match w with
    | .ref l => gets fun L => (match itemsOf L (.ref l) with
      | some _ => ret (.enum l)
      | none => fail)
    | .tup ws => ret (.enumT ws)
    | _ => fail
  | .zip x y => bnd (evE C ρ x) fun w => bnd (evE C ρ y) fun v => match w, v with
    | .ref a, .ref b => gets fun L => (match itemsOf L (.ref a), itemsOf L (.ref b) with
      | some _, some _ => ret (.zipL a b)
      | _, _ => fail)
    | .tup xs, .tup ys => ret (.zipT xs ys)
    | _, _ => fail
def asgT (C : Env) : Tgt → W → Fr → M Fr
  | .nm i, w, ρ => ret (ρ.set i (some w))
  | .tup ts, w, ρ => (match w with
    | .tup ws => asgTs C ts ws ρ
    | _ => fail)
  | .sub o i, w, ρ => bnd (evE C ρ o) fun x => bnd (evE C ρ i) fun y => bnd (setItem x y w) fun _ => ret ρ
  | .fld o f, w, ρ => bnd (evE C ρ o) fun x => bnd (setFld C x w f) fun _ => ret ρ
  | .xfl o f, w, ρ => bnd (evE C ρ o) fun x => bnd (setX C x w f) fun _ => ret ρ
def asgTs (C : Env) : List Tgt → List W → Fr → M Fr
  | [], ws, ρ => if ws.isEmpty then ret ρ else fail
  | t :: ts, ws, ρ => (match ws with
    | w :: ws => bnd (asgT C t w ρ) fun ρ1 => asgTs C ts ws ρ1
    | [] => fail)
end
/-! ### statements -/
inductive Sm where
  | asg (t : Tgt) (x : Ex) | aug (i : Nat) (op : BOp) (x : Ex) | augf (o : Ex) (f : Nat) (op : BOp) (x : Ex)
  | exp (x : Ex) | ifs (c : Tx) (a b : List Sm) | whl (c : Tx) (b : List Sm) | fors (t : Tgt) (it : It) (b : List Sm)
  | rtn (x : Ex) | rtnN | pas | brk | cnt | nev | rse (c : Nat) (xs : List Ex)
inductive Fl where | nx | rt (w : W) | bk | ct | ex (e : W)
/-- an expression within a statement: an exception ends the statement -/
def sx {α : Type} (ρ : Fr) (m : M α) (k : α → M (Fl × Fr)) : M (Fl × Fr) := fun L => match m L with
  | .ok a L1 => k a L1
  | .exc e L1 => .ok (.ex e, ρ) L1
  | .bad => .bad
@[simp] theorem wp_sx {α : Type} {ρ : Fr} {m : M α} {k : α → M (Fl × Fr)} {L : Hh} {Q : Fl × Fr → Hh → Prop} {E : W → Hh → Prop} : wp (sx ρ m k) L Q E = wp m L (fun a L1 => wp (k a) L1 Q E) (fun e L1 => Q (.ex e, ρ) L1) := by
  unfold wp sx
  cases m L <;> rfl
def loopW (c : Fr → M Bool) (b : Fr → M (Fl × Fr)) : Nat → Fr → M (Fl × Fr)
  | 0, _ => fail
  | n + 1, ρ => sx ρ (c ρ) fun t => if t = true then bnd (b ρ) fun r => (match r.1 with
      | .nx => loopW c b n r.2
      | .ct => loopW c b n r.2
      | .bk => ret (.nx, r.2)
      | .rt w => ret (.rt w, r.2)
      | .ex e => ret (.ex e, r.2)) else ret (.nx, ρ)
def loopF (s : Src) (g : W → Fr → M Fr) (b : Fr → M (Fl × Fr)) : Nat → Nat → Fr → M (Fl × Fr)
  | 0, _, _ => fail
  | n + 1, i, ρ => gets fun L => match srcAt L i s with
    | none => fail
    | some none => ret (.nx, ρ)
    | some (some w) => sx ρ (g w ρ) fun ρ1 => bnd (b ρ1) fun r => (match r.1 with
      | .nx => loopF s g b n (i + 1) r.2
      | .ct => loopF s g b n (i + 1) r.2
      | .bk => ret (.nx, r.2)
      | .rt w => ret (.rt w, r.2)
      | .ex e => ret (.ex e, r.2))
/-- a op= b -/
def iop : BOp → W → W → M W
  | .add, .int i, .int j => ret (.int (i + j))
  | .add, .str x, .str y => if lenOk (x.length + y.length) then ret (.str (x ++ y)) else fail
  | .sub, .int i, .int j => ret (.int (i - j))
  | .add, .ref a, .ref b => gets fun L => match L[a]?, L[b]? with
    | some (.lst x), some (.lst y) => if lenOk (x.length + y.length) then bnd (put a (.lst (x ++ y))) fun _ => ret (.ref a) else fail
    | _, _ => fail
  | _, _, _ => fail
mutual
def exS (C : Env) : Sm → Fr → M (Fl × Fr)
  | .asg t x, ρ => sx ρ (evE C ρ x) fun w => sx ρ (asgT C t w ρ) fun ρ1 => ret (.nx, ρ1)
  | .aug i op x, ρ => (match ρ[i]? with
    | some (some v) => sx ρ (evE C ρ x) fun w => sx ρ (iop op v w) fun z => ret (.nx, ρ.set i (some z))
    | _ => fail)
  | .augf o f op x, ρ => sx ρ (evE C ρ o) fun ov => sx ρ (fldOf C ov f) fun v => sx ρ (evE C ρ x) fun w => sx ρ (iop op v w) fun z => sx ρ (setFld C ov z f) fun _ => ret (.nx, ρ)
  | .exp x, ρ => sx ρ (evE C ρ x) fun _ => ret (.nx, ρ)
  | .ifs c a b, ρ => sx ρ (evT C ρ c) fun t => if t = true then exSs C a ρ else exSs C b ρ
  | .whl c b, ρ => loopW (fun ρ => evT C ρ c) (fun ρ => exSs C b ρ) fuel ρ
  | .fors t it b, ρ => sx ρ (evI C ρ it) fun s => loopF s (fun w ρ => asgT C t w ρ) (fun ρ => exSs C b ρ) fuel 0 ρ
  | .rtn x, ρ => sx ρ (evE C ρ x) fun w => ret (.rt w, ρ)
  | .rtnN, ρ => ret (.rt .non, ρ)
  | .pas, ρ => ret (.nx, ρ)
  | .brk, ρ => ret (.bk, ρ)
  | .cnt, ρ => ret (.ct, ρ)
  | .nev, _ => fail
  | .rse c xs, ρ => sx ρ (evEs C ρ xs) fun ws => if C.xin c ws.length = true then ret (.ex (.exn c ws), ρ) else fail
def exSs (C : Env) : List Sm → Fr → M (Fl × Fr)
  | [], ρ => ret (.nx, ρ)
  | x :: xs, ρ => bnd (exS C x ρ) fun r => match r.1 with
    | .nx => exSs C xs r.2
    | .rt w => ret (.rt w, r.2)
    | .bk => ret (.bk, r.2)
    | .ct => ret (.ct, r.2)
    | .ex e => ret (.ex e, r.2)
end
/-- a def: its slots, its body -/
structure Df where
  slots : Nat
  body : List Sm
/-- what is done with a body's end -/
def endOf : Fl × Fr → M W
  | (.nx, _) => ret .non
  | (.rt w, _) => ret w
  | (.ex e, _) => thr e
  | _ => fail
def runD (C : Env) (f : Df) (as : List W) : M W := if decide (as.length ≤ f.slots) then bnd (exSs C f.body (as.map some ++ List.replicate (f.slots - as.length) none)) endOf else fail
example : evE { call := fun _ _ => fail } [some (.int 5)] (.ifx (.all [.bv (.cmp .lt (.var 0) (.ki 7)), .val (.kb true)]) (.bin .add (.var 0) (.ki 2)) (.ki 0)) [] = .ok (.int 7) [] := rfl
example : runD { call := fun _ _ => fail } ⟨3, [.asg (.nm 1) (.ki 0), .fors (.nm 2) (.rng [.var 0]) [.aug 1 .add (.var 2)], .rtn (.var 1)]⟩ [.int 5] [] = .ok (.int 10) [] := rfl
example : runD { call := fun _ _ => fail } ⟨2, [.rtn (.lc [(Str.empty, 1)] (.nm 1) (.e (.var 0)) [.nt (.bv (.cmp .eq (.var 1) (.ks [98])))] (.bin .add (.var 1) (.ks [120])))]⟩ [.str [97, 98, 99]] [] = .ok (.ref 0) [.lst [.str [97, 120], .str [99, 120]]] := by kernel_rfl

end Dx

set_option maxRecDepth 100000
set_option maxHeartbeats 2000000
/-! Dx2: what the evaluator's values and heaps stand for. -/
namespace Dx
open PySem PySem.Spec PyProof.Rows L2

structure G where
  P : Program
  w : World
  K : PySem.W.Frag
  mg : Str → Option Value
  base : Heap
  CN : List Str
  FN : List Str
  XN : List Str
  rx : List Addr → Hp → W → Value → Option Addr → Prop
  tb : List (Addr × Str)

/-- the law's script: it never changes -/
def Scr (K : PySem.W.Frag) (H : Hp) (a : Addr) (xs : List V) : Prop := (∃ o, H a = some (.frz o (.lst xs))) ∨ ∃ (o : Obj) (its : Array Value) (n : Nat), K.lookup a = some o ∧ o.cls = .type "list" ∧ o.dict = none ∧ o.data = .seq its n ∧ its.size ≤ sizeLine ∧ Vals xs its.toList
theorem Scr.sq {K : PySem.W.Frag} {H : Hp} {a : Addr} {xs : List V} (h : Scr K H a xs) : SqL K H a xs := by
  rcases h with ⟨o, h⟩ | h
  · exact .inl (.inr ⟨o, h⟩)
  · exact .inr h
theorem exd_frz {e : Addr} {fs : List (Str × V)} {o : Obj} {u : HO} : exd e fs ≠ .frz o u := fun z => by
  have z' : HO.ext _ = HO.frz o u := z
  cases z'
mutual
inductive RelW (K : PySem.W.Frag) (m : List Addr) (H : Hp) : W → V → Prop
  | non : RelW K m H .non .non
  | bl (b : Bool) : RelW K m H (.bl b) (.bl b)
  | int (i : Int) : RelW K m H (.int i) (.int i)
  | str (x : Txt) : RelW K m H (.str x) (.str ⟨x.toArray⟩)
  | tup {a : Addr} {xs : List V} {ws : List W} (h : H a = some (.tup xs)) (hr : RelWs K m H ws xs) : RelW K m H (.tup ws) (.ref a)
  | ref {l : Nat} {a : Addr} (h : m[l]? = some a) : RelW K m H (.ref l) (.ref a)
  | scr {a : Addr} {xs : List V} {ws : List W} (h : Scr K H a xs) (hr : RelWs K m H ws xs) : RelW K m H (.scr ws) (.ref a)
inductive RelWs (K : PySem.W.Frag) (m : List Addr) (H : Hp) : List W → List V → Prop
  | nil : RelWs K m H [] []
  | cons {w : W} {v : V} {ws : List W} {vs : List V} (h : RelW K m H w v) (hr : RelWs K m H ws vs) : RelWs K m H (w :: ws) (v :: vs)
end

def kS : Key → Int ⊕ Txt
  | .inl i => .inl i
  | .inr x => .inr x.cps.toList
def kyK : Key → Ky
  | .inl i => .i i
  | .inr x => .s x.cps.toList
def kyT (ks : List Key) : Ky := .t (ks.map kS)
def RelO (g : G) (m : List Addr) (H : Hp) (a : Addr) : O → Prop
  | .lst ws => ∃ xs, H a = some (.lst xs) ∧ RelWs g.K m H ws xs
  | .ro ws => ∃ o xs, H a = some (.frz o (.lst xs)) ∧ RelWs g.K m H ws xs
  | .dct false kvs => ∃ qs : List (Key × V), H a = some (.dK qs) ∧ kvs.map (·.1) = qs.map (fun q => kyK q.1) ∧ RelWs g.K m H (kvs.map (·.2)) (qs.map (·.2))
  | .dct true kvs => ∃ qs : List (List Key × V), H a = some (.dT qs) ∧ kvs.map (·.1) = qs.map (fun q => kyT q.1) ∧ RelWs g.K m H (kvs.map (·.2)) (qs.map (·.2))
  | .ins c fs => ∃ (dx : Addr) (qs : List (Str × V)), H a = some (.ins (He.ga g.K (g.CN.getD c Str.empty)) dx qs) ∧ qs.map (·.1) = fs.map (fun p => g.FN.getD p.1 Str.empty) ∧ (∀ p ∈ fs, p.1 < g.FN.length) ∧ RelWs g.K m H (fs.map (·.2)) (qs.map (·.2)) ∧ c < g.CN.length
  | .exi c none => H a = some (exo a (He.ga g.K (g.XN.getD c Str.empty)) none) ∧ c < g.XN.length
  | .exi c (some d) => ∃ ad, m[d]? = some ad ∧ H a = some (exo a (He.ga g.K (g.XN.getD c Str.empty)) (some ad)) ∧ c < g.XN.length
  | .xdc fs => ∃ qs : List (Str × V), H a = some (exd a qs) ∧ qs.map (·.1) = fs.map (fun p => g.FN.getD p.1 Str.empty) ∧ (∀ p ∈ fs, p.1 < g.FN.length) ∧ RelWs g.K m H (fs.map (·.2)) (qs.map (·.2))

/-- what a value's relation leans on -/
structure Ex0 (m : List Addr) (H : Hp) (m' : List Addr) (H' : Hp) : Prop where
  at_ : ∀ (l : Nat) (a : Addr), m[l]? = some a → m'[l]? = some a
  tups : ∀ a xs, H a = some (.tup xs) → H' a = some (.tup xs)
  frzs : ∀ a o u, H a = some (.frz o u) → H' a = some (.frz o u)
/-- nothing, or a table of code objects -/
def NT (H : Hp) (a : Addr) : Prop := H a = none ∨ ∃ ps, H a = some (.tbl ps)
theorem NT.no {H : Hp} {a : Addr} {u : HO} (h : NT H a) (e : H a = some u) (nt : ∀ ps, u ≠ .tbl ps) : False := by
  rcases h with h | ⟨ps, h⟩
  · rw [h] at e; cases e
  · rw [h] at e; exact nt ps (Option.some.inj e).symm
theorem NT.back {H H' : Hp} {a : Addr} (h : NT H' a) (k : ∀ u, H a = some u → (∀ ps, u ≠ .tbl ps) → H' a = some u) : NT H a := by
  cases e : H a with
  | none => exact .inl e
  | some u =>
    by_cases q : ∃ ps, u = .tbl ps
    · obtain ⟨ps, rfl⟩ := q
      exact .inr ⟨ps, e⟩
    · have q : ∀ ps, u ≠ .tbl ps := fun ps z => q ⟨ps, z⟩
      exact (h.no (k u e q) q).elim
/-- what a run leaves: new objects, the written ones; all else stays -/
structure Ext (m : List Addr) (H : Hp) (m' : List Addr) (H' : Hp) : Prop where
  pre : ∃ k, m' = m ++ k ∧ ∀ a ∈ k, NT H a
  tups : ∀ a xs, H a = some (.tup xs) → H' a = some (.tup xs)
  frzs : ∀ a o u, H a = some (.frz o u) → H' a = some (.frz o u)
  out : ∀ a u, H a = some u → a ∉ m → (∀ ps, u ≠ .tbl ps) → H' a = some u
  keep : ∀ a, NT H' a → NT H a
theorem Ext.x0 {m m' : List Addr} {H H' : Hp} (e : Ext m H m' H') : Ex0 m H m' H' := ⟨fun l a h => by
  obtain ⟨k, rfl, _⟩ := e.pre
  obtain ⟨hl, _⟩ := List.getElem?_eq_some_iff.mp h
  rw [List.getElem?_append_left hl]
  exact h, e.tups, e.frzs⟩
theorem Ext.refl (m : List Addr) (H : Hp) : Ext m H m H := ⟨⟨[], by simp, by simp⟩, fun _ _ h => h, fun _ _ _ h => h, fun _ _ h _ _ => h, fun _ h => h⟩
theorem Ext.trans {m m1 m2 : List Addr} {H H1 H2 : Hp} (a : Ext m H m1 H1) (b : Ext m1 H1 m2 H2) : Ext m H m2 H2 := by
  obtain ⟨k, rfl, hk⟩ := a.pre
  obtain ⟨k2, rfl, hk2⟩ := b.pre
  refine ⟨⟨k ++ k2, by simp, fun x hx => ?_⟩, fun x xs h => b.tups x xs (a.tups x xs h), fun x o u h => b.frzs x o u (a.frzs x o u h), fun x u h n nt => ?_, fun x h => a.keep x (b.keep x h)⟩
  · rcases List.mem_append.mp hx with h | h
    · exact hk x h
    · exact a.keep x (hk2 x h)
  · refine b.out x u (a.out x u h n nt) (fun hx => ?_) nt
    rcases List.mem_append.mp hx with q | q
    · exact n q
    · exact (hk x q).no h nt
/-- tracked objects stay, new ones come -/
theorem Ext.same {m : List Addr} {H H' : Hp} (k : ∀ a u, H a = some u → H' a = some u) : Ext m H m H' := ⟨⟨[], by simp, by simp⟩, fun a xs h => k _ _ h, fun a o u h => k _ _ h, fun a u h _ _ => k _ _ h, fun a h => h.back fun u e _ => k _ _ e⟩
theorem Ex0.sqT {K : PySem.W.Frag} {m m' : List Addr} {H H' : Hp} (e : Ex0 m H m' H') {a : Addr} {xs : List V} (h : SqT K H a xs) : SqT K H' a xs := by
  rcases h with (h | ⟨o, h⟩) | h
  · exact .inl (.inl (e.tups _ _ h))
  · exact .inl (.inr ⟨o, e.frzs _ _ _ h⟩)
  · exact .inr h
theorem Ex0.scr {K : PySem.W.Frag} {m m' : List Addr} {H H' : Hp} (e : Ex0 m H m' H') {a : Addr} {xs : List V} (h : Scr K H a xs) : Scr K H' a xs := by
  rcases h with ⟨o, h⟩ | h
  · exact .inl ⟨o, e.frzs _ _ _ h⟩
  · exact .inr h
mutual
theorem RelW.mono0 {K : PySem.W.Frag} {m m' : List Addr} {H H' : Hp} (e : Ex0 m H m' H') : ∀ {w : W} {v : V}, RelW K m H w v → RelW K m' H' w v
  | _, _, .non => .non
  | _, _, .bl b => .bl b
  | _, _, .int i => .int i
  | _, _, .str x => .str x
  | _, _, .tup h hr => .tup (e.tups _ _ h) (RelWs.mono0 e hr)
  | _, _, .ref h => .ref (e.at_ _ _ h)
  | _, _, .scr h hr => .scr (e.scr h) (RelWs.mono0 e hr)
theorem RelWs.mono0 {K : PySem.W.Frag} {m m' : List Addr} {H H' : Hp} (e : Ex0 m H m' H') : ∀ {ws : List W} {vs : List V}, RelWs K m H ws vs → RelWs K m' H' ws vs
  | _, _, .nil => .nil
  | _, _, .cons h hr => .cons (RelW.mono0 e h) (RelWs.mono0 e hr)
end
theorem RelW.mono {K : PySem.W.Frag} {m m' : List Addr} {H H' : Hp} (e : Ext m H m' H') {w : W} {v : V} (h : RelW K m H w v) : RelW K m' H' w v := h.mono0 e.x0
theorem RelWs.mono {K : PySem.W.Frag} {m m' : List Addr} {H H' : Hp} (e : Ext m H m' H') {ws : List W} {vs : List V} (h : RelWs K m H ws vs) : RelWs K m' H' ws vs := h.mono0 e.x0
section
variable {K : PySem.W.Frag} {m : List Addr} {H : Hp}
theorem RelWs.length {ws : List W} {vs : List V} (h : RelWs K m H ws vs) : ws.length = vs.length := by
  induction ws generalizing vs with
  | nil => cases h; rfl
  | cons w ws ih =>
    cases h with
    | cons a b => simp [ih b]
theorem RelWs.append {ws ws' : List W} {vs vs' : List V} (h : RelWs K m H ws vs) (h' : RelWs K m H ws' vs') : RelWs K m H (ws ++ ws') (vs ++ vs') := by
  induction ws generalizing vs with
  | nil => cases h; exact h'
  | cons w ws ih =>
    cases h with
    | cons a b => exact .cons a (ih b)
theorem RelWs.one {w : W} {v : V} (h : RelW K m H w v) : RelWs K m H [w] [v] := .cons h .nil
theorem RelWs.get {ws : List W} {vs : List V} (h : RelWs K m H ws vs) {i : Nat} {w : W} (e : ws[i]? = some w) : ∃ v, vs[i]? = some v ∧ RelW K m H w v := by
  induction ws generalizing vs i with
  | nil => simp at e
  | cons x ws ih =>
    cases h with
    | @cons _ y _ ys a b =>
      cases i with
      | zero => simp at e; subst e; exact ⟨y, rfl, a⟩
      | succ i => exact ih b (by simpa using e)
theorem RelWs.set {ws : List W} {vs : List V} (h : RelWs K m H ws vs) {i : Nat} {w : W} {v : V} (r : RelW K m H w v) : RelWs K m H (ws.set i w) (vs.set i v) := by
  induction ws generalizing vs i with
  | nil => cases h; exact .nil
  | cons x ws ih =>
    cases h with
    | cons a b =>
      cases i with
      | zero => exact .cons r b
      | succ i => exact .cons a (ih b)
theorem RelWs.drop {ws : List W} {vs : List V} (h : RelWs K m H ws vs) (n : Nat) : RelWs K m H (ws.drop n) (vs.drop n) := by
  induction n generalizing ws vs with
  | zero => exact h
  | succ n ih =>
    cases h with
    | nil => exact .nil
    | cons a b => exact ih b
theorem RelWs.take {ws : List W} {vs : List V} (h : RelWs K m H ws vs) (n : Nat) : RelWs K m H (ws.take n) (vs.take n) := by
  induction n generalizing ws vs with
  | zero => exact .nil
  | succ n ih =>
    cases h with
    | nil => exact .nil
    | cons a b => exact .cons a (ih b)
theorem RelWs.reverse {ws : List W} {vs : List V} (h : RelWs K m H ws vs) : RelWs K m H ws.reverse vs.reverse := by
  induction ws generalizing vs with
  | nil => cases h; exact .nil
  | cons w ws ih =>
    cases h with
    | cons a b => rw [List.reverse_cons, List.reverse_cons]; exact (ih b).append (.one a)
theorem RelWs.dropLast {ws : List W} {vs : List V} (h : RelWs K m H ws vs) : RelWs K m H ws.dropLast vs.dropLast := by
  rw [List.dropLast_eq_take, List.dropLast_eq_take, h.length]
  exact h.take _
theorem RelWs.isEmpty {ws : List W} {vs : List V} (h : RelWs K m H ws vs) : ws.isEmpty = vs.isEmpty := by cases h <;> rfl
end
theorem RelO.mono {g : G} {m m' : List Addr} {H H' : Hp} {a : Addr} {o : O} (e : Ex0 m H m' H') (k : ∀ u, H a = some u → H' a = some u) (r : RelO g m H a o) : RelO g m' H' a o := by
  cases o with
  | lst ws => obtain ⟨xs, h, q⟩ := r; exact ⟨xs, k _ h, q.mono0 e⟩
  | ro ws => obtain ⟨o, xs, h, q⟩ := r; exact ⟨o, xs, k _ h, q.mono0 e⟩
  | dct tt kvs =>
    cases tt
    · obtain ⟨qs, h, q1, q2⟩ := r; exact ⟨qs, k _ h, q1, q2.mono0 e⟩
    · obtain ⟨qs, h, q1, q2⟩ := r; exact ⟨qs, k _ h, q1, q2.mono0 e⟩
  | ins c fs => obtain ⟨dx, qs, h, q1, q3, q2, q9⟩ := r; exact ⟨dx, qs, k _ h, q1, q3, q2.mono0 e, q9⟩
  | exi c d =>
    cases d with
    | none => obtain ⟨h, q⟩ := r; exact ⟨k _ h, q⟩
    | some d => obtain ⟨ad, h1, h, q⟩ := r; exact ⟨ad, e.at_ _ _ h1, k _ h, q⟩
  | xdc fs => obtain ⟨qs, h, q1, q3, q2⟩ := r; exact ⟨qs, k _ h, q1, q3, q2.mono0 e⟩
theorem RelO.there {g : G} {m : List Addr} {H : Hp} {a : Addr} {o : O} (r : RelO g m H a o) : ∃ u, H a = some u := by
  cases o with
  | lst ws => obtain ⟨xs, h, q⟩ := r; exact ⟨_, h⟩
  | ro ws => obtain ⟨o, xs, h, q⟩ := r; exact ⟨_, h⟩
  | dct tt kvs =>
    cases tt
    · obtain ⟨qs, h, q1, q2⟩ := r; exact ⟨_, h⟩
    · obtain ⟨qs, h, q1, q2⟩ := r; exact ⟨_, h⟩
  | ins c fs => obtain ⟨dx, qs, h, q1, q3, q2⟩ := r; exact ⟨_, h⟩
  | exi c d =>
    cases d with
    | none => obtain ⟨h, q⟩ := r; exact ⟨_, h⟩
    | some d => obtain ⟨ad, h1, h, q⟩ := r; exact ⟨_, h⟩
  | xdc fs => obtain ⟨qs, h, q1, q3, q2⟩ := r; exact ⟨_, h⟩
theorem exo_tbl {e C : Addr} {d : Option Addr} {ps : Array Value} : exo e C d ≠ .tbl ps := fun z => by
  have z' : HO.ext _ = HO.tbl ps := z
  cases z'
theorem exd_tbl {e : Addr} {fs : List (Str × V)} {ps : Array Value} : exd e fs ≠ .tbl ps := fun z => by
  have z' : HO.ext _ = HO.tbl ps := z
  cases z'
theorem RelO.noTbl {g : G} {m : List Addr} {H : Hp} {a : Addr} {o : O} (r : RelO g m H a o) : ∀ ps, H a ≠ some (.tbl ps) := by
  intro ps z
  cases o with
  | lst ws => obtain ⟨xs, h, q⟩ := r; rw [h] at z; cases z
  | ro ws => obtain ⟨o, xs, h, q⟩ := r; rw [h] at z; cases z
  | dct tt kvs =>
    cases tt
    · obtain ⟨qs, h, q1, q2⟩ := r; rw [h] at z; cases z
    · obtain ⟨qs, h, q1, q2⟩ := r; rw [h] at z; cases z
  | ins c fs => obtain ⟨dx, qs, h, q1, q3, q2⟩ := r; rw [h] at z; cases z
  | exi c d =>
    cases d with
    | none => obtain ⟨h, q⟩ := r; rw [h] at z; exact exo_tbl (Option.some.inj z)
    | some d => obtain ⟨ad, h1, h, q⟩ := r; rw [h] at z; exact exo_tbl (Option.some.inj z)
  | xdc fs => obtain ⟨qs, h, q1, q3, q2⟩ := r; rw [h] at z; exact exd_tbl (Option.some.inj z)
/-- a logical object that may be written -/
def O.mut : O → Bool
  | .ro _ => false
  | _ => true
theorem RelO.noTup {g : G} {m : List Addr} {H : Hp} {a : Addr} {o : O} (r : RelO g m H a o) (hm : o.mut = true) : (∀ xs, H a ≠ some (.tup xs)) ∧ ∀ ob u, H a ≠ some (.frz ob u) := by
  cases o with
  | lst ws => obtain ⟨xs, h, q⟩ := r; exact ⟨fun _ z => (by rw [h] at z; cases z), fun _ _ z => (by rw [h] at z; cases z)⟩
  | ro ws => cases hm
  | dct tt kvs =>
    cases tt
    · obtain ⟨qs, h, q1, q2⟩ := r; exact ⟨fun _ z => (by rw [h] at z; cases z), fun _ _ z => (by rw [h] at z; cases z)⟩
    · obtain ⟨qs, h, q1, q2⟩ := r; exact ⟨fun _ z => (by rw [h] at z; cases z), fun _ _ z => (by rw [h] at z; cases z)⟩
  | ins c fs => obtain ⟨dx, qs, h, q1, q3, q2⟩ := r; exact ⟨fun _ z => (by rw [h] at z; cases z), fun _ _ z => (by rw [h] at z; cases z)⟩
  | exi c d =>
    cases d with
    | none => obtain ⟨h, q⟩ := r; exact ⟨fun _ z => (by rw [h] at z; exact exo_tup (Option.some.inj z)), fun _ _ z => (by rw [h] at z; exact exo_frz (Option.some.inj z))⟩
    | some d => obtain ⟨ad, h1, h, q⟩ := r; exact ⟨fun _ z => (by rw [h] at z; exact exo_tup (Option.some.inj z)), fun _ _ z => (by rw [h] at z; exact exo_frz (Option.some.inj z))⟩
  | xdc fs => obtain ⟨qs, h, q1, q3, q2⟩ := r; exact ⟨fun _ z => (by rw [h] at z; exact exd_tup (Option.some.inj z)), fun _ _ z => (by rw [h] at z; exact exd_frz (Option.some.inj z))⟩

/-- a table of code objects, out of the logical heap's reach -/
def TabM (m : List Addr) (H : Hp) (p : Addr × Str) : Prop := p.1 ∉ m ∧ ∃ ps : Array Value, H p.1 = some (.tbl ps) ∧ TriplesOk ps.toList ∧ ∀ (pos : Pos) (cv : Value), codeAmong pos ps.toList = some cv → ∃ c, cv = .ref c ∧ H c = some (LamX.CodeO c p.2) ∧ c ∉ m
theorem TabM.same {m : List Addr} {H H' : Hp} {p : Addr × Str} (t : TabM m H p) (k : ∀ a u, H a = some u → H' a = some u) : TabM m H' p := by
  obtain ⟨n, ps, h1, h2, h3⟩ := t
  exact ⟨n, ps, k _ _ h1, h2, fun pos cv hc => let ⟨c, e1, e2, e3⟩ := h3 pos cv hc; ⟨c, e1, k _ _ e2, e3⟩⟩
theorem TabM.tabs {m : List Addr} {H : Hp} {p : Addr × Str} (t : TabM m H p) : LamX.TabS H p.1 p.2 := by
  obtain ⟨n, ps, h1, h2, h3⟩ := t
  exact ⟨ps, h1, h2, fun pos cv hc => let ⟨c, e1, e2, e3⟩ := h3 pos cv hc; ⟨c, e1, e2⟩⟩
/-- a is written -/
theorem TabM.upd {m : List Addr} {H : Hp} {p : Addr × Str} {a : Addr} {u : HO} (t : TabM m H p) (h1 : ∀ ps, H a ≠ some (.tbl ps)) (h2 : ∀ c q, a ∉ m → H a ≠ some (LamX.CodeO c q)) : TabM m (L2.upd H a u) p := by
  obtain ⟨n, ps, e1, e2, e3⟩ := t
  have ne : ∀ b, H b = some (.tbl ps) → b ≠ a := fun b e z => h1 ps (by rw [← z]; exact e)
  refine ⟨n, ps, by rw [upd_ne (ne _ e1)]; exact e1, e2, fun pos cv hc => ?_⟩
  obtain ⟨c, f1, f2, f3⟩ := e3 pos cv hc
  refine ⟨c, f1, ?_, f3⟩
  rw [upd_ne]
  · exact f2
  · intro z
    subst z
    exact h2 _ _ f3 f2
theorem TabM.snoc {m : List Addr} {H : Hp} {p : Addr × Str} {a : Addr} (t : TabM m H p) (h1 : ∀ ps, H a ≠ some (.tbl ps)) (h2 : ∀ c q, H a ≠ some (LamX.CodeO c q)) : TabM (m ++ [a]) H p := by
  obtain ⟨n, ps, e1, e2, e3⟩ := t
  refine ⟨fun z => ?_, ps, e1, e2, fun pos cv hc => ?_⟩
  · rcases List.mem_append.mp z with z | z
    · exact n z
    · simp at z
      rw [z] at e1
      exact h1 _ e1
  · obtain ⟨c, f1, f2, f3⟩ := e3 pos cv hc
    refine ⟨c, f1, f2, fun z => ?_⟩
    rcases List.mem_append.mp z with z | z
    · exact f3 z
    · simp at z
      rw [z] at f2
      exact h2 _ _ f2
theorem TabM.new {m : List Addr} {H : Hp} {p : Addr × Str} {a : Addr} {u : HO} (t : TabM m H p) (h : H a = none) : TabM (m ++ [a]) (L2.upd H a u) p := by
  have t2 : TabM (m ++ [a]) H p := t.snoc (fun ps z => by rw [h] at z; cases z) fun c q z => by rw [h] at z; cases z
  exact t2.same fun b v e => by rw [upd_ne (ne_of_none e h)]; exact e
structure Sim (g : G) (m : List Addr) (L : Hh) (H : Hp) : Prop where
  len : m.length = L.length
  nd : m.Nodup
  ob : ∀ (l : Nat) (a : Addr) (o : O), m[l]? = some a → L[l]? = some o → RelO g m H a o
  tb : ∀ q ∈ g.tb, TabM m H q
section
variable {g : G} {m : List Addr} {L : Hh} {H : Hp}
theorem Sim.addr (S : Sim g m L H) {l : Nat} {o : O} (h : L[l]? = some o) : ∃ a, m[l]? = some a ∧ RelO g m H a o := by
  obtain ⟨hl, _⟩ := List.getElem?_eq_some_iff.mp h
  have hm : l < m.length := by rw [S.len]; exact hl
  exact ⟨m[l], List.getElem?_eq_getElem hm, S.ob l _ o (List.getElem?_eq_getElem hm) h⟩
theorem Sim.obj (S : Sim g m L H) {l : Nat} {a : Addr} (h : m[l]? = some a) : ∃ o, L[l]? = some o ∧ RelO g m H a o := by
  obtain ⟨hl, _⟩ := List.getElem?_eq_some_iff.mp h
  have hm : l < L.length := by rw [← S.len]; exact hl
  exact ⟨L[l], List.getElem?_eq_getElem hm, S.ob l a _ h (List.getElem?_eq_getElem hm)⟩
theorem Sim.mem (S : Sim g m L H) {a : Addr} (h : a ∈ m) : ∃ u, H a = some u := by
  obtain ⟨l, hl⟩ := List.getElem?_of_mem h
  obtain ⟨o, _, r⟩ := S.obj hl
  exact r.there
/-- what is tracked stays as it was, but for new objects -/
theorem Sim.same {H' : Hp} (S : Sim g m L H) (k : ∀ a u, H a = some u → H' a = some u) : Ext m H m H' ∧ Sim g m L H' := by
  have e : Ext m H m H' := Ext.same k
  exact ⟨e, S.len, S.nd, fun l a o h1 h2 => (S.ob l a o h1 h2).mono e.x0 (k a), fun q hq => (S.tb q hq).same k⟩
/-- a new tracked object that is no object of the logical heap (a tuple) -/
theorem Sim.free {p : Addr} {u : HO} (S : Sim g m L H) (hp : H p = none) : Ext m H m (upd H p u) ∧ Sim g m L (upd H p u) :=
  S.same fun a v h => by rw [upd_ne (ne_of_none h hp)]; exact h
theorem Sim.notIn {p : Addr} (S : Sim g m L H) (hp : H p = none) : p ∉ m := fun h => by
  obtain ⟨u, hu⟩ := S.mem h
  rw [hp] at hu
  cases hu
/-- a tracked object is taken into the logical heap -/
theorem Sim.adopt {p : Addr} {o : O} (S : Sim g m L H) (hp : p ∉ m) (r : RelO g (m ++ [p]) H p o) (ht : ∀ q ∈ g.tb, TabM (m ++ [p]) H q) : Sim g (m ++ [p]) (L ++ [o]) H := by
  have e : Ex0 m H (m ++ [p]) H := ⟨fun l a h => by
    obtain ⟨hl, _⟩ := List.getElem?_eq_some_iff.mp h
    rw [List.getElem?_append_left hl]
    exact h, fun _ _ h => h, fun _ _ _ h => h⟩
  refine ⟨by simp [S.len], ?_, fun l a o' h1 h2 => ?_, ht⟩
  · refine List.nodup_append.mpr ⟨S.nd, by simp, fun a ha b hb z => ?_⟩
    simp at hb
    subst hb
    subst z
    exact hp ha
  · by_cases hl : l < m.length
    · rw [List.getElem?_append_left hl] at h1
      rw [List.getElem?_append_left (by rw [← S.len]; exact hl)] at h2
      exact (S.ob l a o' h1 h2).mono e fun _ h => h
    · have hl1 : l = m.length := by
        obtain ⟨q, _⟩ := List.getElem?_eq_some_iff.mp h1
        simp at q
        omega
      subst hl1
      rw [List.getElem?_append_right (Nat.le_refl _)] at h1
      rw [List.getElem?_append_right (by rw [S.len]; exact Nat.le_refl _), S.len] at h2
      simp at h1 h2
      subst h1 h2
      exact r
theorem Ext.adopt {m' : List Addr} {H' : Hp} {p : Addr} (e : Ext m H m' H') (hp : H p = none) : Ext m H (m' ++ [p]) H' := by
  obtain ⟨k, rfl, hk⟩ := e.pre
  refine ⟨⟨k ++ [p], by simp, fun a ha => ?_⟩, e.tups, e.frzs, e.out, e.keep⟩
  rcases List.mem_append.mp ha with h | h
  · exact hk a h
  · simp at h
    subst h
    exact .inl hp
/-- a new object -/
theorem Sim.new {p : Addr} {u : HO} {o : O} (S : Sim g m L H) (hp : H p = none) (r : RelO g (m ++ [p]) (upd H p u) p o) : Ext m H (m ++ [p]) (upd H p u) ∧ Sim g (m ++ [p]) (L ++ [o]) (upd H p u) := by
  obtain ⟨e, S1⟩ := S.free (u := u) hp
  exact ⟨e.adopt hp, S1.adopt (S.notIn hp) r fun q hq => (S.tb q hq).new hp⟩
/-- an object that is tracked apart is written (a comprehension's list) -/
theorem Ext.apart {m' : List Addr} {H' : Hp} {p : Addr} {u : HO} (e : Ext m H m' H') (hp : H p = none) : Ext m H m' (upd H' p u) := by
  have ne : ∀ a v, H a = some v → a ≠ p := fun a v h => ne_of_none h hp
  refine ⟨e.pre, fun a xs h => by rw [upd_ne (ne a _ h)]; exact e.tups a xs h, fun a o v h => by rw [upd_ne (ne a _ h)]; exact e.frzs a o v h, fun a v h n nt => by rw [upd_ne (ne a _ h)]; exact e.out a v h n nt, fun a h => ?_⟩
  by_cases ha : a = p
  · subst ha
    exact .inl hp
  · unfold NT at h
    rw [upd_ne ha] at h
    exact e.keep a h
theorem Sim.apart {p : Addr} {xs ys : List V} (S : Sim g m L H) (hp : p ∉ m) (hl : H p = some (.lst xs)) : Sim g m L (upd H p (.lst ys)) ∧ Ex0 m H m (upd H p (.lst ys)) := by
  have e : Ex0 m H m (upd H p (.lst ys)) := ⟨fun _ _ h => h, fun a zs h => by rw [upd_ne (fun z => by rw [z, hl] at h; cases h)]; exact h, fun a o u h => by rw [upd_ne (fun z => by rw [z, hl] at h; cases h)]; exact h⟩
  exact ⟨⟨S.len, S.nd, fun l a o h1 h2 => (S.ob l a o h1 h2).mono e fun u h => by rw [upd_ne (show a ≠ p from fun z => hp (by rw [← z]; exact List.mem_of_getElem? h1))]; exact h, fun q hq => (S.tb q hq).upd (fun ps z => by rw [hl] at z; cases z) fun c q _ z => by rw [hl] at z; have z2 := Option.some.inj z; unfold LamX.CodeO at z2; cases z2⟩, e⟩
/-- an object is written -/
theorem Sim.put {l : Nat} {a : Addr} {o o' : O} {u : HO} (S : Sim g m L H) (hl : m[l]? = some a) (ho : L[l]? = some o) (hm : o.mut = true) (r : Ext m H m (upd H a u) → RelO g m (upd H a u) a o') (hu : ∀ ps, u ≠ .tbl ps := by first | exact fun _ => exo_tbl | exact fun _ => exd_tbl | (intro ps z; cases z)) :
    Ext m H m (upd H a u) ∧ Sim g m (L.set l o') (upd H a u) := by
  have ra := S.ob l a o hl ho
  obtain ⟨n1, n2⟩ := ra.noTup hm
  have am : a ∈ m := List.mem_of_getElem? hl
  have e : Ext m H m (upd H a u) := by
    refine ⟨⟨[], by simp, by simp⟩, fun b xs h => by rw [upd_ne (fun z => n1 xs (by rw [← z]; exact h))]; exact h, fun b ob v h => by rw [upd_ne (fun z => n2 ob v (by rw [← z]; exact h))]; exact h, fun b v h n _ => by rw [upd_ne (show b ≠ a from fun z => n (by rw [z]; exact am))]; exact h, fun b h => ?_⟩
    by_cases hb : b = a
    · subst hb
      exact (h.no upd_same hu).elim
    · unfold NT at h
      rw [upd_ne hb] at h
      exact h
  refine ⟨e, ⟨by simp [S.len], S.nd, fun k b ob h1 h2 => ?_, fun q hq => (S.tb q hq).upd (fun ps z => (RelO.noTbl ra) ps z) fun c q n _ => n am⟩⟩
  by_cases hk : k = l
  · subst hk
    rw [hl] at h1
    cases h1
    rw [List.getElem?_set_self (by obtain ⟨q, _⟩ := List.getElem?_eq_some_iff.mp ho; exact q)] at h2
    cases h2
    exact r e
  · rw [List.getElem?_set_ne (Ne.symm hk)] at h2
    have hb : b ≠ a := fun z => hk (by
      subst z
      obtain ⟨q1, e1⟩ := List.getElem?_eq_some_iff.mp h1
      obtain ⟨q2, e2⟩ := List.getElem?_eq_some_iff.mp hl
      exact (List.getElem_inj S.nd).mp (e1.trans e2.symm))
    exact (S.ob k b ob h1 h2).mono e.x0 fun v h => by rw [upd_ne hb]; exact h
end

theorem sqT {K : PySem.W.Frag} {H : Hp} {a : Addr} {xs : List V} (h : H a = some (.tup xs)) : SqT K H a xs := .inl (.inl h)
/-! ### frames -/
structure RelF (K : PySem.W.Frag) (m : List Addr) (H : Hp) (ρ : Fr) (σ : L2.St) : Prop where
  len : ρ.length = σ.length
  at_ : ∀ (i : Nat) (w : W), ρ[i]? = some (some w) → ∃ v, σ[i]? = some (some v) ∧ RelW K m H w v
theorem RelF.mono0 {K : PySem.W.Frag} {m m' : List Addr} {H H' : Hp} {ρ : Fr} {σ : L2.St} (e : Ex0 m H m' H') (r : RelF K m H ρ σ) : RelF K m' H' ρ σ :=
  ⟨r.len, fun i w h => let ⟨v, h1, h2⟩ := r.at_ i w h; ⟨v, h1, h2.mono0 e⟩⟩
theorem RelF.mono {K : PySem.W.Frag} {m m' : List Addr} {H H' : Hp} {ρ : Fr} {σ : L2.St} (e : Ext m H m' H') (r : RelF K m H ρ σ) : RelF K m' H' ρ σ :=
  ⟨r.len, fun i w h => let ⟨v, h1, h2⟩ := r.at_ i w h; ⟨v, h1, h2.mono e⟩⟩
theorem RelF.set {K : PySem.W.Frag} {m : List Addr} {H : Hp} {ρ : Fr} {σ : L2.St} (r : RelF K m H ρ σ) {i : Nat} {w : W} {v : V} (q : RelW K m H w v) : RelF K m H (ρ.set i (some w)) (σ.set i (some v)) := by
  refine ⟨by simp [r.len], fun j x h => ?_⟩
  by_cases hj : i = j
  · subst hj
    have hi : i < ρ.length := by
      by_cases hi : i < ρ.length
      · exact hi
      · rw [List.getElem?_eq_none (by simpa using hi)] at h; cases h
    rw [List.getElem?_set_self hi] at h
    cases h
    exact ⟨v, List.getElem?_set_self (by rw [← r.len]; exact hi), q⟩
  · rw [List.getElem?_set_ne hj] at h ⊢
    exact r.at_ j x h

/-! ### a run, and what it brings about -/
def run (g : G) (X : L2.St → W → Value → Option Addr → Hp → Prop) (σ : L2.St) {α β : Type} (R : List Addr → Hp → α → β → Prop) (c : M α) (m : List Addr) (H : Hp) (L : Hh) (Q : β → Hp → Prop) : Prop :=
  wp c L (fun a L' => ∀ m' H' b, Ext m H m' H' → Sim g m' L' H' → R m' H' a b → Q b H')
    fun e L' => ∀ m' H' cls d, Ext m H m' H' → Sim g m' L' H' → g.rx m' H' e cls d → X σ e cls d H'
section
variable {g : G} {X : L2.St → W → Value → Option Addr → Hp → Prop} {σ : L2.St} {α β γ δ : Type} {R : List Addr → Hp → α → β → Prop} {R' : List Addr → Hp → γ → δ → Prop} {m m1 : List Addr} {H H1 : Hp} {L : Hh} {Q : β → Hp → Prop}
theorem run.shift {c : M α} (e : Ext m H m1 H1) (h : run g X σ R c m H L Q) : run g X σ R c m1 H1 L Q :=
  wp_mono h (fun _ _ q m' H' b e' s r => q m' H' b (e.trans e') s r) fun _ _ q m' H' cls d e' s r => q m' H' cls d (e.trans e') s r
theorem run.imp {c : M α} {Q' : β → Hp → Prop} (h : run g X σ R c m H L Q) (k : ∀ b H', Q b H' → Q' b H') : run g X σ R c m H L Q' :=
  wp_mono h (fun _ _ q m' H' b e' s r => k _ _ (q m' H' b e' s r)) fun _ _ q => q
theorem run_bnd {c : M γ} {f : γ → M α} (h : run g X σ R (bnd c f) m H L Q) :
    run g X σ R' c m H L (fun d H1 => ∃ m1 L1 a, Ext m H m1 H1 ∧ Sim g m1 L1 H1 ∧ R' m1 H1 a d ∧ run g X σ R (f a) m1 H1 L1 Q) := by
  unfold run at h ⊢
  rw [wp_bnd] at h
  refine wp_mono h (fun a L1 q m1 H1 b e1 s1 r1 => ⟨m1, L1, a, e1, s1, r1, ?_⟩) fun _ _ q => q
  exact wp_mono q (fun _ _ q m' H' b e' s r => q m' H' b (e1.trans e') s r) fun _ _ q m' H' cls d e' s r => q m' H' cls d (e1.trans e') s r
theorem run_ret {a : α} {b : β} (h : run g X σ R (ret a) m H L Q) (s : Sim g m L H) (r : R m H a b) : Q b H := h m H b (Ext.refl m H) s r
theorem run_fail (h : run g X σ R (fail : M α) m H L Q) : False := h
theorem run_if {p : Prop} [Decidable p] {c c' : M α} (h : run g X σ R (if p then c else c') m H L Q) : (p ∧ run g X σ R c m H L Q) ∨ (¬ p ∧ run g X σ R c' m H L Q) := by
  by_cases hp : p
  · rw [if_pos hp] at h; exact .inl ⟨hp, h⟩
  · rw [if_neg hp] at h; exact .inr ⟨hp, h⟩
end
abbrev XW : Type := L2.St → W → Value → Option Addr → Hp → Prop
end Dx

set_option maxRecDepth 100000
set_option maxHeartbeats 2000000
/-! Dx3: the operations by values keep what the evaluator says. -/
namespace Dx
open PySem PySem.Spec PyProof.Rows L2

/-- the tables of a program -/
structure Tab where
  CN : List Str
  FN : List Str
  XN : List Str
  rx : List Addr → Hp → W → Value → Option Addr → Prop
  tb : List (Addr × Str) := []
abbrev Tab.g (T : Tab) (X : Cx) : G := ⟨X.prog, X.w, X.K, X.mg, X.base, T.CN, T.FN, T.XN, T.rx, T.tb⟩

abbrev RB : List Addr → Hp → Bool → Bool → Prop := fun _ _ a b => a = b
abbrev RU : List Addr → Hp → Unit → Unit → Prop := fun _ _ _ _ => True
/-- a two-place operation's reading -/
def rO2 (g : G) (Xw : XW) (f : W → W → M W) : R2 := fun x y H Q => ∃ σ m L a b, Sim g m L H ∧ RelW g.K m H a x ∧ RelW g.K m H b y ∧ run g Xw σ (RelW g.K) (f a b) m H L Q
def rO1 (g : G) (Xw : XW) (f : W → M W) : V → Hp → VK → Prop := fun x H Q => ∃ σ m L a, Sim g m L H ∧ RelW g.K m H a x ∧ run g Xw σ (RelW g.K) (f a) m H L Q
def rOs (g : G) (Xw : XW) (f : List W → M W) : List V → Hp → VK → Prop := fun xs H Q => ∃ σ m L as, Sim g m L H ∧ RelWs g.K m H as xs ∧ run g Xw σ (RelW g.K) (f as) m H L Q
def rMs (g : G) (Xw : XW) (f : W → List W → M W) : V → List V → Hp → VK → Prop := fun x xs H Q => ∃ σ m L a as, Sim g m L H ∧ RelW g.K m H a x ∧ RelWs g.K m H as xs ∧ run g Xw σ (RelW g.K) (f a as) m H L Q
def rOT (g : G) (Xw : XW) (f : W → M Bool) : V → Hp → (Bool → Hp → Prop) → Prop := fun x H Q => ∃ σ m L a, Sim g m L H ∧ RelW g.K m H a x ∧ run g Xw σ RB (f a) m H L Q

theorem str_app (x y : Txt) : (⟨x.toArray⟩ : Str) ++ ⟨y.toArray⟩ = ⟨(x ++ y).toArray⟩ := by
  show (⟨x.toArray ++ y.toArray⟩ : Str) = _
  simp
theorem str_len (x : Txt) : (⟨x.toArray⟩ : Str).length = x.length := by show x.toArray.size = _; simp
theorem lenOk_le {n : Nat} (h : lenOk n = true) : n ≤ sizeLine := of_decide_eq_true h

section
variable {T : Tab} {X : Cx} {Xw : XW} {g : G} {m : List Addr} {L : Hh} {H : Hp} {σ : L2.St}
/-- a list's object, by what the logical heap has there -/
theorem Sim.lst (S : Sim g m L H) {l : Nat} {p : Addr} {ws : List W} (h : m[l]? = some p) (e : L[l]? = some (.lst ws)) : ∃ xs, H p = some (.lst xs) ∧ RelWs g.K m H ws xs := S.ob l p _ h e
theorem Sim.seq (S : Sim g m L H) {l : Nat} {p : Addr} {ws : List W} (h : m[l]? = some p) (e : L[l]? = some (.lst ws) ∨ L[l]? = some (.ro ws)) : ∃ xs, SqL g.K H p xs ∧ RelWs g.K m H ws xs := by
  rcases e with e | e
  · obtain ⟨xs, h1, h2⟩ := S.ob l p _ h e
    exact ⟨xs, .inl (.inl h1), h2⟩
  · obtain ⟨o, xs, h1, h2⟩ := S.ob l p _ h e
    exact ⟨xs, .inl (.inr ⟨o, h1⟩), h2⟩
/-- a new list -/
theorem run_new {ws : List W} {xs : List V} {p : Addr} {Q : VK} (h : run g Xw σ (RelW g.K) (alloc (.lst ws)) m H L Q) (S : Sim g m L H) (r : RelWs g.K m H ws xs) (hp : H p = none) : Q (.ref p) (upd H p (.lst xs)) := by
  have e : Ext m H (m ++ [p]) (upd H p (.lst xs)) := (S.free hp).1.adopt hp
  obtain ⟨e1, S1⟩ := S.new (o := .lst ws) (u := .lst xs) hp ⟨xs, upd_same, r.mono e⟩
  refine h _ _ _ e1 S1 (.ref ?_)
  rw [← S.len]
  simp
/-- a new tuple -/
theorem run_tup {ws : List W} {xs : List V} {p : Addr} {Q : VK} (h : run g Xw σ (RelW g.K) (ret (.tup ws)) m H L Q) (S : Sim g m L H) (r : RelWs g.K m H ws xs) (hp : H p = none) : Q (.ref p) (upd H p (.tup xs)) := by
  obtain ⟨e1, S1⟩ := S.free (u := .tup xs) hp
  exact h _ _ _ e1 S1 (.tup upd_same (r.mono e1))
theorem run_val {w : W} {v : V} {Q : VK} (h : run g Xw σ (RelW g.K) (ret w) m H L Q) (S : Sim g m L H) (r : RelW g.K m H w v) : Q v H := run_ret h S r

theorem op_add_ok : OpR X (binaryOp .Add) (rO2 (T.g X) Xw (binop .add)) := by
  intro pins s σ H x y v u Q I rx ry h
  obtain ⟨σ', m, L, a, b, S, ra, rb, h⟩ := h
  cases a <;> cases b <;> try exact False.elim h
  · cases ra; cases rb
    exact op_add pins s σ H _ _ v u Q I rx ry ⟨_, _, rfl, rfl, run_val h S (.int _)⟩
  · cases ra; cases rb
    rcases run_if h with ⟨c, h⟩ | ⟨_, h⟩
    · refine op_add_str pins s σ H _ _ v u Q I rx ry ⟨_, _, rfl, rfl, ?_, ?_⟩
      · rw [str_len, str_len]; exact lenOk_le c
      · rw [str_app]; exact run_val h S (.str _)
    · exact h.elim
  · cases ra with
    | tup ha ra =>
      cases rb with
      | tup hb rb =>
        rcases run_if h with ⟨c, h⟩ | ⟨_, h⟩
        · have hz := lenOk_le c
          rw [ra.length, rb.length] at hz
          refine op_catA pins s σ H _ _ v u Q I rx ry ⟨_, _, _, _, rfl, rfl, sqT ha, sqT hb, hz, fun e => ?_, fun _ e => ?_, fun _ _ p hp => ?_⟩
          · refine run_val h S (.tup hb ?_)
            subst e
            cases ra
            exact rb
          · refine run_val h S (.tup ha ?_)
            subst e
            cases rb
            rw [List.append_nil]
            exact ra
          · exact run_tup h S (ra.append rb) hp
        · exact h.elim
  · rename_i l1 l2
    cases ra with
    | ref ha =>
      cases rb with
      | ref hb =>
        have h : run (T.g X) Xw σ' (RelW X.K) (match L[l1]?, L[l2]? with
          | some (.lst x), some (.lst y) => if lenOk (x.length + y.length) then alloc (.lst (x ++ y)) else fail
          | _, _ => fail) m H L Q := h
        split at h
        · rename_i x y e1 e2
          rcases run_if h with ⟨c, h⟩ | ⟨_, h⟩
          · obtain ⟨xs, h1, r1⟩ := S.lst ha e1
            obtain ⟨ys, h2, r2⟩ := S.lst hb e2
            have hz := lenOk_le c
            rw [r1.length, r2.length] at hz
            exact op_cat pins s σ H _ _ v u Q I rx ry ⟨_, _, _, _, rfl, rfl, h1, h2, hz, fun p hp => run_new h S (r1.append r2) hp⟩
          · exact h.elim
        · exact h.elim
theorem op_sub_ok : OpR X (binaryOp .Sub) (rO2 (T.g X) Xw (binop .sub)) := by
  intro pins s σ H x y v u Q I rx ry h
  obtain ⟨σ', m, L, a, b, S, ra, rb, h⟩ := h
  cases a <;> cases b <;> try exact False.elim h
  cases ra; cases rb
  exact op_sub pins s σ H _ _ v u Q I rx ry ⟨_, _, rfl, rfl, run_val h S (.int _)⟩
theorem op_mul_ok : OpR X (binaryOp .Mult) (rO2 (T.g X) Xw (binop .mul)) := by
  intro pins s σ H x y v u Q I rx ry h
  obtain ⟨σ', m, L, a, b, S, ra, rb, h⟩ := h
  cases a <;> cases b <;> try exact False.elim h
  cases ra; cases rb
  rcases run_if h with ⟨c, h⟩ | ⟨_, h⟩
  · refine op_mul pins s σ H _ _ v u Q I rx ry ⟨_, _, rfl, rfl, ?_, run_val h S (.int _)⟩
    simp only [Bool.or_eq_true, smallI, Bool.and_eq_true, decide_eq_true_eq] at c
    exact c
  · exact h.elim
theorem op_fdiv_ok : OpR X (binaryOp .FloorDiv) (rO2 (T.g X) Xw (binop .fdiv)) := by
  intro pins s σ H x y v u Q I rx ry h
  obtain ⟨σ', m, L, a, b, S, ra, rb, h⟩ := h
  cases a <;> cases b <;> try exact False.elim h
  cases ra; cases rb
  rcases run_if h with ⟨c, h⟩ | ⟨_, h⟩
  · refine op_fdiv pins s σ H _ _ v u Q I rx ry ⟨_, _, rfl, rfl, ?_, run_val h S (.int _)⟩
    simp only [Bool.and_eq_true, decide_eq_true_eq] at c
    exact c
  · exact h.elim
theorem op_mod_ok : OpR X (binaryOp .Mod) (rO2 (T.g X) Xw (binop .mod)) := by
  intro pins s σ H x y v u Q I rx ry h
  obtain ⟨σ', m, L, a, b, S, ra, rb, h⟩ := h
  cases a <;> cases b <;> try exact False.elim h
  cases ra; cases rb
  rcases run_if h with ⟨c, h⟩ | ⟨_, h⟩
  · exact op_mod pins s σ H _ _ v u Q I rx ry ⟨_, _, rfl, rfl, of_decide_eq_true c, run_val h S (.int _)⟩
  · exact h.elim
theorem op_pow_ok : OpR X (binaryOp .Pow) (rO2 (T.g X) Xw (binop .pow)) := by
  intro pins s σ H x y v u Q I rx ry h
  obtain ⟨σ', m, L, a, b, S, ra, rb, h⟩ := h
  cases a <;> cases b <;> try exact False.elim h
  cases ra; cases rb
  rcases run_if h with ⟨c, h⟩ | ⟨_, h⟩
  · refine op_pow pins s σ H _ _ v u Q I rx ry ⟨_, _, rfl, rfl, ?_, run_val h S (.int _)⟩
    simp only [Bool.and_eq_true, decide_eq_true_eq] at c
    exact ⟨c.1.1, c.1.2, c.2⟩
  · exact h.elim
def bopP : BOp → Operator
  | .add => .Add | .sub => .Sub | .mul => .Mult | .fdiv => .FloorDiv | .mod => .Mod | .pow => .Pow
theorem op_bin_ok (op : BOp) : OpR X (binaryOp (bopP op)) (rO2 (T.g X) Xw (binop op)) := by
  cases op
  · exact op_add_ok
  · exact op_sub_ok
  · exact op_mul_ok
  · exact op_fdiv_ok
  · exact op_mod_ok
  · exact op_pow_ok
end
end Dx

set_option maxRecDepth 100000
set_option maxHeartbeats 2000000
/-! Dx4: comparisons, truth, items, slices. -/
namespace Dx
open PySem PySem.Spec PyProof.Rows L2
section
variable {T : Tab} {X : Cx} {Xw : XW} {g : G} {m : List Addr} {L : Hh} {H : Hp} {σ : L2.St}
/-! ### data -/
theorem mapM_some {α β : Type} {f : α → Option β} : ∀ {xs : List α} {ys : List β}, xs.mapM f = some ys → Paired (fun x y => f x = some y) xs ys
  | [], ys, h => by
    simp at h
    subst h
    exact .nil
  | x :: xs, ys, h => by
    rw [List.mapM_cons] at h
    cases e : f x with
    | none => rw [e] at h; simp at h
    | some y =>
      rw [e] at h
      simp only [Option.bind_eq_bind, Option.bind_some] at h
      cases e2 : xs.mapM f with
      | none => rw [e2] at h; simp at h
      | some zs =>
        rw [e2] at h
        simp at h
        subst h
        exact .cons e (mapM_some e2)
theorem dpAll_of {f : W → Option PyData} (ih : ∀ w v d, RelW g.K m H w v → f w = some d → Dp g.K H v d) : ∀ {ws : List W} {xs : List V} {ds : List PyData}, RelWs g.K m H ws xs → Paired (fun x y => f x = some y) ws ds → DpAll g.K H xs ds
  | _, _, _, .nil, .nil => .nil
  | _, _, _, .cons a b, .cons p q => .cons (ih _ _ _ a p) (dpAll_of ih b q)
theorem asData_ok (S : Sim g m L H) : ∀ (n : Nat) (w : W) (v : V) (d : PyData), RelW g.K m H w v → asData L n w = some d → Dp g.K H v d
  | n, .non, _, d, r, h => by cases r; simp [asData] at h; subst h; exact .non
  | n, .bl b, _, d, r, h => by cases r; simp [asData] at h; subst h; exact .bl b
  | n, .int i, _, d, r, h => by cases r; simp [asData] at h; subst h; exact .int i
  | n, .str x, _, d, r, h => by cases r; simp [asData] at h; subst h; exact .str _
  | 0, .tup ws, _, d, r, h => by simp [asData] at h
  | 0, .ref l, _, d, r, h => by simp [asData] at h
  | n, .exn c fs, _, d, r, h => by cases r
  | n, .clo k cs, _, d, r, h => by cases r
  | n, .scr ws, _, d, r, h => by simp [asData] at h
  | n + 1, .tup ws, _, d, r, h => by
    cases r with
    | tup hs hr =>
      simp only [asData, Option.map_eq_some_iff] at h
      obtain ⟨ds, e, rfl⟩ := h
      exact .tup (sqT hs) (dpAll_of (asData_ok S n) hr (mapM_some e))
  | n + 1, .ref l, _, d, r, h => by
    cases r with
    | @ref _ a hl =>
      have h : (match L[l]? with
        | some (.lst ws) => (ws.mapM (asData L n)).map PyData.list
        | some (.ro ws) => (ws.mapM (asData L n)).map PyData.list
        | _ => none) = some d := h
      split at h
      · rename_i ws e
        simp only [Option.map_eq_some_iff] at h
        obtain ⟨ds, e2, rfl⟩ := h
        obtain ⟨xs, hs, hr⟩ := S.seq hl (.inl e)
        exact .lst hs (dpAll_of (asData_ok S n) hr (mapM_some e2))
      · rename_i ws e
        simp only [Option.map_eq_some_iff] at h
        obtain ⟨ds, e2, rfl⟩ := h
        obtain ⟨xs, hs, hr⟩ := S.seq hl (.inr e)
        exact .lst hs (dpAll_of (asData_ok S n) hr (mapM_some e2))
      · cases h
theorem run_eq {x y : W} {f : Bool → W} {Q : VK} (h : run g Xw σ (RelW g.K) (bnd (eqop x y) fun b => ret (f b)) m H L Q) (S : Sim g m L H) {vx vy : V} (rx : RelW g.K m H x vx) (ry : RelW g.K m H y vy) :
    ∃ d e, Dp g.K H vx d ∧ Dp g.K H vy e ∧ SeqAt.shaped d = true ∧ SeqAt.shaped e = true ∧ run g Xw σ (RelW g.K) (ret (f (PyData.eqv d e))) m H L Q := by
  have h : run g Xw σ (RelW g.K) (bnd (match asData L 64 x, asData L 64 y with
    | some d, some e => if SeqAt.shaped d && SeqAt.shaped e then ret (PyData.eqv d e) else fail
    | _, _ => fail) fun b => ret (f b)) m H L Q := h
  split at h
  · rename_i d e e1 e2
    have h2 := run_bnd (R' := RB) h
    rcases run_if h2 with ⟨c, h3⟩ | ⟨_, h3⟩
    · simp only [Bool.and_eq_true] at c
      refine ⟨d, e, asData_ok S _ _ _ _ rx e1, asData_ok S _ _ _ _ ry e2, c.1, c.2, ?_⟩
      rw [if_pos (by simp [c.1, c.2])] at h
      unfold run at h ⊢
      rw [wp_bnd] at h
      exact h
    · exact h3.elim
  · exact (run_bnd (R' := RB) h).elim
theorem hu64 {d : Nat} {A : Around} (r : Room d A) : A.units + 65 < cLine := by have := r.un; omega
def copP : COp → CmpOp
  | .eq => .Eq | .ne => .NotEq | .lt => .Lt | .le => .LtE | .gt => .Gt | .ge => .GtE | .is => .Is | .isn => .IsNot | .inn => .In | .nin => .NotIn
theorem isNone_ok {K : PySem.W.Frag} {w : W} {v : V} (r : RelW K m H w v) : decide (v = .non) = isNone w := by
  cases r <;> simp [isNone]
/-! ### keys, dicts -/
theorem valV_find {κ : Type} [DecidableEq κ] (f : κ → Ky) (hf : ∀ a b, f a = f b → a = b) {K : PySem.W.Frag} : ∀ {kvs : List (Ky × W)} {qs : List (κ × V)}, kvs.map (·.1) = qs.map (fun q => f q.1) → RelWs K m H (kvs.map (·.2)) (qs.map (·.2)) → ∀ k : κ,
    (dGet kvs (f k) = none ∧ valV qs k = none) ∨ ∃ w v, dGet kvs (f k) = some w ∧ valV qs k = some v ∧ RelW K m H w v
  | [], [], _, _, k => .inl ⟨rfl, rfl⟩
  | [], _ :: _, e, _, _ => by simp at e
  | _ :: _, [], e, _, _ => by simp at e
  | (k1, w1) :: kvs, (k2, v2) :: qs, e, r, k => by
    simp only [List.map_cons, List.cons.injEq] at e
    obtain ⟨e1, e2⟩ := e
    cases r with
    | cons r1 r2 =>
      by_cases h : k2 = k
      · right
        refine ⟨w1, v2, ?_, valV_pos h, r1⟩
        have h2 : k1 = f k := by rw [e1, h]
        simp [dGet, List.find?_cons, h2]
      · have h2 : k1 ≠ f k := fun z => h (hf _ _ (e1.symm.trans z))
        have e3 : dGet ((k1, w1) :: kvs) (f k) = dGet kvs (f k) := by simp [dGet, List.find?_cons, h2]
        rw [e3, valV_neg (p := (k2, v2)) h]
        exact valV_find f hf e2 r2 k
theorem put_find {κ : Type} [DecidableEq κ] (f : κ → Ky) (hf : ∀ a b, f a = f b → a = b) {K : PySem.W.Frag} {kvs : List (Ky × W)} {qs : List (κ × V)} (e : kvs.map (·.1) = qs.map (fun q => f q.1)) (r : RelWs K m H (kvs.map (·.2)) (qs.map (·.2))) {w : W} {v : V} (rw' : RelW K m H w v) (k : κ) :
    (dPut kvs (f k) w).map (·.1) = (putK qs k v).map (fun q => f q.1) ∧ RelWs K m H ((dPut kvs (f k) w).map (·.2)) ((putK qs k v).map (·.2)) := by
  have key : ∀ {kvs : List (Ky × W)} {qs : List (κ × V)}, kvs.map (·.1) = qs.map (fun q => f q.1) → (kvs.any fun p => decide (p.1 = f k)) = qs.any fun q => decide (q.1 = k) := by
    intro kvs
    induction kvs with
    | nil => intro qs e; cases qs with
      | nil => rfl
      | cons q qs => simp at e
    | cons p kvs ih =>
      intro qs e
      cases qs with
      | nil => simp at e
      | cons q qs =>
        simp only [List.map_cons, List.cons.injEq] at e
        rw [List.any_cons, List.any_cons, ih e.2]
        have : decide (p.1 = f k) = decide (q.1 = k) := by
          rw [e.1]
          by_cases h : q.1 = k
          · simp [h]
          · have h2 : f q.1 ≠ f k := fun z => h (hf _ _ z)
            simp [h, h2]
        rw [this]
  have mp : ∀ {kvs : List (Ky × W)} {qs : List (κ × V)}, kvs.map (·.1) = qs.map (fun q => f q.1) → RelWs K m H (kvs.map (·.2)) (qs.map (·.2)) →
      (kvs.map fun p => if p.1 = f k then (p.1, w) else p).map (·.1) = (qs.map fun q => if q.1 = k then (q.1, v) else q).map (fun q => f q.1) ∧ RelWs K m H ((kvs.map fun p => if p.1 = f k then (p.1, w) else p).map (·.2)) ((qs.map fun q => if q.1 = k then (q.1, v) else q).map (·.2)) := by
    intro kvs
    induction kvs with
    | nil => intro qs e r; cases qs with
      | nil => exact ⟨rfl, r⟩
      | cons q qs => simp at e
    | cons p kvs ih =>
      intro qs e r
      cases qs with
      | nil => simp at e
      | cons q qs =>
        simp only [List.map_cons, List.cons.injEq] at e
        cases r with
        | cons r1 r2 =>
          obtain ⟨i1, i2⟩ := ih e.2 r2
          simp only [List.map_cons]
          by_cases h : q.1 = k
          · have h2 : p.1 = f k := by rw [e.1, h]
            rw [if_pos h, if_pos h2]
            exact ⟨by rw [i1, e.1], .cons rw' i2⟩
          · have h2 : p.1 ≠ f k := fun z => h (hf _ _ (e.1.symm.trans z))
            rw [if_neg h, if_neg h2]
            exact ⟨by rw [i1, e.1], .cons r1 i2⟩
  unfold dPut putK
  rw [key e]
  split
  · exact mp e r
  · constructor
    · rw [List.map_append, List.map_append, e]; rfl
    · rw [List.map_append, List.map_append]; exact r.append (.one rw')
theorem kyK_inj (a b : Key) (h : kyK a = kyK b) : a = b := by
  cases a <;> cases b <;> simp [kyK] at h
  · rw [h]
  · rename_i x y
    obtain ⟨⟨x⟩⟩ := x
    obtain ⟨⟨y⟩⟩ := y
    simp at h
    rw [h]
theorem kS_inj (a b : Key) (h : kS a = kS b) : a = b := by
  cases a <;> cases b <;> simp [kS] at h
  · rw [h]
  · rename_i x y
    obtain ⟨⟨x⟩⟩ := x
    obtain ⟨⟨y⟩⟩ := y
    simp at h
    rw [h]
theorem kyT_inj (a b : List Key) (h : kyT a = kyT b) : a = b := by
  unfold kyT at h
  injection h with h
  exact List.map_inj_right (fun _ _ => kS_inj _ _) |>.mp h
theorem keyAts_ok {K : PySem.W.Frag} : ∀ {ws : List W} {xs : List V} {ks : List (Int ⊕ Txt)}, RelWs K m H ws xs → ws.mapM keyAt = some ks → ∃ qs : List Key, xs = qs.map kV ∧ ks = qs.map kS
  | [], _, ks, .nil, h => ⟨[], rfl, by simpa using h.symm⟩
  | w :: ws, _, ks, .cons r rs, h => by
    rw [List.mapM_cons] at h
    cases e : keyAt w with
    | none => rw [e] at h; simp at h
    | some k0 =>
      cases e2 : ws.mapM keyAt with
      | none => rw [e, e2] at h; simp at h
      | some ks0 =>
        rw [e, e2] at h
        simp at h
        subst h
        obtain ⟨qs, h1, h2⟩ := keyAts_ok rs e2
        subst h1 h2
        cases w <;> simp [keyAt] at e
        · subst e
          cases r
          exact ⟨.inl _ :: qs, rfl, rfl⟩
        · subst e
          cases r
          exact ⟨.inr _ :: qs, rfl, rfl⟩
theorem keyK_ok {K : PySem.W.Frag} {w : W} {y : V} {k : Ky} (r : RelW K m H w y) (h : keyFit false w = some k) : ∃ q : Key, y = kV q ∧ k = kyK q := by
  unfold keyFit at h
  cases w <;> simp [keyOf] at h
  · obtain ⟨h1, h2⟩ := h; subst h2; cases r; exact ⟨.inl _, rfl, rfl⟩
  · obtain ⟨h1, h2⟩ := h; subst h2; cases r; exact ⟨.inr _, rfl, rfl⟩
  · rename_i ws
    cases e : ws.mapM keyAt with
    | none => rw [e] at h; simp at h
    | some ks => rw [e] at h; simp [Ky.isT] at h
theorem keyT_ok {K : PySem.W.Frag} {w : W} {y : V} {k : Ky} (r : RelW K m H w y) (h : keyFit true w = some k) : ∃ (q : List Key) (b : Addr), y = .ref b ∧ H b = some (.tup (q.map kV)) ∧ k = kyT q := by
  unfold keyFit at h
  cases w <;> simp [keyOf] at h
  · simp [Ky.isT] at h
  · simp [Ky.isT] at h
  · rename_i ws
    cases e : ws.mapM keyAt with
    | none => rw [e] at h; simp at h
    | some ks =>
      rw [e] at h
      simp at h
      obtain ⟨h1, h2⟩ := h
      subst h2
      cases r with
      | tup h hr =>
        obtain ⟨qs, e1, e2⟩ := keyAts_ok hr e
        subst e1 e2
        exact ⟨qs, _, rfl, h, rfl⟩
/-- what stands at a key -/
theorem dget_ok (S : Sim g m L H) {l : Nat} {a : Addr} (hl : m[l]? = some a) {tt : Bool} {kvs : List (Ky × W)} (e : L[l]? = some (.dct tt kvs)) {w : W} {y : V} (r : RelW g.K m H w y) {k : Ky} (hk : keyFit tt w = some k) :
    (dGet kvs k = none ∧ DGet H a y none) ∨ ∃ z v, dGet kvs k = some z ∧ DGet H a y (some v) ∧ RelW g.K m H z v := by
  cases tt with
  | false =>
    obtain ⟨qs, h1, h2, h3⟩ := S.ob l a _ hl e
    obtain ⟨q, rfl, rfl⟩ := keyK_ok r hk
    rcases valV_find kyK kyK_inj h2 h3 q with ⟨a1, a2⟩ | ⟨z, v, a1, a2, a3⟩
    · exact .inl ⟨a1, a2 ▸ DGet.k h1⟩
    · exact .inr ⟨z, v, a1, a2 ▸ DGet.k h1, a3⟩
  | true =>
    obtain ⟨qs, h1, h2, h3⟩ := S.ob l a _ hl e
    obtain ⟨q, b, rfl, hb, rfl⟩ := keyT_ok r hk
    rcases valV_find kyT kyT_inj h2 h3 q with ⟨a1, a2⟩ | ⟨z, v, a1, a2, a3⟩
    · exact .inl ⟨a1, a2 ▸ DGet.t h1 hb⟩
    · exact .inr ⟨z, v, a1, a2 ▸ DGet.t h1 hb, a3⟩
theorem isD_ok (S : Sim g m L H) {l : Nat} {a : Addr} (hl : m[l]? = some a) {tt : Bool} {kvs : List (Ky × W)} (e : L[l]? = some (.dct tt kvs)) : IsD H a := by
  cases tt with
  | false => obtain ⟨qs, h1, _⟩ := S.ob l a _ hl e; exact .inl ⟨qs, .inl h1⟩
  | true => obtain ⟨qs, h1, _⟩ := S.ob l a _ hl e; exact .inr ⟨qs, .inl h1⟩
/-- d[y], by values -/
theorem ix_dct (hu : X.A.units + 1 < cLine) : IxR X (fun x y H Q => ∃ a v, x = .ref a ∧ DGet H a y (some v) ∧ Q v H) := by
  intro value slice pins s σ H x y v u Q I rx ry h hs
  obtain ⟨a, z, rfl, gd, q⟩ := h
  obtain rfl : v = Value.ref a := rx
  exact tail_any (dict_typeIs I gd) PySem.F.slot_dict_getitem.lookup (d_getItem hu I gd ry fun w' s3 I3 rw' => ⟨z, H, I3, rw', q⟩) hs
/-! ### membership -/
theorem flat_ok {K : PySem.W.Frag} {w : W} {v : V} (r : RelW K m H w v) (h : flatW w = true) : flatV v = true := by
  cases w <;> simp [flatW] at h <;> cases r <;> rfl
theorem flats_ok {K : PySem.W.Frag} : ∀ {ws : List W} {vs : List V}, RelWs K m H ws vs → ws.all flatW = true → vs.all flatV = true
  | [], _, .nil, _ => rfl
  | w :: ws, _, .cons a b, h => by
    rw [List.all_cons, Bool.and_eq_true] at h
    rw [List.all_cons, flat_ok a h.1, flats_ok b h.2]
    rfl
theorem eqW_ok {K : PySem.W.Frag} {w z : W} {v y : V} (r : RelW K m H w v) (q : RelW K m H z y) (h : flatW w = true) (h2 : flatW z = true) : eqV v y = eqW w z := by
  cases w <;> simp [flatW] at h <;> cases z <;> simp [flatW] at h2 <;> cases r <;> cases q <;> first | rfl | skip
  rename_i x y
  show ((⟨x.toArray⟩ : Str) == ⟨y.toArray⟩) = (x == y)
  exact SX.S_beq x y
theorem inV_ok {K : PySem.W.Frag} {x : W} {v : V} (r : RelW K m H x v) (hx : flatW x = true) : ∀ {ws : List W} {vs : List V}, RelWs K m H ws vs → ws.all flatW = true → inV v vs = ws.any fun y => eqW y x
  | [], _, .nil, _ => rfl
  | w :: ws, _, .cons a b, h => by
    rw [List.all_cons, Bool.and_eq_true] at h
    show (eqV _ v || inV v _) = _
    rw [List.any_cons, eqW_ok a r h.1 hx, inV_ok r hx b h.2]
theorem run_in {f : Bool → Bool} {x y : W} {Q : VK} (h : run g Xw σ (RelW g.K) (inM f x y) m H L Q) (S : Sim g m L H) {vx vy : V} (rx : RelW g.K m H x vx) (ry : RelW g.K m H y vy) :
    (∃ p xs b, vy = .ref p ∧ SqT g.K H p xs ∧ flatV vx = true ∧ xs.all flatV = true ∧ inV vx xs = b ∧ Q (.bl (f b)) H) ∨
    (∃ d ds, Dp g.K H vx d ∧ Dp g.K H vy (.list ds) ∧ SeqAt.shaped d = true ∧ SeqAt.shaped (.list ds) = true ∧ Q (.bl (f (ds.any fun z => PyData.eqv z d))) H) ∨
    ∃ a o, vy = .ref a ∧ DGet H a vx o ∧ Q (.bl (f o.isSome)) H := by
  have h : run g Xw σ (RelW g.K) (match inW L x y with
    | some b => ret (.bl (f b))
    | none => fail) m H L Q := h
  cases e : inW L x y with
  | none => rw [e] at h; exact h.elim
  | some b =>
    rw [e] at h
    have fin : Q (.bl (f b)) H := run_val h S (.bl _)
    unfold inW at e
    split at e
    · split at e
      · rename_i ws c
        simp only [Bool.and_eq_true] at c
        cases ry with
        | tup hs hr =>
          cases e
          exact .inl ⟨_, _, _, rfl, sqT hs, flat_ok rx c.1, flats_ok hr c.2, inV_ok rx c.1 hr c.2, fin⟩
      · cases e
    · rename_i l
      split at e
      · rename_i ws ew
        split at e
        · rename_i d ds e1 e2
          split at e
          · rename_i c
            simp only [Bool.and_eq_true] at c
            cases e
            exact .inr (.inl ⟨d, ds, asData_ok S _ _ _ _ rx e1, asData_ok S _ _ _ _ ry e2, c.1, c.2, fin⟩)
          · cases e
        · cases e
      · rename_i tt kvs ew
        split at e
        · rename_i k ek
          cases e
          cases ry with
          | ref hl =>
            rcases dget_ok S hl ew rx ek with ⟨a1, a2⟩ | ⟨z, v, a1, a2, a3⟩
            · rw [a1] at fin; exact .inr (.inr ⟨_, _, rfl, a2, fin⟩)
            · rw [a1] at fin; exact .inr (.inr ⟨_, _, rfl, a2, fin⟩)
        · cases e
      · cases e
    · cases e
theorem inn_T {a : W} {ws : List W} : cmpop .inn a (.tup ws) = inM id a (.tup ws) := by
  cases a <;> first | rfl | (rename_i z; rcases z with _ | ⟨c, _ | ⟨c2, z⟩⟩ <;> rfl)
theorem inn_R {a : W} {l : Nat} : cmpop .inn a (.ref l) = inM id a (.ref l) := by
  cases a <;> first | rfl | (rename_i z; rcases z with _ | ⟨c, _ | ⟨c2, z⟩⟩ <;> rfl)
theorem nin_T {a : W} {ws : List W} : cmpop .nin a (.tup ws) = inM not a (.tup ws) := by
  cases a <;> first | rfl | (rename_i z; rcases z with _ | ⟨c, _ | ⟨c2, z⟩⟩ <;> rfl)
theorem nin_R {a : W} {l : Nat} : cmpop .nin a (.ref l) = inM not a (.ref l) := by
  cases a <;> first | rfl | (rename_i z; rcases z with _ | ⟨c, _ | ⟨c2, z⟩⟩ <;> rfl)
theorem op_in_all (hu : X.A.units + 65 < cLine) : OpR X (compareOp .In) (fun x y H Q => (∃ p xs b, y = .ref p ∧ SqT X.K H p xs ∧ flatV x = true ∧ xs.all flatV = true ∧ inV x xs = b ∧ Q (.bl b) H) ∨
    (∃ d ds, Dp X.K H x d ∧ Dp X.K H y (.list ds) ∧ SeqAt.shaped d = true ∧ SeqAt.shaped (.list ds) = true ∧ Q (.bl (ds.any fun z => PyData.eqv z d)) H) ∨ ∃ a o, y = .ref a ∧ DGet H a x o ∧ Q (.bl o.isSome) H) := by
  intro pins s σ H x y v u Q I rx ry h
  rcases h with ⟨p, xs, b, e, h1, h2, h3, h4, q⟩ | ⟨d, ds, h1, h2, h3, h4, q⟩ | ⟨a, o, e, h1, q⟩
  · exact op_in_seq pins s σ H x y v u Q I rx ry ⟨p, xs, e, .inr h1, h2, h3, by rw [h4]; exact q⟩
  · exact op_inD hu pins s σ H x y v u Q I rx ry ⟨d, ds, h1, h2, h3, h4, q⟩
  · subst e
    obtain rfl : u = Value.ref a := ry
    exact d_in (by omega) I h1 rx fun s3 I3 => ⟨.bl o.isSome, H, I3, rfl, q⟩
theorem op_notIn_all (hu : X.A.units + 65 < cLine) : OpR X (compareOp .NotIn) (fun x y H Q => (∃ p xs b, y = .ref p ∧ SqT X.K H p xs ∧ flatV x = true ∧ xs.all flatV = true ∧ inV x xs = b ∧ Q (.bl (!b)) H) ∨
    (∃ d ds, Dp X.K H x d ∧ Dp X.K H y (.list ds) ∧ SeqAt.shaped d = true ∧ SeqAt.shaped (.list ds) = true ∧ Q (.bl (!(ds.any fun z => PyData.eqv z d))) H) ∨ ∃ a o, y = .ref a ∧ DGet H a x o ∧ Q (.bl (!o.isSome)) H) := by
  intro pins s σ H x y v u Q I rx ry h
  rcases h with ⟨p, xs, b, e, h1, h2, h3, h4, q⟩ | ⟨d, ds, h1, h2, h3, h4, q⟩ | ⟨a, o, e, h1, q⟩
  · exact op_notIn_seq pins s σ H x y v u Q I rx ry ⟨p, xs, e, .inr h1, h2, h3, by rw [h4]; exact q⟩
  · exact op_notInD hu pins s σ H x y v u Q I rx ry ⟨d, ds, h1, h2, h3, h4, q⟩
  · subst e
    obtain rfl : u = Value.ref a := ry
    exact d_notIn (by omega) I h1 rx fun s3 I3 => ⟨.bl (!o.isSome), H, I3, rfl, q⟩
theorem op_cmp_ok (hu : X.A.units + 65 < cLine) (op : COp) : OpR X (compareOp (copP op)) (rO2 (T.g X) Xw (cmpop op)) := by
  intro pins s σ H x y v u Q I rx ry h
  obtain ⟨σ', m, L, a, b, S, ra, rb, h⟩ := h
  cases op
  · obtain ⟨d, e, h1, h2, h3, h4, h5⟩ := run_eq (f := W.bl) h S ra rb
    exact op_eqD (by omega) pins s σ H _ _ v u Q I rx ry ⟨d, e, h1, h2, h3, h4, run_val h5 S (.bl _)⟩
  · obtain ⟨d, e, h1, h2, h3, h4, h5⟩ := run_eq (f := fun b => W.bl (!b)) h S ra rb
    exact op_neD (by omega) pins s σ H _ _ v u Q I rx ry ⟨d, e, h1, h2, h3, h4, run_val h5 S (.bl _)⟩
  · cases a <;> cases b <;> try exact False.elim h
    cases ra; cases rb
    exact op_lt pins s σ H _ _ v u Q I rx ry ⟨_, _, rfl, rfl, run_val h S (.bl _)⟩
  · cases a <;> cases b <;> try exact False.elim h
    cases ra; cases rb
    exact op_le pins s σ H _ _ v u Q I rx ry ⟨_, _, rfl, rfl, run_val h S (.bl _)⟩
  · cases a <;> cases b <;> try exact False.elim h
    cases ra; cases rb
    exact op_gt pins s σ H _ _ v u Q I rx ry ⟨_, _, rfl, rfl, run_val h S (.bl _)⟩
  · cases a <;> cases b <;> try exact False.elim h
    cases ra; cases rb
    exact op_ge pins s σ H _ _ v u Q I rx ry ⟨_, _, rfl, rfl, run_val h S (.bl _)⟩
  · cases b <;> try exact False.elim h
    cases rb
    have e := isNone_ok ra
    exact op_isN pins s σ H _ _ v u Q I rx ry ⟨rfl, by rw [e]; exact run_val h S (.bl _)⟩
  · cases b <;> try exact False.elim h
    cases rb
    have e := isNone_ok ra
    exact op_notN pins s σ H _ _ v u Q I rx ry ⟨rfl, by rw [e]; exact run_val h S (.bl _)⟩
  · have key : ∀ w z, run (T.g X) Xw σ' (RelW X.K) (inM id w z) m H L Q → RelW X.K m H w x → RelW X.K m H z y → wpAny (model X.prog X.w) X.A (compareOp .In v u) (EP X pins σ Q) X.xe s := fun w z h ra rb =>
      op_in_all hu pins s σ H _ _ v u Q I rx ry (by
        rcases run_in h S ra rb with ⟨p, xs, b, h1⟩ | ⟨d, ds, h1⟩ | h1
        · exact .inl ⟨p, xs, b, h1⟩
        · exact .inr (.inl ⟨d, ds, h1⟩)
        · exact .inr (.inr h1))
    cases b with
    | tup ws => exact key a _ (by rw [← inn_T]; exact h) ra rb
    | ref l => exact key a _ (by rw [← inn_R]; exact h) ra rb
    | str y =>
      cases a with
      | str z =>
        cases z with
        | nil => exact False.elim h
        | cons c z =>
          cases z with
          | cons c2 z => exact False.elim h
          | nil =>
            cases ra; cases rb
            exact op_in_sign pins s σ H _ _ v u Q I rx ry ⟨_, _, rfl, rfl, run_val h S (.bl _)⟩
      | _ => exact False.elim h
    | _ => cases a <;> first | exact False.elim h | (rename_i z; cases z with | nil => exact False.elim h | cons c z => cases z <;> exact False.elim h)
  · have key : ∀ w z, run (T.g X) Xw σ' (RelW X.K) (inM not w z) m H L Q → RelW X.K m H w x → RelW X.K m H z y → wpAny (model X.prog X.w) X.A (compareOp .NotIn v u) (EP X pins σ Q) X.xe s := fun w z h ra rb =>
      op_notIn_all hu pins s σ H _ _ v u Q I rx ry (by
        rcases run_in h S ra rb with ⟨p, xs, b, h1⟩ | ⟨d, ds, h1⟩ | h1
        · exact .inl ⟨p, xs, b, h1⟩
        · exact .inr (.inl ⟨d, ds, h1⟩)
        · exact .inr (.inr h1))
    cases b with
    | tup ws => exact key a _ (by rw [← nin_T]; exact h) ra rb
    | ref l => exact key a _ (by rw [← nin_R]; exact h) ra rb
    | str y =>
      cases a with
      | str z =>
        cases z with
        | nil => exact False.elim h
        | cons c z =>
          cases z with
          | cons c2 z => exact False.elim h
          | nil =>
            cases ra; cases rb
            exact op_notIn_sign pins s σ H _ _ v u Q I rx ry ⟨_, _, rfl, rfl, run_val h S (.bl _)⟩
      | _ => exact False.elim h
    | _ => cases a <;> first | exact False.elim h | (rename_i z; cases z with | nil => exact False.elim h | cons c z => cases z <;> exact False.elim h)
/-! ### truth -/
theorem tru_ok' : TruR X (rOT (T.g X) Xw truth) := by
  intro pins s σ H x v Q I rx h
  obtain ⟨σ', m, L, a, S, ra, h⟩ := h
  have fin : ∀ {k : Bool}, run (T.g X) Xw σ' RB (ret k) m H L Q → TruV X.K x H k → wpAny (model X.prog X.w) X.A (truthy v) (TP X pins σ Q) X.xe s := fun {k} h t =>
    tru_ok pins s σ H x v Q I rx ⟨k, t, run_ret (R := RB) h S rfl⟩
  cases a with
  | non => cases ra; exact fin h rfl
  | bl b => cases ra; exact fin h rfl
  | int i => cases ra; exact fin h rfl
  | str z =>
    cases ra
    rcases run_if h with ⟨c, h⟩ | ⟨_, h⟩
    · refine fin h ⟨by rw [str_len]; exact lenOk_le c, ?_⟩
      rw [str_len]
      cases z <;> simp
      omega
    · exact h.elim
  | tup ws =>
    cases ra with
    | tup hs hr => exact fin h (.inr (.inl ⟨_, sqT hs, by rw [hr.isEmpty]⟩))
  | ref l =>
    cases ra with
    | ref hl =>
      have h : run (T.g X) Xw σ' RB (match L[l]? with
        | some (.lst ws) => ret (!ws.isEmpty)
        | some (.ro ws) => ret (!ws.isEmpty)
        | _ => fail) m H L Q := h
      split at h
      · rename_i ws e
        obtain ⟨xs, hs, hr⟩ := S.seq hl (.inl e)
        exact fin h (.inl ⟨_, hs, by rw [hr.isEmpty]⟩)
      · rename_i ws e
        obtain ⟨xs, hs, hr⟩ := S.seq hl (.inr e)
        exact fin h (.inl ⟨_, hs, by rw [hr.isEmpty]⟩)
      · exact h.elim
  | exn c fs => exact False.elim h
  | clo k cs => exact False.elim h
  | scr ws => exact False.elim h
/-! ### items and slices -/
theorem atI_rel {K : PySem.W.Frag} {ws : List W} {xs : List V} (r : RelWs K m H ws xs) {i : Int} {w : W} (h : atI ws i = some w) : ∃ v, atI xs i = some v ∧ RelW K m H w v := by
  unfold atI at h ⊢
  rw [r.length] at h
  cases e : ixN xs.length i with
  | none => rw [e] at h; simp at h
  | some j =>
    rw [e] at h
    simp only [Option.bind_some] at h ⊢
    exact r.get h
theorem ix_ok (hu : X.A.units + 65 < cLine) : IxR X (rO2 (T.g X) Xw itemAt) := by
  intro value slice pins s σ H x y v u Q I rx ry h hsl
  obtain ⟨σ', m, L, a, b, S, ra, rb, h⟩ := h
  cases a with
  | str z =>
    cases b <;> try exact False.elim h
    rename_i i
    cases ra; cases rb
    rcases run_if h with ⟨c, h⟩ | ⟨_, h⟩
    · split at h
      · rename_i c0 e
        exact ix_str value slice pins s σ H _ _ v u Q I rx ry ⟨_, _, c0, rfl, rfl, by rw [str_len]; exact lenOk_le c, e, run_val h S (.str [c0])⟩ hsl
      · exact h.elim
    · exact h.elim
  | tup ws =>
    cases b <;> try exact False.elim h
    rename_i i
    cases rb
    cases ra with
    | tup hs hr =>
      have h : run (T.g X) Xw σ' (RelW X.K) (match atI ws i with | some w => ret w | none => fail) m H L Q := h
      split at h
      · rename_i w e
        obtain ⟨vv, e2, r2⟩ := atI_rel hr e
        exact ix_tup value slice pins s σ H _ _ v u Q I rx ry ⟨_, _, _, vv, rfl, rfl, sqT hs, e2, run_val h S r2⟩ hsl
      · exact h.elim
  | ref l =>
    cases ra with
    | ref hl =>
      have key : ∀ ws i, b = .int i → (L[l]? = some (.lst ws) ∨ L[l]? = some (.ro ws)) → run (T.g X) Xw σ' (RelW X.K) (match atI ws i with | some w => ret w | none => fail) m H L Q → wpAny (model X.prog X.w) X.A (subscriptTail value slice v u) (EP X pins σ Q) X.xe s := fun ws i eb hw hh => by
        subst eb
        cases rb
        obtain ⟨xs, hs, hr⟩ := S.seq hl hw
        split at hh
        · rename_i w e
          obtain ⟨vv, e2, r2⟩ := atI_rel hr e
          exact ix_list value slice pins s σ H _ _ v u Q I rx ry ⟨_, _, _, vv, rfl, rfl, hs, e2, run_val hh S r2⟩ hsl
        · exact hh.elim
      have h2 : run (T.g X) Xw σ' (RelW X.K) (match L[l]? with
        | some (.lst ws) => (match b with
          | .int i => (match atI ws i with | some w => ret w | none => fail)
          | _ => fail)
        | some (.ro ws) => (match b with
          | .int i => (match atI ws i with | some w => ret w | none => fail)
          | _ => fail)
        | some (.dct tt kvs) => (match keyFit tt b with
          | some k => (match dGet kvs k with | some w => ret w | none => fail)
          | none => fail)
        | _ => fail) m H L Q := by cases b <;> exact h
      split at h2
      · rename_i ws e
        cases b <;> try exact False.elim h2
        exact key ws _ rfl (.inl e) h2
      · rename_i ws e
        cases b <;> try exact False.elim h2
        exact key ws _ rfl (.inr e) h2
      · rename_i tt kvs e
        split at h2
        · rename_i k ek
          rcases dget_ok S hl e rb ek with ⟨a1, a2⟩ | ⟨z, vv, a1, a2, a3⟩
          · rw [a1] at h2; exact h2.elim
          · rw [a1] at h2
            exact ix_dct (by omega) value slice pins s σ H _ _ v u Q I rx ry ⟨_, vv, rfl, a2, run_val h2 S a3⟩ hsl
        · exact h2.elim
      · exact h2.elim
  | _ => cases b <;> exact False.elim h
theorem cutL_rel {K : PySem.W.Frag} {ws : List W} {xs : List V} (r : RelWs K m H ws xs) (lo hi : Option Int) : RelWs K m H (cutL ws lo hi) (cutV xs lo hi) := by
  unfold cutL cutV cutI
  rw [r.length]
  exact (r.drop _).take _
theorem sl_ok {f : W → Option Int → Option Int → M W} (hf : f = sliceOf) : SlR X (fun x lo hi H Q => ∃ σ m L a, Sim (T.g X) m L H ∧ RelW X.K m H a x ∧ run (T.g X) Xw σ (RelW X.K) (f a lo hi) m H L Q) := by
  subst hf
  intro pins s σ H x v vl vu lo hi sl Q I rx hs pl pu h
  obtain ⟨σ', m, L, a, S, ra, h⟩ := h
  cases a with
  | str z =>
    cases ra
    rcases run_if h with ⟨c, h⟩ | ⟨_, h⟩
    · have e : cutS (⟨z.toArray⟩ : Str) lo hi = ⟨(cutL z lo hi).toArray⟩ := by
        unfold cutS cutL cutI
        simp [Str.length]
      exact sl_str pins s σ H _ v vl vu lo hi sl Q I rx hs pl pu ⟨_, rfl, by rw [str_len]; exact lenOk_le c, by rw [e]; exact run_val h S (.str _)⟩
    · exact h.elim
  | tup ws =>
    cases ra with
    | tup ht hr => exact sl_tupA pins s σ H _ v vl vu lo hi sl Q I rx hs pl pu ⟨_, _, rfl, sqT ht, fun e => run_val h S (.tup ht (by
        have z := cutL_rel hr lo hi
        have e2 : ∀ xs : List V, HT.sIx xs.length 0 lo = 0 ∧ HT.sIx xs.length xs.length hi = xs.length → cutV xs lo hi = xs := fun xs q => by
          unfold cutV
          rw [q.1, q.2]
          simp
        rw [e2 _ e] at z
        exact z)), fun _ p hp => run_tup h S (cutL_rel hr lo hi) hp⟩
  | scr ws =>
    cases ra with
    | scr hs hr => exact sl_list pins s σ H _ v vl vu lo hi sl Q I rx (by assumption) pl pu ⟨_, _, rfl, hs.sq, fun p hp => run_new h S (cutL_rel hr lo hi) hp⟩
  | ref l =>
    cases ra with
    | ref hl =>
      have key : ∀ ws, (L[l]? = some (.lst ws) ∨ L[l]? = some (.ro ws)) → run (T.g X) Xw σ' (RelW X.K) (alloc (.lst (cutL ws lo hi))) m H L Q → ∃ T id, typeLookup (.type T) "__getitem__" = pure (some (.builtin id)) ∧ s.TypeIs v T ∧ wpAny (model X.prog X.w) X.A (getItem v (.ref sl)) (EP X pins σ Q) X.xe s := fun ws hw h => by
        obtain ⟨xs, hs', hr⟩ := S.seq hl hw
        exact sl_list pins s σ H _ v vl vu lo hi sl Q I rx hs pl pu ⟨_, _, rfl, hs', fun p hp => run_new h S (cutL_rel hr lo hi) hp⟩
      have h : run (T.g X) Xw σ' (RelW X.K) (match L[l]? with
        | some (.lst ws) => alloc (.lst (cutL ws lo hi))
        | some (.ro ws) => alloc (.lst (cutL ws lo hi))
        | _ => fail) m H L Q := h
      split at h
      · rename_i ws e; exact key ws (.inl e) h
      · rename_i ws e; exact key ws (.inr e) h
      · exact h.elim
  | _ => exact False.elim h
end
end Dx

set_option maxRecDepth 100000
set_option maxHeartbeats 2000000
/-! Dx5: expressions: the checker of a text's expression against the small one, and that the run is as the evaluator says. -/
namespace Dx
open PySem PySem.Spec PyProof.Rows L2

def ofW (W : WX) : XW := fun σ _ cls d H => W cls d σ H
def tM {α β : Type} (g : G) (W : WX) (R : List Addr → Hp → α → β → Prop) (f : Fr → M α) (σ : L2.St) (H : Hp) (Q : β → Hp → Prop) : Prop :=
  ∃ m ρ L, Sim g m L H ∧ RelF g.K m H ρ σ ∧ run g (ofW W) σ R (f ρ) m H L Q
section
variable {g : G} {W : WX} {α β γ δ : Type} {R : List Addr → Hp → α → β → Prop} {R' : List Addr → Hp → γ → δ → Prop} {σ : L2.St} {H : Hp} {Q Q' : β → Hp → Prop}
theorem tM.imp {f : Fr → M α} (h : tM g W R f σ H Q) (k : ∀ b H', Q b H' → Q' b H') : tM g W R f σ H Q' :=
  let ⟨m, ρ, L, S, F, r⟩ := h
  ⟨m, ρ, L, S, F, r.imp k⟩
theorem tM_bnd {a : Fr → M γ} {f : Fr → γ → M α} (h : tM g W R (fun ρ => bnd (a ρ) (f ρ)) σ H Q) :
    tM g W R' a σ H (fun d H1 => ∃ m1 ρ L1 x, Sim g m1 L1 H1 ∧ RelF g.K m1 H1 ρ σ ∧ R' m1 H1 x d ∧ run g (ofW W) σ R (f ρ x) m1 H1 L1 Q) :=
  let ⟨m, ρ, L, S, F, r⟩ := h
  ⟨m, ρ, L, S, F, (run_bnd r).imp fun d H1 ⟨m1, L1, x, e, S1, r1, q⟩ => ⟨m1, ρ, L1, x, S1, F.mono e, r1, q⟩⟩
end
abbrev tE (T : Tab) (C : Env) (W : WX) (X : Cx) (x : Ex) : TE := tM (T.g X) W (RelW X.K) fun ρ => evE C ρ x
abbrev tT (T : Tab) (C : Env) (W : WX) (X : Cx) (x : Tx) : TT := tM (T.g X) W RB fun ρ => evT C ρ x
abbrev tA (T : Tab) (C : Env) (W : WX) (X : Cx) (xs : List Ex) : TA := tM (T.g X) W (RelWs X.K) fun ρ => evEs C ρ xs
theorem PE_imp {X : Cx} {e : Expr} {t t' : TE} (h : PE X e t) (k : ∀ σ H Q, t' σ H Q → t σ H Q) : PE X e t' := ⟨fun pins s σ H Q I q => h.run pins s σ H Q I (k σ H Q q)⟩
theorem PT_imp {X : Cx} {e : Expr} {t t' : TT} (h : PT X e t) (k : ∀ σ H Q, t' σ H Q → t σ H Q) : PT X e t' := ⟨fun pins s σ H Q I q => h.run pins s σ H Q I (k σ H Q q)⟩
theorem PW_imp {X : Cx} {e : Expr} {t t' : TT} (h : PW X e t) (k : ∀ σ H Q, t' σ H Q → t σ H Q) : PW X e t' := ⟨fun wh pins s σ H Q I q => h.run wh pins s σ H Q I (k σ H Q q)⟩
theorem PA_imp {X : Cx} {e : List Expr} {t t' : TA} (h : PA X e t) (k : ∀ σ H Q, t' σ H Q → t σ H Q) : PA X e t' := ⟨fun pos pins s σ H Q I q => h.run pos pins s σ H Q I (k σ H Q q)⟩

/-! ### the program's tables -/
/-- where a function stands: a global's, a class's method, a property's getter -/
inductive AtP where | glo (x : Str) | meth (c m : Str) | get (c f : Str)
  deriving DecidableEq
def prA (K : PySem.W.Frag) (C : Addr) (f : Str) : Addr := match PySem.W.findIn K (.ref C) f with
  | some (some (.ref p)) => p
  | _ => 0
def gtA (K : PySem.W.Frag) (C : Addr) (f : Str) : Addr := match PySem.W.recIn K (prA K C f) "property" with
  | some (.ref g :: _) => g
  | _ => 0
def AtP.ad (K : PySem.W.Frag) : AtP → Addr
  | .glo x => He.ga K x
  | .meth c m => He.ma K (He.ga K c) m
  | .get c f => gtA K (He.ga K c) f
/-- a call's target: the function, how many written arguments, the keywords' names -/
structure Tg where
  at_ : AtP
  npos : Nat
  kws : List Str
structure Pg where
  gi : List (Str × Int)
  gs : List (Str × Txt)
  free : List Str
  tg : List Tg
  cls : List Str := []
  fld : List Str := []
  mf : List (Str × Nat × List Str) := []
  pf : List Str := []
  mkf : List (Str × Nat × List Str) := []
  noatL : List (Str × Str) := []
  methL : List (Str × Str) := []
  propL : List (Str × Str) := []
  mkrL : List Str := []
  subL : List (Nat × Nat) := []
  gd : List (Str × List (Txt × W)) := []
  gt : List (Str × List Txt) := []
  xcs : List Str := []
  xnoL : List (Str × Str) := []
  xmkf : List (Str × Nat) := []
  xsubL : List (Nat × Cl) := []
  /-- exceptions that are raised: the class, its tag, its field -/
  xinL : List (Str × Txt × Option Str) := []
def Pg.sub (p : Pg) (a b : Nat) : Bool := a == b || p.subL.contains (a, b)
/-- a class whose instances are made and asked -/
structure ClsX (K : PySem.W.Frag) (C : Addr) : Prop where
  cl : Cls K C
  ha : PySem.W.findIn K (.ref C) "__class__" = some (some (.builtin "object.__class__"))
  hn : PySem.W.specialIn K (.builtin "object.__class__") "__get__" = some (some (.builtin "getset_descriptor.__get__"))
  tk : PySem.W.takesIn K (.builtin "object.__class__") = some true
  hm : PySem.W.mroIn K C (.type "object") = some true
  ne : PySem.W.findIn K (.ref C) "__ne__" = some (some (.builtin "object.__ne__"))
def nmAll : List String := ["NoneType", "bool", "int", "str", "tuple", "list", "dict"]
def gdOk (K : PySem.W.Frag) (w : World) (a : Addr) (kvs : List (Txt × W)) : Prop := ∃ es n, KDict K w a es n ∧ ∀ t : Txt, (match kvs.lookup t with
  | some v => ∃ u y, PySem.W.nsIn K a ⟨t.toArray⟩ = some (some u) ∧ RelV y u ∧ ∀ m H, RelW K m H v y
  | none => PySem.W.nsIn K a ⟨t.toArray⟩ = some none)
def xtNames : List String := ["ValueError", "LookupError", "IndexError"]
structure PgOk (p : Pg) (K : PySem.W.Frag) (w : World) (mg : Str → Option Value) : Prop where
  gi : ∀ q ∈ p.gi, ∃ t, mg q.1 = some (.int q.2 t)
  gs : ∀ q ∈ p.gs, ∃ t, mg q.1 = some (.str ⟨q.2.toArray⟩ t)
  free : ∀ x ∈ p.free, mg x = none
  cls : ∀ x ∈ p.cls, mg x = some (.ref (He.ga K x)) ∧ ClsX K (He.ga K x)
  kit : ∀ (i j : Nat) (x y : Str), p.cls[i]? = some x → p.cls[j]? = some y → PySem.W.kitOne K (.ref (He.ga K x)) (.ref (He.ga K y)) = some (p.sub i j)
  kitT : ∀ y ∈ p.cls, ∀ a ∈ nmAll, PySem.W.kitOne K (.type a) (.ref (He.ga K y)) = some false
  noat : ∀ q ∈ p.noatL, NoAttr K (He.ga K q.1) q.2
  meth : ∀ q ∈ p.methL, Meth K (He.ga K q.1) q.2 (He.ma K (He.ga K q.1) q.2)
  prop : ∀ q ∈ p.propL, PropOf K (He.ga K q.1) q.2 (prA K (He.ga K q.1) q.2) (gtA K (He.ga K q.1) q.2)
  mkr : ∀ x ∈ p.mkrL, Mk K (He.ga K x) (He.ma K (He.ga K x) "__init__")
  gd : ∀ q ∈ p.gd, ∃ a, mg q.1 = some (.ref a) ∧ gdOk K w a q.2
  gt : ∀ q ∈ p.gt, ∃ a, mg q.1 = some (.ref a) ∧ ∀ H, SqT K H a (q.2.map fun t => V.str ⟨t.toArray⟩)
  xc : ∀ x ∈ p.xcs, mg x = some (.ref (He.ga K x)) ∧ XcC K (He.ga K x)
  xno : ∀ q ∈ p.xnoL, PySem.W.findIn K (.ref (He.ga K q.1)) q.2 = some none
  xkit : ∀ (i j : Nat) (x y : Str), p.xcs[i]? = some x → p.xcs[j]? = some y → PySem.W.kitOne K (.ref (He.ga K x)) (.ref (He.ga K y)) = some (p.xsubL.contains (i, .own j))
  xkitT : ∀ (i : Nat) (x : Str), p.xcs[i]? = some x → ∀ s ∈ xtNames, PySem.W.kitOne K (.ref (He.ga K x)) (.type s) = some (p.xsubL.contains (i, .ty s))
def duName : Nat → Option Str
  | 0 => some "__len__" | 1 => some "__repr__" | 2 => some "__contains__" | 3 => some "__eq__" | 4 => some "__add__" | 5 => some "__mul__" | _ => none
def duN : Nat → Nat
  | 0 => 1 | 1 => 1 | _ => 2
/-- the evaluator's tables are the program's -/
structure CfOk (p : Pg) (C : Env) : Prop where
  cf : ∀ c f, C.cf c f = true → ∃ x y, p.cls[c]? = some x ∧ p.fld[f]? = some y ∧ (x, y) ∈ p.noatL
  mt : ∀ c m t, C.mt c m = some t → ∃ x nm np kws g, p.cls[c]? = some x ∧ p.mf[m]? = some (nm, np, kws) ∧ p.tg[t]? = some g ∧ g.at_ = .meth x nm ∧ g.npos = np + 1 ∧ g.kws = kws ∧ (x, nm) ∈ p.methL ∧ nm ∉ p.fld
  pt : ∀ c m t, C.pt c m = some t → ∃ x nm g, p.cls[c]? = some x ∧ p.pf[m]? = some nm ∧ p.tg[t]? = some g ∧ g.at_ = .get x nm ∧ g.npos = 1 ∧ g.kws = [] ∧ (x, nm) ∈ p.propL
  mks : ∀ k c t, C.mks k = some (c, t) → ∃ x np kws g, p.cls[c]? = some x ∧ p.mkf[k]? = some (x, np, kws) ∧ p.tg[t]? = some g ∧ g.at_ = .meth x "__init__" ∧ g.npos = np + 1 ∧ g.kws = kws ∧ x ∈ p.mkrL
  du : ∀ c i t, C.du c i = some t → ∃ x nm g, p.cls[c]? = some x ∧ duName i = some nm ∧ p.tg[t]? = some g ∧ g.at_ = .meth x nm ∧ g.npos = duN i ∧ g.kws = [] ∧ (x, nm) ∈ p.methL
  sub : C.sub = p.sub
  fnd : p.fld.Nodup
  xmks : ∀ k c t, C.xmks k = some (c, t) → ∃ x np g, p.xcs[c]? = some x ∧ p.xmkf[k]? = some (x, np) ∧ p.tg[t]? = some g ∧ g.at_ = .meth x "__init__" ∧ g.npos = np + 1 ∧ g.kws = [] ∧ (x, ("__init__" : Str)) ∈ p.methL
  xcf : ∀ c f, C.xcf c f = true → ∃ x y, p.xcs[c]? = some x ∧ p.fld[f]? = some y ∧ (x, y) ∈ p.xnoL
  xsub : C.xsub = fun i j => p.xsubL.contains (i, j)
  xin : ∀ c n, C.xin c n = true → ∃ x tg fo, p.xcs[c]? = some x ∧ (x, tg, fo) ∈ p.xinL ∧ n = nI fo
  tag : ∀ c x tg fo, p.xcs[c]? = some x → (x, tg, fo) ∈ p.xinL → C.tag c = tg
/-- the names of a def, its scope -/
structure Dc where
  N : List Str
  sc : Scope
  asn : List Str
  /-- the def that calls _law_why with lambdas -/
  lam : Bool
def visB (sc : Scope) (y : Str) : Bool := match sc.names.lookup y with
  | some .local => true
  | some .cell => true
  | some .free => true
  | _ => false
def locB (sc : Scope) (y : Str) : Bool := match sc.names.lookup y with
  | some .local => true
  | some .cell => true
  | _ => false
def glB (sc : Scope) (y : Str) : Bool := match sc.names.lookup y with
  | some .globalImplicit => y != ("__debug__" : Str)
  | _ => false
def bltB (p : Pg) (sc : Scope) (y : Str) (n : Str) : Bool := decide (y = n) && glB sc y && p.free.contains y && y != ("__name__" : Str)

def biName : Bi → Str
  | .sumf => "sum" | .boolf => "bool"
  | .len => "len" | .absf => "abs" | .maxf => "max" | .minf => "min" | .intf => "int" | .allf => "all" | .anyf => "any" | .sortedf => "sorted" | .listf => "list" | .tuplef => "tuple" | .strf => "str" | .reprf => "repr"
def bmName : Bm → Str
  | .index => "index" | .indexs => "index"
  | .join => "join" | .append => "append" | .pop => "pop" | .find => "find" | .islower => "islower" | .isalpha => "isalpha" | .startswith => "startswith" | .endswith => "endswith" | .split => "split"

def bmOk : Bm → Bool
  | .join => true | .append => true | .islower => true | .isalpha => true | .pop => true | .find => true | .startswith => true | .endswith => true | .split => true | .indexs => true
  | _ => false
/-- no call of super -/
def noSup : Expr → Bool
  | .Call (.Name _ _) [] [] _ => false
  | _ => true

mutual
def tgIx : Tgt → List Nat
  | .nm i => [i]
  | .tup ts => tgIxs ts
  | .sub _ _ => []
  | .fld _ _ => []
  | .xfl _ _ => []
def tgIxs : List Tgt → List Nat
  | [] => []
  | t :: ts => tgIx t ++ tgIxs ts
end
mutual
def tgPl : Tgt → Bool
  | .nm _ => true
  | .tup ts => tgPls ts
  | .sub _ _ => false
  | .fld _ _ => false
  | .xfl _ _ => false
def tgPls : List Tgt → Bool
  | [] => true
  | t :: ts => tgPl t && tgPls ts
end
def tgOwn (own : List Nat) (t : Tgt) : Bool := tgPl t && (tgIx t).all own.contains
def tyNames : List String := ["int", "str", "bool", "list", "tuple", "dict"]
def chkCls (p : Pg) (c : Dc) : List Cl → List Expr → Bool
  | [], es => es.isEmpty
  | .ty s :: cs, es => (match es with
    | .Name n _ :: es => bltB p c.sc n (Str.ofString s) && tyNames.contains s && chkCls p c cs es
    | _ => false)
  | .own _ :: _, _ => false
/-- flat values alike -/
def flB : W → W → Bool
  | .int a, .int b => decide (a = b)
  | .str a, .str b => decide (a = b)
  | _, _ => false
def kvB : List (Txt × W) → List (Txt × W) → Bool
  | [], [] => true
  | (t, v) :: r, (t2, v2) :: r2 => decide (t = t2) && flB v v2 && kvB r r2
  | _, _ => false
/-- a keyword's name -/
def kwB (ks : List Keyword) (kws : List Str) : Bool := decide (ks.map (·.arg) = kws.map some)
/-- no parameters -/
def noPar (a : Arguments) : Bool := a.posonlyargs.isEmpty && a.args.isEmpty && a.vararg.isNone && a.kwonlyargs.isEmpty && a.kwarg.isNone && a.defaults.isEmpty && a.kw_defaults.isEmpty
mutual
def chkE (p : Pg) (c : Dc) : Ex → Expr → Bool
  | .var i, e => (match e with
    | .Name y _ => visB c.sc y && decide (c.N[i]? = some y) && y != ("__debug__" : Str) && y != ("__classdict__" : Str)
    | _ => false)
  | .kn, e => (match e with
    | .Constant .none _ _ => true
    | _ => false)
  | .kb b, e => (match e with
    | .Constant (.bool d) _ _ => b == d
    | _ => false)
  | .ki i, e => (match e with
    | .Constant (.int d) _ _ => decide (i = d)
    | _ => false)
  | .ks x, e => (match e with
    | .Constant (.str d) _ _ => decide (d = ⟨x.toArray⟩)
    | _ => false)
  | .gi n i, e => (match e with
    | .Name y _ => decide (y = n) && glB c.sc y && p.gi.contains (y, i)
    | _ => false)
  | .gs n x, e => (match e with
    | .Name y _ => decide (y = n) && glB c.sc y && p.gs.contains (y, x)
    | _ => false)
  | .bin op a b, e => (match e with
    | .BinOp l o r _ => decide (o = bopP op) && chkE p c a l && chkE p c b r
    | _ => false)
  | .neg a, e => (match e with
    | .UnaryOp .USub l _ => chkE p c a l
    | _ => false)
  | .cmp op a b, e => (match e with
    | .Compare l [o] [r] _ => decide (o = copP op) && chkE p c a l && chkE p c b r
    | _ => false)
  | .chn o1 o2 a b d, e => (match e with
    | .Compare l [p1, p2] [r1, r2] _ => decide (p1 = copP o1) && decide (p2 = copP o2) && chkE p c a l && chkE p c b r1 && chkE p c d r2
    | _ => false)
  | .band xs, e => (match e with
    | .BoolOp .And es _ => chkEs p c xs es && !es.isEmpty
    | _ => false)
  | .bor xs, e => (match e with
    | .BoolOp .Or es _ => chkEs p c xs es && !es.isEmpty
    | _ => false)
  | .bnot a, e => (match e with
    | .UnaryOp .Not l _ => chkE p c a l
    | _ => false)
  | .ifx t a b, e => (match e with
    | .IfExp q l r _ => chkT p c t q && chkE p c a l && chkE p c b r
    | _ => false)
  | .sub a i, e => (match e with
    | .Subscript l r _ => chkE p c a l && chkE p c i r
    | _ => false)
  | .slc a lo hi, e => (match e with
    | .Subscript l (.Slice x y none _) _ => chkE p c a l && chkO p c lo x && chkO p c hi y
    | _ => false)
  | .lst xs, e => (match e with
    | .List es _ => chkEs p c xs es
    | _ => false)
  | .tup xs, e => (match e with
    | .Tuple es _ _ => chkEs p c xs es
    | _ => false)
  | .call t xs ys, e => (match e with
    | .Call (.Name y _) es ks _ => (match p.tg[t]? with
      | some g => decide (g.at_ = .glo y) && glB c.sc y && es.length == g.npos && decide (ks.map (·.arg) = g.kws.map some) && chkEs p c xs es && chkEs p c ys (ks.map (·.value))
      | none => false)
    | _ => false)
  | .bi b xs, e => (match e with
    | .Call (.Name y _) es [] _ => bltB p c.sc y (biName b) && !es.isEmpty && chkEs p c xs es
    | _ => false)
  | .met m o xs, e => (match e with
    | .Call (.Attribute l n apos) es [] cpos => decide (n = bmName m) && bmOk m && noSup l && (apos.endLine == cpos.line) && decide (es.length < 20) && chkE p c o l && chkEs p c xs es
    | _ => false)
  | .lc own t it cs x, e => (match e with
    | .ListComp elt [⟨tg, iter, ifs, a⟩] scope _ => decide (a = 0) && blkC c.N c.sc scope own && (own.all fun q => match scope.names.lookup q.1 with
        | some .local => true
        | some .cell => true
        | _ => false) && tgOwn (own.map (·.2)) t && chkI p c it tg iter && chkG p ⟨c.N, relS scope c.sc, own.map (·.1), false⟩ t tg && chkTs p ⟨c.N, relS scope c.sc, own.map (·.1), false⟩ cs ifs && decide (ifs.length ≤ 1) && chkE p ⟨c.N, relS scope c.sc, own.map (·.1), false⟩ x elt
    | _ => false)
  | .fld o f, e => (match e with
    | .Attribute l n _ => noSup l && decide (p.fld[f]? = some n) && chkE p c o l
    | _ => false)
  | .prp o m, e => (match e with
    | .Attribute l n _ => noSup l && decide (p.pf[m]? = some n) && chkE p c o l
    | _ => false)
  | .mcall m o xs ys, e => (match e with
    | .Call (.Attribute l n apos) es ks cpos => (match p.mf[m]? with
      | some (nm, np, kws) => decide (n = nm) && noSup l && (apos.endLine == cpos.line) && decide (es.length + ks.length < 20) && decide (es.length = np) && kwB ks kws && chkE p c o l && chkEs p c xs es && chkEs p c ys (ks.map (·.value))
      | none => false)
    | _ => false)
  | .mk k xs ys, e => (match e with
    | .Call (.Name y _) es ks _ => (match p.mkf[k]? with
      | some (x, np, kws) => decide (y = x) && glB c.sc y && p.cls.contains y && p.mkrL.contains y && decide (es.length = np) && kwB ks kws && chkEs p c xs es && chkEs p c ys (ks.map (·.value))
      | none => false)
    | _ => false)
  | .isi x cl, e => (match e with
    | .Call (.Name y _) [l, .Name n _] [] _ => bltB p c.sc y "isinstance" && chkE p c x l && (match cl with
      | .ty s => bltB p c.sc n (Str.ofString s) && tyNames.contains s
      | .own k => decide (p.cls[k]? = some n) && glB c.sc n)
    | _ => false)
  | .isis x cs, e => (match e with
    | .Call (.Name y _) [l, .Tuple es _ _] [] _ => bltB p c.sc y "isinstance" && chkE p c x l && chkCls p c cs es
    | _ => false)
  | .srtset x, e => (match e with
    | .Call (.Name y _) [.Call (.Name z _) [l] [] _] [] _ => bltB p c.sc y "sorted" && bltB p c.sc z "set" && chkE p c x l
    | _ => false)
  | .lenset x, e => false
  | .rev x, e => (match e with
    | .Subscript l (.Slice none none (some (.UnaryOp .USub (.Constant (.int i) _ _) _)) _) _ => decide (i = 1) && chkE p c x l
    | _ => false)
  | .fst ps, e => (match e with
    | .JoinedStr (a :: b :: r) _ => chkFs p c ps (a :: b :: r)
    | _ => false)
  | .dnew _, e => (match e with
    | .Dict [] [] _ => true
    | _ => false)
  | .dsp ps, e => (match e with
    | .Dict ks vs _ => !ks.isEmpty && decide (ks.length ≤ 15) && chkPs p c ps ks vs
    | _ => false)
  | .dgetd o k x, e => (match e with
    | .Call (.Attribute l n apos) [a, b] [] cpos => decide (n = ("get" : Str)) && noSup l && (apos.endLine == cpos.line) && chkE p c o l && chkE p c k a && chkE p c x b
    | _ => false)
  | .kin ng x g ks, e => (match e with
    | .Compare l [op] [.Name y _] _ => decide (op = if ng then .NotIn else .In) && chkE p c x l && decide (y = g) && glB c.sc y && ((p.gt.contains (g, ks)) || (p.gd.any fun q => decide (q.1 = g) && decide (q.2.map (·.1) = ks)))
    | _ => false)
  | .kget x g kvs, e => (match e with
    | .Subscript (.Name y _) l _ => chkE p c x l && decide (y = g) && glB c.sc y && (p.gd.any fun q => decide (q.1 = g) && kvB q.2 kvs)
    | _ => false)
  | .gt _ _, e => false
  | .dun i a b, e => false
  | .why x, e => (match e with
    | .Call (.Name y _) [.Lambda params body scope _] [] _ => c.lam && decide (y = ("_law_why" : Str)) && glB c.sc y && noPar params && LamX.lamSB c.sc scope && chkE p ⟨c.N, scope, [], false⟩ x body
    | _ => false)
  | .xmk k xs, e => (match e with
    | .Call (.Name y _) es [] _ => (match p.xmkf[k]? with
      | some (x, np) => decide (y = x) && glB c.sc y && p.xcs.contains y && decide (es.length = np) && decide (es.length ≤ 100) && chkEs p c xs es
      | none => false)
    | _ => false)
  | .xfl o f, e => (match e with
    | .Attribute l n _ => noSup l && decide (p.fld[f]? = some n) && chkE p c o l
    | _ => false)
  | .xis x cl, e => (match e with
    | .Call (.Name y _) [l, .Name n _] [] _ => bltB p c.sc y "isinstance" && chkE p c x l && (match cl with
      | .ty s => bltB p c.sc n (Str.ofString s) && xtNames.contains s
      | .own k => decide (p.xcs[k]? = some n) && glB c.sc n)
    | _ => false)
def chkFs (p : Pg) (c : Dc) : List Ex → List Expr → Bool
  | [], es => es.isEmpty
  | x :: xs, es => (match es with
    | e :: es => (match e with
      | .FormattedValue l conv none _ => decide (conv = -1) && chkE p c x l
      | .Constant (.str d) i q => chkE p c x (.Constant (.str d) i q)
      | _ => false) && chkFs p c xs es
    | [] => false)
def chkPs (p : Pg) (c : Dc) : List Ex → List (Option Expr) → List Expr → Bool
  | [], ks, vs => ks.isEmpty && vs.isEmpty
  | [_], _, _ => false
  | k :: v :: r, ks, vs => (match ks, vs with
    | some ke :: ks, ve :: vs => chkE p c k ke && chkE p c v ve && chkPs p c r ks vs
    | _, _ => false)
def chkEs (p : Pg) (c : Dc) : List Ex → List Expr → Bool
  | [], es => es.isEmpty
  | x :: xs, es => (match es with
    | e :: es => chkE p c x e && chkEs p c xs es
    | [] => false)
def chkO (p : Pg) (c : Dc) : Option Ex → Option Expr → Bool
  | none, e => e.isNone
  | some x, e => (match e with
    | some e => chkE p c x e
    | none => false)
def chkT (p : Pg) (c : Dc) : Tx → Expr → Bool
  | .val x, e => (match e with
    | .BoolOp .. => false
    | .IfExp .. => false
    | .Compare .. => false
    | .UnaryOp .Not _ _ => false
    | e => chkE p c x e)
  | .bv x, e => (match e with
    | .Compare .. => chkE p c x e
    | _ => false)
  | .all ts, e => (match e with
    | .BoolOp .And es _ => chkTs p c ts es && !es.isEmpty
    | _ => false)
  | .any ts, e => (match e with
    | .BoolOp .Or es _ => chkTs p c ts es && !es.isEmpty
    | _ => false)
  | .nt t, e => (match e with
    | .UnaryOp .Not l _ => chkT p c t l
    | _ => false)
def chkTs (p : Pg) (c : Dc) : List Tx → List Expr → Bool
  | [], es => es.isEmpty
  | x :: xs, es => (match es with
    | e :: es => chkT p c x e && chkTs p c xs es
    | [] => false)
def chkI (p : Pg) (c : Dc) : It → Expr → Expr → Bool
  | .e x, _, e => chkE p c x e
  | .rng xs, _, e => (match e with
    | .Call (.Name y _) es [] _ => bltB p c.sc y "range" && chkEs p c xs es && (es.length == 1 || es.length == 2)
    | _ => false)
  | .enum x, t, e => (match t, e with
    | .Tuple _ _ _, .Call (.Name y _) [l] [] _ => bltB p c.sc y "enumerate" && chkE p c x l
    | _, _ => false)
  | .zip x y, t, e => (match t, e with
    | .Tuple _ _ _, .Call (.Name n _) [l, r] [] _ => bltB p c.sc n "zip" && chkE p c x l && chkE p c y r
    | _, _ => false)
def chkG (p : Pg) (c : Dc) : Tgt → Expr → Bool
  | .nm i, e => (match e with
    | .Name y _ => decide (c.N[i]? = some y) && locB c.sc y && c.asn.contains y
    | _ => false)
  | .tup ts, e => (match e with
    | .Tuple es _ _ => tgPls ts && chkGs p c ts es
    | _ => false)
  | .sub o i, e => (match e with
    | .Subscript l r _ => chkE p c o l && chkE p c i r
    | _ => false)
  | .fld o f, e => (match e with
    | .Attribute l n _ => noSup l && decide (p.fld[f]? = some n) && chkE p c o l
    | _ => false)
  | .xfl o f, e => (match e with
    | .Attribute l n _ => noSup l && decide (p.fld[f]? = some n) && chkE p c o l
    | _ => false)
def chkGs (p : Pg) (c : Dc) : List Tgt → List Expr → Bool
  | [], es => es.isEmpty
  | x :: xs, es => (match es with
    | e :: es => chkG p c x e && chkGs p c xs es
    | [] => false)
end
theorem chk_star {p : Pg} {c : Dc} {x : Ex} {e : Expr} {pos : Pos} : chkE p c x (.Starred e pos) = false := by cases x <;> rfl
theorem chk_slice {p : Pg} {c : Dc} {x : Ex} {a b d : Option Expr} {pos : Pos} : chkE p c x (.Slice a b d pos) = false := by cases x <;> rfl
theorem star_plain {p : Pg} {c : Dc} {x : Ex} {e : Expr} (h : chkE p c x e = true) (es : List Expr) (env : PySem.Env) : starEach (e :: es) env = (false, eval e env) :: starEach es env := by
  cases e <;> first | rfl | (rw [chk_star] at h; cases h)
theorem chkEs_star {p : Pg} {c : Dc} : ∀ {xs : List Ex} {es : List Expr}, chkEs p c xs es = true → ∀ (env : PySem.Env) (pos : Pos), (backTo pos (starEach es env)).any (·.1) = false
  | [], es, h, env, pos => by
    cases es with
    | nil => rfl
    | cons e es => simp [chkEs] at h
  | x :: xs, es, h, env, pos => by
    cases es with
    | nil => simp [chkEs] at h
    | cons e es =>
      simp only [chkEs, Bool.and_eq_true] at h
      rw [star_plain h.1]
      have := chkEs_star h.2 env pos
      simp only [backTo, List.map_cons, List.any_cons, Bool.false_or] at this ⊢
      exact this
end Dx

set_option maxRecDepth 100000
set_option maxHeartbeats 4000000
/-! Dx9a: the head's facts. -/
namespace Dx
open PySem PySem.Spec PyProof.Rows L2
def txS (t : Txt) : Str := ⟨t.toArray⟩
def dvOf : W → He.Dv
  | .int i => .int i
  | .str t => .str (txS t)
  | _ => .non
def flKV : W → Bool
  | .int _ => true
  | .str _ => true
  | _ => false
theorem flKV_ok {K : PySem.W.Frag} {v : W} (h : flKV v = true) : ∀ m H, RelW K m H v ((dvOf v).v K) := by
  match v, h with
  | .int i, _ => exact fun m H => .int i
  | .str t, _ => exact fun m H => .str t
def clsXB (K : PySem.W.Frag) (C : Addr) : Bool := He.eqO (PySem.W.findIn K (.ref C) "__class__") (some (some (.builtin "object.__class__"))) && (He.eqO (PySem.W.specialIn K (.builtin "object.__class__") "__get__") (some (some (.builtin "getset_descriptor.__get__"))) && (decide (PySem.W.takesIn K (.builtin "object.__class__") = some true) && decide (PySem.W.mroIn K C (.type "object") = some true) && He.eqO (PySem.W.findIn K (.ref C) "__ne__") (some (some (.builtin "object.__ne__")))))
def kitPB (p : Pg) (K : PySem.W.Frag) : Bool := (List.range p.cls.length).all fun i => (List.range p.cls.length).all fun j => match p.cls[i]?, p.cls[j]? with
  | some x, some y => decide (PySem.W.kitOne K (.ref (He.ga K x)) (.ref (He.ga K y)) = some (p.sub i j))
  | _, _ => false
def propB (K : PySem.W.Frag) (C : Addr) (f : Str) : Bool := He.eqO (PySem.W.findIn K (.ref C) f) (some (some (.ref (prA K C f)))) && (He.eqO (PySem.W.specialIn K (.ref (prA K C f)) "__get__") (some (some (.builtin "property.__get__"))) && (decide (PySem.W.takesIn K (.ref (prA K C f)) = some true) && (match PySem.W.recIn K (prA K C f) "property" with
  | some (.ref g :: _) => true
  | _ => false)))
def xkitB (p : Pg) (K : PySem.W.Frag) : Bool := (List.range p.xcs.length).all fun i => match p.xcs[i]? with
  | some x => ((List.range p.xcs.length).all fun j => match p.xcs[j]? with
    | some y => decide (PySem.W.kitOne K (.ref (He.ga K x)) (.ref (He.ga K y)) = some (p.xsubL.contains (i, .own j)))
    | none => false) && xtNames.all fun s => decide (PySem.W.kitOne K (.ref (He.ga K x)) (.type s) = some (p.xsubL.contains (i, .ty s)))
  | none => false
def Pg.xx (p : Pg) (K : PySem.W.Frag) : Bool := (p.xcs.all fun x => xcB K (He.ga K x)) && ((p.xnoL.all fun q => decide (PySem.W.findIn K (.ref (He.ga K q.1)) q.2 = some none)) && xkitB p K)
def Pg.ex (p : Pg) (K : PySem.W.Frag) : Bool := p.xx K && ((p.cls.all fun x => clsXB K (He.ga K x)) && (kitPB p K && ((p.cls.all fun y => nmAll.all fun a => decide (PySem.W.kitOne K (.type a) (.ref (He.ga K y)) = some false)) && ((p.propL.all fun q => propB K (He.ga K q.1) q.2) &&
  ((p.gd.all fun q => (q.2.all fun r => flKV r.2) && He.valsB K (He.ga K q.1) (q.2.map fun r => (txS r.1, dvOf r.2))) && (p.gt.all fun q => He.tupB K q.1 (q.2.map fun t => .str (txS t))))))))
/-! ### the Hook: defs at any address, tables, one more Bool -/
abbrev AlY : Type := (He.AlD × List (Option (List (Option (Str × Int))))) × Bool
def obsK (fa : List He.Fa) (fn : List He5.DefA) (ts : List He.Tab) (ex : PySem.W.Frag → Bool) (K : PySem.W.Frag) : AlY := ((He5.obsA fa fn K, ts.map fun t => He.dicW K (t.1 K)), ex K)
def obsY (n : Nat) (fa : List He.Fa) (fn : List He5.DefA) (ts : List He.Tab) (ex : PySem.W.Frag → Bool) (g : Addr → Option Obj) : AlY := obsK fa fn ts ex (He.frT g (He.asD g n))
def valY (fn : List He5.DefA) (ts : List He.Tab) (w : World) : AlY := ((He5.valA fn, ts.map fun t => some (He.keysIn w.params t.2)), true)
/-- what is told of K -/
structure SaysY (fa : List He.Fa) (fn : List He5.DefA) (ts : List He.Tab) (ex : PySem.W.Frag → Bool) (w : World) (K : PySem.W.Frag) : Prop where
  a : He5.SaysA fa fn K
  tab : (ts.map fun t => He.dicW K (t.1 K)) = ts.map fun t => some (He.keysIn w.params t.2)
  more : ex K = true
theorem saysY_of {fa : List He.Fa} {fn : List He5.DefA} {ts : List He.Tab} {ex : PySem.W.Frag → Bool} {w : World} {K : PySem.W.Frag} (e : obsK fa fn ts ex K = valY fn ts w) : SaysY fa fn ts ex w K :=
  ⟨congrArg (fun z : AlY => z.1.1) e, congrArg (fun z : AlY => z.1.2) e, congrArg (fun z : AlY => z.2) e⟩
def hookY (n : Nat) (fa : List He.Fa) (fn : List He5.DefA) (ts : List He.Tab) (ex : PySem.W.Frag → Bool) : PySem.W.Hook where
  α := AlY
  obs := fun s => obsY n fa fn ts ex s.heap.get?
  val := fun w => valY fn ts w
  says := fun w h => ∃ K : PySem.W.Frag, K.In h ∧ SaysY fa fn ts ex w K
  of := fun _ _ e => ⟨_, He.frT_in, saysY_of e⟩
  keeps := fun _ _ _ ⟨K, hK, c⟩ k => ⟨K, PySem.W.Frag.In.keeps hK k, c⟩
theorem obsY_eq {n : Nat} {fa : List He.Fa} {fn : List He5.DefA} {ts : List He.Tab} {ex : PySem.W.Frag → Bool} {g : Addr → Option Obj} {s : Shared} (h : ∀ a, g a = s.heap.get? a) : obsY n fa fn ts ex g = (hookY n fa fn ts ex).obs s := by
  have e : g = s.heap.get? := funext h
  rw [e] <;> rfl
theorem SaysA_facts {fa : List He.Fa} {fn : List He5.DefA} {K : PySem.W.Frag} (c : He5.SaysA fa fn K) {f : He.Fa} (h : f ∈ fa) : f.ok K = true := by
  obtain ⟨i, hi, e⟩ := List.mem_iff_getElem.mp h
  exact c.fact i (f := f) (by rw [List.getElem?_eq_getElem hi, e])
theorem SaysA_defs {fa : List He.Fa} {fn : List He5.DefA} {K : PySem.W.Frag} (c : He5.SaysA fa fn K) {d : He5.DefA} (h : d ∈ fn) : ∃ fd, FunD K d.name d.qual d.params d.body d.scope (d.dvs K) (d.kws K) (d.at_ K) fd := by
  obtain ⟨i, hi, e⟩ := List.mem_iff_getElem.mp h
  exact c.def_ i (d := d) (by rw [List.getElem?_eq_getElem hi, e])
def Pg.ts (p : Pg) : List He.Tab := p.gd.map fun q => (fun K => He.ga K q.1, q.2.map fun r => txS r.1)
def Pg.glos (p : Pg) : List Str := p.tg.filterMap (fun g => match g.at_ with
  | .glo x => some x
  | _ => none) ++ (p.cls ++ (p.gd.map (·.1) ++ (p.gt.map (·.1) ++ p.xcs)))
def Pg.fa (p : Pg) : List He.Fa := p.gi.map (fun q => .int q.1 q.2) ++ (p.gs.map (fun q => .str q.1 (txS q.2)) ++ (p.free.map .free ++ (p.glos.map .glo ++ (p.cls.map .cls ++ (p.noatL.map (fun q => .noat q.1 q.2) ++ (p.methL.map (fun q => .meth q.1 q.2) ++ p.mkrL.map .mkr))))))
/-- a def's row: its datum, the names of its slots, of its parameters, the small one -/
structure Rw where
  dd : He5.DefA
  N : List Str
  ps : List Str
/-! ### _law_why: what the head tells for it -/
def rowsF : List (List Str × Str) := [([("InvalidGood" : Str), ("InvalidWord" : Str), ("InvalidState" : Str), ("InvalidCount" : Str), ("InvalidSize" : Str), ("InvalidLimit" : Str)], ("given" : Str)), ([("TooManyStates" : Str), ("TooLarge" : Str)], ("most" : Str)), ([("InvalidRow" : Str), ("NotTold" : Str)], ("state" : Str)),
  ([("InvalidName" : Str), ("DuplicateName" : Str), ("UnknownName" : Str)], ("name" : Str)), ([("CapacityExceeded" : Str)], ("limit" : Str)), ([("InvalidCommand" : Str)], ("word" : Str)), ([("ParseError" : Str)], ("index" : Str))]
def whyXB (p : Pg) (K : PySem.W.Frag) : Bool := p.xinL.all fun q => decide (PySem.W.findIn K (.ref (He.ga K q.1)) "tag" = some none) && ((match q.2.2 with
  | none => true
  | some f => decide (f ≠ ("tag" : Str)) && decide (PySem.W.findIn K (.ref (He.ga K q.1)) f = some none)) &&
  ((decide (PySem.W.exmAny K (.ref (He.ga K q.1)) [.ref (He.ga K "KeptError"), .ref (He.ga K "Missing")] = some true) && decide (fieldOf rowsF ⟨q.2.1.toArray⟩ = q.2.2)) ||
    (decide (PySem.W.exmAny K (.ref (He.ga K q.1)) [.ref (He.ga K "KeptError"), .ref (He.ga K "Missing")] = some false) && (decide (PySem.W.exmOne K (.ref (He.ga K q.1)) (.ref (He.ga K "NothingLeft")) = some true) && decide (q.2.2 = none)))))
def Pg.exZ (p : Pg) (K : PySem.W.Frag) : Bool := p.ex K && whyXB p K
/-- what is told, with the tables of code objects -/
structure SaysZ (fa : List He.Fa) (fn : List He5.DefA) (ts : List He.Tab) (tf : List He.Defn) (ex : PySem.W.Frag → Bool) (w : World) (h : Heap) (K : PySem.W.Frag) : Prop where
  y : SaysY fa fn ts ex w K
  hd : ∀ p ∈ tf, PySem.W.codeHdIn K (He.cT K p).1 (He.cT K p).2 = true
  out : ∀ p ∈ tf, K.lookup (He.cT K p).2 = none
  empty : ∀ p ∈ tf, h.get? (He.cT K p).2 = some { cls := .none, data := .fields #[] }
def obsZ (n : Nat) (fa : List He.Fa) (fn : List He5.DefA) (ts : List He.Tab) (tf : List He.Defn) (ex : PySem.W.Frag → Bool) (g : Addr → Option Obj) : AlY := ((He5.obsA fa fn (He.frT g (He.asD g n)), ts.map fun t => He.dicW (He.frT g (He.asD g n)) (t.1 (He.frT g (He.asD g n)))), ex (He.frT g (He.asD g n)) && He.tabsB g tf (He.frT g (He.asD g n)))
theorem saysZ_of {n : Nat} {fa : List He.Fa} {fn : List He5.DefA} {ts : List He.Tab} {tf : List He.Defn} {ex : PySem.W.Frag → Bool} {w : World} {h : Heap} (e : obsZ n fa fn ts tf ex h.get? = valY fn ts w) : SaysZ fa fn ts tf ex w h (He.frT h.get? (He.asD h.get? n)) := by
  have e2 : (ex (He.frT h.get? (He.asD h.get? n)) && He.tabsB h.get? tf (He.frT h.get? (He.asD h.get? n))) = true := congrArg (fun z : AlY => z.2) e
  rw [Bool.and_eq_true] at e2
  obtain ⟨h1, h2⟩ := e2
  have key : ∀ p ∈ tf, PySem.W.codeHdIn (He.frT h.get? (He.asD h.get? n)) (He.cT (He.frT h.get? (He.asD h.get? n)) p).1 (He.cT (He.frT h.get? (He.asD h.get? n)) p).2 = true ∧ ∃ o, h.get? (He.cT (He.frT h.get? (He.asD h.get? n)) p).2 = some o ∧ He.emptyTab o = true := fun p hp => by
    have z := List.all_eq_true.mp h2 p hp
    rw [Bool.and_eq_true] at z
    refine ⟨z.1, ?_⟩
    have h4 := z.2
    cases q : h.get? (He.cT (He.frT h.get? (He.asD h.get? n)) p).2 with
    | none => rw [q] at h4; cases h4
    | some o => rw [q] at h4; exact ⟨o, rfl, h4⟩
  exact ⟨⟨congrArg (fun z : AlY => z.1.1) e, congrArg (fun z : AlY => z.1.2) e, h1⟩, fun p hp => (key p hp).1, fun p hp => by
    obtain ⟨_, o, q, z⟩ := key p hp
    exact He.frT_none q z, fun p hp => by
    obtain ⟨_, o, q, z⟩ := key p hp
    rw [q, He.emptyTab_eq z]⟩
def hookZ (n : Nat) (fa : List He.Fa) (fn : List He5.DefA) (ts : List He.Tab) (tf : List He.Defn) (ex : PySem.W.Frag → Bool) : PySem.W.Hook where
  α := AlY
  obs := fun s => obsZ n fa fn ts tf ex s.heap.get?
  val := fun w => valY fn ts w
  says := fun w h => ∃ K : PySem.W.Frag, K.In h ∧ SaysZ fa fn ts tf ex w h K
  of := fun _ _ e => ⟨_, He.frT_in, saysZ_of e⟩
  keeps := fun _ _ _ ⟨K, hK, c⟩ k => ⟨K, PySem.W.Frag.In.keeps hK k, ⟨c.y, c.hd, c.out, fun p hp => k _ _ (c.empty p hp)⟩⟩
theorem obsZ_eq {n : Nat} {fa : List He.Fa} {fn : List He5.DefA} {ts : List He.Tab} {tf : List He.Defn} {ex : PySem.W.Frag → Bool} {g : Addr → Option Obj} {s : Shared} (h : ∀ a, g a = s.heap.get? a) : obsZ n fa fn ts tf ex g = (hookZ n fa fn ts tf ex).obs s := by
  have e : g = s.heap.get? := funext h
  rw [e] <;> rfl
end Dx

set_option maxRecDepth 100000
set_option maxHeartbeats 0
namespace Q
open PySem PySem.Spec PyProof.Rows L2 Dx
def top (i : Nat) : Stmt := PySem.Challenge.pw_lastkept_k04_words_read.main.body.getD i (.Pass ⟨0, 0, 0, 0⟩)
@[simp] abbrev n_law_hand : Nat := 0
@[simp] abbrev n_law_signs : Nat := 1
@[simp] abbrev n_law_pick : Nat := 2
@[simp] abbrev n_law_drawn : Nat := 3
@[simp] abbrev n_law_made : Nat := 4
@[simp] abbrev n_law_word : Nat := 5
@[simp] abbrev n_law_same : Nat := 6
@[simp] abbrev n_law_led : Nat := 7
@[simp] abbrev n_law_has : Nat := 8
@[simp] abbrev n_law_of : Nat := 9
@[simp] abbrev n_Machine_behind : Nat := 10
@[simp] abbrev n_Machine_behind_2 : Nat := 11
@[simp] abbrev n_Machine_behind_1_word_state : Nat := 12
@[simp] abbrev n_Machine_len : Nat := 13
@[simp] abbrev n_Machine_contains : Nat := 14
@[simp] abbrev n_Machine_eq : Nat := 15
@[simp] abbrev n_Machine_init : Nat := 16
@[simp] abbrev n_is_word : Nat := 17
@[simp] abbrev n_led_by : Nat := 18
@[simp] abbrev n_check_alphabet : Nat := 19
@[simp] abbrev n_check_rows : Nat := 20
@[simp] abbrev n_check_good : Nat := 21
@[simp] abbrev n_is_alphabet : Nat := 22
@[simp] abbrev n_is_list : Nat := 23
@[simp] abbrev n_is_from : Nat := 24
@[simp] abbrev n_is_number : Nat := 25
@[simp] abbrev n_Machine_check_state : Nat := 26
@[simp] abbrev n_Machine_check_word : Nat := 27
@[simp] abbrev n_Machine_led : Nat := 28
@[simp] abbrev n_Machine_step : Nat := 29
@[simp] abbrev K_Machine : Nat := 0
@[simp] abbrev F_table : Nat := 0
@[simp] abbrev F_signs : Nat := 1
@[simp] abbrev F_ends : Nat := 2
@[simp] abbrev F_whole : Nat := 3
@[simp] abbrev M_behind : Nat := 0
@[simp] abbrev M_behind_1 : Nat := 1
@[simp] abbrev M_behind_0_word_state : Nat := 2
@[simp] abbrev M_check_state : Nat := 3
@[simp] abbrev M_check_word : Nat := 4
@[simp] abbrev M_led : Nat := 5
@[simp] abbrev M_step : Nat := 6
@[simp] abbrev MK_Machine : Nat := 0
@[simp] abbrev X_InvalidAlphabet : Nat := 0
@[simp] abbrev X_TooManyStates : Nat := 1
@[simp] abbrev X_InvalidRow : Nat := 2
@[simp] abbrev X_InvalidGood : Nat := 3
@[simp] abbrev X_InvalidState : Nat := 4
@[simp] abbrev X_InvalidWord : Nat := 5
@[simp] abbrev X_KeptError : Nat := 6
@[simp] abbrev X_Missing : Nat := 7
@[simp] abbrev X_NothingLeft : Nat := 8
def pg : Dx.Pg := { gi := [(("MOST_STATES" : PySem.Str), 24), (("MOST_LETTERS" : PySem.Str), 3)], gs := [(("SMALL" : PySem.Str), [97, 98, 99, 100, 101, 102, 103, 104, 105, 106, 107, 108, 109, 110, 111, 112, 113, 114, 115, 116, 117, 118, 119, 120, 121, 122])], free := [("range" : PySem.Str), ("len" : PySem.Str), ("int" : PySem.Str), ("sorted" : PySem.Str), ("tuple" : PySem.Str), ("isinstance" : PySem.Str), ("bool" : PySem.Str), ("str" : PySem.Str), ("list" : PySem.Str), ("all" : PySem.Str), ("zip" : PySem.Str), ("enumerate" : PySem.Str), ("set" : PySem.Str)], tg := [⟨.glo ("_law_hand" : PySem.Str), 1, []⟩, ⟨.glo ("_law_signs" : PySem.Str), 2, []⟩, ⟨.glo ("_law_pick" : PySem.Str), 2, []⟩, ⟨.glo ("_law_drawn" : PySem.Str), 3, []⟩, ⟨.glo ("_law_made" : PySem.Str), 1, []⟩, ⟨.glo ("_law_word" : PySem.Str), 3, []⟩, ⟨.glo ("_law_same" : PySem.Str), 2, []⟩, ⟨.glo ("_law_led" : PySem.Str), 3, []⟩, ⟨.glo ("_law_has" : PySem.Str), 2, []⟩, ⟨.glo ("_law_of" : PySem.Str), 2, []⟩, ⟨.meth ("Machine" : PySem.Str) ("behind" : PySem.Str), 2, [("state" : PySem.Str)]⟩, ⟨.meth ("Machine" : PySem.Str) ("behind" : PySem.Str), 2, []⟩, ⟨.meth ("Machine" : PySem.Str) ("behind" : PySem.Str), 1, [("word" : PySem.Str), ("state" : PySem.Str)]⟩, ⟨.meth ("Machine" : PySem.Str) ("__len__" : PySem.Str), 1, []⟩, ⟨.meth ("Machine" : PySem.Str) ("__contains__" : PySem.Str), 2, []⟩, ⟨.meth ("Machine" : PySem.Str) ("__eq__" : PySem.Str), 2, []⟩, ⟨.meth ("Machine" : PySem.Str) ("__init__" : PySem.Str), 4, []⟩, ⟨.glo ("is_word" : PySem.Str), 2, []⟩, ⟨.glo ("led_by" : PySem.Str), 3, []⟩, ⟨.glo ("check_alphabet" : PySem.Str), 1, []⟩, ⟨.glo ("check_rows" : PySem.Str), 2, []⟩, ⟨.glo ("check_good" : PySem.Str), 2, []⟩, ⟨.glo ("is_alphabet" : PySem.Str), 1, []⟩, ⟨.glo ("is_list" : PySem.Str), 1, []⟩, ⟨.glo ("is_from" : PySem.Str), 3, []⟩, ⟨.glo ("is_number" : PySem.Str), 1, []⟩, ⟨.meth ("Machine" : PySem.Str) ("check_state" : PySem.Str), 2, []⟩, ⟨.meth ("Machine" : PySem.Str) ("check_word" : PySem.Str), 2, []⟩, ⟨.meth ("Machine" : PySem.Str) ("led" : PySem.Str), 3, []⟩, ⟨.meth ("Machine" : PySem.Str) ("step" : PySem.Str), 3, []⟩], cls := [("Machine" : PySem.Str)], fld := [("table" : PySem.Str), ("signs" : PySem.Str), ("ends" : PySem.Str), ("whole" : PySem.Str)], mf := [(("behind" : PySem.Str), 1, [("state" : PySem.Str)]), (("behind" : PySem.Str), 1, []), (("behind" : PySem.Str), 0, [("word" : PySem.Str), ("state" : PySem.Str)]), (("check_state" : PySem.Str), 1, []), (("check_word" : PySem.Str), 1, []), (("led" : PySem.Str), 2, []), (("step" : PySem.Str), 2, [])], mkf := [(("Machine" : PySem.Str), 3, [])], noatL := [(("Machine" : PySem.Str), ("table" : PySem.Str)), (("Machine" : PySem.Str), ("signs" : PySem.Str)), (("Machine" : PySem.Str), ("ends" : PySem.Str)), (("Machine" : PySem.Str), ("whole" : PySem.Str))], methL := [(("Machine" : PySem.Str), ("behind" : PySem.Str)), (("Machine" : PySem.Str), ("check_state" : PySem.Str)), (("Machine" : PySem.Str), ("check_word" : PySem.Str)), (("Machine" : PySem.Str), ("led" : PySem.Str)), (("Machine" : PySem.Str), ("step" : PySem.Str)), (("Machine" : PySem.Str), ("__len__" : PySem.Str)), (("Machine" : PySem.Str), ("__contains__" : PySem.Str)), (("Machine" : PySem.Str), ("__eq__" : PySem.Str)), (("InvalidAlphabet" : PySem.Str), ("__init__" : PySem.Str)), (("TooManyStates" : PySem.Str), ("__init__" : PySem.Str)), (("InvalidRow" : PySem.Str), ("__init__" : PySem.Str)), (("InvalidGood" : PySem.Str), ("__init__" : PySem.Str)), (("InvalidState" : PySem.Str), ("__init__" : PySem.Str)), (("InvalidWord" : PySem.Str), ("__init__" : PySem.Str))], pf := [], propL := [], mkrL := [("Machine" : PySem.Str)], subL := [], gd := [], gt := [], xcs := [("InvalidAlphabet" : PySem.Str), ("TooManyStates" : PySem.Str), ("InvalidRow" : PySem.Str), ("InvalidGood" : PySem.Str), ("InvalidState" : PySem.Str), ("InvalidWord" : PySem.Str), ("KeptError" : PySem.Str), ("Missing" : PySem.Str), ("NothingLeft" : PySem.Str)], xnoL := [], xmkf := [], xsubL := [(0, .own 0), (0, .own 6), (0, .ty "ValueError"), (1, .own 1), (1, .own 6), (1, .ty "ValueError"), (2, .own 2), (2, .own 6), (2, .ty "ValueError"), (3, .own 3), (3, .own 6), (3, .ty "ValueError"), (4, .own 4), (4, .own 6), (4, .ty "ValueError"), (5, .own 5), (5, .own 6), (5, .ty "ValueError"), (6, .own 6), (6, .ty "ValueError"), (7, .own 7), (7, .ty "LookupError"), (8, .own 8), (8, .ty "LookupError"), (8, .ty "IndexError")], xinL := [(("InvalidAlphabet" : PySem.Str), [73, 110, 118, 97, 108, 105, 100, 65, 108, 112, 104, 97, 98, 101, 116], none), (("TooManyStates" : PySem.Str), [84, 111, 111, 77, 97, 110, 121, 83, 116, 97, 116, 101, 115], some ("most" : PySem.Str)), (("InvalidRow" : PySem.Str), [73, 110, 118, 97, 108, 105, 100, 82, 111, 119], some ("state" : PySem.Str)), (("InvalidGood" : PySem.Str), [73, 110, 118, 97, 108, 105, 100, 71, 111, 111, 100], some ("given" : PySem.Str)), (("InvalidState" : PySem.Str), [73, 110, 118, 97, 108, 105, 100, 83, 116, 97, 116, 101], some ("given" : PySem.Str)), (("InvalidWord" : PySem.Str), [73, 110, 118, 97, 108, 105, 100, 87, 111, 114, 100], some ("given" : PySem.Str))] }
abbrev s_law : Stmt := top 49
def r_law : Rw := ⟨⟨fun K => He.ga K ("law" : PySem.Str), ("law" : PySem.Str), ("law" : PySem.Str), defArgs s_law, defBody s_law, defScope s_law, [], []⟩, [("_law_script" : PySem.Str), ("_law_hand_here" : PySem.Str), ("_law_signs_here" : PySem.Str), ("_law_model" : PySem.Str), ("_law_made_here" : PySem.Str), ("_law_strange" : PySem.Str), ("_law_sign" : PySem.Str), ("_law_turn" : PySem.Str), ("_law_token" : PySem.Str), ("_law_mode" : PySem.Str), ("_law_told" : PySem.Str), ("_law_at" : PySem.Str), ("_law_bent" : PySem.Str), ("_law_odd" : PySem.Str)], [("_law_script" : PySem.Str)]⟩
abbrev s_law_hand : Stmt := top 37
def r_law_hand : Rw := ⟨⟨fun K => He.ga K ("_law_hand" : PySem.Str), ("_law_hand" : PySem.Str), ("_law_hand" : PySem.Str), defArgs s_law_hand, defBody s_law_hand, defScope s_law_hand, [], []⟩, [("_law_script" : PySem.Str), ("_law_cells" : PySem.Str), ("_law_cell" : PySem.Str), ("_law_mark" : PySem.Str)], [("_law_script" : PySem.Str)]⟩
abbrev s_law_signs : Stmt := top 43
def r_law_signs : Rw := ⟨⟨fun K => He.ga K ("_law_signs" : PySem.Str), ("_law_signs" : PySem.Str), ("_law_signs" : PySem.Str), defArgs s_law_signs, defBody s_law_signs, defScope s_law_signs, [], []⟩, [("_law_hand_here" : PySem.Str), ("_law_many" : PySem.Str), ("_law_letters" : PySem.Str), ("_law_first" : PySem.Str), ("_law_apart" : PySem.Str), ("_law_k" : PySem.Str)], [("_law_hand_here" : PySem.Str), ("_law_many" : PySem.Str)]⟩
abbrev s_law_pick : Stmt := top 38
def r_law_pick : Rw := ⟨⟨fun K => He.ga K ("_law_pick" : PySem.Str), ("_law_pick" : PySem.Str), ("_law_pick" : PySem.Str), defArgs s_law_pick, defBody s_law_pick, defScope s_law_pick, [], []⟩, [("_law_hand_here" : PySem.Str), ("_law_many" : PySem.Str), ("_law_cell" : PySem.Str), ("_law_one" : PySem.Str), ("_law_two" : PySem.Str), ("_law_drawn_here" : PySem.Str)], [("_law_hand_here" : PySem.Str), ("_law_many" : PySem.Str)]⟩
abbrev s_law_drawn : Stmt := top 45
def r_law_drawn : Rw := ⟨⟨fun K => He.ga K ("_law_drawn" : PySem.Str), ("_law_drawn" : PySem.Str), ("_law_drawn" : PySem.Str), defArgs s_law_drawn, defBody s_law_drawn, defScope s_law_drawn, [], []⟩, [("_law_hand_here" : PySem.Str), ("_law_signs_here" : PySem.Str), ("_law_most" : PySem.Str), ("_law_many" : PySem.Str), ("_law_lines" : PySem.Str), ("_law_sign" : PySem.Str), ("_law_k" : PySem.Str)], [("_law_hand_here" : PySem.Str), ("_law_signs_here" : PySem.Str), ("_law_most" : PySem.Str)]⟩
abbrev s_law_made : Stmt := top 46
def r_law_made : Rw := ⟨⟨fun K => He.ga K ("_law_made" : PySem.Str), ("_law_made" : PySem.Str), ("_law_made" : PySem.Str), defArgs s_law_made, defBody s_law_made, defScope s_law_made, [], []⟩, [("_law_model" : PySem.Str)], [("_law_model" : PySem.Str)]⟩
abbrev s_law_word : Stmt := top 44
def r_law_word : Rw := ⟨⟨fun K => He.ga K ("_law_word" : PySem.Str), ("_law_word" : PySem.Str), ("_law_word" : PySem.Str), defArgs s_law_word, defBody s_law_word, defScope s_law_word, [], []⟩, [("_law_hand_here" : PySem.Str), ("_law_signs_here" : PySem.Str), ("_law_most" : PySem.Str), ("_law_k" : PySem.Str)], [("_law_hand_here" : PySem.Str), ("_law_signs_here" : PySem.Str), ("_law_most" : PySem.Str)]⟩
abbrev s_law_same : Stmt := top 40
def r_law_same : Rw := ⟨⟨fun K => He.ga K ("_law_same" : PySem.Str), ("_law_same" : PySem.Str), ("_law_same" : PySem.Str), defArgs s_law_same, defBody s_law_same, defScope s_law_same, [], []⟩, [("_law_found" : PySem.Str), ("_law_due" : PySem.Str), ("_law_one" : PySem.Str), ("_law_two" : PySem.Str)], [("_law_found" : PySem.Str), ("_law_due" : PySem.Str)]⟩
abbrev s_law_led : Stmt := top 47
def r_law_led : Rw := ⟨⟨fun K => He.ga K ("_law_led" : PySem.Str), ("_law_led" : PySem.Str), ("_law_led" : PySem.Str), defArgs s_law_led, defBody s_law_led, defScope s_law_led, [], []⟩, [("_law_model" : PySem.Str), ("_law_mode" : PySem.Str), ("_law_token" : PySem.Str), ("_law_here" : PySem.Str), ("_law_letter" : PySem.Str)], [("_law_model" : PySem.Str), ("_law_mode" : PySem.Str), ("_law_token" : PySem.Str)]⟩
abbrev s_law_has : Stmt := top 48
def r_law_has : Rw := ⟨⟨fun K => He.ga K ("_law_has" : PySem.Str), ("_law_has" : PySem.Str), ("_law_has" : PySem.Str), defArgs s_law_has, defBody s_law_has, defScope s_law_has, [], []⟩, [("_law_model" : PySem.Str), ("_law_token" : PySem.Str)], [("_law_model" : PySem.Str), ("_law_token" : PySem.Str)]⟩
abbrev s_law_of : Stmt := top 39
def r_law_of : Rw := ⟨⟨fun K => He.ga K ("_law_of" : PySem.Str), ("_law_of" : PySem.Str), ("_law_of" : PySem.Str), defArgs s_law_of, defBody s_law_of, defScope s_law_of, [], []⟩, [("_law_hand_here" : PySem.Str), ("_law_items" : PySem.Str)], [("_law_hand_here" : PySem.Str), ("_law_items" : PySem.Str)]⟩
abbrev s_Machine_behind : Stmt := inClass (top 28) 12
def r_Machine_behind : Rw := ⟨⟨fun K => AtP.ad K (.meth ("Machine" : PySem.Str) ("behind" : PySem.Str)), ("behind" : PySem.Str), ("Machine.behind" : PySem.Str), defArgs s_Machine_behind, defBody s_Machine_behind, defScope s_Machine_behind, [], [(("state" : PySem.Str), .int 0)]⟩, [("self" : PySem.Str), ("word" : PySem.Str), ("state" : PySem.Str)], [("self" : PySem.Str), ("word" : PySem.Str), ("state" : PySem.Str)]⟩
abbrev s_Machine_len : Stmt := inClass (top 28) 17
def r_Machine_len : Rw := ⟨⟨fun K => AtP.ad K (.meth ("Machine" : PySem.Str) ("__len__" : PySem.Str)), ("__len__" : PySem.Str), ("Machine.__len__" : PySem.Str), defArgs s_Machine_len, defBody s_Machine_len, defScope s_Machine_len, [], []⟩, [("self" : PySem.Str)], [("self" : PySem.Str)]⟩
abbrev s_Machine_contains : Stmt := inClass (top 28) 15
def r_Machine_contains : Rw := ⟨⟨fun K => AtP.ad K (.meth ("Machine" : PySem.Str) ("__contains__" : PySem.Str)), ("__contains__" : PySem.Str), ("Machine.__contains__" : PySem.Str), defArgs s_Machine_contains, defBody s_Machine_contains, defScope s_Machine_contains, [], []⟩, [("self" : PySem.Str), ("word" : PySem.Str)], [("self" : PySem.Str), ("word" : PySem.Str)]⟩
abbrev s_Machine_eq : Stmt := inClass (top 28) 16
def r_Machine_eq : Rw := ⟨⟨fun K => AtP.ad K (.meth ("Machine" : PySem.Str) ("__eq__" : PySem.Str)), ("__eq__" : PySem.Str), ("Machine.__eq__" : PySem.Str), defArgs s_Machine_eq, defBody s_Machine_eq, defScope s_Machine_eq, [], []⟩, [("self" : PySem.Str), ("other" : PySem.Str)], [("self" : PySem.Str), ("other" : PySem.Str)]⟩
abbrev s_Machine_init : Stmt := inClass (top 28) 1
def r_Machine_init : Rw := ⟨⟨fun K => AtP.ad K (.meth ("Machine" : PySem.Str) ("__init__" : PySem.Str)), ("__init__" : PySem.Str), ("Machine.__init__" : PySem.Str), defArgs s_Machine_init, defBody s_Machine_init, defScope s_Machine_init, [], []⟩, [("self" : PySem.Str), ("alphabet" : PySem.Str), ("rows" : PySem.Str), ("good" : PySem.Str), ("row" : PySem.Str)], [("self" : PySem.Str), ("alphabet" : PySem.Str), ("rows" : PySem.Str), ("good" : PySem.Str)]⟩
abbrev s_is_word : Stmt := top 24
def r_is_word : Rw := ⟨⟨fun K => He.ga K ("is_word" : PySem.Str), ("is_word" : PySem.Str), ("is_word" : PySem.Str), defArgs s_is_word, defBody s_is_word, defScope s_is_word, [], []⟩, [("alphabet" : PySem.Str), ("value" : PySem.Str), ("sign" : PySem.Str)], [("alphabet" : PySem.Str), ("value" : PySem.Str)]⟩
abbrev s_led_by : Stmt := top 29
def r_led_by : Rw := ⟨⟨fun K => He.ga K ("led_by" : PySem.Str), ("led_by" : PySem.Str), ("led_by" : PySem.Str), defArgs s_led_by, defBody s_led_by, defScope s_led_by, [], []⟩, [("table" : PySem.Str), ("signs" : PySem.Str), ("word" : PySem.Str), ("here" : PySem.Str), ("letter" : PySem.Str)], [("table" : PySem.Str), ("signs" : PySem.Str), ("word" : PySem.Str)]⟩
abbrev s_check_alphabet : Stmt := top 25
def r_check_alphabet : Rw := ⟨⟨fun K => He.ga K ("check_alphabet" : PySem.Str), ("check_alphabet" : PySem.Str), ("check_alphabet" : PySem.Str), defArgs s_check_alphabet, defBody s_check_alphabet, defScope s_check_alphabet, [], []⟩, [("alphabet" : PySem.Str)], [("alphabet" : PySem.Str)]⟩
abbrev s_check_rows : Stmt := top 26
def r_check_rows : Rw := ⟨⟨fun K => He.ga K ("check_rows" : PySem.Str), ("check_rows" : PySem.Str), ("check_rows" : PySem.Str), defArgs s_check_rows, defBody s_check_rows, defScope s_check_rows, [], []⟩, [("rows" : PySem.Str), ("letters" : PySem.Str), ("many" : PySem.Str), ("state" : PySem.Str), ("row" : PySem.Str), ("goal" : PySem.Str)], [("rows" : PySem.Str), ("letters" : PySem.Str)]⟩
abbrev s_check_good : Stmt := top 27
def r_check_good : Rw := ⟨⟨fun K => He.ga K ("check_good" : PySem.Str), ("check_good" : PySem.Str), ("check_good" : PySem.Str), defArgs s_check_good, defBody s_check_good, defScope s_check_good, [], []⟩, [("good" : PySem.Str), ("many" : PySem.Str), ("seen" : PySem.Str), ("state" : PySem.Str)], [("good" : PySem.Str), ("many" : PySem.Str)]⟩
abbrev s_is_alphabet : Stmt := top 23
def r_is_alphabet : Rw := ⟨⟨fun K => He.ga K ("is_alphabet" : PySem.Str), ("is_alphabet" : PySem.Str), ("is_alphabet" : PySem.Str), defArgs s_is_alphabet, defBody s_is_alphabet, defScope s_is_alphabet, [], []⟩, [("value" : PySem.Str), ("sign" : PySem.Str)], [("value" : PySem.Str)]⟩
abbrev s_is_list : Stmt := top 17
def r_is_list : Rw := ⟨⟨fun K => He.ga K ("is_list" : PySem.Str), ("is_list" : PySem.Str), ("is_list" : PySem.Str), defArgs s_is_list, defBody s_is_list, defScope s_is_list, [], []⟩, [("value" : PySem.Str)], [("value" : PySem.Str)]⟩
abbrev s_is_from : Stmt := top 16
def r_is_from : Rw := ⟨⟨fun K => He.ga K ("is_from" : PySem.Str), ("is_from" : PySem.Str), ("is_from" : PySem.Str), defArgs s_is_from, defBody s_is_from, defScope s_is_from, [], []⟩, [("value" : PySem.Str), ("least" : PySem.Str), ("most" : PySem.Str)], [("value" : PySem.Str), ("least" : PySem.Str), ("most" : PySem.Str)]⟩
abbrev s_is_number : Stmt := top 15
def r_is_number : Rw := ⟨⟨fun K => He.ga K ("is_number" : PySem.Str), ("is_number" : PySem.Str), ("is_number" : PySem.Str), defArgs s_is_number, defBody s_is_number, defScope s_is_number, [], []⟩, [("value" : PySem.Str)], [("value" : PySem.Str)]⟩
abbrev s_Machine_check_state : Stmt := inClass (top 28) 6
def r_Machine_check_state : Rw := ⟨⟨fun K => AtP.ad K (.meth ("Machine" : PySem.Str) ("check_state" : PySem.Str)), ("check_state" : PySem.Str), ("Machine.check_state" : PySem.Str), defArgs s_Machine_check_state, defBody s_Machine_check_state, defScope s_Machine_check_state, [], []⟩, [("self" : PySem.Str), ("state" : PySem.Str)], [("self" : PySem.Str), ("state" : PySem.Str)]⟩
abbrev s_Machine_check_word : Stmt := inClass (top 28) 7
def r_Machine_check_word : Rw := ⟨⟨fun K => AtP.ad K (.meth ("Machine" : PySem.Str) ("check_word" : PySem.Str)), ("check_word" : PySem.Str), ("Machine.check_word" : PySem.Str), defArgs s_Machine_check_word, defBody s_Machine_check_word, defScope s_Machine_check_word, [], []⟩, [("self" : PySem.Str), ("word" : PySem.Str)], [("self" : PySem.Str), ("word" : PySem.Str)]⟩
abbrev s_Machine_led : Stmt := inClass (top 28) 10
def r_Machine_led : Rw := ⟨⟨fun K => AtP.ad K (.meth ("Machine" : PySem.Str) ("led" : PySem.Str)), ("led" : PySem.Str), ("Machine.led" : PySem.Str), defArgs s_Machine_led, defBody s_Machine_led, defScope s_Machine_led, [], []⟩, [("self" : PySem.Str), ("state" : PySem.Str), ("word" : PySem.Str), ("here" : PySem.Str), ("letter" : PySem.Str)], [("self" : PySem.Str), ("state" : PySem.Str), ("word" : PySem.Str)]⟩
abbrev s_Machine_step : Stmt := inClass (top 28) 9
def r_Machine_step : Rw := ⟨⟨fun K => AtP.ad K (.meth ("Machine" : PySem.Str) ("step" : PySem.Str)), ("step" : PySem.Str), ("Machine.step" : PySem.Str), defArgs s_Machine_step, defBody s_Machine_step, defScope s_Machine_step, [], []⟩, [("self" : PySem.Str), ("state" : PySem.Str), ("letter" : PySem.Str)], [("self" : PySem.Str), ("state" : PySem.Str), ("letter" : PySem.Str)]⟩
abbrev s_x_InvalidAlphabet : Stmt := inClass (top 3) 0
def r_x_InvalidAlphabet : Rw := ⟨⟨fun K => AtP.ad K (.meth ("InvalidAlphabet" : PySem.Str) ("__init__" : PySem.Str)), ("__init__" : PySem.Str), ("InvalidAlphabet.__init__" : PySem.Str), defArgs s_x_InvalidAlphabet, defBody s_x_InvalidAlphabet, defScope s_x_InvalidAlphabet, [], []⟩, [("self" : PySem.Str)], [("self" : PySem.Str)]⟩
abbrev s_x_TooManyStates : Stmt := inClass (top 9) 0
def r_x_TooManyStates : Rw := ⟨⟨fun K => AtP.ad K (.meth ("TooManyStates" : PySem.Str) ("__init__" : PySem.Str)), ("__init__" : PySem.Str), ("TooManyStates.__init__" : PySem.Str), defArgs s_x_TooManyStates, defBody s_x_TooManyStates, defScope s_x_TooManyStates, [], []⟩, [("self" : PySem.Str), ("most" : PySem.Str)], [("self" : PySem.Str), ("most" : PySem.Str)]⟩
abbrev s_x_InvalidRow : Stmt := inClass (top 4) 0
def r_x_InvalidRow : Rw := ⟨⟨fun K => AtP.ad K (.meth ("InvalidRow" : PySem.Str) ("__init__" : PySem.Str)), ("__init__" : PySem.Str), ("InvalidRow.__init__" : PySem.Str), defArgs s_x_InvalidRow, defBody s_x_InvalidRow, defScope s_x_InvalidRow, [], []⟩, [("self" : PySem.Str), ("state" : PySem.Str)], [("self" : PySem.Str), ("state" : PySem.Str)]⟩
abbrev s_x_InvalidGood : Stmt := inClass (top 5) 0
def r_x_InvalidGood : Rw := ⟨⟨fun K => AtP.ad K (.meth ("InvalidGood" : PySem.Str) ("__init__" : PySem.Str)), ("__init__" : PySem.Str), ("InvalidGood.__init__" : PySem.Str), defArgs s_x_InvalidGood, defBody s_x_InvalidGood, defScope s_x_InvalidGood, [], []⟩, [("self" : PySem.Str), ("given" : PySem.Str)], [("self" : PySem.Str), ("given" : PySem.Str)]⟩
abbrev s_x_InvalidState : Stmt := inClass (top 7) 0
def r_x_InvalidState : Rw := ⟨⟨fun K => AtP.ad K (.meth ("InvalidState" : PySem.Str) ("__init__" : PySem.Str)), ("__init__" : PySem.Str), ("InvalidState.__init__" : PySem.Str), defArgs s_x_InvalidState, defBody s_x_InvalidState, defScope s_x_InvalidState, [], []⟩, [("self" : PySem.Str), ("given" : PySem.Str)], [("self" : PySem.Str), ("given" : PySem.Str)]⟩
abbrev s_x_InvalidWord : Stmt := inClass (top 6) 0
def r_x_InvalidWord : Rw := ⟨⟨fun K => AtP.ad K (.meth ("InvalidWord" : PySem.Str) ("__init__" : PySem.Str)), ("__init__" : PySem.Str), ("InvalidWord.__init__" : PySem.Str), defArgs s_x_InvalidWord, defBody s_x_InvalidWord, defScope s_x_InvalidWord, [], []⟩, [("self" : PySem.Str), ("given" : PySem.Str)], [("self" : PySem.Str), ("given" : PySem.Str)]⟩
abbrev s_x_law_field : Stmt := top 41
def r_x_law_field : Rw := ⟨⟨fun K => He.ga K ("_law_field" : PySem.Str), ("_law_field" : PySem.Str), ("_law_field" : PySem.Str), defArgs s_x_law_field, defBody s_x_law_field, defScope s_x_law_field, [], []⟩, [("_law_e" : PySem.Str)], [("_law_e" : PySem.Str)]⟩
abbrev s_x_law_why : Stmt := top 42
def r_x_law_why : Rw := ⟨⟨fun K => He.ga K ("_law_why" : PySem.Str), ("_law_why" : PySem.Str), ("_law_why" : PySem.Str), defArgs s_x_law_why, defBody s_x_law_why, defScope s_x_law_why, [], []⟩, [("_law_ask" : PySem.Str)], [("_law_ask" : PySem.Str)]⟩
def fn : List He5.DefA := [r_law.dd, r_law_hand.dd, r_law_signs.dd, r_law_pick.dd, r_law_drawn.dd, r_law_made.dd, r_law_word.dd, r_law_same.dd, r_law_led.dd, r_law_has.dd, r_law_of.dd, r_Machine_behind.dd, r_Machine_len.dd, r_Machine_contains.dd, r_Machine_eq.dd, r_Machine_init.dd, r_is_word.dd, r_led_by.dd, r_check_alphabet.dd, r_check_rows.dd, r_check_good.dd, r_is_alphabet.dd, r_is_list.dd, r_is_from.dd, r_is_number.dd, r_Machine_check_state.dd, r_Machine_check_word.dd, r_Machine_led.dd, r_Machine_step.dd, r_x_InvalidAlphabet.dd, r_x_TooManyStates.dd, r_x_InvalidRow.dd, r_x_InvalidGood.dd, r_x_InvalidState.dd, r_x_InvalidWord.dd, r_x_law_field.dd, r_x_law_why.dd]
def ex : List He.Fa := [.glo "law", .glo "_law_why", .glo "_law_field"]
abbrev R : PySem.W.OpenRow := PySem.W.OpenLaw.row PySem.Challenge.rw_lastkept_k04_words_read
abbrev hk : PySem.W.Hook := hookZ 8 (pg.fa ++ ex) fn pg.ts [("law", none)] pg.exZ
def ob (s : PySem.W.SharedT) : AlY := obsZ 8 (pg.fa ++ ex) fn pg.ts [("law", none)] pg.exZ (HandSHeadRun.getT s)
theorem ob_eq (s : PySem.W.SharedT) : ob s = hk.obs s.abs := obsZ_eq (HandSHeadRun.getT_eq s)
def loose : List PySem.Str := ([("_wall" : PySem.Str), ("KeptError" : PySem.Str), ("InvalidAlphabet" : PySem.Str), ("InvalidRow" : PySem.Str), ("InvalidGood" : PySem.Str), ("InvalidWord" : PySem.Str), ("InvalidState" : PySem.Str), ("InvalidCount" : PySem.Str), ("TooManyStates" : PySem.Str), ("AlphabetsDiffer" : PySem.Str), ("Missing" : PySem.Str), ("NothingLeft" : PySem.Str), ("SMALL" : PySem.Str), ("is_number" : PySem.Str), ("is_from" : PySem.Str), ("is_list" : PySem.Str), ("check_count" : PySem.Str), ("MOST_LETTERS" : PySem.Str), ("MOST_STATES" : PySem.Str), ("MOST_LISTED" : PySem.Str), ("is_alphabet" : PySem.Str), ("is_word" : PySem.Str), ("check_alphabet" : PySem.Str), ("check_rows" : PySem.Str), ("check_good" : PySem.Str), ("Machine" : PySem.Str), ("led_by" : PySem.Str), ("words_of" : PySem.Str), ("classes_of" : PySem.Str), ("made_least" : PySem.Str), ("check_alphabets" : PySem.Str), ("is_wanted" : PySem.Str), ("paired" : PySem.Str), ("_law_hand" : PySem.Str), ("_law_pick" : PySem.Str), ("_law_of" : PySem.Str), ("_law_same" : PySem.Str), ("_law_field" : PySem.Str), ("_law_why" : PySem.Str), ("_law_signs" : PySem.Str)] : List PySem.Str) ++ ([("_law_word" : PySem.Str), ("_law_drawn" : PySem.Str), ("_law_made" : PySem.Str), ("_law_led" : PySem.Str), ("_law_has" : PySem.Str)] : List PySem.Str)
theorem run_f (w : World) : HandSHeadRun.RunEq R (PySem.W.view R.prog [49]) hk ob 20000 loose (w.withFollow "special-get-raises" false) := by
  intro os
  kernel_rfl
theorem run_t (w : World) : HandSHeadRun.RunEq R (PySem.W.view R.prog [49]) hk ob 20000 loose (w.withFollow "special-get-raises" true) := by
  intro os
  kernel_rfl
theorem run (w : World) : HandSHeadRun.RunEq R (PySem.W.view R.prog [49]) hk ob 20000 loose w :=
  PySem.W.byRow2 "special-get-raises" (P := fun w => HandSHeadRun.RunEq R (PySem.W.view R.prog [49]) hk ob 20000 loose w) run_f run_t w
end Q
set_option maxRecDepth 100000
set_option maxHeartbeats 4000000
/-! Dx6s: sets of keys of one kind, as sorted(set(..)) makes them: built from a text's signs, gathered, sorted. -/
namespace Dx
open PySem PySem.Spec PyProof.Rows L2
section
variable {P : Program} {w : World} {K : Type} [DecidableEq K] {kd : KeyKind P w K} {A : Around} {E : Value → Shared → Prop} {s : Shared}
abbrev Ent : Type := Int × Value
/-- no key stands twice -/
def Apart (kd : KeyKind P w K) (l : List Ent) : Prop := l.Pairwise fun e f => ∀ k, kd.is k e.2 = true → kd.is k f.2 = false
theorem apart_sym {e f : Ent} (h : ∀ k, kd.is k e.2 = true → kd.is k f.2 = false) : ∀ k, kd.is k f.2 = true → kd.is k e.2 = false := fun k hk => by
  cases q : kd.is k e.2 with
  | false => rfl
  | true => rw [h k q] at hk; cases hk
theorem Apart.perm {l l' : List Ent} (h : Apart kd l) (p : l'.Perm l) : Apart kd l' := (p.pairwise_iff (fun {a b} q => apart_sym q)).mpr h
def led (w : World) : Bool := !w.params.followText "set-order"
def Led (w : World) (t : SetTable) : Prop := w.params.followText "set-order" = true ∨ t.led = true
/-- the set at a, as it is walked later: its members' test, their number -/
structure SetG (kd : KeyKind P w K) (h : Heap) (a : Addr) (S : K → Bool) (n : Nat) : Prop where
  ex : ∃ (o : Obj) (es : Array Ent) (ep : Nat) (t : SetTable), h.get? a = some o ∧ o.ExactSet ∧ o.data = .set es ep t ∧ ElemsOf kd es.toList ∧ Apart kd es.toList ∧ (∀ k, S k = true ↔ ∃ e ∈ es.toList, kd.is k e.2 = true) ∧ es.size = n ∧ n < scanBound ∧ t.fits es.size = true ∧ Ris t.place.toList ∧ Led w t
theorem SetG.keep {h h' : Heap} {a : Addr} {S : K → Bool} {n : Nat} (g : SetG kd h a S n) (k : ∀ o, h.get? a = some o → h'.get? a = some o) : SetG kd h' a S n :=
  let ⟨o, es, ep, t, ho, r⟩ := g.ex
  ⟨o, es, ep, t, k o ho, r⟩
theorem SetG.re {h : Heap} {a : Addr} {S S' : K → Bool} {n n' : Nat} (g : SetG kd h a S n) (e : ∀ k, S' k = S k) (en : n' = n) : SetG kd h a S' n' := by
  subst en
  rw [show S' = S from funext e]
  exact g
abbrev freshSet (w : World) : Obj := { cls := .type "set", dict := none, data := .set #[] 0 (.fresh 0 0 (!w.params.followText "set-order")) }
theorem setG_nil {h : Heap} {a : Addr} (ho : h.get? a = some (freshSet w)) : SetG kd h a (fun _ => false) 0 :=
  ⟨_, #[], 0, _, ho, ⟨rfl, rfl, rfl⟩, rfl, fun e he => by simp at he, List.Pairwise.nil, fun k => by simp, rfl, by decide, rfl, .nil, by
    show _ ∨ (!w.params.followText "set-order") = true
    cases w.params.followText "set-order"
    · right; rfl
    · left; rfl⟩
/-- the table's end of an addition -/
theorem setG_lay {g : Bool → Sem Unit} (hg : ∀ (b : Bool) (st : Shared) (R : Unit → Shared → Prop), R () st → wpAny (model P w) A (g b) R E st) {a : Addr} {o : Obj} {es es1 : Array Ent} {ep : Nat} {t t1 : SetTable} (ho : s.heap.get? a = some o) (hex : o.ExactSet) (hd : o.data = .set es ep t)
    {S : K → Bool} (x1 : ElemsOf kd es1.toList) (x2 : Apart kd es1.toList) (x3 : ∀ k, S k = true ↔ ∃ e ∈ es1.toList, kd.is k e.2 = true) (x4 : es1.size < scanBound) (x5 : t1.fits es1.size = true) (x6 : Ris t1.place.toList) (x7 : Led w t1) {dm : Bool} {R : Option Bool → Shared → Prop}
    (hR : ∀ h', Heap.SameBut a s.heap h' → SetG kd h' a S es1.size → R (some true) { s with heap := h' }) :
    wpAny (model P w) A (do storeSet a es1 t1; if (!dm && t1.tooFull) = true then do (do g (relayAll t1 es1 (SetTable.grown es1.size)).2.2; storeSet a (relayAll t1 es1 (SetTable.grown es1.size)).1 (relayAll t1 es1 (SetTable.grown es1.size)).2.1; pure (some true)) else pure (some true)) R E s := by
  refine wpAny_bind (wpAny_storeSet_of ho hd ?_ (fits_of_scanBound x4))
  have p1 := L2.store_at (es' := es1) (t' := t1) ho hd
  have b1 := Heap.SameBut.update s.heap a (Obj.putSet es1 t1)
  by_cases hc : (!dm && t1.tooFull) = true
  · rw [if_pos hc]
    have q1 := relayAll_perm t1 es1 (SetTable.grown es1.size)
    have q2 := relayAll_fits t1 es1 (SetTable.grown es1.size)
    have q3 := L2.relayAll_ris t1 es1 (SetTable.grown es1.size)
    have q4 := L2.relayAll_led t1 es1 (SetTable.grown es1.size)
    revert q1 q2 q3 q4
    rcases relayAll t1 es1 (SetTable.grown es1.size) with ⟨es2, t2, gv⟩
    intro q1 q2 q3 q4
    have z : es2.size = es1.size := by rw [← Array.length_toList, ← Array.length_toList]; exact q1.length_eq
    have z2 : es2.size < scanBound := by omega
    refine wpAny_bind (hg gv _ _ (wpAny_bind (wpAny_storeSet_of p1 rfl (wpAny_pure ?_) (fits_of_scanBound z2))))
    have p2 := L2.store_at (es' := es2) (t' := t2) p1 rfl
    refine hR _ (b1.trans (.update _ a _)) ⟨_, es2, _, t2, p2, hex, rfl, fun e he => x1 e (q1.mem_iff.mp he), x2.perm q1, fun k => (x3 k).trans ?_, z, x4, q2, q3, x7.imp id fun y => by rw [q4]; exact y⟩
    constructor
    · rintro ⟨e, he, k1⟩; exact ⟨e, q1.mem_iff.mpr he, k1⟩
    · rintro ⟨e, he, k1⟩; exact ⟨e, q1.mem_iff.mp he, k1⟩
  · rw [if_neg hc]
    exact wpAny_pure (hR _ b1 ⟨_, es1, _, t1, p1, hex, rfl, x1, x2, x3, rfl, x4, x5, x6, x7⟩)
theorem setG_add {a : Addr} {S : K → Bool} {n : Nat} {k : K} {v : Value} {Q : Bool → Shared → Prop} (hk : kd.is k v = true) (hv : v.scannable = true) (G : SetG kd s.heap a S n) (room : n + 1 < scanBound)
    (hQ : ∀ (b : Bool) h', Heap.SameBut a s.heap h' → SetG kd h' a (fun j => S j || decide (j = k)) (if S k = true then n else n + 1) → Q b { s with heap := h' }) :
    wpAny (model P w) A (setAddHashed a v (kd.hash k)) Q E s := by
  obtain ⟨o, es, ep, t, ho, hex, hd, g1, g2, g3, hn, hb, hf, g4, g5⟩ := G.ex
  subst hn
  unfold setAddHashed setAddHashedIn
  refine wpAny_holding (wpAny_bind (wpAny_setState_of ho hd hf ?_))
  dsimp only
  rw [byScan_of hv hb g1, if_pos rfl]
  unfold setAddByScan
  refine wpAny_bind (wpAny_bind (wpAny_rule (wpAny_bind (wpAny_setScan_of hk ho hd hf g1 ?_))))
  cases hfi : List.findIdx? (fun e => kd.is k e.2) es.toList
  case none =>
    dsimp only
    have out : ∀ e ∈ es.toList, kd.is k e.2 = false := fun e he => by simpa using List.findIdx?_eq_none_iff.mp hfi e he
    have sk : S k = false := by
      rcases q : S k with _ | _
      · rfl
      · obtain ⟨e, he, q2⟩ := (g3 k).mp q
        rw [out e he] at q2
        cases q2
    have gw : ∀ (b : Bool) {st : Shared} {R : Unit → Shared → Prop}, R () st → wpAny (model P w) A (match b with | true => rule "set.scan.the-table-gave-way" | false => pure ()) R E st := fun b st R q => by
      rcases b with _ | _
      · exact wpAny_pure q
      · exact wpAny_rule q
    have q1 := layNew_perm t es (kd.hash k) v
    have q2 := layNew_fits t es (kd.hash k) v
    have q3 := L2.layNew_ris t es (kd.hash k) v g4
    have q4 := L2.layNew_led t es (kd.hash k) v
    revert q1 q2 q3 q4
    rcases layNew t es (kd.hash k) v with ⟨es1, t1, dm, gv⟩
    intro q1 q2 q3 q4
    rw [Array.toList_push] at q1
    have pc : es1.toList.Perm ((kd.hash k, v) :: es.toList) := q1.trans (List.perm_append_singleton _ _)
    have y1 : ElemsOf kd es1.toList := fun e he => by
      rcases List.mem_cons.mp (pc.mem_iff.mp he) with z | z
      · subst z; exact ⟨⟨k, hk, rfl⟩, hv⟩
      · exact g1 e z
    have y2 : Apart kd es1.toList := Apart.perm (List.pairwise_cons.mpr ⟨fun e he j hj => by
      have e2 : j = k := kd.inj v j k hj hk
      subst e2
      exact out e he, g2⟩) pc
    have y3 : ∀ j, (S j || decide (j = k)) = true ↔ ∃ e ∈ es1.toList, kd.is j e.2 = true := fun j => by
      rw [Bool.or_eq_true, decide_eq_true_eq, g3 j]
      constructor
      · rintro (⟨e, he, z⟩ | rfl)
        · exact ⟨e, pc.mem_iff.mpr (List.mem_cons_of_mem _ he), z⟩
        · exact ⟨_, pc.mem_iff.mpr List.mem_cons_self, hk⟩
      · rintro ⟨e, he, z⟩
        rcases List.mem_cons.mp (pc.mem_iff.mp he) with u | u
        · subst u; exact .inr (kd.inj v j k z hk)
        · exact .inl ⟨e, u, z⟩
    have y4 : es1.size = es.size + 1 := by rw [← Array.length_toList, pc.length_eq]; simp
    have y5 : es1.size < scanBound := by omega
    have y7 : Led w t1 := g5.imp id fun z => by rw [q4]; exact z
    have fin : ∀ h', Heap.SameBut a s.heap h' → SetG kd h' a (fun j => S j || decide (j = k)) es1.size → Q true { s with heap := h' } := fun h' sb G' => hQ true h' sb (G'.re (fun _ => rfl) (by rw [sk, if_neg (by simp), y4]))
    dsimp only
    refine wpAny_bind (gw _ ?_)
    split
    · refine wpAny_bind ?_
      rw [hashByValue_scannable 8 hv]
      refine wpAny_pure (setG_lay (fun b st R q => gw b q) ho hex hd y1 y2 y3 y5 ?_ ?_ ?_ fun h' sb G' => wpAny_pure (fin h' sb G'))
      · first | exact q2 | (split <;> first | exact q2 | exact SetTable.fits_plain_off q2)
      · first | exact q3 | (split <;> exact q3)
      · first | exact y7 | (split <;> exact y7)
    · exact wpAny_bind (wpAny_pure (setG_lay (fun b st R q => gw b q) ho hex hd y1 y2 y3 y5 q2 q3 y7 fun h' sb G' => wpAny_pure (fin h' sb G')))
  case some j =>
    dsimp only
    obtain ⟨hj, pj, _⟩ := List.findIdx?_eq_some_iff_getElem.mp hfi
    have sk : S k = true := (g3 k).mpr ⟨_, List.getElem_mem hj, pj⟩
    refine wpAny_pure (wpAny_pure (hQ false s.heap (.refl a s.heap) (G.re (fun i => ?_) (by rw [if_pos sk]))))
    by_cases e : i = k
    · subst e; rw [sk]; rfl
    · rw [decide_eq_false e, Bool.or_false]
/-- all that an iterator gives is put in -/
theorem setG_all {I : Addr} {fp wr : List Addr} {G : Array GenState → Array GenState → Prop} {n : Nat} {Pv : Nat → Value → Prop} {St : Nat → Shared → Prop} {R : Result → Shared → Prop} (W : WalksS P w A.in1 I fp wr G n Pv St) (a : Addr) (hf : a ∉ fp) (ks : List K) (hn : n = ks.length) (hb : n + 1 < scanBound)
    (hv : ∀ i v, Pv i v → ∃ k, ks[i]? = some k ∧ kd.is k v = true ∧ v.scannable = true) (left : Nat) : ∀ (i : Nat) (st : Shared), n - i = left → i ≤ n → St i st → (∃ c, c ≤ i ∧ SetG kd st.heap a (fun j => decide (j ∈ ks.take i)) c) →
      (∀ st' c, Moved (a :: wr) G st st' → c ≤ n → SetG kd st'.heap a (fun j => decide (j ∈ ks)) c → R (.ok (.ret .none)) st') → codeAny (model P w) A (.builtin "set.update.loop" ⟨[.ref a, .ref I], []⟩) R st := by
  have nw : a ∉ wr := fun h => hf (W.sub _ h)
  have up : ∀ b ∈ wr, b ∈ a :: wr := fun b h => .tail _ h
  induction left with
  | zero =>
    intro i st e0 hi hst ⟨c, hc, g⟩ hR
    obtain rfl : i = n := by omega
    refine codeAny_builtin PyProof.Rows.F.entry_set_update_loop ?_
    rw [Around.under_plainId PyProof.Rows.F.plain_set_update_loop _]
    show wpAny _ A.in1 (pyNext (.ref I) >>= _) _ _ st
    refine wpAny_bind (W.done st _ _ hst fun st2 mv => ?_)
    rw [List.take_of_length_le (by omega)] at g
    exact wpAny_pure (hR st2 c (mv.mono up) hc (g.keep fun o e => mv.heap a o nw e))
  | succ left ih =>
    intro i st e0 hi hst ⟨c, hc, g⟩ hR
    have lt : i < n := by omega
    refine codeAny_builtin PyProof.Rows.F.entry_set_update_loop ?_
    rw [Around.under_plainId PyProof.Rows.F.plain_set_update_loop _]
    show wpAny _ A.in1 (pyNext (.ref I) >>= _) _ _ st
    refine wpAny_bind (W.item i st _ _ lt hst fun v st2 pv hst2 mv => ?_)
    obtain ⟨k, ek, kv, sv⟩ := hv i v pv
    have g2 := g.keep (h' := st2.heap) fun o e => mv.heap a o nw e
    show wpAny _ A.in1 (holding [v] (setAdd a v) >>= _) _ _ st2
    refine wpAny_bind (wpAny_holding ?_)
    unfold setAdd
    refine wpAny_holding (wpAny_bind (kd.pyHash kv (setG_add (s := { st2 with toks := st2.toks + 1 }) kv sv g2 (by omega) fun bb h' sb g3 => ?_)))
    have c3 : (if decide (k ∈ ks.take i) = true then c else c + 1) ≤ i + 1 := by split <;> omega
    have g4 : SetG kd h' a (fun j => decide (j ∈ ks.take (i + 1))) (if decide (k ∈ ks.take i) = true then c else c + 1) := g3.re (fun j => by rw [List.take_add_one, ek]; simp) rfl
    refine wpAny_pure ⟨plainId_quiet PyProof.Rows.F.plain_set_update_loop _, ih (i + 1) _ (by omega) lt (W.frame _ st2 _ _ hst2 (Nat.le_succ _) fun b hb2 o e => ?_) ⟨_, c3, g4⟩ fun st3 c4 mv3 hc4 g5 => ?_⟩
    · exact (sb.2 b (fun z => hf (z ▸ hb2))).trans e
    · exact hR st3 c4 (Moved.trans W.gtrans ((mv.mono up).then_heap (Nat.le_succ _) fun b o hb2 e => (sb.2 b (fun z => hb2 (z ▸ .head _))).trans e) mv3) hc4 g5
/-- the signs of a text -/
abbrev sgn (x : Str) : List Str := x.cps.toList.map fun c => (⟨#[c]⟩ : Str)
set_option maxHeartbeats 8000000 in
theorem call_set_txt {x : Str} {t : Tok} {Q : Value → Shared → Prop} (hh : A.handled = none) (hb : x.cps.size + 1 < scanBound)
    (h : ∀ (h' : Heap) (tk c : Nat), SetG (strKind P w) h' s.heap.objs.size (fun j => decide (j ∈ sgn x)) c → c ≤ x.cps.size → (∀ b o, s.heap.get? b = some o → h'.get? b = some o) → Q (.ref s.heap.objs.size) { s with heap := h', toks := tk }) :
    wpAny (model P w) A (call (.type "set") [.str x t]) Q E s := by
  obtain ⟨mc, ml, hm⟩ := PySem.F.called_set.mro
  have m1 := PySem.F.called_set.made
  have m2 := PySem.F.called_set.sub
  have m3 := PySem.F.called_set.notType
  have m4 := PySem.F.called_set.canCreate
  have m5 := PySem.F.typeCall_set_1 (.str x t)
  refine wpAny_call (codeAny_of_tree ?_)
  show wpAny _ _ (callAny (.type "set") _) _ _ _
  refine wpAny_pure ⟨Code.quiet_builtin _ (by decide +kernel), codeAny_builtin PySem.F.entry_type_call ?_⟩
  rw [Around.under_plain (weight_type_call_type "set" [.str x t] []) rfl]
  repeat (any_goals (first | assumption | wp_step))
  refine codeAny_mono (code_set_led1 (.str x t) (E := E) (Q₁ := fun v st => v = .ref s.heap.objs.size ∧ st = { s with heap := s.heap.push (freshSet w) }) ⟨rfl, rfl⟩) fun r st hr => ?_
  rcases r with e | fl
  · exact hr
  rcases fl with _ | _ | _ | v
  any_goals exact hr.elim
  obtain ⟨rfl, rfl⟩ := hr
  have o1 : (s.heap.push (freshSet w)).get? s.heap.objs.size = some (freshSet w) := Heap.get?_push_size _ rfl
  have ty : Shared.TypeIs { s with heap := s.heap.push (freshSet w) } (.ref s.heap.objs.size) "set" := ⟨_, o1, rfl⟩
  have i1 := PySem.F.called_set.init.lookup
  have i2 := PySem.F.called_set.init.bind (.ref s.heap.objs.size)
  repeat (any_goals (first | assumption | wp_step))
  refine codeAny_mono (codeAny_call_builtin (R := wants (fun r st => r = .none ∧ ∃ h' tk c, st = { s with heap := h', toks := tk } ∧ SetG (strKind P w) h' s.heap.objs.size (fun j => decide (j ∈ sgn x)) c ∧ c ≤ x.cps.size ∧ (∀ b o, s.heap.get? b = some o → h'.get? b = some o)) E) PySem.F.called_set.init.plain PySem.F.entry_set_init (check_set_init_1 ty ?_)) fun r st hr => ?_
  · have n1 : (Value.type "str" == Value.type "dict") = false := by decide
    have n2 : isSubtype (.type "str") (.type "set") = pure false := by rw [isSubtype_type]; kernel_rfl
    have n3 : isSubtype (.type "str") (.type "frozenset") = pure false := by rw [isSubtype_type]; kernel_rfl
    unfold Builtin.«set.__init__» noKeywords Builtin.Frozenset.updateFrom
    generalize hp : pyIter = PI
    wp_walk
    subst hp
    refine wpAny_pyIter_str fun ob St Wk hst => ?_
    refine wpAny_bind (wpAny_runValue ?_)
    have hh3 : A.in1.in1.in1.handled = none := by simp [hh]
    have z1 : (s.heap.push (freshSet w)).objs.size = s.heap.objs.size + 1 := Heap.size_push ..
    refine setG_all (kd := strKind P w) (Wk _ hh3).toS s.heap.objs.size (by rw [z1]; simp) (sgn x) (by simp) hb (fun i v pv => ?_) (x.cps.size - 0) 0 _ rfl (Nat.zero_le _) hst ⟨0, Nat.le_refl 0, (setG_nil (Heap.get?_push_of_some _ o1)).re (fun _ => by simp) rfl⟩ fun st c mv hc g => ?_
    · obtain ⟨cd, u, e1, rfl⟩ := pv
      have e2 : x.cps.toList[i]? = some cd := by simpa using e1
      exact ⟨⟨#[cd]⟩, by rw [List.getElem?_map, e2]; rfl, strKind_is _ _ _ _, rfl⟩
    · obtain ⟨h', g2, d2, tk, os2⟩ := st
      obtain rfl : g2 = s.gens := mv.gens
      obtain rfl : d2 = s.drawn := mv.drawn
      obtain rfl : os2 = s.os := mv.os
      show wpAny _ _ _ _ _ _
      refine wpAny_pure ?_
      show wpAny _ _ (PySem.ret Value.none) _ _ _
      refine wpAny_pure ⟨rfl, h', tk, c, rfl, g, hc, fun b o e => ?_⟩
      have lb : b < s.heap.objs.size := Heap.lt_size e
      refine mv.heap b o (fun z => ?_) (Heap.get?_push_of_some _ (Heap.get?_push_of_some _ e))
      rw [z1] at z
      rcases List.mem_cons.mp z with z | z
      · exact absurd lb (by rw [z]; exact Nat.lt_irrefl _)
      · exact absurd lb (by rw [List.mem_singleton.mp z]; exact Nat.not_lt_of_le (Nat.le_succ _))
  · rcases r with e | fl
    · exact hr
    rcases fl with _ | _ | _ | v
    any_goals exact hr.elim
    obtain ⟨rfl, h', tk, c, rfl, g, hc, kp⟩ := hr
    repeat (any_goals (first | assumption | wp_step))
    exact h _ _ _ g hc kp
/-- what sorted() leaves of texts: at p, behind a heap hm in which nothing stood there -/
structure Srt (h h' : Heap) (p : Addr) (ys : List Str) : Prop where
  mid : ∃ hm : Heap, (∀ b o, h.get? b = some o → hm.get? b = some o) ∧ (∀ b o, hm.get? b = some o → h'.get? b = some o) ∧ hm.objs.size ≤ p
  at_ : ∃ (out : Array Value) (c : Nat), h'.get? p = some (PyProof.Rows.seqObj "list" out c) ∧ PyProof.Rows.StrsAre out.toList ys
  ord : sortedS ys = true
theorem sort_tail {s1 : Shared} {vs : List Value} {ss : List Str} {kw : List (Str × Value)} {Q : Value → Shared → Prop} (ek : kw = []) (kp : ∀ b o, s.heap.get? b = some o → s1.heap.get? b = some o) (hS : PyProof.Rows.StrsAre vs ss) (hL : vs.length ≤ sizeLine)
    (hQ : ∀ h' p ys, Srt s.heap h' p ys → ys.Perm ss → Q (.ref p) { s1 with heap := h' }) :
    wpAny (model P w) A (do let l ← newList vs; let _ ← holding [l] (call (.builtin "list.sort") [l] kw); PySem.ret l) (fun fin st => ∃ v, fin = Fin.done (Flow.ret v) ∧ Q v st) E s1 := by
  subst ek
  refine wpAny_bind (wpAny_newList ?_ hL)
  have o1 : (s1.heap.push (PyProof.Rows.seqObj "list" vs.toArray 0)).get? s1.heap.objs.size = some (PyProof.Rows.seqObj "list" vs.toArray 0) := Heap.get?_push_size _ rfl
  refine wpAny_bind (wpAny_holding (wpAny_call_entry PyProof.Rows.slot_list_sort ⟨_, o1, rfl⟩ PyProof.Rows.entry_list_sort (PyProof.Rows.list_sort_treeKAny PyProof.Rows.strKind_oneLt o1 hS.keysOf (fun v1 v2 r e => PyProof.Rows.keyKind_strs (by rw [← e]; exact hS)) hL fun st a1 a2 => ⟨_, rfl, ?_⟩) (PyProof.Rows.args_list_sort _)))
  obtain ⟨ys, z1, z2, z3⟩ := PyProof.Rows.sorted_out_str hS a1 a2
  obtain ⟨c, hc⟩ := PyProof.Rows.sortedHeap_at (vs := vs) (out := (arrOf st).map (·.2)) o1
  refine wpAny_pure ⟨_, rfl, hQ _ s1.heap.objs.size ys ⟨⟨s1.heap, kp, fun b o e => ?_, Nat.le_refl _⟩, ⟨_, c, hc, z1⟩, z3⟩ z2⟩
  have lt := Heap.lt_size e
  show (PyProof.Rows.sortedHeap (s1.heap.push (PyProof.Rows.seqObj "list" vs.toArray 0)) s1.heap.objs.size vs _).get? b = some o
  rw [PyProof.Rows.sortedHeap_old (Nat.ne_of_lt lt) (by rw [PyProof.Rows.size_push']; exact Nat.lt_succ_of_lt lt)]
  exact Heap.get?_push_of_some _ e
theorem strs_sgn {x : Str} {acc : Array Value} (it : ItemsOf (SignAt x) acc x.cps.size) : PyProof.Rows.StrsAre acc.toList (sgn x) := by
  have gen : ∀ (vs : List Value) (ys : List Str), vs.length = ys.length → (∀ (i : Nat) (v : Value) (y : Str), vs[i]? = some v → ys[i]? = some y → ∃ t, v = .str y t) → PyProof.Rows.StrsAre vs ys := fun vs => by
    induction vs with
    | nil =>
      intro ys hl _
      cases ys with
      | nil => exact .nil
      | cons _ _ => cases hl
    | cons v vs ih =>
      intro ys hl h
      cases ys with
      | nil => cases hl
      | cons y ys =>
        obtain ⟨t, rfl⟩ := h 0 v y rfl rfl
        exact .cons y t (ih ys (by simpa using hl) fun i a b h1 h2 => h (i + 1) a b h1 h2)
  refine gen _ _ (by rw [Array.length_toList, it.1]; simp) fun i v y h1 h2 => ?_
  obtain ⟨c, u, e1, e2⟩ := it.2 i v (by rw [← Array.getElem?_toList]; exact h1)
  rw [List.getElem?_map] at h2
  have e3 : x.cps.toList[i]? = some c := by simpa using e1
  rw [e3] at h2
  cases h2
  exact ⟨u, e2⟩
theorem sorted_txt {x : Str} {t : Tok} {Q : Value → Shared → Prop} (hh : A.handled = none) (hz : x.cps.size ≤ sizeLine) (hQ : ∀ h' p ys tk, Srt s.heap h' p ys → ys.Perm (sgn x) → Q (.ref p) { s with heap := h', toks := tk }) : wpAny (model P w) A (call (.builtin "sorted") [.str x t]) Q E s := by
  refine Calls.call_function_entry PyProof.Rows.kind_sorted PyProof.Rows.plain_sorted PyProof.Rows.entry_sorted (PyProof.Rows.args_sorted1 _) ?_
  unfold Builtin.«sorted»
  refine wpAny_bind (m := checkCount "sorted" 1 1 _) (wpAny_pure ?_)
  refine wpAny_bind (wpAny_collect_str (A := A.in1) hh x t (fun s1 acc k1 g1 d1 o1 it => ?_) hz)
  refine sort_tail (s := s) rfl k1 (strs_sgn it) (by rw [Array.length_toList, it.1]; exact hz) fun h' p ys sr pm => ?_
  obtain ⟨h1, g2, d2, tk, os2⟩ := s1
  obtain rfl : g2 = s.gens := g1
  obtain rfl : d2 = s.drawn := d1
  obtain rfl : os2 = s.os := o1
  exact hQ h' p ys tk sr pm
def strIn (e : Ent) : Str := match e.2 with
  | .str y _ => y
  | _ => Str.empty
theorem sorted_setS {a : Addr} {S : Str → Bool} {n : Nat} {Q : Value → Shared → Prop} (G : SetG (strKind P w) s.heap a S n) (hh : A.handled = none)
    (hQ : ∀ h' p ys tk dr, Srt s.heap h' p ys → ys.Nodup → (∀ k, k ∈ ys ↔ S k = true) → ys.length ≤ sizeLine → Q (.ref p) { s with heap := h', toks := tk, drawn := dr }) : wpAny (model P w) A (call (.builtin "sorted") [.ref a]) Q E s := by
  obtain ⟨o, es, ep, t, ho, hex, hd, g1, g2, g3, hn, hb, hf, g4, g5⟩ := G.ex
  subst hn
  have is : ∀ e ∈ es.toList, ∃ u, e.2 = .str (strIn e) u := fun e he => by
    obtain ⟨⟨k, hk, _⟩, _⟩ := g1 e he
    cases ev : e.2 with
    | str y u => exact ⟨u, by unfold strIn; rw [ev]⟩
    | _ => rw [ev] at hk; cases hk
  have isk : ∀ e ∈ es.toList, ∀ k, (strKind P w).is k e.2 = true ↔ strIn e = k := fun e he k => by
    obtain ⟨u, eu⟩ := is e he
    rw [eu]
    constructor
    · intro h; exact (strKind P w).inj _ _ _ (strKind_is P w _ u) h
    · intro h; subst h; exact strKind_is P w _ u
  refine Calls.call_function_entry PyProof.Rows.kind_sorted PyProof.Rows.plain_sorted PyProof.Rows.entry_sorted (PyProof.Rows.args_sorted1 _) ?_
  unfold Builtin.«sorted»
  refine wpAny_bind (m := checkCount "sorted" 1 1 _) (wpAny_pure ?_)
  refine wpAny_bind (L2.collect_set (A := A.in1) hh ⟨o, ho, hex.1, hd⟩ hf hb g4 g5 fun s1 vs k1 hz1 gg1 oo1 pm => ?_)
  have hS : PyProof.Rows.StrsAre vs (vs.map fun v => strIn (0, v)) := by
    have al : ∀ v ∈ vs, ∃ u, v = .str (strIn (0, v)) u := fun v hv => by
      obtain ⟨e, he, rfl⟩ := List.mem_map.mp (pm.mem_iff.mp hv)
      exact is e he
    clear pm
    induction vs with
    | nil => exact .nil
    | cons v vs ih =>
      obtain ⟨u, eu⟩ := al v (by simp)
      rw [List.map_cons]
      rw [eu] at *
      exact .cons _ u (ih fun z hz => al z (by simp [hz]))
  have pk : (vs.map fun v => strIn (0, v)).Perm (es.toList.map strIn) := by
    have q := pm.map fun v => strIn (0, v)
    rw [List.map_map] at q
    exact q
  refine sort_tail (s := s) rfl k1 hS (by rw [pm.length_eq, List.length_map, Array.length_toList]; exact fits_of_scanBound hb) fun h' p ys sr pm2 => ?_
  have pm3 := pm2.trans pk
  obtain ⟨h1, g2', d2, tk, os2⟩ := s1
  obtain rfl : g2' = s.gens := gg1
  obtain rfl : os2 = s.os := oo1
  refine hQ h' p ys tk d2 sr (pm3.nodup_iff.mpr ?_) (fun k => ?_) (by rw [pm3.length_eq, List.length_map, Array.length_toList]; exact fits_of_scanBound hb)
  · refine List.pairwise_map.mpr (List.Pairwise.imp_of_mem (fun {e f} he hf2 q z => ?_) g2)
    have := q (strIn e) ((isk e he _).mpr rfl)
    rw [(isk f hf2 _).mpr z.symm] at this
    cases this
  · rw [pm3.mem_iff, g3 k, List.mem_map]
    constructor
    · rintro ⟨e, he, z⟩; exact ⟨e, he, (isk e he k).mpr z⟩
    · rintro ⟨e, he, z⟩; exact ⟨e, he, (isk e he k).mp z⟩
end
section
variable {X : Cx}
theorem laid_srt {pins : List (Addr × Obj)} {σ : L2.St} {H : Hp} {s : Shared} {h' : Heap} {p : Addr} {ys : List Str} {tk : Nat} (I : L2.Inv X pins σ H s) (sr : Srt s.heap h' p ys) (hz : ys.length ≤ sizeLine) :
    H p = none ∧ L2.Inv X pins σ (upd H p (.lst (ys.map V.str))) { s with heap := h', toks := tk } := by
  obtain ⟨hm, k1, k2, le⟩ := sr.mid
  obtain ⟨out, c, e1, e2⟩ := sr.at_
  have I1 : L2.Inv X pins σ H { s with heap := hm, toks := tk } := I.kept k1
  exact ⟨I1.hok.fresh le, I1.laid (t' := tk) k2 le ⟨by rw [List.length_map]; exact hz, out.toList, c, vals_of_strs e2, e1⟩⟩
def rTxtSort : List V → Hp → VK → Prop := fun vs H Q => ∃ x : Str, vs = [.str x] ∧ x.cps.size ≤ sizeLine ∧ ∀ ys p, ys.Perm (sgn x) → sortedS ys = true → H p = none → Q (.ref p) (upd H p (.lst (ys.map V.str)))
theorem cr_sortedTxt (hc : X.calm = true) : CallR X (.builtin "sorted") rTxtSort := by
  intro pins s σ H vs us Q I r h
  obtain ⟨x, rfl, hz, q⟩ := h
  obtain ⟨u, rfl, t, rfl⟩ := vals1 r
  refine sorted_txt (I.ok.hd hc) hz fun h' p ys tk sr pm => ?_
  obtain ⟨n, J⟩ := laid_srt (tk := tk) I sr (by rw [pm.length_eq, List.length_map, Array.length_toList]; exact hz)
  exact ⟨.ref p, _, J, rfl, q ys p pm sr.ord n⟩
def rTxtList (K : Bool) : List V → Hp → VK → Prop := fun vs H Q => ∃ x : Str, vs = [.str x] ∧ x.cps.size ≤ sizeLine ∧ ∀ p, H p = none → Q (.ref p) (upd H p (if K then .lst ((sgn x).map V.str) else .tup ((sgn x).map V.str)))
theorem cr_listTxt (hc : X.calm = true) : CallR X (.type "list") (rTxtList true) := by
  intro pins s σ H vs us Q I r h
  obtain ⟨x, rfl, hz, q⟩ := h
  obtain ⟨u, rfl, t, rfl⟩ := vals1 r
  refine call_list_str (hn := hz) (I.ok.hd hc) x t fun h' tk acc c hk hS it => ?_
  refine ⟨.ref s.heap.objs.size, upd H s.heap.objs.size (.lst ((sgn x).map V.str)), I.laid (t' := tk) hk (Nat.le_refl _) ⟨by simpa using hz, acc.toList, c, vals_of_strs (strs_sgn it), hS⟩, rfl, q _ (I.hok.fresh (Nat.le_refl _))⟩
theorem cr_tupleTxt (hc : X.calm = true) : CallR X (.type "tuple") (rTxtList false) := by
  intro pins s σ H vs us Q I r h
  obtain ⟨x, rfl, hz, q⟩ := h
  obtain ⟨u, rfl, t, rfl⟩ := vals1 r
  refine call_tuple_str (hsz := hz) (I.ok.hd hc) x t fun h' tk acc hk it => ?_
  have I1 : L2.Inv X pins σ H { s with heap := h', toks := tk } := I.kept hk
  have o1 : (h'.push { cls := .type "tuple", data := .seq acc }).get? h'.objs.size = some { cls := .type "tuple", data := .seq acc } := Heap.get?_push_size _ rfl
  refine ⟨.ref h'.objs.size, upd H h'.objs.size (.tup ((sgn x).map V.str)), I1.laid (t' := tk) (fun b o e => Heap.get?_push_of_some _ e) (Nat.le_refl _) ⟨by simpa using hz, acc.toList, vals_of_strs (strs_sgn it), ⟨_, o1, rfl, _, rfl⟩⟩, rfl, q _ (I1.hok.fresh (Nat.le_refl _))⟩
/-- a tracked set of texts -/
def SetX (P : Program) (w : World) (a : Addr) (S : Str → Bool) (n : Nat) : HO := .ext fun h => SetG (strKind P w) h a S n
def rTxtSet (P : Program) (w : World) : List V → Hp → VK → Prop := fun vs H Q => ∃ x : Str, vs = [.str x] ∧ x.cps.size + 1 < scanBound ∧ ∀ p c, H p = none → Q (.ref p) (upd H p (SetX P w p (fun j => decide (j ∈ sgn x)) c))
theorem cr_setTxt (hc : X.calm = true) : CallR X (.type "set") (rTxtSet X.prog X.w) := by
  intro pins s σ H vs us Q I r h
  obtain ⟨x, rfl, hz, q⟩ := h
  obtain ⟨u, rfl, t, rfl⟩ := vals1 r
  refine call_set_txt (I.ok.hd hc) hz fun h' tk c g _ kp => ?_
  obtain ⟨o, _, _, _, ho, _⟩ := g.ex
  exact ⟨.ref s.heap.objs.size, upd H s.heap.objs.size (SetX X.prog X.w s.heap.objs.size (fun j => decide (j ∈ sgn x)) c), I.laid (t' := tk) kp (Nat.le_refl _) ⟨g, ⟨o, ho⟩, fun h1 h2 p k => SetG.keep p k⟩, rfl, q _ c (I.hok.fresh (Nat.le_refl _))⟩
def rSetSort (P : Program) (w : World) : List V → Hp → VK → Prop := fun vs H Q => ∃ (a : Addr) (S : Str → Bool) (n : Nat), vs = [.ref a] ∧ H a = some (SetX P w a S n) ∧ ∀ ys p, sortedS ys = true → ys.Nodup → (∀ k, k ∈ ys ↔ S k = true) → ys.length ≤ sizeLine → H p = none → Q (.ref p) (upd H p (.lst (ys.map V.str)))
theorem cr_sortedSetTxt (hc : X.calm = true) : CallR X (.builtin "sorted") (rSetSort X.prog X.w) := by
  intro pins s σ H vs us Q I r h
  obtain ⟨a, S, n, rfl, ha, q⟩ := h
  rw [Vals.ref1 r]
  have g : SetG (strKind X.prog X.w) s.heap a S n := (I.hok a _ ha).1
  refine sorted_setS g (I.ok.hd hc) fun h' p ys tk dr sr nd hm hz => ?_
  have I0 : L2.Inv X pins σ H { s with heap := s.heap, gens := s.gens, drawn := dr, toks := s.toks } := I.call (ch := []) (Un.kept fun _ _ e => e) (I.hok.kept fun _ _ e => e) I.bare (fun _ z => nomatch z)
  obtain ⟨n1, J⟩ := laid_srt (tk := tk) I0 sr hz
  exact ⟨.ref p, _, J, rfl, q ys p sr.ord nd hm hz n1⟩
end
end Dx

set_option maxRecDepth 100000
set_option maxHeartbeats 4000000
/-! Dx6a: what is walked; the built-in functions and methods by values. -/
namespace Dx
open PySem PySem.Spec PyProof.Rows L2
section
variable {T : Tab} {X : Cx} {Xw : XW} {g : G} {m : List Addr} {L : Hh} {H : Hp} {σ : L2.St}
/-! ### items -/
theorem Sim.items (S : Sim g m L H) {w : W} {v : V} {ws : List W} (r : RelW g.K m H w v) (e : itemsOf L w = some ws) : ∃ a xs, v = .ref a ∧ (SqL g.K H a xs ∨ H a = some (.tup xs)) ∧ RelWs g.K m H ws xs := by
  cases r with
  | @tup a xs ws' h hr =>
    simp only [itemsOf, Option.some.injEq] at e
    subst e
    exact ⟨a, xs, rfl, .inr h, hr⟩
  | @ref l a h =>
    simp only [itemsOf] at e
    split at e
    · rename_i zs ez
      cases e
      obtain ⟨xs, h1, h2⟩ := S.seq h (.inl ez)
      exact ⟨a, xs, rfl, .inl h1, h2⟩
    · rename_i zs ez
      cases e
      obtain ⟨xs, h1, h2⟩ := S.seq h (.inr ez)
      exact ⟨a, xs, rfl, .inl h1, h2⟩
    · cases e
  | _ => cases e
theorem Sim.itemsL (S : Sim g m L H) {l : Nat} {a : Addr} {ws : List W} (h : m[l]? = some a) (e : itemsOf L (.ref l) = some ws) : ∃ xs, SqL g.K H a xs ∧ RelWs g.K m H ws xs := by
  simp only [itemsOf] at e
  split at e
  · rename_i zs ez
    cases e
    exact S.seq h (.inl ez)
  · rename_i zs ez
    cases e
    exact S.seq h (.inr ez)
  · cases e
theorem rel_bl {bs : List Bool} {ws : List W} (e : ws.mapM blOf = some bs) {xs : List V} (r : RelWs g.K m H ws xs) : xs = bs.map V.bl := by
  have p := mapM_some e
  clear e
  induction p generalizing xs with
  | nil => cases r; rfl
  | @cons w b ws bs q p ih =>
    cases r with
    | cons h hr =>
      cases w <;> simp [blOf] at q
      subst q
      cases h
      rw [List.map_cons, ← ih hr]
theorem rel_int {bs : List Int} {ws : List W} (e : ws.mapM intOf = some bs) {xs : List V} (r : RelWs g.K m H ws xs) : xs = bs.map V.int := by
  have p := mapM_some e
  clear e
  induction p generalizing xs with
  | nil => cases r; rfl
  | @cons w b ws bs q p ih =>
    cases r with
    | cons h hr =>
      cases w <;> simp [intOf] at q
      subst q
      cases h
      rw [List.map_cons, ← ih hr]
def tx (x : Txt) : Str := ⟨x.toArray⟩
theorem rel_txt {bs : List Txt} {ws : List W} (e : ws.mapM txtOf = some bs) {xs : List V} (r : RelWs g.K m H ws xs) : xs = (bs.map tx).map V.str := by
  have p := mapM_some e
  clear e
  induction p generalizing xs with
  | nil => cases r; rfl
  | @cons w b ws bs q p ih =>
    cases r with
    | cons h hr =>
      cases w <;> simp [txtOf] at q
      subst q
      cases h
      rw [List.map_cons, List.map_cons, ← ih hr]
      rfl
theorem rels_int (is : List Int) : RelWs g.K m H (is.map W.int) (is.map V.int) := by
  induction is with
  | nil => exact .nil
  | cons i is ih => exact .cons (.int i) ih
theorem rels_txt (ts : List Txt) : RelWs g.K m H (ts.map W.str) ((ts.map tx).map V.str) := by
  induction ts with
  | nil => exact .nil
  | cons i is ih => exact .cons (.str i) ih

/-! ### what is walked -/
def SrcOk (g : G) (m : List Addr) (H : Hp) (s : Src) (J : L2.It) : Prop :=
  ∀ m' L' H', Ex0 m H m' H' → Sim g m' L' H' → ∀ i, (∀ w, srcAt L' i s = some (some w) → J.go i H' ∧ ∀ x H'', J.yld i H' x H'' → Ext m' H' m' H'' ∧ Sim g m' L' H'' ∧ RelW g.K m' H'' w x) ∧ (srcAt L' i s = some none → J.stop i H')
theorem src_seq {l : Nat} {a : Addr} (h : m[l]? = some a) : SrcOk g m H (.seq l) (Itl g.K a) := by
  intro m' L' H' e S i
  have h' := e.at_ _ _ h
  refine ⟨fun w hw => ?_, fun hw => ?_⟩
  · simp only [srcAt, Option.map_eq_some_iff] at hw
    obtain ⟨ws, e1, e2⟩ := hw
    obtain ⟨xs, h1, r1⟩ := S.itemsL h' e1
    obtain ⟨v, e3, r3⟩ := r1.get e2
    refine ⟨⟨xs, v, h1, e3⟩, fun x H'' y => ?_⟩
    obtain ⟨rfl, y⟩ := y
    have := y xs h1
    rw [e3] at this
    cases this
    exact ⟨Ext.refl _ _, S, r3⟩
  · simp only [srcAt, Option.map_eq_some_iff] at hw
    obtain ⟨ws, e1, e2⟩ := hw
    obtain ⟨xs, h1, r1⟩ := S.itemsL h' e1
    refine ⟨xs, h1, ?_⟩
    rw [← r1.length]
    exact List.getElem?_eq_none_iff.mp e2
theorem src_tup {a : Addr} {ws : List W} {xs : List V} (h : SqT g.K H a xs) (r : RelWs g.K m H ws xs) : SrcOk g m H (.vals ws) (Itt g.K a) := by
  intro m' L' H' e S i
  have h1 := e.sqT h
  have r1 := r.mono0 e
  refine ⟨fun w hw => ?_, fun hw => ?_⟩
  · simp only [srcAt, Option.some.injEq] at hw
    obtain ⟨v, e3, r3⟩ := r1.get hw
    refine ⟨⟨xs, v, h1, e3⟩, fun x H'' y => ?_⟩
    obtain ⟨rfl, y⟩ := y
    have := y xs h1
    rw [e3] at this
    cases this
    exact ⟨Ext.refl _ _, S, r3⟩
  · simp only [srcAt, Option.some.injEq] at hw
    refine ⟨xs, h1, ?_⟩
    rw [← r1.length]
    exact List.getElem?_eq_none_iff.mp hw
theorem src_str (x : Txt) : SrcOk g m H (.vals (signs x)) (Its ⟨x.toArray⟩) := by
  intro m' L' H' e S i
  refine ⟨fun w hw => ?_, fun hw => ?_⟩
  · simp only [srcAt, Option.some.injEq, signs, List.getElem?_map, Option.map_eq_some_iff] at hw
    obtain ⟨c, e1, e2⟩ := hw
    subst e2
    obtain ⟨hi, _⟩ := List.getElem?_eq_some_iff.mp e1
    refine ⟨by show i < x.toArray.size; simpa using hi, fun y H'' q => ?_⟩
    obtain ⟨rfl, c', e3, rfl⟩ := q
    have e4 : x[i]? = some c' := by simpa using e3
    rw [e1] at e4
    cases e4
    exact ⟨Ext.refl _ _, S, .str [c]⟩
  · simp only [srcAt, Option.some.injEq, signs, List.getElem?_map, Option.map_eq_none_iff] at hw
    show x.toArray.size ≤ i
    simpa using List.getElem?_eq_none_iff.mp hw
theorem src_rng (lo : Int) (n : Nat) : SrcOk g m H (.rng lo n) (Itr lo n) := by
  intro m' L' H' e S i
  refine ⟨fun w hw => ?_, fun hw => ?_⟩
  · simp only [srcAt, Option.some.injEq] at hw
    split at hw
    · rename_i hi
      cases hw
      refine ⟨hi, fun x H'' y => ?_⟩
      obtain ⟨rfl, rfl⟩ := y
      exact ⟨Ext.refl _ _, S, .int _⟩
    · cases hw
  · simp only [srcAt, Option.some.injEq] at hw
    split at hw
    · cases hw
    · rename_i hi
      exact Nat.le_of_not_lt hi
theorem src_enum {l : Nat} {a : Addr} (h : m[l]? = some a) : SrcOk g m H (.enum l) (Ite g.K a) := by
  intro m' L' H' e S i
  have h' := e.at_ _ _ h
  refine ⟨fun w hw => ?_, fun hw => ?_⟩
  · simp only [srcAt, Option.map_eq_some_iff] at hw
    obtain ⟨ws, e1, e2⟩ := hw
    obtain ⟨z, e2, e5⟩ := e2
    subst e5
    obtain ⟨xs, h1, r1⟩ := S.itemsL h' e1
    obtain ⟨v, e3, r3⟩ := r1.get e2
    refine ⟨⟨xs, v, h1, e3⟩, fun x H'' y => ?_⟩
    obtain ⟨p, y, rfl, hp, rfl, hy⟩ := y
    have := hy xs h1
    rw [e3] at this
    cases this
    obtain ⟨x1, S1⟩ := S.free (u := .tup [.int (i : Nat), v]) hp
    exact ⟨x1, S1, .tup upd_same (.cons (.int _) (.cons (r3.mono x1) .nil))⟩
  · simp only [srcAt, Option.map_eq_some_iff, Option.map_eq_none_iff] at hw
    obtain ⟨ws, e1, e2⟩ := hw
    obtain ⟨xs, h1, r1⟩ := S.itemsL h' e1
    refine ⟨xs, h1, ?_⟩
    rw [← r1.length]
    exact List.getElem?_eq_none_iff.mp e2
theorem src_enumT {a : Addr} {ws : List W} {xs : List V} (h : SqT g.K H a xs) (r : RelWs g.K m H ws xs) : SrcOk g m H (.enumT ws) (IteT g.K a) := by
  intro m' L' H' e S i
  have h1 := e.sqT h
  have r1 := r.mono0 e
  refine ⟨fun w hw => ?_, fun hw => ?_⟩
  · simp only [srcAt, Option.some.injEq, Option.map_eq_some_iff] at hw
    obtain ⟨z, e2, e5⟩ := hw
    subst e5
    obtain ⟨v, e3, r3⟩ := r1.get e2
    refine ⟨⟨xs, v, h1, e3⟩, fun x H'' y => ?_⟩
    obtain ⟨p, y, rfl, hp, rfl, hy⟩ := y
    have := hy xs h1
    rw [e3] at this
    cases this
    obtain ⟨x1, S1⟩ := S.free (u := .tup [.int (i : Nat), v]) hp
    exact ⟨x1, S1, .tup upd_same (.cons (.int _) (.cons (r3.mono x1) .nil))⟩
  · simp only [srcAt, Option.some.injEq, Option.map_eq_none_iff] at hw
    refine ⟨xs, h1, ?_⟩
    rw [← r1.length]
    exact List.getElem?_eq_none_iff.mp hw
theorem src_zipL {l k : Nat} {a b : Addr} (h : m[l]? = some a) (hk : m[k]? = some b) : SrcOk g m H (.zipL l k) (Itz g.K a b) := by
  intro m' L' H' e S i
  have h' := e.at_ _ _ h
  have hk' := e.at_ _ _ hk
  refine ⟨fun w hw => ?_, fun hw => ?_⟩
  · simp only [srcAt] at hw
    split at hw
    · rename_i ws zs e1 e2
      simp only [Option.some.injEq] at hw
      split at hw
      · rename_i x y e3 e4
        cases hw
        obtain ⟨xs, h1, r1⟩ := S.itemsL h' e1
        obtain ⟨ys, h2, r2⟩ := S.itemsL hk' e2
        obtain ⟨v, e5, r5⟩ := r1.get e3
        obtain ⟨u, e6, r6⟩ := r2.get e4
        refine ⟨⟨xs, ys, v, u, h1, h2, e5, e6⟩, fun z H'' q => ?_⟩
        obtain ⟨p, v', u', rfl, hp, rfl, q1, q2⟩ := q
        have z1 := q1 xs h1
        rw [e5] at z1
        cases z1
        have z2 := q2 ys h2
        rw [e6] at z2
        cases z2
        obtain ⟨x1, S1⟩ := S.free (u := .tup [v, u]) hp
        exact ⟨x1, S1, .tup upd_same (.cons (r5.mono x1) (.cons (r6.mono x1) .nil))⟩
      · cases hw
    · cases hw
  · simp only [srcAt] at hw
    split at hw
    · rename_i ws zs e1 e2
      obtain ⟨xs, h1, r1⟩ := S.itemsL h' e1
      obtain ⟨ys, h2, r2⟩ := S.itemsL hk' e2
      refine ⟨xs, ys, h1, h2, ?_⟩
      rw [← r1.length, ← r2.length]
      simp only [Option.some.injEq] at hw
      split at hw
      · cases hw
      · rename_i n
        cases e3 : ws[i]? with
        | none => exact .inl (List.getElem?_eq_none_iff.mp e3)
        | some x =>
          cases e4 : zs[i]? with
          | none => exact .inr (List.getElem?_eq_none_iff.mp e4)
          | some y => exact absurd e4 (n x y e3)
    · cases hw
theorem src_zipT {a b : Addr} {ws zs : List W} {xs ys : List V} (h : SqT g.K H a xs) (hk : SqT g.K H b ys) (r : RelWs g.K m H ws xs) (rk : RelWs g.K m H zs ys) : SrcOk g m H (.zipT ws zs) (RZ.ItzT g.K a b) := by
  intro m' L' H' e S i
  have h1 := e.sqT h
  have h2 := e.sqT hk
  have r1 := r.mono0 e
  have r2 := rk.mono0 e
  refine ⟨fun w hw => ?_, fun hw => ?_⟩
  · simp only [srcAt, Option.some.injEq] at hw
    split at hw
    · rename_i x y e3 e4
      cases hw
      obtain ⟨v, e5, r5⟩ := r1.get e3
      obtain ⟨u, e6, r6⟩ := r2.get e4
      refine ⟨⟨xs, ys, v, u, h1, h2, e5, e6⟩, fun z H'' q => ?_⟩
      obtain ⟨p, v', u', rfl, hp, rfl, q1, q2⟩ := q
      have z1 := q1 xs h1
      rw [e5] at z1
      cases z1
      have z2 := q2 ys h2
      rw [e6] at z2
      cases z2
      obtain ⟨x1, S1⟩ := S.free (u := .tup [v, u]) hp
      exact ⟨x1, S1, .tup upd_same (.cons (r5.mono x1) (.cons (r6.mono x1) .nil))⟩
    · cases hw
  · simp only [srcAt, Option.some.injEq] at hw
    refine ⟨xs, ys, h1, h2, ?_⟩
    rw [← r1.length, ← r2.length]
    split at hw
    · cases hw
    · rename_i n
      cases e3 : ws[i]? with
      | none => exact .inl (List.getElem?_eq_none_iff.mp e3)
      | some x =>
        cases e4 : zs[i]? with
        | none => exact .inr (List.getElem?_eq_none_iff.mp e4)
        | some y => exact absurd e4 (n x y e3)

/-! ### sorting -/
theorem insI_perm (x : Int) (xs : List Int) : (insI x xs).Perm (x :: xs) := by
  induction xs with
  | nil => exact List.Perm.refl _
  | cons y ys ih =>
    simp only [insI]
    split
    · exact List.Perm.refl _
    · exact (List.Perm.cons y ih).trans (List.Perm.swap x y ys)
theorem sortI_perm (xs : List Int) : (sortI xs).Perm xs := by
  induction xs with
  | nil => exact List.Perm.refl _
  | cons x xs ih => exact (insI_perm x _).trans (List.Perm.cons x ih)
theorem insI_sorted {x : Int} {xs : List Int} (h : xs.Pairwise (· ≤ ·)) : (insI x xs).Pairwise (· ≤ ·) := by
  induction xs with
  | nil => simp [insI]
  | cons y ys ih =>
    have h0 := h
    rw [List.pairwise_cons] at h
    simp only [insI]
    split
    · rename_i c
      have c := of_decide_eq_true c
      refine List.pairwise_cons.mpr ⟨fun z hz => ?_, h0⟩
      rcases List.mem_cons.mp hz with e | e
      · rw [e]; exact c
      · exact Int.le_trans c (h.1 z e)
    · rename_i c
      have c : ¬ x ≤ y := fun q => c (decide_eq_true q)
      refine List.pairwise_cons.mpr ⟨fun z hz => ?_, ih h.2⟩
      rcases List.mem_cons.mp ((insI_perm x ys).mem_iff.mp hz) with e | e
      · rw [e]; omega
      · exact h.1 z e
theorem sortI_sorted (xs : List Int) : (sortI xs).Pairwise (· ≤ ·) := by
  induction xs with
  | nil => exact .nil
  | cons x xs ih => exact insI_sorted ih
theorem uniq_of {α : Type} {r : α → α → Prop} (anti : ∀ a b, r a b → r b a → a = b) : ∀ {xs ys : List α}, xs.Perm ys → xs.Pairwise r → ys.Pairwise r → xs = ys
  | [], ys, p, _, _ => (List.nil_perm.mp p).symm
  | x :: xs, [], p, _, _ => by simpa using p.length_eq
  | x :: xs, y :: ys, p, hx, hy => by
    rw [List.pairwise_cons] at hx hy
    have e : x = y := by
      have m1 : x ∈ y :: ys := p.mem_iff.mp (by simp)
      have m2 : y ∈ x :: xs := p.mem_iff.mpr (by simp)
      rcases List.mem_cons.mp m1 with e | e
      · exact e
      · rcases List.mem_cons.mp m2 with e2 | e2
        · exact e2.symm
        · exact anti _ _ (hx.1 _ e2) (hy.1 _ e)
    subst e
    rw [uniq_of anti (List.Perm.cons_inv p) hx.2 hy.2]
theorem sortI_eq {xs ys : List Int} (p : ys.Perm xs) (h : ys.Pairwise (· ≤ ·)) : ys = sortI xs :=
  uniq_of (fun _ _ => Int.le_antisymm) (p.trans (sortI_perm xs).symm) h (sortI_sorted xs)
theorem lt_irr : ∀ x : Txt, ltCps x x = false
  | [] => rfl
  | a :: x => by simp [ltCps, lt_irr x]
theorem lt_tri : ∀ x y : Txt, ltCps x y = false → ltCps y x = false → x = y
  | [], [], _, _ => rfl
  | [], _ :: _, h, _ => by simp [ltCps] at h
  | _ :: _, [], _, h => by simp [ltCps] at h
  | a :: x, b :: y, h1, h2 => by
    simp only [ltCps, Bool.or_eq_false_iff, decide_eq_false_iff_not, Bool.and_eq_false_iff, beq_eq_false_iff_ne] at h1 h2
    have e : a = b := by omega
    subst e
    rw [lt_tri x y (by simpa using h1.2) (by simpa using h2.2)]
theorem lt_tr : ∀ x y z : Txt, ltCps x y = true → ltCps y z = true → ltCps x z = true
  | [], y, [], _, h => by
    cases y <;> simp [ltCps] at h
  | [], _, _ :: _, _, _ => rfl
  | _ :: _, [], _, h, _ => by simp [ltCps] at h
  | _ :: _, _ :: _, [], _, h => by simp [ltCps] at h
  | a :: x, b :: y, c :: z, h1, h2 => by
    simp only [ltCps, Bool.or_eq_true, decide_eq_true_eq, Bool.and_eq_true, beq_iff_eq] at h1 h2 ⊢
    rcases h1 with h1 | ⟨e1, h1⟩
    · rcases h2 with h2 | ⟨e2, h2⟩
      · left; omega
      · left; omega
    · rcases h2 with h2 | ⟨e2, h2⟩
      · left; omega
      · right; exact ⟨by omega, lt_tr x y z h1 h2⟩
theorem le_tr {x y z : Txt} (h1 : txtLe x y = true) (h2 : txtLe y z = true) : txtLe x z = true := by
  unfold txtLe at *
  simp only [Bool.not_eq_true'] at *
  cases e : ltCps z x with
  | false => rfl
  | true =>
    exfalso
    cases e2 : ltCps x y with
    | true => have := lt_tr _ _ _ e e2; rw [h2] at this; cases this
    | false =>
      have := lt_tri x y e2 h1
      subst this
      rw [h2] at e; cases e
theorem le_tot (x y : Txt) : txtLe x y = true ∨ txtLe y x = true := by
  unfold txtLe
  cases e : ltCps x y with
  | false => right; simp
  | true =>
    left
    cases e2 : ltCps y x with
    | false => rfl
    | true => have := lt_tr _ _ _ e e2; rw [lt_irr] at this; cases this
theorem le_anti {x y : Txt} (h1 : txtLe x y = true) (h2 : txtLe y x = true) : x = y := by
  unfold txtLe at *
  exact lt_tri x y (by simpa using h2) (by simpa using h1)
theorem insT_perm (x : Txt) (xs : List Txt) : (insT x xs).Perm (x :: xs) := by
  induction xs with
  | nil => exact List.Perm.refl _
  | cons y ys ih =>
    simp only [insT]
    split
    · exact List.Perm.refl _
    · exact (List.Perm.cons y ih).trans (List.Perm.swap x y ys)
theorem sortT_perm (xs : List Txt) : (sortT xs).Perm xs := by
  induction xs with
  | nil => exact List.Perm.refl _
  | cons x xs ih => exact (insT_perm x _).trans (List.Perm.cons x ih)
theorem insT_sorted {x : Txt} {xs : List Txt} (h : xs.Pairwise (fun a b => txtLe a b = true)) : (insT x xs).Pairwise (fun a b => txtLe a b = true) := by
  induction xs with
  | nil => simp [insT]
  | cons y ys ih =>
    have h0 := h
    rw [List.pairwise_cons] at h
    simp only [insT]
    split
    · rename_i c
      refine List.pairwise_cons.mpr ⟨fun z hz => ?_, h0⟩
      rcases List.mem_cons.mp hz with e | e
      · rw [e]; exact c
      · exact le_tr c (h.1 z e)
    · rename_i c
      refine List.pairwise_cons.mpr ⟨fun z hz => ?_, ih h.2⟩
      rcases List.mem_cons.mp ((insT_perm x ys).mem_iff.mp hz) with e | e
      · rw [e]; exact (le_tot x y).resolve_left c
      · exact h.1 z e
theorem sortT_sorted (xs : List Txt) : (sortT xs).Pairwise (fun a b => txtLe a b = true) := by
  induction xs with
  | nil => exact .nil
  | cons x xs ih => exact insT_sorted ih
theorem rising_chain : ∀ (p : Str) (r : List Str), risingS p r = true → ((p :: r).map (fun z => z.cps.toList)).Pairwise (fun a b => txtLe a b = true)
  | p, [], _ => by simp
  | p, x :: r, h => by
    simp only [risingS, Bool.and_eq_true] at h
    have ih := rising_chain x r h.2
    rw [List.map_cons, List.pairwise_cons]
    refine ⟨fun z hz => ?_, ih⟩
    rw [List.map_cons, List.pairwise_cons] at ih
    rcases List.mem_cons.mp hz with e | e
    · rw [e]; exact h.1
    · exact le_tr h.1 (ih.1 z e)
theorem sortT_eq {xs : List Txt} {ys : List Str} (p : ys.Perm (xs.map tx)) (h : sortedS ys = true) : ys = (sortT xs).map tx := by
  have e1 : ys.map (fun z => z.cps.toList) = sortT xs := by
    refine uniq_of (fun a b => le_anti) ?_ ?_ (sortT_sorted xs)
    · have q := p.map (fun z : Str => z.cps.toList)
      rw [List.map_map] at q
      have e : (fun z : Str => z.cps.toList) ∘ tx = id := by
        funext z
        simp [tx]
      rw [e, List.map_id] at q
      exact q.trans (sortT_perm xs).symm
    · cases ys with
      | nil => exact .nil
      | cons y ys => exact rising_chain y ys h
  rw [← e1, List.map_map]
  have e : tx ∘ (fun z : Str => z.cps.toList) = id := by
    funext z
    simp [tx]
  rw [e, List.map_id]
theorem joinT_eq (sep : Txt) : ∀ ts : List Txt, joinT sep ts = TL.joinL sep ts
  | [] => rfl
  | [_] => rfl
  | x :: y :: ts => by
    show x ++ (sep ++ joinT sep (y :: ts)) = _
    rw [joinT_eq sep (y :: ts)]
    rfl

/-! ### the built-in functions, methods -/
theorem sgn_tx (x : Txt) : sgn (tx x) = (x.map fun c => [c]).map tx := by simp [sgn, tx]
theorem sgn_rel (x : Txt) : RelWs g.K m H (signs x) ((sgn (tx x)).map V.str) := by
  rw [sgn_tx]
  have := rels_txt (g := g) (m := m) (H := H) (x.map fun c => [c])
  rw [List.map_map] at this
  exact this
theorem tx_inj {a b : Txt} (h : tx a = tx b) : a = b := by
  have := congrArg (fun z : Str => z.cps.toList) h
  simpa [tx] using this
theorem dedup_mem {α : Type} [DecidableEq α] {a : α} : ∀ {l : List α}, a ∈ dedup l ↔ a ∈ l
  | [] => Iff.rfl
  | x :: l => by
    unfold dedup
    have ih := dedup_mem (a := a) (l := l)
    split
    · rename_i hx
      rw [ih, List.mem_cons]
      constructor
      · exact .inr
      · rintro (rfl | h)
        · exact dedup_mem.mp hx
        · exact h
    · rw [List.mem_cons, List.mem_cons, ih]
theorem dedup_nodup {α : Type} [DecidableEq α] : ∀ l : List α, (dedup l).Nodup
  | [] => .nil
  | x :: l => by
    unfold dedup
    split
    · exact dedup_nodup l
    · rename_i hx
      exact List.nodup_cons.mpr ⟨hx, dedup_nodup l⟩
theorem one_of {xs : List V} {as : List W} {a : W} (r : RelWs g.K m H [a] xs) : ∃ x, xs = [x] ∧ RelW g.K m H a x := by
  cases r with
  | cons h hr => cases hr; exact ⟨_, rfl, h⟩
def biV : Bi → Value
  | .len => .builtin "len" | .absf => .builtin "abs" | .maxf => .builtin "max" | .minf => .builtin "min" | .allf => .builtin "all" | .anyf => .builtin "any" | .sortedf => .builtin "sorted" | .reprf => .builtin "repr" | .sumf => .builtin "sum"
  | .intf => .type "int" | .listf => .type "list" | .tuplef => .type "tuple" | .strf => .type "str" | .boolf => .type "bool"
theorem cr_ok (hc : X.calm = true) (b : Bi) : CallR X (biV b) (rOs (T.g X) Xw (callB b)) := by
  intro pins s σ H xs us Q I r h
  obtain ⟨σ', m, L, as, S, ra, h⟩ := h
  cases b with
  | len =>
    cases as with
    | nil => exact False.elim h
    | cons a as =>
      cases as with
      | cons a2 as => cases a <;> exact False.elim h
      | nil =>
        obtain ⟨x, rfl, rx⟩ := one_of (as := []) ra
        have key : ∀ ws, itemsOf L a = some ws → run (T.g X) Xw σ' (RelW X.K) (ret (.int ws.length)) m H L Q → wpAny (model X.prog X.w) X.A (call (biV .len) us) (EP X pins σ Q) X.xe s := fun ws e h => by
          obtain ⟨p, zs, rfl, hs, hr⟩ := S.items rx e
          refine call_len pins s σ H _ us Q I r ⟨_, zs.length, rfl, ?_, ?_⟩
          · rcases hs with hs | hs
            · exact .inl ⟨zs, hs, rfl⟩
            · exact .inr ⟨zs, sqT hs, rfl⟩
          · rw [← hr.length]; exact run_val h S (.int _)
        cases a with
        | str z =>
          cases rx
          rcases run_if h with ⟨c, h⟩ | ⟨_, h⟩
          · exact call_len pins s σ H _ us Q I r ⟨_, z.length, rfl, ⟨by rw [str_len]; exact lenOk_le c, (str_len z).symm⟩, run_val h S (.int _)⟩
          · exact h.elim
        | tup ws => exact key ws rfl h
        | ref l =>
          have h : run (T.g X) Xw σ' (RelW X.K) (match itemsOf L (.ref l) with
            | some ws => ret (.int ws.length)
            | none => fail) m H L Q := h
          split at h
          · rename_i ws e; exact key ws e h
          · exact h.elim
        | _ => exact False.elim h
  | intf =>
    cases as with
    | nil => exact False.elim h
    | cons a as =>
      cases as with
      | cons a2 as => cases a <;> exact False.elim h
      | nil =>
        obtain ⟨x, rfl, rx⟩ := one_of (as := []) ra
        cases a <;> try exact False.elim h
        · cases rx; exact call_int1 pins s σ H _ us Q I r (.inr ⟨_, rfl, run_val h S (.int _)⟩)
        · cases rx; exact call_int1 pins s σ H _ us Q I r (.inl ⟨_, rfl, run_val h S (.int _)⟩)
  | allf =>
    cases as with
    | nil => exact False.elim h
    | cons a as =>
      cases as with
      | cons a2 as => cases a <;> exact False.elim h
      | nil =>
        cases a <;> try exact False.elim h
        rename_i l
        obtain ⟨x, rfl, rx⟩ := one_of (as := []) ra
        have h : run (T.g X) Xw σ' (RelW X.K) (match (itemsOf L (.ref l)).bind fun ws => ws.mapM blOf with
          | some bs => ret (.bl (bs.all id))
          | none => fail) m H L Q := h
        split at h
        · rename_i bs e
          obtain ⟨ws, e1, e2⟩ := Option.bind_eq_some_iff.mp e
          cases rx with
          | ref hl =>
            obtain ⟨zs, hs, hr⟩ := S.itemsL hl e1
            have ez := rel_bl e2 hr
            subst ez
            exact cr_all hc pins s σ H _ us Q I r ⟨_, bs, rfl, hs, run_val h S (.bl _)⟩
        · exact h.elim
  | anyf =>
    cases as with
    | nil => exact False.elim h
    | cons a as =>
      cases as with
      | cons a2 as => cases a <;> exact False.elim h
      | nil =>
        cases a <;> try exact False.elim h
        rename_i l
        obtain ⟨x, rfl, rx⟩ := one_of (as := []) ra
        have h : run (T.g X) Xw σ' (RelW X.K) (match (itemsOf L (.ref l)).bind fun ws => ws.mapM blOf with
          | some bs => ret (.bl (bs.any id))
          | none => fail) m H L Q := h
        split at h
        · rename_i bs e
          obtain ⟨ws, e1, e2⟩ := Option.bind_eq_some_iff.mp e
          cases rx with
          | ref hl =>
            obtain ⟨zs, hs, hr⟩ := S.itemsL hl e1
            have ez := rel_bl e2 hr
            subst ez
            exact cr_any hc pins s σ H _ us Q I r ⟨_, bs, rfl, hs, run_val h S (.bl _)⟩
        · exact h.elim
  | listf =>
    cases as with
    | nil => exact False.elim h
    | cons a as =>
      cases as with
      | cons a2 as => cases a <;> exact False.elim h
      | nil =>
        obtain ⟨x, rfl, rx⟩ := one_of (as := []) ra
        by_cases hs : ∃ z, a = .str z
        · obtain ⟨z, rfl⟩ := hs
          cases rx
          rcases run_if h with ⟨c, h⟩ | ⟨_, h⟩
          · exact cr_listTxt hc pins s σ H _ us Q I r ⟨_, rfl, by simpa using lenOk_le c, fun p hp => run_new h S (sgn_rel z) hp⟩
          · exact h.elim
        have h : run (T.g X) Xw σ' (RelW X.K) (match itemsOf L a with
          | some ws => alloc (.lst ws)
          | none => fail) m H L Q := by
          cases a <;> first | exact h | exact absurd ⟨_, rfl⟩ hs
        split at h
        · rename_i ws e
          obtain ⟨p, zs, rfl, hs, hr⟩ := S.items rx e
          exact call_list_of pins s σ H _ us Q I r ⟨p, zs, rfl, hs.imp id sqT, fun l hl => run_new h S hr hl⟩
        · exact h.elim
  | tuplef =>
    cases as with
    | nil => exact False.elim h
    | cons a as =>
      cases as with
      | cons a2 as => cases a <;> exact False.elim h
      | nil =>
        obtain ⟨x, rfl, rx⟩ := one_of (as := []) ra
        by_cases hs : ∃ z, a = .str z
        · obtain ⟨z, rfl⟩ := hs
          cases rx
          rcases run_if h with ⟨c, h⟩ | ⟨_, h⟩
          · exact cr_tupleTxt hc pins s σ H _ us Q I r ⟨_, rfl, by simpa using lenOk_le c, fun p hp => run_tup h S (sgn_rel z) hp⟩
          · exact h.elim
        have h : run (T.g X) Xw σ' (RelW X.K) (match itemsOf L a with
          | some ws => ret (.tup ws)
          | none => fail) m H L Q := by
          cases a <;> first | exact h | exact absurd ⟨_, rfl⟩ hs
        split at h
        · rename_i ws e
          obtain ⟨p, zs, rfl, hs, hr⟩ := S.items rx e
          refine call_tuple_of pins s σ H _ us Q I r ⟨p, zs, rfl, ?_⟩
          rcases hs with hs | hs
          · exact .inl ⟨hs, fun l hl => run_tup h S hr hl⟩
          · exact .inr ⟨sqT hs, run_val h S (.tup hs hr)⟩
        · exact h.elim
  | sortedf =>
    cases as with
    | nil => exact False.elim h
    | cons a as =>
      cases as with
      | cons a2 as => cases a <;> exact False.elim h
      | nil =>
        obtain ⟨x, rfl, rx⟩ := one_of (as := []) ra
        by_cases hs : ∃ z, a = .str z
        · obtain ⟨z, rfl⟩ := hs
          cases rx
          rcases run_if h with ⟨c, h⟩ | ⟨_, h⟩
          · refine cr_sortedTxt hc pins s σ H _ us Q I r ⟨_, rfl, by simpa using lenOk_le c, fun ys p perm srt hp => ?_⟩
            have perm : ys.Perm ((z.map fun c => [c]).map tx) := by rw [← sgn_tx]; exact perm
            rw [sortT_eq perm srt]
            exact run_new h S (rels_txt _) hp
          · exact h.elim
        by_cases hs2 : ∃ z, a = .tup z
        · obtain ⟨ws, rfl⟩ := hs2
          have h : run (T.g X) Xw σ' (RelW X.K) (match ws.mapM intOf with
            | some is => alloc (.lst ((sortI is).map .int))
            | none => fail) m H L Q := h
          cases rx with
          | tup ht hr =>
            split at h
            · rename_i is e2
              have ez := rel_int e2 hr
              subst ez
              refine cr_sortedIT pins s σ H _ us Q I r ⟨_, is, rfl, sqT ht, fun ns' p perm srt hp => ?_⟩
              rw [sortI_eq perm srt]
              exact run_new h S (rels_int _) hp
            · exact h.elim
        cases a <;> try first | exact False.elim h | exact absurd ⟨_, rfl⟩ hs | exact absurd ⟨_, rfl⟩ hs2
        rename_i l
        have h : run (T.g X) Xw σ' (RelW X.K) (match itemsOf L (.ref l) with
          | some ws => (match ws.mapM intOf with
            | some is => alloc (.lst ((sortI is).map .int))
            | none => (match ws.mapM txtOf with
              | some ts => if decide (ts.length < 64) then alloc (.lst ((sortT ts).map .str)) else fail
              | none => fail))
          | none => fail) m H L Q := h
        split at h
        · rename_i ws e
          cases rx with
          | ref hl =>
            obtain ⟨zs, hs, hr⟩ := S.itemsL hl e
            split at h
            · rename_i is e2
              have ez := rel_int e2 hr
              subst ez
              refine cr_sortedI pins s σ H _ us Q I r ⟨_, is, rfl, hs, fun ns' p perm srt hp => ?_⟩
              rw [sortI_eq perm srt]
              exact run_new h S (rels_int _) hp
            · split at h
              · rename_i ts e2
                have ez := rel_txt e2 hr
                subst ez
                rcases run_if h with ⟨c, h⟩ | ⟨_, h⟩
                · refine cr_sortedS pins s σ H _ us Q I r ⟨_, ts.map tx, rfl, hs, by rw [List.length_map]; exact of_decide_eq_true c, fun ys p perm srt hp => ?_⟩
                  rw [sortT_eq perm srt]
                  exact run_new h S (rels_txt _) hp
                · exact h.elim
              · exact h.elim
        · exact h.elim
  | strf =>
    cases as with
    | nil => exact False.elim h
    | cons a as =>
      cases as with
      | cons a2 as => cases a <;> exact False.elim h
      | nil =>
        obtain ⟨x, rfl, rx⟩ := one_of (as := []) ra
        cases a <;> try exact False.elim h
        · rename_i i
          cases rx
          rcases run_if h with ⟨c, h⟩ | ⟨_, h⟩
          · exact call_str_int pins s σ H _ us Q I r ⟨i, rfl, of_decide_eq_true c, run_val h S (.str _)⟩
          · exact h.elim
        · cases rx
          exact SkE.call_str_str pins s σ H _ us Q I r ⟨_, rfl, run_val h S (.str _)⟩
  | absf =>
    cases as with
    | nil => exact False.elim h
    | cons a as =>
      cases as with
      | cons a2 as => cases a <;> exact False.elim h
      | nil =>
        obtain ⟨x, rfl, rx⟩ := one_of (as := []) ra
        cases a <;> try exact False.elim h
        cases rx
        exact call_abs pins s σ H _ us Q I r ⟨_, rfl, run_val h S (.int _)⟩
  | minf =>
    cases as with
    | nil => exact False.elim h
    | cons a as =>
      cases as with
      | nil => cases a <;> exact False.elim h
      | cons a2 as =>
        cases as with
        | cons a3 as => cases a <;> cases a2 <;> exact False.elim h
        | nil =>
          cases ra with
          | cons r1 r2 =>
            obtain ⟨y, rfl, ry⟩ := one_of (as := []) r2
            cases a <;> cases a2 <;> try exact False.elim h
            cases r1; cases ry
            exact call_min2 hc pins s σ H _ us Q I r ⟨_, _, rfl, run_val h S (.int _)⟩
  | maxf =>
    cases as with
    | nil => exact False.elim h
    | cons a as =>
      cases as with
      | nil => cases a <;> exact False.elim h
      | cons a2 as =>
        cases as with
        | cons a3 as => cases a <;> cases a2 <;> exact False.elim h
        | nil =>
          cases ra with
          | cons r1 r2 =>
            obtain ⟨y, rfl, ry⟩ := one_of (as := []) r2
            cases a <;> cases a2 <;> try exact False.elim h
            cases r1; cases ry
            exact call_max2 hc pins s σ H _ us Q I r ⟨_, _, rfl, run_val h S (.int _)⟩
  | _ =>
    cases as with
    | nil => exact False.elim h
    | cons a as => cases a <;> cases as <;> exact False.elim h
end
end Dx

set_option maxRecDepth 100000
set_option maxHeartbeats 4000000
/-! Dx6b: methods of texts and lists, isinstance, comprehensions: by values. -/
namespace Dx
open PySem PySem.Spec PyProof.Rows L2
section
variable {T : Tab} {X : Cx} {Xw : XW} {g : G} {m : List Addr} {L : Hh} {H : Hp} {σ : L2.St}
theorem rels_strs {K : PySem.W.Frag} {m : List Addr} {H : Hp} : ∀ ys : List Str, RelWs K m H (ys.map fun z => .str z.cps.toList) (ys.map V.str)
  | [] => .nil
  | ⟨z⟩ :: ys => .cons (by
      have e : (⟨z⟩ : Str) = ⟨z.toList.toArray⟩ := by simp
      show RelW K m H (.str z.toList) (.str ⟨z⟩)
      rw [e]
      exact .str _) (rels_strs ys)
/-! ### methods -/
def bmT : Bm → String
  | .append => "list" | .pop => "list" | _ => "str"
def bmId : Bm → String
  | .join => "str.join" | .append => "list.append" | .islower => "str.islower" | .isalpha => "str.isalpha" | .pop => "list.pop" | .find => "str.find" | .startswith => "str.startswith" | .endswith => "str.endswith" | .split => "str.split" | .indexs => "str.index"
  | _ => ""
theorem bm_slot {b : Bm} (h : bmOk b = true) : PlainAttrs (bmT b) ∧ Slot (bmT b) (bmName b) (bmId b) ∧ typeOf (.builtin (bmId b)) = pure (.type "method_descriptor") := by
  cases b with
  | join => exact ⟨F.plainAttrs_str, F.slot_str_join, F.type_str_join⟩
  | append => exact ⟨F.plainAttrs_list, F.slot_list_append, F.type_list_append⟩
  | islower => exact ⟨F.plainAttrs_str, F.slot_str_islower, F.type_str_islower⟩
  | isalpha => exact ⟨F.plainAttrs_str, F.slot_str_isalpha, F.type_str_isalpha⟩
  | pop => exact ⟨F.plainAttrs_list, F.slot_list_pop, F.type_list_pop⟩
  | find => exact ⟨F.plainAttrs_str, F.slot_str_find, F.type_str_find⟩
  | startswith => exact ⟨F.plainAttrs_str, F.slot_str_startswith, F.type_str_startswith⟩
  | endswith => exact ⟨F.plainAttrs_str, F.slot_str_endswith, F.type_str_endswith⟩
  | split => exact ⟨F.plainAttrs_str, F.slot_str_split, F.type_str_split⟩
  | indexs => exact ⟨F.plainAttrs_str, F.slot_str_index, F.type_str_index⟩
  | _ => cases h
theorem rcv_ty {b : Bm} {w : W} {v : V} (S : Sim g m L H) (r : RelW g.K m H w v) (h : rcvOk L b w = true) : tyV g.K (bmT b) v H := by
  cases w with
  | str x => cases r; cases b <;> first | rfl | cases h
  | ref l =>
    cases r with
    | ref hl =>
      have key : (itemsOf L (.ref l)).isSome = true → ∃ xs, SqL g.K H _ xs := fun q => by
        obtain ⟨ws, e⟩ := Option.isSome_iff_exists.mp q
        obtain ⟨xs, h1, _⟩ := S.itemsL hl e
        exact ⟨xs, h1⟩
      cases b <;> first | exact .inl ⟨rfl, key h⟩ | cases h
  | _ => cases b <;> cases h
theorem mt_ok (b : Bm) : MtR X (bmId b) (rMs (T.g X) Xw (callM b)) := by
  intro pins s σ H x xs v us Q I rx rs h
  obtain ⟨σ', m, L, a, as, S, ra, ras, h⟩ := h
  cases b with
  | indexs =>
    cases a <;> try exact False.elim h
    rename_i t1
    cases as with
    | nil => exact False.elim h
    | cons w as =>
      cases as with
      | cons _ _ => cases w <;> exact False.elim h
      | nil =>
        cases w <;> try exact False.elim h
        rename_i t2
        cases ra
        cases ras with
        | cons r0 rr =>
          cases rr
          cases r0
          have h : run (T.g X) Xw σ' (RelW X.K) (match PySem.Txt.index0 ⟨t1.toArray⟩ ⟨t2.toArray⟩ with
            | some k => ret (.int (k : Nat))
            | none => fail) m H L Q := h
          obtain ⟨tk, rfl⟩ := rx
          cases rs with
          | cons r1 rs =>
            cases rs
            obtain ⟨tk2, rfl⟩ := r1
            cases q : Builtin.Str.occurrences (⟨t1.toArray⟩ : Str) ⟨t2.toArray⟩ 0 (⟨t1.toArray⟩ : Str).length 1 with
            | nil =>
              have e : PySem.Txt.index0 (⟨t1.toArray⟩ : Str) ⟨t2.toArray⟩ = none := by unfold Txt.index0; rw [q] <;> rfl
              rw [e] at h
              exact h.elim
            | cons k rest =>
              have e : PySem.Txt.index0 (⟨t1.toArray⟩ : Str) ⟨t2.toArray⟩ = some k := by unfold Txt.index0; rw [q] <;> rfl
              rw [e] at h
              exact PySem.SC.index q ⟨.int (k : Nat), H, I.tok _, ⟨_, rfl⟩, run_val h S (.int _)⟩
  | islower =>
    cases a <;> try exact False.elim h
    cases as with
    | cons _ _ => exact False.elim h
    | nil =>
      cases ra; cases ras
      exact mt_islower pins s σ H _ [] v us Q I rx rs ⟨_, rfl, rfl, trivial, run_val h S (.bl _)⟩
  | isalpha =>
    cases a <;> try exact False.elim h
    cases as with
    | cons _ _ => exact False.elim h
    | nil =>
      cases ra; cases ras
      exact mt_isalpha pins s σ H _ [] v us Q I rx rs ⟨_, rfl, rfl, trivial, run_val h S (.bl _)⟩
  | append =>
    cases a <;> try exact False.elim h
    rename_i l
    cases as with
    | nil => exact False.elim h
    | cons w as =>
      cases as with
      | cons _ _ => exact False.elim h
      | nil =>
        obtain ⟨y, rfl, ry⟩ := one_of (as := []) ras
        cases ra with
        | ref hl =>
          have h : run (T.g X) Xw σ' (RelW X.K) (match L[l]? with
            | some (.lst ws) => if decide (ws.length < sizeLine) then bnd (put l (.lst (ws ++ [w]))) fun _ => ret .non else fail
            | _ => fail) m H L Q := h
          split at h
          · rename_i ws e
            rcases run_if h with ⟨c, h⟩ | ⟨_, h⟩
            · obtain ⟨zs, h1, r1⟩ := S.lst hl e
              refine mt_append pins s σ H _ _ v us Q I rx rs ⟨_, zs, y, rfl, rfl, h1, by rw [← r1.length]; exact of_decide_eq_true c, ?_⟩
              obtain ⟨e1, S1⟩ := S.put (o' := .lst (ws ++ [w])) (u := .lst (zs ++ [y])) hl e rfl fun e1 => ⟨_, upd_same, (r1.append (.one ry)).mono e1⟩
              exact h _ _ _ e1 S1 .non
            · exact h.elim
          · exact h.elim
  | join =>
    cases a <;> try exact False.elim h
    rename_i sep
    cases as with
    | nil => exact False.elim h
    | cons w as =>
      cases as with
      | cons _ _ => exact False.elim h
      | nil =>
        obtain ⟨y, rfl, ry⟩ := one_of (as := []) ras
        cases ra
        have h : run (T.g X) Xw σ' (RelW X.K) (match (itemsOf L w).bind fun ws => ws.mapM txtOf with
          | some ts => if decide ((ts.map List.length).sum + ts.length * sep.length ≤ 16777216) then ret (.str (joinT sep ts)) else fail
          | none => fail) m H L Q := h
        split at h
        · rename_i ts e
          rcases run_if h with ⟨c, h⟩ | ⟨_, h⟩
          · obtain ⟨ws, e1, e2⟩ := Option.bind_eq_some_iff.mp e
            obtain ⟨p, zs, rfl, hs, hr⟩ := S.items ry e1
            have ez := rel_txt e2 hr
            subst ez
            have c := of_decide_eq_true c
            refine mt_join pins s σ H _ _ v us Q I rx rs ⟨_, p, ts.map tx, rfl, rfl, hs.imp id sqT, ?_, ?_⟩
            · have e3 : (ts.map tx).map (·.length) = ts.map List.length := SX.lens ts
              rw [e3, List.length_map, str_len]
              exact c
            · have e4 : Txt.join (⟨sep.toArray⟩ : Str) (ts.map tx) = ⟨(joinT sep ts).toArray⟩ := by rw [joinT_eq]; exact SX.join_S sep ts
              rw [e4]
              exact run_val h S (.str _)
          · exact h.elim
        · exact h.elim
  | pop =>
    cases a <;> try exact False.elim h
    rename_i l
    cases as with
    | cons _ _ => exact False.elim h
    | nil =>
      cases ras
      cases ra with
      | ref hl =>
        have h : run (T.g X) Xw σ' (RelW X.K) (match L[l]? with
          | some (.lst ws) => (match ws.getLast? with
            | some w => bnd (put l (.lst ws.dropLast)) fun _ => ret w
            | none => fail)
          | _ => fail) m H L Q := h
        split at h
        · rename_i ws e
          split at h
          · rename_i w ew
            obtain ⟨zs, h1, r1⟩ := S.lst hl e
            rw [List.getLast?_eq_getElem?] at ew
            obtain ⟨y, ey, ry⟩ := r1.get ew
            refine mt_pop pins s σ H _ [] v us Q I rx rs ⟨_, zs, y, rfl, rfl, h1, by rw [← r1.length]; exact ey, ?_⟩
            obtain ⟨e1, S1⟩ := S.put (o' := .lst ws.dropLast) (u := .lst zs.dropLast) hl e rfl fun e1 => ⟨_, upd_same, r1.dropLast.mono e1⟩
            exact h _ _ _ e1 S1 (ry.mono e1)
          · exact h.elim
        · exact h.elim
  | find =>
    cases a <;> try exact False.elim h
    cases as with
    | nil => exact False.elim h
    | cons w as =>
      cases as with
      | cons _ _ => cases w <;> exact False.elim h
      | nil =>
        cases w <;> try exact False.elim h
        obtain ⟨y, rfl, ry⟩ := one_of (as := []) ras
        cases ra; cases ry
        exact mt_find pins s σ H _ _ v us Q I rx rs ⟨_, _, rfl, rfl, run_val h S (.int _)⟩
  | split =>
    cases a <;> try exact False.elim h
    cases as with
    | nil => exact False.elim h
    | cons w as =>
      cases as with
      | cons _ _ => cases w <;> exact False.elim h
      | nil =>
        cases w <;> try exact False.elim h
        rename_i t1 t2
        obtain ⟨y, rfl, ry⟩ := one_of (as := []) ras
        cases ra; cases ry
        have h : run (T.g X) Xw σ' (RelW X.K) (if (decide (t1.length + 2 ≤ sizeLine) && !t2.isEmpty) = true then alloc (.lst ((PySem.Txt.split ⟨t1.toArray⟩ ⟨t2.toArray⟩).map fun z => .str z.cps.toList)) else fail) m H L Q := h
        rcases run_if h with ⟨c, h⟩ | ⟨_, h⟩
        · simp only [Bool.and_eq_true, decide_eq_true_eq, Bool.not_eq_true'] at c
          refine mt_split pins s σ H _ _ v us Q I rx rs ⟨_, _, rfl, rfl, ?_, ?_, fun p hp => run_new h S (rels_strs _) hp⟩
          · have e := c.2
            cases t2 with
            | nil => cases e
            | cons a b => rfl
          · have e : (⟨t1.toArray⟩ : Str).length = t1.length := by show t1.toArray.size = _; simp
            rw [e]
            exact c.1
        · exact h.elim
  | startswith =>
    cases a <;> try exact False.elim h
    cases as with
    | nil => exact False.elim h
    | cons w as =>
      cases as with
      | cons _ _ => cases w <;> exact False.elim h
      | nil =>
        cases w <;> try exact False.elim h
        obtain ⟨y, rfl, ry⟩ := one_of (as := []) ras
        cases ra; cases ry
        exact mt_startswith pins s σ H _ _ v us Q I rx rs ⟨_, _, rfl, rfl, run_val h S (.bl _)⟩
  | endswith =>
    cases a <;> try exact False.elim h
    cases as with
    | nil => exact False.elim h
    | cons w as =>
      cases as with
      | cons _ _ => cases w <;> exact False.elim h
      | nil =>
        cases w <;> try exact False.elim h
        obtain ⟨y, rfl, ry⟩ := one_of (as := []) ras
        cases ra; cases ry
        exact mt_endswith pins s σ H _ _ v us Q I rx rs ⟨_, _, rfl, rfl, run_val h S (.bl _)⟩
  | _ => cases a <;> cases as <;> exact False.elim h
/-! ### isinstance -/
theorem kit_nm : ∀ a ∈ nmAll, ∀ b ∈ tyNames, kitB a b = some (a == b || (a == "bool" && b == "int")) := by decide +kernel
theorem boot_nm : ∀ b ∈ tyNames, bootBuiltins (Str.ofString b) = some (.type b) := by decide +kernel
theorem ty_ne : ∀ b ∈ tyNames, Str.ofString b ≠ ("__name__" : Str) ∧ (Str.ofString b == ("__debug__" : Str)) = false := by decide +kernel
theorem tyx_of {w : W} {v : V} {a : String} (S : Sim g m L H) (r : RelW g.K m H w v) (e : typeNm L w = some a) : TyX g.K H v (.type a) ∧ a ∈ nmAll := by
  cases w with
  | non => cases r; cases e; exact ⟨.base .non, by decide⟩
  | bl b => cases r; cases e; exact ⟨.base (.bl _), by decide⟩
  | int i => cases r; cases e; exact ⟨.base (.int _), by decide⟩
  | str x => cases r; cases e; exact ⟨.base (.str _), by decide⟩
  | tup ws =>
    cases e
    refine ⟨?_, by decide⟩
    cases r with
    | tup h hr =>
      exact .base (.tup h)
  | ref l =>
    cases r with
    | @ref _ p hl =>
      have e : (match L[l]? with
        | some (.lst _) => some "list"
        | some (.ro _) => some "list"
        | some (.dct _ _) => some "dict"
        | _ => none) = some a := e
      split at e
      · rename_i ws ew
        cases e
        obtain ⟨xs, h, _⟩ := S.ob l p _ hl ew
        exact ⟨.base (.lst h), by decide⟩
      · rename_i ws ew
        cases e
        obtain ⟨o, xs, h, _⟩ := S.ob l p _ hl ew
        exact ⟨.base (.frz h), by decide⟩
      · rename_i tt kvs ew
        cases e
        refine ⟨?_, by decide⟩
        cases tt
        · obtain ⟨qs, h, _⟩ := S.ob l p _ hl ew
          exact .base (.dK h)
        · obtain ⟨qs, h, _⟩ := S.ob l p _ hl ew
          exact .base (.dT h)
      · cases e
  | exn c fs => cases e
  | clo k cs => cases e
  | scr ws => cases e

/-! ### comprehensions -/
theorem wipe_get {σ : L2.St} {i : Nat} : ∀ vs : List Nat, (wipe σ vs)[i]? = if i ∈ vs then (if i < σ.length then some none else none) else σ[i]?
  | [] => by simp [wipe]
  | v :: vs => by
    unfold wipe
    by_cases hv : v = i
    · subst hv
      rw [if_pos (by simp)]
      split
      · exact List.getElem?_set_self (by rw [wipe_length]; assumption)
      · rename_i h
        rw [List.getElem?_eq_none (by rw [List.length_set, wipe_length]; omega)]
    · rw [List.getElem?_set_ne hv, wipe_get vs]
      have : (i ∈ v :: vs) ↔ i ∈ vs := by simp [Ne.symm hv]
      simp only [this]
theorem wipeF_length (ρ : Fr) : ∀ vs : List Nat, (wipeF ρ vs).length = ρ.length
  | [] => rfl
  | v :: vs => by unfold wipeF; rw [List.length_set, wipeF_length ρ vs]
theorem wipeF_get {ρ : Fr} {i : Nat} : ∀ vs : List Nat, (wipeF ρ vs)[i]? = if i ∈ vs then (if i < ρ.length then some none else none) else ρ[i]?
  | [] => by simp [wipeF]
  | v :: vs => by
    unfold wipeF
    by_cases hv : v = i
    · subst hv
      rw [if_pos (by simp)]
      split
      · exact List.getElem?_set_self (by rw [wipeF_length]; assumption)
      · rename_i h
        rw [List.getElem?_eq_none (by rw [List.length_set, wipeF_length]; omega)]
    · rw [List.getElem?_set_ne hv, wipeF_get vs]
      have : (i ∈ v :: vs) ↔ i ∈ vs := by simp [Ne.symm hv]
      simp only [this]
theorem RelF.wipe {K : PySem.W.Frag} {ρ : Fr} (F : RelF K m H ρ σ) (vs : List Nat) : RelF K m H (wipeF ρ vs) (wipe σ vs) := by
  refine ⟨by rw [wipeF_length, wipe_length, F.len], fun i w h => ?_⟩
  rw [wipeF_get] at h
  rw [wipe_get]
  split at h
  · split at h <;> cases h
  · rename_i hv
    rw [if_neg hv]
    exact F.at_ i w h
theorem wipe_same {σ2 : L2.St} {vs : List Nat} (hl : σ2.length = σ.length) (h : ∀ i, i ∉ vs → σ2[i]? = (L2.wipe σ vs)[i]?) : L2.wipe σ2 vs = L2.wipe σ vs := by
  refine List.ext_getElem? fun i => ?_
  rw [wipe_get, wipe_get, hl]
  split
  · rfl
  · rename_i hv
    have := h i hv
    rw [wipe_get, if_neg hv] at this
    exact this
theorem run_noX {α β : Type} {R : List Addr → Hp → α → β → Prop} {Q : β → Hp → Prop} {Xw' : XW} {σ' : L2.St} {c : M α} (h : run g Xw σ R (noX c) m H L Q) : run g Xw' σ' R c m H L Q := by
  unfold run at h ⊢
  rw [wp_noX] at h
  exact wp_mono h (fun _ _ q => q) fun _ _ q => q.elim
/-- what a source's item is, statically -/
theorem run_bnd_at {α γ β δ : Type} {R : List Addr → Hp → α → β → Prop} {R' : List Addr → Hp → γ → δ → Prop} {Q : β → Hp → Prop} {c : M γ} {f : γ → M α} {w : γ} {L1 : Hh} (h : run g Xw σ R (bnd c f) m H L Q) (e : c L = .ok w L1) :
    run g Xw σ R' c m H L (fun d H1 => ∃ m1, Ext m H m1 H1 ∧ Sim g m1 L1 H1 ∧ R' m1 H1 w d ∧ run g Xw σ R (f w) m1 H1 L1 Q) := by
  unfold run at h ⊢
  rw [wp_bnd] at h
  have hx := h
  unfold wp at h ⊢
  rw [e] at h ⊢
  intro m1 H1 b e1 s1 r1
  refine ⟨m1, e1, s1, r1, ?_⟩
  exact wp_mono h (fun _ _ q m' H' b e' s r => q m' H' b (e1.trans e') s r) fun _ _ q m' H' cls d e' s r => q m' H' cls d (e1.trans e') s r
theorem run_bnd_ex {α γ β δ : Type} {R : List Addr → Hp → α → β → Prop} {R' : List Addr → Hp → γ → δ → Prop} {Q : β → Hp → Prop} {Q' : δ → Hp → Prop} {c : M γ} {f : γ → M α} {w : W} {L1 : Hh} (h : run g Xw σ R (bnd c f) m H L Q) (e : c L = .exc w L1) :
    run g Xw σ R' c m H L Q' := by
  unfold run at h ⊢
  rw [wp_bnd] at h
  unfold wp at h ⊢
  rw [e] at h ⊢
  exact h
theorem run_bnd_bad {α γ β : Type} {R : List Addr → Hp → α → β → Prop} {Q : β → Hp → Prop} {c : M γ} {f : γ → M α} (h : run g Xw σ R (bnd c f) m H L Q) (e : c L = .bad) : False := by
  unfold run at h
  rw [wp_bnd] at h
  unfold wp at h
  rw [e] at h
  exact h
end
end Dx

set_option maxRecDepth 100000
set_option maxHeartbeats 4000000
/-! Dx6c: fields of instances, by values. -/
namespace Dx
open PySem PySem.Spec PyProof.Rows L2
section
variable {T : Tab} {X : Cx} {Xw : XW} {g : G} {m : List Addr} {L : Hh} {H : Hp} {σ : L2.St}
theorem getD_inj {FN : List Str} (nd : FN.Nodup) {i j : Nat} (hi : i < FN.length) (hj : j < FN.length) (h : FN.getD i Str.empty = FN.getD j Str.empty) : i = j := by
  rw [List.getD_eq_getElem?_getD, List.getD_eq_getElem?_getD, List.getElem?_eq_getElem hi, List.getElem?_eq_getElem hj] at h
  exact (List.getElem_inj nd).mp h
theorem lk_fld {K : PySem.W.Frag} {FN : List Str} (nd : FN.Nodup) {f : Nat} (hf : f < FN.length) : ∀ {fs : List (Nat × W)} {qs : List (Str × V)}, qs.map (·.1) = fs.map (fun p => FN.getD p.1 Str.empty) → (∀ p ∈ fs, p.1 < FN.length) → RelWs K m H (fs.map (·.2)) (qs.map (·.2)) →
    ∀ {w : W}, getFld fs f = some w → ∃ v, qs.lookup (FN.getD f Str.empty) = some v ∧ RelW K m H w v
  | [], _, _, _, _, w, h => by simp [getFld] at h
  | (k, z) :: fs, [], e, _, _, w, h => by simp at e
  | (k, z) :: fs, (n, v) :: qs, e, hk, r, w, h => by
    simp only [List.map_cons, List.cons.injEq] at e
    cases r with
    | cons r1 r2 =>
      have hk0 : k < FN.length := hk (k, z) (by simp)
      by_cases hc : k = f
      · subst hc
        simp [getFld, List.find?_cons] at h
        subst h
        refine ⟨v, ?_, r1⟩
        rw [← e.1]
        simp [List.lookup]
      · have h2 : getFld fs f = some w := by
          simp [getFld, List.find?_cons, hc] at h ⊢
          exact h
        obtain ⟨y, e1, e2⟩ := lk_fld nd hf e.2 (fun p hp => hk p (by simp [hp])) r2 h2
        refine ⟨y, ?_, e2⟩
        have hne : (FN.getD f Str.empty == n) = false := by
          rw [e.1]
          simp only [beq_eq_false_iff_ne, ne_eq]
          exact fun q => hc (getD_inj nd hk0 hf q.symm)
        rw [List.lookup_cons, hne]
        exact e1
theorem lk_none {FN : List Str} {x : Str} (hx : x ∉ FN) : ∀ {fs : List (Nat × W)} {qs : List (Str × V)}, qs.map (·.1) = fs.map (fun p => FN.getD p.1 Str.empty) → (∀ p ∈ fs, p.1 < FN.length) → qs.lookup x = none
  | [], [], _, _ => rfl
  | [], _ :: _, e, _ => by simp at e
  | (k, z) :: fs, [], e, _ => by simp at e
  | (k, z) :: fs, (n, v) :: qs, e, hk => by
    simp only [List.map_cons, List.cons.injEq] at e
    have hk0 : k < FN.length := hk (k, z) (by simp)
    have hne : (x == n) = false := by
      rw [e.1]
      simp only [beq_eq_false_iff_ne, ne_eq]
      intro q
      apply hx
      rw [q, List.getD_eq_getElem?_getD, List.getElem?_eq_getElem hk0]
      exact List.getElem_mem hk0
    rw [List.lookup_cons, hne]
    exact lk_none hx e.2 fun p hp => hk p (by simp [hp])
theorem put_fld {K : PySem.W.Frag} {FN : List Str} (nd : FN.Nodup) {f : Nat} (hf : f < FN.length) {w : W} {v : V} (rw' : RelW K m H w v) : ∀ {fs : List (Nat × W)} {qs : List (Str × V)}, qs.map (·.1) = fs.map (fun p => FN.getD p.1 Str.empty) → (∀ p ∈ fs, p.1 < FN.length) → RelWs K m H (fs.map (·.2)) (qs.map (·.2)) →
    (putF (FN.getD f Str.empty) v qs).map (·.1) = (putFld f w fs).map (fun p => FN.getD p.1 Str.empty) ∧ (∀ p ∈ putFld f w fs, p.1 < FN.length) ∧ RelWs K m H ((putFld f w fs).map (·.2)) ((putF (FN.getD f Str.empty) v qs).map (·.2))
  | [], [], _, _, _ => ⟨rfl, fun p hp => by simp [putFld] at hp; subst hp; exact hf, .one rw'⟩
  | [], _ :: _, e, _, _ => by simp at e
  | (k, z) :: fs, [], e, _, _ => by simp at e
  | (k, z) :: fs, (n, y) :: qs, e, hk, r => by
    simp only [List.map_cons, List.cons.injEq] at e
    cases r with
    | cons r1 r2 =>
      have hk0 : k < FN.length := hk (k, z) (by simp)
      by_cases hc : k = f
      · subst hc
        have e2 : n = FN.getD k Str.empty := e.1
        simp only [putF, putFld, if_pos e2, if_true, List.map_cons]
        refine ⟨by rw [e2, e.2], fun p hp => ?_, .cons rw' r2⟩
        rcases List.mem_cons.mp hp with q | q
        · rw [q]; exact hk0
        · exact hk p (List.mem_cons_of_mem _ q)
      · have hne : ¬ n = FN.getD f Str.empty := by
          rw [e.1]
          exact fun q => hc (getD_inj nd hk0 hf q)
        obtain ⟨i1, i2, i3⟩ := put_fld nd hf rw' e.2 (fun p hp => hk p (by simp [hp])) r2
        simp only [putF, putFld, if_neg hne, if_neg hc, List.map_cons]
        refine ⟨by rw [e.1, i1], fun p hp => ?_, .cons r1 i3⟩
        rcases List.mem_cons.mp hp with q | q
        · subst q; exact hk0
        · exact i2 p q
end
end Dx

set_option maxRecDepth 100000
set_option maxHeartbeats 4000000
/-! Dx6: the run of an expression is as the evaluator says. -/
namespace Dx
open PySem PySem.Spec PyProof.Rows L2

/-- a function at f that does what cl does -/
def CallableQ (T : Tab) (cl : List W → M W) (P : Program) (w : World) (K : PySem.W.Frag) (mg : Str → Option Value) (base : Heap) (k : Nat) (f : Addr) (npos : Nat) (kws : List Str) : Prop :=
  ∀ (A : Around) (outer : List PySem.Env) (s : Shared) (H : Hp) (us ws : List Value) (vs zs : List V) (Q : VK) (E : XK) (m : List Addr) (L : Hh) (as : List W) (σ : L2.St), Room k A → Env0 P w K mg base A outer s H →
    Vals vs us → Vals zs ws → us.length = npos → ws.length = kws.length → Sim ⟨P, w, K, mg, base, T.CN, T.FN, T.XN, T.rx, T.tb⟩ m L H → RelWs K m H as (vs ++ zs) → run ⟨P, w, K, mg, base, T.CN, T.FN, T.XN, T.rx, T.tb⟩ (fun _ _ cls d H' => E cls d H') σ (RelW K) (cl as) m H L Q →
    codeAny (model P w) A (.call (.ref f) ⟨us, kws.zip ws⟩) (CR (L2.CX P w) outer P w H s Q E) s
/-- the target t's -/
abbrev CallableP (T : Tab) (C : Env) (P : Program) (w : World) (K : PySem.W.Frag) (mg : Str → Option Value) (base : Heap) (d : Nat) (t : Nat) (f : Addr) (npos : Nat) (kws : List Str) : Prop := CallableQ T (C.call t) P w K mg base (d + 1) f npos kws
abbrev Callable (T : Tab) (C : Env) (X : Cx) (d : Nat) (t : Nat) (f : Addr) (npos : Nat) (kws : List Str) : Prop := CallableP T C X.prog X.w X.K X.mg X.base d t f npos kws
/-- a call of _law_why with a lambda -/
def whyE (p : Pg) (c : Dc) (x : Ex) : Expr → Bool
  | .Call (.Name y _) [.Lambda params body scope _] [] _ => decide (y = ("_law_why" : Str)) && glB c.sc y && noPar params && LamX.lamSB c.sc scope && chkE p ⟨c.N, scope, [], false⟩ x body
  | _ => false
/-- an exception, as it stands behind a raise -/
def rxX (p : Pg) (K : PySem.W.Frag) : List Addr → Hp → W → Value → Option Addr → Prop := fun m H e cls d => ∃ (c : Nat) (ws : List W) (x : Str) (tg : Txt) (fo : Option Str) (ad : Addr) (vs : List V), e = .exn c ws ∧ p.xcs[c]? = some x ∧ (x, tg, fo) ∈ p.xinL ∧ vs.length = nI fo ∧ cls = .ref (He.ga K x) ∧ d = some ad ∧ H ad = some (.xd (fsI ⟨tg.toArray⟩ fo vs)) ∧ RelWs K m H ws vs
structure Ok (T : Tab) (p : Pg) (C : Env) (c : Dc) (X : Cx) (d : Nat) : Prop where
  N : X.N = c.N
  sc : X.env.scope = c.sc
  nd : c.N.Nodup
  calm : X.calm = true
  room : Room (d + 1) X.A
  pg : PgOk p X.K X.w X.mg
  fn : ∀ y ∈ c.asn, locB c.sc y = true → X.fn y = true ∨ c.sc.names.lookup y = some .local
  tg : ∀ t g, p.tg[t]? = some g → PySem.W.keepIn X.K (.ref (g.at_.ad X.K)) = true ∧ (∀ y, g.at_ = .glo y → X.mg y = some (.ref (g.at_.ad X.K))) ∧ Callable T C X d t (g.at_.ad X.K) g.npos g.kws
  tgm : ∀ t g, p.tg[t]? = some g → CallableQ T (C.callM t) X.prog X.w X.K X.mg X.base d (g.at_.ad X.K) g.npos g.kws
  cf : CfOk p C
  cn : T.CN = p.cls
  fl : T.FN = p.fld
  xn : T.XN = p.xcs
  rx : T.rx = rxX p X.K
  ini : ∀ q ∈ p.xinL, IniOk X.prog X.w X.K X.mg X.base (L2.CX X.prog X.w) (He.ga X.K q.1) ⟨q.2.1.toArray⟩ q.2.2
  xr : ∀ c n, C.xin c n = true → Room 2 X.A
  why : c.lam = true → ∀ (Wx : WX) (x : Ex) (e : Expr), whyE p c x e = true → PE X e (tE T C Wx X (.why x))
section
variable {T : Tab} {p : Pg} {C : Env} {c : Dc} {X : Cx} {d : Nat} {Wx : WX}
theorem Ok.vis (O : Ok T p C c X d) {y : Str} (h : visB c.sc y = true) : Vis X.env.scope y := by
  rw [O.sc]
  unfold visB at h
  unfold Vis
  split at h <;> first | (rename_i e; simp [e]; done) | cases h
theorem Ok.loc (O : Ok T p C c X d) {y : Str} (h : locB c.sc y = true) : L2.Loc X.env.scope y := by
  rw [O.sc]
  unfold locB at h
  unfold L2.Loc
  split at h <;> first | (rename_i e; simp [e]; done) | cases h
theorem Ok.gl (O : Ok T p C c X d) {y : Str} (h : glB c.sc y = true) : Gl X y ∧ (y == ("__debug__" : Str)) = false := by
  unfold glB at h
  split at h
  · rename_i e
    refine ⟨?_, ?_⟩
    · show X.env.scope.names.lookup y = _
      rw [O.sc]
      exact e
    · simp only [bne] at h
      simpa using h
  · cases h
theorem Ok.fnl (O : Ok T p C c X d) {y : Str} (ha : y ∈ c.asn) (h : locB c.sc y = true) : X.fn y = true ∨ X.env.scope.names.lookup y = some .local := by
  rw [O.sc]
  exact O.fn y ha h
theorem Ok.blt (O : Ok T p C c X d) {y n : Str} (h : bltB p c.sc y n = true) : y = n ∧ Gl X y ∧ X.mg y = none ∧ (y == ("__debug__" : Str)) = false := by
  simp only [bltB, Bool.and_eq_true, decide_eq_true_eq] at h
  obtain ⟨⟨⟨h1, h2⟩, h3⟩, h4⟩ := h
  obtain ⟨g1, g2⟩ := O.gl h2
  exact ⟨h1, g1, O.pg.free _ (List.contains_iff_mem.mp h3), g2⟩
abbrev WF : WX := fun _ _ _ _ => False
/-- a comprehension's block -/
abbrev Dc.blk (c : Dc) (scope : Scope) (own : List (Str × Nat)) : Dc := ⟨c.N, relS scope c.sc, own.map (·.1), false⟩
theorem Ok.blk (O : Ok T p C c X d) {scope : Scope} {own : List (Str × Nat)} (hown : (own.all fun q => match scope.names.lookup q.1 with
    | some .local => true
    | some .cell => true
    | _ => false) = true) (s : Shared) (H : Hp) (Cc : Addr) (cl : List (Str × Addr)) (fp : List Addr) : Ok T p C (c.blk scope own) (X.blk s H scope (compEnvC scope cl Cc X.env) fp) d := by
  refine ⟨O.N, ?_, O.nd, O.calm, O.room, O.pg, fun y hy h => ?_, O.tg, O.tgm, O.cf, O.cn, O.fl, O.xn, O.rx, O.ini, O.xr, fun z => by cases z⟩
  · show relS scope X.env.scope = relS scope c.sc
    rw [O.sc]
  · obtain ⟨q, hq, rfl⟩ := List.mem_map.mp hy
    have := (List.all_eq_true.mp hown) q hq
    split at this
    · rename_i e
      right
      have z := lookup_relabel_local (env := X.env) e
      have z2 : (relS scope X.env.scope).names.lookup q.1 = some .local := z
      rw [O.sc] at z2
      exact z2
    · rename_i e
      left
      show (scope.names.lookup q.1 == some .cell) = true
      rw [e]
      rfl
    · cases this

/-- constants -/
theorem pe_const {x : Ex} {e : Expr} {v : V} {w : W} (he : ∀ ρ, evE C ρ x = ret w) (hr : ∀ m H, RelW X.K m H w v) (h : PE X e (tC v)) : PE X e (tE T C Wx X x) :=
  PE_imp h fun σ H Q ⟨m, ρ, L, S, F, q⟩ => by
    have q : run (T.g X) (ofW Wx) σ (RelW X.K) (evE C ρ x) m H L Q := q
    rw [he] at q
    exact run_val q S (hr m H)
theorem tOp_of {f : W → W → M W} {a b : Ex} {σ : L2.St} {H : Hp} {Q : VK} (h : tM (T.g X) Wx (RelW X.K) (fun ρ => bnd (evE C ρ a) fun x => bnd (evE C ρ b) fun y => f x y) σ H Q) :
    tOp (rO2 (T.g X) (ofW Wx) f) (tE T C Wx X a) (tE T C Wx X b) σ H Q :=
  (tM_bnd (R' := RelW X.K) h).imp fun v H1 ⟨m1, ρ, L1, x, S1, F1, r1, q1⟩ => ⟨m1, ρ, L1, S1, F1, (run_bnd (R' := RelW X.K) q1).imp fun v2 H2 ⟨m2, L2, y, e2, S2, r2, q2⟩ => ⟨σ, m2, L2, x, y, S2, r1.mono e2, r2, q2⟩⟩
theorem ixplain {x : Ex} {e : Expr} (h : chkE p c x e = true) : PlainIx e := by
  intro o i
  cases e <;> first | rfl | (rw [chk_slice] at h; cases h)
theorem markE {x : Ex} {e : Expr} (h : chkE p c x e = true) (op : CmpOp) : behindInMarks op e = false := by
  cases e <;> first | rfl | (exfalso; revert h; cases x <;> simp [chkE])
theorem tOp_tru {σ : L2.St} {H : Hp} {x : Ex} {Q : Bool → Hp → Prop} (h : tM (T.g X) Wx RB (fun ρ => bnd (evE C ρ x) truth) σ H Q) : tE T C Wx X x σ H fun v H1 => rOT (T.g X) (ofW Wx) truth v H1 Q :=
  (tM_bnd (R' := RelW X.K) h).imp fun v H1 ⟨m1, ρ, L1, x, S1, F1, r1, q1⟩ => ⟨σ, m1, L1, x, S1, r1, q1⟩
theorem tOp_bv {σ : L2.St} {H : Hp} {x : Ex} {Q : Bool → Hp → Prop} (h : tM (T.g X) Wx RB (fun ρ => bnd (evE C ρ x) fun w => match w with
    | .bl b => ret b
    | _ => fail) σ H Q) : tE T C Wx X x σ H fun v H1 => ∃ k, v = .bl k ∧ Q k H1 :=
  (tM_bnd (R' := RelW X.K) h).imp fun v H1 ⟨m1, ρ, L1, w, S1, F1, r1, q1⟩ => by
    cases w <;> try exact False.elim q1
    cases r1
    exact ⟨_, rfl, run_ret (R := RB) q1 S1 rfl⟩

theorem kw_all {ks : List Keyword} {kws : List Str} (h : ks.map (·.arg) = kws.map some) (env : PySem.Env) (pos : Pos) : (backToKw pos (keywordEach ks env)).all (·.1.isSome) = true ∧ (backToKw pos (keywordEach ks env)).filterMap (·.1) = kws ∧ (backToKw pos (keywordEach ks env)).any (·.1.isNone) = false := by
  induction ks generalizing kws with
  | nil =>
    cases kws with
    | nil => exact ⟨rfl, rfl, rfl⟩
    | cons k kws => simp at h
  | cons k ks ih =>
    cases kws with
    | nil => simp at h
    | cons n kws =>
      simp only [List.map_cons, List.cons.injEq] at h
      obtain ⟨a, v, ps⟩ := k
      obtain ⟨h1, h2⟩ := h
      have h1 : a = some n := h1
      subst h1
      obtain ⟨i1, i2, i3⟩ := ih h2
      simp only [backToKw] at i1 i2 i3 ⊢
      refine ⟨?_, ?_, ?_⟩
      · simp only [keywordEach, List.map_cons, List.all_cons, Option.isSome_some, Bool.true_and]; exact i1
      · simp only [keywordEach, List.map_cons, List.filterMap_cons]; rw [i2]
      · simp only [keywordEach, List.map_cons, List.any_cons, Option.isNone_some, Bool.false_or]; exact i3
theorem chkEs_head {xs : List Ex} {es : List Expr} (h : chkEs p c xs es = true) (env : PySem.Env) : es = [] ∨ ∃ e rest, es = e :: rest ∧ starEach (e :: rest) env = (false, eval e env) :: starEach rest env := by
  cases es with
  | nil => exact .inl rfl
  | cons e es =>
    cases xs with
    | nil => simp [chkEs] at h
    | cons x xs =>
      simp only [chkEs, Bool.and_eq_true] at h
      exact .inr ⟨e, es, rfl, star_plain h.1 es env⟩
theorem chkEs_len : ∀ {xs : List Ex} {es : List Expr}, chkEs p c xs es = true → xs.length = es.length
  | [], es, h => by
    cases es with
    | nil => rfl
    | cons e es => simp [chkEs] at h
  | x :: xs, es, h => by
    cases es with
    | nil => simp [chkEs] at h
    | cons e es =>
      simp only [chkEs, Bool.and_eq_true] at h
      simp [chkEs_len h.2]
theorem wp_evEs_len {ρ : Fr} {E : W → Hh → Prop} : ∀ {xs : List Ex} {L : Hh} {Q : List W → Hh → Prop}, wp (evEs C ρ xs) L Q E → wp (evEs C ρ xs) L (fun a L' => Q a L' ∧ a.length = xs.length) E
  | [], L, Q, h => ⟨h, rfl⟩
  | x :: xs, L, Q, h => by
    simp only [evEs, wp_bnd, wp_ret] at h ⊢
    refine wp_mono h (fun a L1 q => ?_) fun _ _ q => q
    exact wp_mono (wp_evEs_len q) (fun b L2 ⟨q1, q2⟩ => ⟨q1, by simp [q2]⟩) fun _ _ q => q
theorem run_bnd_len {α β : Type} {g : G} {Xw : XW} {σ : L2.St} {R : List Addr → Hp → α → β → Prop} {m : List Addr} {H : Hp} {L : Hh} {Q : β → Hp → Prop} {ρ : Fr} {xs : List Ex} {f : List W → M α} (h : run g Xw σ R (bnd (evEs C ρ xs) f) m H L Q) :
    run g Xw σ (RelWs g.K) (evEs C ρ xs) m H L (fun d H1 => ∃ m1 L1 a, Ext m H m1 H1 ∧ Sim g m1 L1 H1 ∧ RelWs g.K m1 H1 a d ∧ a.length = xs.length ∧ run g Xw σ R (f a) m1 H1 L1 Q) := by
  unfold run at h ⊢
  rw [wp_bnd] at h
  refine wp_mono (wp_evEs_len h) (fun a L1 ⟨q, hl⟩ m1 H1 b e1 s1 r1 => ⟨m1, L1, a, e1, s1, r1, hl, ?_⟩) fun _ _ q => q
  exact wp_mono q (fun _ _ q m' H' b e' s r => q m' H' b (e1.trans e') s r) fun _ _ q m' H' cls d e' s r => q m' H' cls d (e1.trans e') s r
theorem tM_bnd_len {α β : Type} {g : G} {σ : L2.St} {R : List Addr → Hp → α → β → Prop} {H : Hp} {Q : β → Hp → Prop} {xs : List Ex} {f : Fr → List W → M α} (h : tM g Wx R (fun ρ => bnd (evEs C ρ xs) (f ρ)) σ H Q) :
    tM g Wx (RelWs g.K) (fun ρ => evEs C ρ xs) σ H (fun d H1 => ∃ m1 ρ L1 x, Sim g m1 L1 H1 ∧ RelF g.K m1 H1 ρ σ ∧ RelWs g.K m1 H1 x d ∧ x.length = xs.length ∧ run g (ofW Wx) σ R (f ρ x) m1 H1 L1 Q) :=
  let ⟨m, ρ, L, S, F, r⟩ := h
  ⟨m, ρ, L, S, F, (run_bnd_len r).imp fun d H1 ⟨m1, L1, x, e, S1, r1, hl, q⟩ => ⟨m1, ρ, L1, x, S1, F.mono e, r1, hl, q⟩⟩
/-- a callable runs -/
theorem call_at {t : Nat} {f : Addr} {npos : Nat} {kws : List Str} (tk : Takes X Wx) (f3 : Callable T C X d t f npos kws) {A : Around} {pins : List (Addr × Obj)} {s : Shared} {σ : L2.St} {H : Hp} {Q : VK} {us zs : List Value} {vs zv : List V} {m : List Addr} {L : Hh} {as : List W} (hr : Room (d + 1) A) (e0 : Env0 X.prog X.w X.K X.mg X.base A X.stack s H)
    (I : L2.Inv X pins σ H s) (r1 : Vals vs us) (r2 : Vals zv zs) (hl : us.length = npos) (hz : zs.length = kws.length) (S : Sim (T.g X) m L H) (ra : RelWs X.K m H as (vs ++ zv)) (q : run (T.g X) (ofW Wx) σ (RelW X.K) (C.call t as) m H L Q) :
    codeAny (model X.prog X.w) A (.call (.ref f) ⟨us, kws.zip zs⟩) (fun r s' => match r with
      | .ok (.ret v) => EP X pins σ Q v s'
      | .ok _ => False
      | .error e => X.xe e s') s := by
  refine codeAny_mono (f3 A X.stack s H us zs vs zv Q (WE Wx σ) m L as σ hr e0 r1 r2 hl hz S ra q) fun r s' hq => ?_
  cases r with
  | error e => exact passAt tk σ pins H s e s' I hq
  | ok fl =>
    cases fl with
    | ret u => exact I.after hq
    | next => exact False.elim hq
    | brk => exact False.elim hq
    | cont => exact False.elim hq
/-- the call of a global function -/
theorem pe_target {t : Nat} {f : Addr} {npos : Nat} {kws : List Str} {y : Str} {ps pos : Pos} {es : List Expr} {ks : List Keyword} {xs ys : List Ex} (tk : Takes X Wx) (hr : Room (d + 1) X.A) (g1 : Gl X y) (g2 : (y == ("__debug__" : Str)) = false) (f1 : X.mg y = some (.ref f)) (f2 : PySem.W.keepIn X.K (.ref f) = true)
    (f3 : Callable T C X d t f npos kws) (h3 : es.length = npos) (hlx : xs.length = es.length) (hly : ys.length = ks.length) (h4 : ks.map (·.arg) = kws.map some) (ha : PA X es (tA T C Wx X xs)) (hk : PK X ks (tA T C Wx X ys)) (hst : ∀ (env : PySem.Env) (pos : Pos), (backTo pos (starEach es env)).any (·.1) = false)
    (hhd : ∀ env, es = [] ∨ ∃ e rest, es = e :: rest ∧ starEach (e :: rest) env = (false, eval e env) :: starEach rest env) : PE X (.Call (.Name y ps) es ks pos) (tE T C Wx X (.call t xs ys)) := by
  refine ⟨fun pins s σ H Q I q => ?_⟩
  refine wpAny_Call_Name_kw (ld_glob I g1 f1 ?_ g2)
  obtain ⟨k1, k2, k3⟩ := kw_all h4 X.env pos
  have fin : ∀ (us : List Value) (s1 : Shared) (vs : List V) (H1 : Hp), L2.Inv X pins σ H1 s1 → Vals vs us → us.length = npos → (∃ m1 ρ L1 ws, Sim (T.g X) m1 L1 H1 ∧ RelF X.K m1 H1 ρ σ ∧ RelWs X.K m1 H1 ws vs ∧ run (T.g X) (ofW Wx) σ (RelW X.K) (bnd (evEs C ρ ys) fun zs => C.call t (ws ++ zs)) m1 H1 L1 Q) →
      wpAny (model X.prog X.w) X.A (evalAll ((backToKw pos (keywordEach ks X.env)).map (·.2))) (fun zs s2 => X.K.In s2.heap ∧ wpAny (model X.prog X.w) X.A (call (.ref f) us (((backToKw pos (keywordEach ks X.env)).filterMap (·.1)).zip zs)) (EP X pins σ Q) X.xe s2) X.xe s1 := by
    intro us s1 vs H1 I1 r1 hl ⟨m1, ρ, L1, ws, S1, F1, rw1, q1⟩
    refine thn (hk.run pos pins s1 σ H1 _ I1 ⟨m1, ρ, L1, S1, F1, run_bnd_len q1⟩) fun zs s2 ⟨zv, H2, I2, r2, m2, L2', as, e2, S2, rz, hla, q2⟩ => ⟨I2.kIn, ?_⟩
    rw [k2]
    have hz : zs.length = kws.length := by
      have e3 := congrArg List.length h4
      simp only [List.length_map] at e3
      have e4 : zs.length = zv.length := r2.length.symm
      have e5 := rz.length
      omega
    have cal := f3 X.A X.stack s2 H2 us zs vs zv Q (WE Wx σ) m2 L2' (ws ++ as) σ hr I2.env0 r1 r2 hl hz S2 ((rw1.mono e2).append rz) q2
    refine wpAny_call (codeAny_mono cal fun r s' hq => ?_)
    cases r with
    | error e => exact passAt tk σ pins H2 s2 e s' I2 hq
    | ok fl =>
      cases fl with
      | ret u => exact I2.after hq
      | next => exact False.elim hq
      | brk => exact False.elim hq
      | cont => exact False.elim hq
  have q := tM_bnd_len q
  rcases hhd X.env with rfl | ⟨e, rest, rfl, he⟩
  · refine PySem.W.callWith_KW0 (h₀ := X.base) I.ok.mod.kin f2 k1 ?_ (by rw [k3]; rfl)
    have hx0 : xs = [] := by
      cases xs with
      | nil => rfl
      | cons x xs => simp at hlx
    subst hx0
    obtain ⟨m, ρ, L, S, F, q⟩ := q
    obtain ⟨m1, ρ1, L1, ws, S1, F1, r1, hl1, q1⟩ := run_ret (R := RelWs X.K) q S .nil
    exact fin [] s [] H I .nil h3 ⟨m1, ρ1, L1, ws, S1, F1, r1, q1⟩
  · refine PySem.W.callWith_KW (h₀ := X.base) I.ok.mod.kin f2 k1 (thn (ha.run pos pins s σ H _ I q) fun us s1 ⟨vs, H1, I1, r, m1, ρ, L1, ws, S1, F1, r1, hl1, q1⟩ => ?_) (by rw [k3, hst]; rfl) he
    refine fin us s1 vs H1 I1 r ?_ ⟨m1, ρ, L1, ws, S1, F1, r1, q1⟩
    have e1 := r.length
    have e2 := r1.length
    omega


/-! ### built-in functions, methods -/
theorem cls_of (O : Ok T p C c X d) {k : Nat} {x : Str} (h : p.cls[k]? = some x) : T.CN.getD k Str.empty = x := by
  rw [O.cn, List.getD_eq_getElem?_getD, h]
  rfl
/-- an instance's own method of an operator runs -/
theorem du_at (O : Ok T p C c X d) {A : Around} {pins : List (Addr × Obj)} {s : Shared} {σ σ' : L2.St} {H : Hp} {Q : VK} {Xw : XW} {m : List Addr} {L : Hh} {i : Nat} {o : W} {as : List W} {v : V} {u : Value} {vs : List V} {us : List Value}
    (hr : Room d A) (e0 : Env0 X.prog X.w X.K X.mg X.base A X.stack s H) (I : L2.Inv X pins σ H s) (S : Sim (T.g X) m L H) (ro : RelW X.K m H o v) (ru : L2.RelV v u) (ra : RelWs X.K m H as vs) (rv : Vals vs us) (hl : us.length + 1 = duN i)
    (q : run (T.g X) Xw σ' (RelW X.K) (callDu C i o as) m H L Q) :
    ∃ (k : Nat) (a dx : Addr) (fs : List (Str × V)) (cx nm : Str), clsOf L o = some k ∧ p.cls[k]? = some cx ∧ v = .ref a ∧ u = .ref a ∧ H a = some (.ins (He.ga X.K cx) dx fs) ∧ duName i = some nm ∧ Meth X.K (He.ga X.K cx) nm (He.ma X.K (He.ga X.K cx) nm) ∧
      codeAny (model X.prog X.w) A (.call (.ref (He.ma X.K (He.ga X.K cx) nm)) ⟨.ref a :: us, []⟩) (fun r s' => match r with
        | .ok (.ret v) => EP X pins σ Q v s'
        | .ok _ => False
        | .error e => False) s := by
  have q : run (T.g X) Xw σ' (RelW X.K) (match (clsOf L o).bind fun c => C.du c i with
    | some t => noX (C.callM t (o :: as))
    | none => fail) m H L Q := q
  cases ec : clsOf L o with
  | none => rw [ec] at q; exact q.elim
  | some k =>
    rw [ec] at q
    have q : run (T.g X) Xw σ' (RelW X.K) (match C.du k i with
      | some t => noX (C.callM t (o :: as))
      | none => fail) m H L Q := q
    cases ed : C.du k i with
    | none => rw [ed] at q; exact q.elim
    | some t =>
      rw [ed] at q
      obtain ⟨cx, nm, gt, h1, h2, h3, h4, h5, h6, h7⟩ := O.cf.du k i t ed
      obtain ⟨l0, rfl⟩ : ∃ l0, o = .ref l0 := by cases o <;> first | exact ⟨_, rfl⟩ | cases ec
      cases ro with
      | @ref _ a hl0 =>
        unfold clsOf at ec
        dsimp only at ec
        split at ec
        · rename_i k' fs' e
          cases ec
          obtain ⟨dx, qs, g1, _⟩ := S.ob l0 a _ hl0 e
          have g1 : H a = some (.ins (He.ga X.K (T.CN.getD k Str.empty)) dx qs) := g1
          rw [cls_of O h1] at g1
          obtain rfl : u = Value.ref a := ru
          have t3 := O.tgm t gt h3
          have ead : gt.at_.ad X.K = He.ma X.K (He.ga X.K cx) nm := by rw [h4]; rfl
          rw [ead, h5, h6] at t3
          refine ⟨k, a, dx, qs, cx, nm, rfl, h1, rfl, rfl, g1, h2, O.pg.meth _ h7, ?_⟩
          have cal := t3 A X.stack s H (.ref a :: us) [] (.ref a :: vs) [] Q (fun _ _ _ => False) m L (.ref l0 :: as) σ hr e0 (.cons rfl rv) .nil (by simpa using hl) rfl S (by simpa using RelWs.cons (RelW.ref hl0) ra) (run_noX q)
          refine codeAny_mono cal fun r s' hq => ?_
          cases r with
          | error e => 
            obtain ⟨_, _, _, _, _, _, _, _, _, _, _, _, z⟩ := hq
            exact z
          | ok fl =>
            cases fl with
            | ret w => exact I.after hq
            | next => exact False.elim hq
            | brk => exact False.elim hq
            | cont => exact False.elim hq
        · cases ec
theorem kit_sub {K : PySem.W.Frag} {t : Value} {C : Addr} (h : PySem.W.kitOne K t (.ref C) = some false) : PySem.W.subIn K t (.ref C) = some false := by
  unfold PySem.W.kitOne at h
  split at h
  · cases h
  · unfold PySem.W.kitCls at h
    dsimp only at h
    split at h
    · exact h
    · cases h
/-- what stands second -/
theorem snd_at (O : Ok T p C c X d) {pins : List (Addr × Obj)} {s : Shared} {σ : L2.St} {H : Hp} {m : List Addr} {L : Hh} {k : Nat} {x y : W} {v : V} {u : Value} {cx : Str} (I : L2.Inv X pins σ H s) (S : Sim (T.g X) m L H) (hx : clsOf L x = some k) (hk : p.cls[k]? = some cx) (ry : RelW X.K m H y v) (ru : L2.RelV v u) (h : sndOk C L x y = true) :
    ∃ tb, PySem.W.Looks (model X.prog X.w) s.heap (typeOf u) tb ∧ PySem.W.notFirst X.K (He.ga X.K cx) tb = true := by
  unfold sndOk at h
  rw [hx] at h
  dsimp only at h
  cases ey : clsOf L y with
  | none =>
    rw [ey] at h
    obtain ⟨a, ea⟩ := Option.isSome_iff_exists.mp h
    obtain ⟨ty, hm⟩ := tyx_of S ry ea
    obtain ⟨P, kx, hP, _⟩ := kit_of I ru ty
    refine ⟨_, kx.ty _ _ I.kIn hP, ?_⟩
    have := kit_sub (O.pg.kitT cx (List.mem_of_getElem? hk) a hm)
    unfold PySem.W.notFirst
    rw [this]
    simp
  | some k2 =>
    rw [ey] at h
    have h : (k2 == k || !C.sub k2 k) = true := h
    cases y <;> try cases ey
    rename_i l0
    cases ry with
    | @ref _ a hl0 =>
      unfold clsOf at ey
      dsimp only at ey
      split at ey
      · rename_i k' fs' e
        cases ey
        obtain ⟨dx, qs, g1, _, _, _, g9⟩ := S.ob l0 a _ hl0 e
        have g1 : H a = some (.ins (He.ga X.K (T.CN.getD k2 Str.empty)) dx qs) := g1
        have g9 : k2 < T.CN.length := g9
        obtain ⟨cy, hy⟩ : ∃ cy, p.cls[k2]? = some cy := ⟨_, List.getElem?_eq_getElem (by rw [← O.cn]; exact g9)⟩
        rw [cls_of O hy] at g1
        obtain rfl : u = Value.ref a := ru
        obtain ⟨mA, J, _⟩ := ins_get I.hok g1
        obtain ⟨od, J, _⟩ := J.look
        refine ⟨_, J.type, ?_⟩
        unfold PySem.W.notFirst
        rcases Bool.or_eq_true_iff.mp h with z | z
        · have : k2 = k := beq_iff_eq.mp z
          subst this
          rw [hk] at hy
          cases hy
          simp
        · have hs : p.sub k2 k = false := by
            have e : C.sub = p.sub := O.cf.sub
            rw [e] at z
            simpa using z
          have := O.pg.kit k2 k cy cx hy hk
          rw [hs] at this
          rw [kit_sub this]
          simp
      · cases ey
theorem blM_run {g : G} {Xw : XW} {σ : L2.St} {m : List Addr} {L : Hh} {H : Hp} {Q : VK} {f : Bool → Bool} {q : M W} (h : run g Xw σ (RelW g.K) (blM f q) m H L Q) : run g Xw σ (RelW g.K) q m H L (fun v H' => ∃ b, v = .bl b ∧ Q (.bl (f b)) H') := by
  refine (run_bnd (R' := RelW g.K) h).imp fun v H' ⟨m1, L1, w, e1, S1, r1, q1⟩ => ?_
  cases w <;> try exact False.elim q1
  cases r1
  exact ⟨_, rfl, run_val q1 S1 (.bl _)⟩
theorem op_cmpX_ok (O : Ok T p C c X d) (op : COp) : OpR X (compareOp (copP op)) (rO2 (T.g X) (ofW Wx) (cmpX C op)) := by
  intro pins s σ H x y v u Q I rx ry ⟨σ', m, L, a, b, S, ra, rb, h⟩
  have base : ∀ h : run (T.g X) (ofW Wx) σ' (RelW X.K) (cmpop op a b) m H L Q, _ := fun h => op_cmp_ok (T := T) (Xw := ofW Wx) (hu64 O.room) op pins s σ H x y v u Q I rx ry ⟨σ', m, L, a, b, S, ra, rb, h⟩
  obtain ⟨mF, hF⟩ := I.fr
  have hroom := O.room
  have key : ∀ (Q' : VK), run (T.g X) (ofW Wx) σ' (RelW X.K) (callDu C 3 a [b]) m H L Q' → sndOk C L a b = true → ∀ (A : Around), Room d A → Env0 X.prog X.w X.K X.mg X.base A X.stack s H →
      ∃ (ad dx : Addr) (fs : List (Str × V)) (cx : Str) (tb : Value), v = Value.ref ad ∧ H ad = some (.ins (He.ga X.K cx) dx fs) ∧ cx ∈ p.cls ∧ Meth X.K (He.ga X.K cx) "__eq__" (He.ma X.K (He.ga X.K cx) "__eq__") ∧ PySem.W.Looks (model X.prog X.w) s.heap (typeOf u) tb ∧ PySem.W.notFirst X.K (He.ga X.K cx) tb = true ∧
        codeAny (model X.prog X.w) A (.call (.ref (He.ma X.K (He.ga X.K cx) "__eq__")) ⟨[.ref ad, u], []⟩) (fun r s' => match r with
          | .ok (.ret v) => EP X pins σ Q' v s'
          | .ok _ => False
          | .error e => False) s := by
    intro Q' q hs A hr e0
    obtain ⟨k, ad, dx, fs, cx, nm, hx, hk, e1, e2, e3, e4, e5, e6⟩ := du_at O hr e0 I S ra rx (.cons rb .nil) (.cons ry .nil) (by rfl) q
    cases e4
    obtain ⟨tb, t1, t2⟩ := snd_at O I S hx hk rb ry hs
    exact ⟨ad, dx, fs, cx, tb, e2, e3, List.mem_of_getElem? hk, e5, t1, t2, e6⟩
  cases op <;> try exact base h
  · rcases run_if (p := (clsOf L a).isSome = true) h with ⟨_, h⟩ | ⟨_, h⟩
    · rcases run_if (p := sndOk C L a b = true) h with ⟨hs, h⟩ | ⟨_, h⟩
      · obtain ⟨ad, dx, fs, cx, tb, rfl, e3, hc, M, t1, t2, cal⟩ := key _ (blM_run h) hs X.A (hroom.mono (by omega)) I.env0
        obtain ⟨mA, J, _⟩ := ins_get I.hok e3
        obtain ⟨od, J, _⟩ := J.look
        show wpAny (model X.prog X.w) X.A (richCompare .Eq (.ref ad) u) (EP X pins σ Q) X.xe s
        refine PySem.W.cmp_K (op := .Eq) hroom.units0 hF I.ok.mod.kin J t1 t2 M.at_ M.fn (wpAny_call (codeAny_mono cal fun r s' hq => ?_))
        cases r with
        | error e => exact hq.elim
        | ok fl =>
          cases fl with
          | ret w =>
            obtain ⟨z, H', I', rz, bb, ez, q⟩ := hq
            subst ez
            obtain rfl : w = Value.bool bb := rz
            exact ⟨.bl bb, H', I', rfl, q⟩
          | next => exact hq.elim
          | brk => exact hq.elim
          | cont => exact hq.elim
      · exact h.elim
    · exact base h
  · rcases run_if (p := (clsOf L a).isSome = true) h with ⟨_, h⟩ | ⟨_, h⟩
    · rcases run_if (p := sndOk C L a b = true) h with ⟨hs, h⟩ | ⟨_, h⟩
      · obtain ⟨ad, dx, fs, cx, tb, rfl, e3, hc, M, t1, t2, cal⟩ := key _ (blM_run h) hs X.A.in1 hroom.in1 I.env0.in1
        obtain ⟨mA, J, _⟩ := ins_get I.hok e3
        obtain ⟨od, J, _⟩ := J.look
        have cl := (O.pg.cls cx hc).2
        show wpAny (model X.prog X.w) X.A (richCompare .NotEq (.ref ad) u) (EP X pins σ Q) X.xe s
        refine DxK.ne_K (by have := hroom.un; omega) hF I.ok.mod.kin J t1 t2 cl.ne cl.hm M.at_ M.fn (wpAny_call (codeAny_mono cal fun r s' hq => ?_))
        cases r with
        | error e => exact hq.elim
        | ok fl =>
          cases fl with
          | ret w =>
            obtain ⟨z, H', I', rz, bb, ez, q⟩ := hq
            subst ez
            obtain rfl : w = Value.bool bb := rz
            exact ⟨bb, rfl, .bl (!bb), H', I', rfl, q⟩
          | next => exact hq.elim
          | brk => exact hq.elim
          | cont => exact hq.elim
      · exact h.elim
    · exact base h
  · rcases run_if (p := (clsOf L b).isSome = true) h with ⟨_, h⟩ | ⟨_, h⟩
    · obtain ⟨k, ad, dx, fs, cx, nm, hx, hk, e1, e2, e3, e4, M, cal⟩ := du_at O (hroom.mono (by omega)) I.env0 I S rb ry (.cons ra .nil) (.cons rx .nil) (by rfl) (blM_run h)
      cases e4
      subst e2
      obtain ⟨mA, J, _⟩ := ins_get I.hok e3
      obtain ⟨od, J, _⟩ := J.look
      refine PySem.W.in_K hF I.ok.mod.kin J M.at_ M.fn (wpAny_call (codeAny_mono cal fun r s' hq => ?_))
      cases r with
      | error e => exact hq.elim
      | ok fl =>
        cases fl with
        | ret w =>
          obtain ⟨z, H', I', rz, bb, ez, q⟩ := hq
          subst ez
          obtain rfl : w = Value.bool bb := rz
          exact wpAny_truthy_bool ⟨.bl bb, H', I', rfl, q⟩
        | next => exact hq.elim
        | brk => exact hq.elim
        | cont => exact hq.elim
    · exact base h
  · rcases run_if (p := (clsOf L b).isSome = true) h with ⟨_, h⟩ | ⟨_, h⟩
    · obtain ⟨k, ad, dx, fs, cx, nm, hx, hk, e1, e2, e3, e4, M, cal⟩ := du_at O (hroom.mono (by omega)) I.env0 I S rb ry (.cons ra .nil) (.cons rx .nil) (by rfl) (blM_run h)
      cases e4
      subst e2
      obtain ⟨mA, J, _⟩ := ins_get I.hok e3
      obtain ⟨od, J, _⟩ := J.look
      refine PySem.W.notIn_K hF I.ok.mod.kin J M.at_ M.fn (wpAny_call (codeAny_mono cal fun r s' hq => ?_))
      cases r with
      | error e => exact hq.elim
      | ok fl =>
        cases fl with
        | ret w =>
          obtain ⟨z, H', I', rz, bb, ez, q⟩ := hq
          subst ez
          obtain rfl : w = Value.bool bb := rz
          exact wpAny_truthy_bool ⟨.bl (!bb), H', I', rfl, q⟩
        | next => exact hq.elim
        | brk => exact hq.elim
        | cont => exact hq.elim
    · exact base h
theorem crX_ok (O : Ok T p C c X d) (b : Bi) : CallR X (biV b) (rOs (T.g X) (ofW Wx) (callBX C b)) := by
  intro pins s σ H xs us Q I r ⟨σ', m, L, ws, S, ra, h⟩
  have base : ∀ h : run (T.g X) (ofW Wx) σ' (RelW X.K) (callB b ws) m H L Q, _ := fun h => cr_ok (T := T) (Xw := ofW Wx) O.calm b pins s σ H xs us Q I r ⟨σ', m, L, ws, S, ra, h⟩
  obtain ⟨mF, hF⟩ := I.fr
  have hroom := O.room
  rcases ws with _ | ⟨w, _ | ⟨w2, ws⟩⟩
  · cases b <;> exact base h
  · cases b <;> try exact base h
    · rcases run_if (p := (clsOf L w).isSome = true) h with ⟨_, h⟩ | ⟨_, h⟩
      · obtain ⟨v, rfl, rv⟩ := one_of (as := []) ra
        obtain ⟨u, rfl, ru⟩ := r.one
        obtain ⟨k, ad, dx, fs, cx, nm, hx, hk, e1, e2, e3, e4, M, cal⟩ := du_at O (A := X.A.in1) hroom.in1 I.env0.in1 I S rv ru .nil .nil (by rfl) (run_bnd (R' := RelW X.K) h)
        cases e4
        subst e2
        obtain ⟨mA, J, _⟩ := ins_get I.hok e3
        obtain ⟨od, J, _⟩ := J.look
        refine PySem.W.len_K hF I.ok.mod.kin J M.at_ M.fn (wpAny_call (codeAny_mono cal fun r s' hq => ?_))
        cases r with
        | error e => exact hq.elim
        | ok fl =>
          cases fl with
          | ret w =>
            obtain ⟨z, H', I', rz, m1, L1, x, e1, S1, rx, q⟩ := hq
            cases x <;> try exact False.elim q
            cases rx
            obtain ⟨t, rfl⟩ : ∃ t, w = Value.int _ t := rz
            rcases run_if q with ⟨c1, q⟩ | ⟨_, q⟩
            · simp only [Bool.and_eq_true, decide_eq_true_eq] at c1
              exact ⟨c1, .int _, H', I'.tok _, ⟨_, rfl⟩, run_val q S1 (.int _)⟩
            · exact q.elim
          | next => exact hq.elim
          | brk => exact hq.elim
          | cont => exact hq.elim
      · exact base h
    · rcases run_if (p := (clsOf L w).isSome = true) h with ⟨_, h⟩ | ⟨_, h⟩
      · obtain ⟨v, rfl, rv⟩ := one_of (as := []) ra
        obtain ⟨u, rfl, ru⟩ := r.one
        obtain ⟨k, ad, dx, fs, cx, nm, hx, hk, e1, e2, e3, e4, M, cal⟩ := du_at O (A := X.A.in1) hroom.in1 I.env0.in1 I S rv ru .nil .nil (by rfl) (run_bnd (R' := RelW X.K) h)
        cases e4
        subst e2
        obtain ⟨mA, J, _⟩ := ins_get I.hok e3
        obtain ⟨od, J, _⟩ := J.look
        refine PySem.W.repr_K (by have := hroom.in1.un; omega) hF I.ok.mod.kin J M.at_ M.fn (wpAny_call (codeAny_mono cal fun r s' hq => ?_))
        cases r with
        | error e => exact hq.elim
        | ok fl =>
          cases fl with
          | ret w =>
            obtain ⟨z, H', I', rz, m1, L1, x, e1, S1, rx, q⟩ := hq
            cases x <;> try exact False.elim q
            cases rx
            obtain ⟨t, rfl⟩ : ∃ t, w = Value.str _ t := rz
            exact ⟨.str _, H', I', ⟨_, rfl⟩, run_val q S1 (.str _)⟩
          | next => exact hq.elim
          | brk => exact hq.elim
          | cont => exact hq.elim
      · exact base h
  · cases b <;> exact base h
theorem biV_kind (b : Bi) : (∃ id, biV b = .builtin id) ∨ ∃ t, biV b = .type t := by cases b <;> first | exact .inl ⟨_, rfl⟩ | exact .inr ⟨_, rfl⟩
theorem bi_boot (b : Bi) : bootBuiltins (biName b) = some (biV b) := by cases b <;> decide +kernel
theorem bi_ne (b : Bi) : biName b ≠ ("__name__" : Str) := by cases b <;> decide +kernel
theorem pe_bi (O : Ok T p C c X d) {b : Bi} {y : Str} {ps pos : Pos} {xs : List Ex} {e : Expr} {es : List Expr} (hb : bltB p c.sc y (biName b) = true) (hx : chkEs p c xs (e :: es) = true) (ha : PA X (e :: es) (tA T C Wx X xs)) :
    PE X (.Call (.Name y ps) (e :: es) [] pos) (tE T C Wx X (.bi b xs)) := by
  obtain ⟨rfl, g1, g2, g3⟩ := O.blt hb
  have hs : starEach (e :: es) X.env = (false, eval e X.env) :: starEach es X.env := by
    cases xs with
    | nil => simp [chkEs] at hx
    | cons x xs => simp only [chkEs, Bool.and_eq_true] at hx; exact star_plain hx.1 es X.env
  have hpl : (backTo pos (starEach es X.env)).any (·.1) = false := by
    cases xs with
    | nil => simp [chkEs] at hx
    | cons x xs => simp only [chkEs, Bool.and_eq_true] at hx; exact chkEs_star hx.2 X.env pos
  have cr := crX_ok (Wx := Wx) O b
  have bt := bi_boot b
  have fin : ∀ σ H Q, tE T C Wx X (.bi b xs) σ H Q → tCB (rOs (T.g X) (ofW Wx) (callBX C b)) (tA T C Wx X xs) σ H Q := fun σ H Q q =>
    (tM_bnd (R' := RelWs X.K) q).imp fun vs H1 ⟨m1, ρ, L1, ws, S1, F1, r1, q1⟩ => ⟨σ, m1, L1, ws, S1, r1, q1⟩
  rcases biV_kind b with ⟨id, e1⟩ | ⟨id, e1⟩
  · rw [e1] at cr bt
    exact PE_imp (pe_callB cr g1 g2 bt ha (bi_ne b) g3 hs hpl) fin
  · rw [e1] at cr bt
    exact PE_imp (pe_callTy cr g1 g2 bt ha (bi_ne b) g3 hs hpl) fin
theorem noSup_base {o : Expr} (h : noSup o = true) (n : Str) (env : PySem.Env) (w : Sem Value) : attributeBase o n env w = w := by
  cases o <;> try rfl
  rename_i f as ks ps
  cases f <;> try rfl
  cases as with
  | cons a as => rfl
  | nil =>
    cases ks with
    | cons a as => rfl
    | nil => simp [noSup] at h
theorem pe_met {b : Bm} {apos cpos : Pos} {l : Expr} {o : Ex} {xs : List Ex} {es : List Expr} (hok : bmOk b = true) (hn : noSup l = true) (hline : (apos.endLine == cpos.line) = true) (hlen : es.length < 20) (hx : chkEs p c xs es = true) (ho : PE X l (tE T C Wx X o)) (ha : PA X es (tA T C Wx X xs)) :
    PE X (.Call (.Attribute l (bmName b) apos) es [] cpos) (tE T C Wx X (.met b o xs)) := by
  obtain ⟨s1, s2, s3⟩ := bm_slot hok
  have fin : ∀ σ H Q, tE T C Wx X (.met b o xs) σ H Q → tE T C Wx X o σ H fun x H1 => tyV X.K (bmT b) x H1 ∧ tA T C Wx X xs σ H1 fun ys H2 => rMs (T.g X) (ofW Wx) (callM b) x ys H2 Q := fun σ H Q q =>
    (tM_bnd (R' := RelW X.K) q).imp fun v H1 ⟨m1, ρ, L1, w, S1, F1, r1, q1⟩ => by
      have q1 : run (T.g X) (ofW Wx) σ (RelW X.K) (if rcvOk L1 b w then bnd (evEs C ρ xs) fun ws => callM b w ws else fail) m1 H1 L1 Q := q1
      rcases run_if q1 with ⟨c1, q1⟩ | ⟨_, q1⟩
      · exact ⟨rcv_ty S1 r1 c1, m1, ρ, L1, S1, F1, (run_bnd (R' := RelWs X.K) q1).imp fun vs H2 ⟨m2, L2, ws, e2, S2, r2, q2⟩ => ⟨σ, m2, L2, w, ws, S2, r1.mono e2, r2, q2⟩⟩
      · exact q1.elim
  cases es with
  | nil =>
    refine PE_imp (pe_bm0 s1 s2 s3 (mt_ok (T := T) (Xw := ofW Wx) b) ho (noSup_base hn _ _ _) hline) fun σ H Q q => ?_
    refine (fin σ H Q q).imp fun x H1 ⟨h1, m, ρ, L, S, F, q2⟩ => ⟨h1, ?_⟩
    have hx0 : xs = [] := by
      cases xs with
      | nil => rfl
      | cons x xs => simp [chkEs] at hx
    subst hx0
    exact run_ret (R := RelWs X.K) q2 S .nil
  | cons e es =>
    have hs : starEach (e :: es) X.env = (false, eval e X.env) :: starEach es X.env := by
      cases xs with
      | nil => simp [chkEs] at hx
      | cons x xs => simp only [chkEs, Bool.and_eq_true] at hx; exact star_plain hx.1 es X.env
    have hpl : (backTo cpos (starEach es X.env)).any (·.1) = false := by
      cases xs with
      | nil => simp [chkEs] at hx
      | cons x xs => simp only [chkEs, Bool.and_eq_true] at hx; exact chkEs_star hx.2 X.env cpos
    have hfew : ((backTo cpos (starEach (e :: es) X.env)).all (fun x => !x.1) && (backToKw cpos (keywordEach [] X.env)).all (fun x => x.1.isSome)
      && decide ((e :: es).length + ([] : List Keyword).length + (if ([] : List Keyword).isEmpty then 0 else 1) < 30)) = true := by
      have h1 := chkEs_star hx X.env cpos
      have h2 : (backTo cpos (starEach (e :: es) X.env)).all (fun x => !x.1) = true := by
        rw [List.all_eq_true]
        intro z hz
        have := List.any_eq_false.mp h1 z hz
        simpa using this
      have h3 : (e :: es).length + ([] : List Keyword).length + (if ([] : List Keyword).isEmpty then 0 else 1) < 30 := by
        simp only [List.length_nil, List.isEmpty_nil, if_true]
        omega
      rw [h2, decide_eq_true h3]
      rfl
    exact PE_imp (pe_bm s1 s2 s3 (mt_ok (T := T) (Xw := ofW Wx) b) ho ha (noSup_base hn _ _ _) hfew hline hs hpl) fin
/-! ### isinstance -/
theorem tyName_ok (O : Ok T p C c X d) {s : String} {n : Str} {ps : Pos} (h : bltB p c.sc n (Str.ofString s) = true) (ht : tyNames.contains s = true) : PE X (.Name n ps) (tC (.ty s)) := by
  obtain ⟨rfl, g1, g2, g3⟩ := O.blt h
  have hm := List.contains_iff_mem.mp ht
  exact pe_bltn g1 g2 (boot_nm s hm) rfl (ty_ne s hm).1 g3
theorem pe_isi' (O : Ok T p C c X d) {x : Ex} {s : String} {y n : Str} {ps ps2 pos : Pos} {l : Expr} (hb : bltB p c.sc y "isinstance" = true) (hn : bltB p c.sc n (Str.ofString s) = true) (ht : tyNames.contains s = true) (hl : chkE p c x l = true) (hx : PE X l (tE T C Wx X x)) :
    PE X (.Call (.Name y ps) [l, .Name n ps2] [] pos) (tE T C Wx X (.isi x (.ty s))) := by
  obtain ⟨rfl, g1, g2, g3⟩ := O.blt hb
  refine PE_imp (pe_callB call_isi g1 g2 PyProof.Rows.boot_isinstance (pa_cons hx (pa_cons (tyName_ok O hn ht) pa_nil) (star_plain hl _ X.env)) (by decide) g3 (star_plain hl _ X.env)) fun σ H Q q => ?_
  refine (tM_bnd (R' := RelW X.K) q).imp fun v H1 ⟨m1, ρ, L1, w, S1, F1, r1, q1⟩ => ?_
  have q1 : run (T.g X) (ofW Wx) σ (RelW X.K) (match (typeNm L1 w).map fun a => a == s || (a == "bool" && s == "int") with
    | some b => ret (.bl b)
    | none => fail) m1 H1 L1 Q := q1
  cases e : typeNm L1 w with
  | none => rw [e] at q1; exact q1.elim
  | some a =>
    rw [e] at q1
    obtain ⟨t1, t2⟩ := tyx_of S1 r1 e
    exact ⟨v, .ty s, .type a, .type s, _, rfl, .ty s, t1, kit_ty (kit_nm a t2 s (List.contains_iff_mem.mp ht)), run_val q1 S1 (.bl _)⟩
/-! ### what is walked -/
abbrev tI (T : Tab) (C : Env) (W : WX) (X : Cx) (it : It) : TI := tM (T.g X) W (SrcOk (T.g X)) fun ρ => evI C ρ it
theorem pi_e {x : Ex} {e tg : Expr} (hx : PE X e (tE T C Wx X x)) : PI X tg e (tI T C Wx X (.e x)) := by
  refine ⟨fun pins s σ H R I q => ?_⟩
  obtain ⟨m, ρ, L, S, F, q⟩ := q
  have q : run (T.g X) (ofW Wx) σ (SrcOk (T.g X)) (bnd (evE C ρ x) fun w => match w with
    | .ref l => gets fun L => (match itemsOf L (.ref l) with
      | some _ => ret (.seq l)
      | none => fail)
    | .tup ws => ret (.vals ws)
    | .str x => ret (.vals (signs x))
    | _ => fail) m H L R := q
  cases ev : evE C ρ x L with
  | bad => exact (run_bnd_bad q ev).elim
  | exc w L1 => exact (pi_list hx).run pins s σ H R I ⟨m, ρ, L, S, F, run_bnd_ex q ev⟩
  | ok w L1 =>
    have q1 := run_bnd_at (R' := RelW X.K) q ev
    cases w with
    | ref l =>
      refine (pi_list hx).run pins s σ H R I ⟨m, ρ, L, S, F, q1.imp fun v H1 ⟨m1, e1, S1, r1, q2⟩ => ?_⟩
      have q2 : run (T.g X) (ofW Wx) σ (SrcOk (T.g X)) (match itemsOf L1 (.ref l) with
        | some _ => ret (.seq l)
        | none => fail) m1 H1 L1 R := q2
      cases r1 with
      | ref hl =>
        split at q2
        · rename_i ws ew
          obtain ⟨xs, h1, _⟩ := S1.itemsL hl ew
          exact ⟨_, rfl, ⟨xs, h1⟩, run_ret (R := SrcOk (T.g X)) q2 S1 (src_seq hl)⟩
        · exact q2.elim
    | tup ws =>
      refine (pi_tup hx).run pins s σ H R I ⟨m, ρ, L, S, F, q1.imp fun v H1 ⟨m1, e1, S1, r1, q2⟩ => ?_⟩
      cases r1 with
      | tup h hr => exact ⟨_, rfl, ⟨_, sqT h⟩, run_ret (R := SrcOk (T.g X)) q2 S1 (src_tup (sqT h) hr)⟩
    | str z =>
      refine (pi_str hx).run pins s σ H R I ⟨m, ρ, L, S, F, q1.imp fun v H1 ⟨m1, e1, S1, r1, q2⟩ => ?_⟩
      cases r1
      exact ⟨_, rfl, run_ret (R := SrcOk (T.g X)) q2 S1 (src_str z)⟩
    | _ => exact (pi_list hx).run pins s σ H R I ⟨m, ρ, L, S, F, q1.imp fun v H1 ⟨m1, e1, S1, r1, q2⟩ => False.elim q2⟩
theorem smallR_le {i : Int} (h : smallR i = true) : -(2 ^ 62) ≤ i ∧ i < 2 ^ 62 := by
  simp only [smallR, Bool.and_eq_true, decide_eq_true_eq] at h
  exact h
theorem wp_evEs_two {ρ : Fr} {a b : Ex} {L : Hh} {Q : List W → Hh → Prop} {E : W → Hh → Prop} : wp (evEs C ρ [a, b]) L Q E = wp (evE C ρ a) L (fun x L1 => wp (evE C ρ b) L1 (fun y L2 => Q [x, y] L2) E) E := by
  simp only [evEs, wp_bnd, wp_ret]
theorem pi_rng1 (O : Ok T p C c X d) {x : Ex} {e tg : Expr} {y : Str} {ps pos : Pos} (hb : bltB p c.sc y "range" = true) (hx : chkEs p c [x] [e] = true) (ha : PA X [e] (tA T C Wx X [x])) : PI X tg (.Call (.Name y ps) [e] [] pos) (tI T C Wx X (.rng [x])) := by
  obtain ⟨rfl, g1, g2, g3⟩ := O.blt hb
  have hx := hx
  simp only [chkEs, Bool.and_eq_true] at hx
  refine ⟨fun pins s σ H R I q => (pi_range1 g1 g2 ha (star_plain hx.1 [] X.env)).run pins s σ H R I ?_⟩
  refine (tM_bnd_len q).imp fun vs H1 ⟨m1, ρ, L1, ws, S1, F1, r1, hl, q1⟩ => ?_
  cases ws with
  | nil => simp at hl
  | cons w ws =>
    cases ws with
    | cons _ _ => simp at hl
    | nil =>
      obtain ⟨v, rfl, rv⟩ := one_of (as := []) r1
      cases w <;> try exact False.elim q1
      cases rv
      rcases run_if q1 with ⟨c1, q1⟩ | ⟨_, q1⟩
      · obtain ⟨k1, k2⟩ := smallR_le c1
        exact ⟨_, rfl, k1, k2, run_ret (R := SrcOk (T.g X)) q1 S1 (src_rng 0 _)⟩
      · exact q1.elim
theorem pi_rng2 (O : Ok T p C c X d) {x x2 : Ex} {e e2 tg : Expr} {y : Str} {ps pos : Pos} (hb : bltB p c.sc y "range" = true) (hx : chkEs p c [x, x2] [e, e2] = true) (ha : PA X [e, e2] (tA T C Wx X [x, x2])) : PI X tg (.Call (.Name y ps) [e, e2] [] pos) (tI T C Wx X (.rng [x, x2])) := by
  obtain ⟨rfl, g1, g2, g3⟩ := O.blt hb
  have hx := hx
  simp only [chkEs, Bool.and_eq_true] at hx
  have h2 : starEach [e2] X.env = [(false, eval e2 X.env)] := star_plain hx.2.1 [] X.env
  refine ⟨fun pins s σ H R I q => (pi_range2 g1 g2 ha (by rw [star_plain hx.1 [e2] X.env, h2]) h2).run pins s σ H R I ?_⟩
  refine (tM_bnd_len q).imp fun vs H1 ⟨m1, ρ, L1, ws, S1, F1, r1, hl, q1⟩ => ?_
  cases ws with
  | nil => simp at hl
  | cons w ws =>
    cases ws with
    | nil => simp at hl
    | cons w2 ws =>
      cases ws with
      | cons _ _ => simp at hl
      | nil =>
        cases r1 with
        | cons ra rb =>
          obtain ⟨v, rfl, rv⟩ := one_of (as := []) rb
          cases w <;> cases w2 <;> try exact False.elim q1
          cases ra
          cases rv
          rcases run_if q1 with ⟨c1, q1⟩ | ⟨_, q1⟩
          · simp only [Bool.and_eq_true] at c1
            obtain ⟨k1, k2⟩ := smallR_le c1.1
            obtain ⟨k3, k4⟩ := smallR_le c1.2
            exact ⟨_, _, rfl, ⟨k1, k2, k3, k4⟩, run_ret (R := SrcOk (T.g X)) q1 S1 (src_rng _ _)⟩
          · exact q1.elim
theorem pi_en (O : Ok T p C c X d) {x : Ex} {e : Expr} {elts : List Expr} {kk : Nat} {tpos : Pos} {y : Str} {ps pos : Pos} (hb : bltB p c.sc y "enumerate" = true) (hx : chkE p c x e = true) (he : PE X e (tE T C Wx X x)) : PI X (.Tuple elts kk tpos) (.Call (.Name y ps) [e] [] pos) (tI T C Wx X (.enum x)) := by
  obtain ⟨rfl, g1, g2, g3⟩ := O.blt hb
  refine ⟨fun pins s σ H R I q => (pi_enumT g1 g2 (pa_cons he pa_nil (star_plain hx [] X.env)) (star_plain hx [] X.env)).run pins s σ H R I ?_⟩
  refine (tM_bnd (R' := RelW X.K) q).imp fun v H1 ⟨m1, ρ, L1, w, S1, F1, r1, q1⟩ => ?_
  cases w <;> try exact False.elim q1
  · rename_i ws
    cases r1 with
    | tup h1 r2 => exact ⟨_, _, rfl, .inr ⟨sqT h1, run_ret (R := SrcOk (T.g X)) q1 S1 (src_enumT (sqT h1) r2)⟩⟩
  rename_i l
  have q1 : run (T.g X) (ofW Wx) σ (SrcOk (T.g X)) (match itemsOf L1 (.ref l) with
    | some _ => ret (.enum l)
    | none => fail) m1 H1 L1 R := q1
  cases r1 with
  | ref hl =>
    split at q1
    · rename_i ws ew
      obtain ⟨xs, h1, _⟩ := S1.itemsL hl ew
      exact ⟨_, xs, rfl, .inl ⟨h1, run_ret (R := SrcOk (T.g X)) q1 S1 (src_enum hl)⟩⟩
    · exact q1.elim
theorem pi_zp (O : Ok T p C c X d) {x x2 : Ex} {e e2 : Expr} {elts : List Expr} {kk : Nat} {tpos : Pos} {y : Str} {ps pos : Pos} (hb : bltB p c.sc y "zip" = true) (hx : chkE p c x e = true) (hx2 : chkE p c x2 e2 = true) (he : PE X e (tE T C Wx X x)) (he2 : PE X e2 (tE T C Wx X x2)) :
    PI X (.Tuple elts kk tpos) (.Call (.Name y ps) [e, e2] [] pos) (tI T C Wx X (.zip x x2)) := by
  obtain ⟨rfl, g1, g2, g3⟩ := O.blt hb
  refine ⟨fun pins s σ H R I q => (RZ.pi_zipA g1 g2 (pa_cons he (pa_cons he2 pa_nil (star_plain hx2 [] X.env)) (star_plain hx _ X.env)) (star_plain hx _ X.env) (chkEs_star (p := p) (c := c) (xs := [x2]) (by simp [chkEs, hx2]) X.env pos)).run pins s σ H R I ?_⟩
  refine (tM_bnd (R' := RelW X.K) q).imp fun v H1 ⟨m1, ρ, L1, w, S1, F1, r1, q1⟩ => ⟨m1, ρ, L1, S1, F1, (run_bnd (R' := RelW X.K) q1).imp fun v2 H2 ⟨m2, L2, w2, e2, S2, r2, q2⟩ => ?_⟩
  have r1 := r1.mono e2
  cases w with
  | tup ws =>
    cases w2 with
    | tup ws2 =>
      cases r1 with
      | tup h hr =>
        cases r2 with
        | tup h2 hr2 => exact ⟨_, _, _, _, rfl, .inr ⟨sqT h, sqT h2, run_ret (R := SrcOk (T.g X)) q2 S2 (src_zipT (sqT h) (sqT h2) hr hr2)⟩⟩
    | _ => exact False.elim q2
  | ref l =>
    cases w2 with
    | ref l2 =>
      have q2 : run (T.g X) (ofW Wx) σ (SrcOk (T.g X)) (match itemsOf L2 (.ref l), itemsOf L2 (.ref l2) with
        | some _, some _ => ret (.zipL l l2)
        | _, _ => fail) m2 H2 L2 R := q2
      cases r1 with
      | ref hl =>
        cases r2 with
        | ref hl2 =>
          split at q2
          · rename_i ws ws2 ew ew2
            obtain ⟨xs, h1, _⟩ := S2.itemsL hl ew
            obtain ⟨xs2, h2, _⟩ := S2.itemsL hl2 ew2
            exact ⟨_, _, _, _, rfl, .inl ⟨h1, h2, run_ret (R := SrcOk (T.g X)) q2 S2 (src_zipL hl hl2)⟩⟩
          · exact q2.elim
    | _ => exact False.elim q2
  | _ => cases w2 <;> exact False.elim q2
/-! ### targets -/
def RG (K : PySem.W.Frag) (ix : List Nat) (σ0 : L2.St) : List Addr → Hp → Fr → L2.St → Prop := fun m H ρ σ => RelF K m H ρ σ ∧ σ.length = σ0.length ∧ ∀ i, i ∉ ix → σ[i]? = σ0[i]?
def tG (T : Tab) (C : Env) (W : WX) (X : Cx) (t : Tgt) : TG := fun v σ H Q => ∃ m ρ L w, Sim (T.g X) m L H ∧ RelF X.K m H ρ σ ∧ RelW X.K m H w v ∧ run (T.g X) (ofW W) σ (RG X.K (tgIx t) σ) (asgT C t w ρ) m H L Q
def tGs (T : Tab) (C : Env) (W : WX) (X : Cx) (ts : List Tgt) : TGs := fun vs σ H Q => ∃ m ρ L ws, Sim (T.g X) m L H ∧ RelF X.K m H ρ σ ∧ RelWs X.K m H ws vs ∧ run (T.g X) (ofW W) σ (RG X.K (tgIxs ts) σ) (asgTs C ts ws ρ) m H L Q
mutual
theorem pl_noexc : ∀ (t : Tgt), tgPl t = true → ∀ {w : W} {ρ : Fr} {L : Hh} {Q : Fr → Hh → Prop} {E E' : W → Hh → Prop}, wp (asgT C t w ρ) L Q E → wp (asgT C t w ρ) L Q E'
  | .nm i, h, w, ρ, L, Q, E, E', q => q
  | .tup ts, h, w, ρ, L, Q, E, E', q => by
    cases w with
    | tup ws => exact pl_noexcs ts h q
    | _ => exact False.elim q
  | .sub _ _, h, _, _, _, _, _, _, _ => by cases h
  | .fld _ _, h, _, _, _, _, _, _, _ => by cases h
  | .xfl _ _, h, _, _, _, _, _, _, _ => by cases h
theorem pl_noexcs : ∀ (ts : List Tgt), tgPls ts = true → ∀ {ws : List W} {ρ : Fr} {L : Hh} {Q : Fr → Hh → Prop} {E E' : W → Hh → Prop}, wp (asgTs C ts ws ρ) L Q E → wp (asgTs C ts ws ρ) L Q E'
  | [], h, ws, ρ, L, Q, E, E', q => by
    cases ws with
    | nil => exact q
    | cons w ws => exact False.elim q
  | t :: ts, h, ws, ρ, L, Q, E, E', q => by
    simp only [tgPls, Bool.and_eq_true] at h
    cases ws with
    | nil => exact False.elim q
    | cons w ws =>
      have q : wp (bnd (asgT C t w ρ) fun ρ1 => asgTs C ts ws ρ1) L Q E := q
      show wp (bnd (asgT C t w ρ) fun ρ1 => asgTs C ts ws ρ1) L Q E'
      rw [wp_bnd] at q ⊢
      exact pl_noexc t h.1 (wp_mono q (fun a L1 q1 => pl_noexcs ts h.2 q1) fun _ _ q => q)
end
theorem asgE_plain {x : Tgt} {e : Expr} (h : chkG p c x e = true) (es : List Expr) (env : PySem.Env) : assignEach (e :: es) env = (false, assign e env) :: assignEach es env := by
  cases e <;> first | rfl | (exfalso; revert h; cases x <;> simp [chkG])
theorem asgE_all : ∀ {xs : List Tgt} {es : List Expr}, chkGs p c xs es = true → ∀ (env : PySem.Env), (assignEach es env).length = xs.length ∧ (assignEach es env).findIdx? (·.1) = none
  | [], es, h, env => by
    cases es with
    | nil => exact ⟨rfl, rfl⟩
    | cons e es => simp [chkGs] at h
  | x :: xs, es, h, env => by
    cases es with
    | nil => simp [chkGs] at h
    | cons e es =>
      simp only [chkGs, Bool.and_eq_true] at h
      obtain ⟨h1, h2⟩ := asgE_all h.2 env
      rw [asgE_plain h.1]
      refine ⟨by simp [h1], ?_⟩
      rw [List.findIdx?_cons]
      simp [h2]
theorem wp_asgTs_len : ∀ {ts : List Tgt} {ws : List W} {ρ : Fr} {L : Hh} {Q : Fr → Hh → Prop}, wp (asgTs C ts ws ρ) L Q (fun _ _ => False) → ws.length = ts.length
  | [], ws, ρ, L, Q, h => by
    cases ws with
    | nil => rfl
    | cons w ws => exact False.elim h
  | t :: ts, ws, ρ, L, Q, h => by
    cases ws with
    | nil => exact False.elim h
    | cons w ws =>
      have h : wp (bnd (asgT C t w ρ) fun ρ1 => asgTs C ts ws ρ1) L Q (fun _ _ => False) := h
      rw [wp_bnd] at h
      cases e : asgT C t w ρ L with
      | ok r L1 =>
        unfold wp at h
        rw [e] at h
        have h2 : wp (asgTs C ts ws r) L1 Q (fun _ _ => False) := h
        simp [wp_asgTs_len h2]
      | exc x L1 => unfold wp at h; rw [e] at h; exact False.elim h
      | bad => unfold wp at h; rw [e] at h; exact False.elim h
/-- a run that raises nothing -/
def runF (g : G) {α β : Type} (R : List Addr → Hp → α → β → Prop) (c : M α) (m : List Addr) (H : Hp) (L : Hh) (Q : β → Hp → Prop) : Prop :=
  wp c L (fun a L' => ∀ m' H' b, Ext m H m' H' → Sim g m' L' H' → R m' H' a b → Q b H') fun _ _ => False
theorem run_F {α β : Type} {g : G} {Xw : XW} {σ : L2.St} {R : List Addr → Hp → α → β → Prop} {m : List Addr} {H : Hp} {L : Hh} {Q : β → Hp → Prop} {c : M α} (h : run g Xw σ R (noX c) m H L Q) : runF g R c m H L Q := by
  unfold run at h
  rw [wp_noX] at h
  exact h
theorem runF_assoc3 {α β γ δ ε : Type} {g : G} {R : List Addr → Hp → α → β → Prop} {m : List Addr} {H : Hp} {L : Hh} {Q : β → Hp → Prop} {a : M γ} {f : γ → M δ} {k : δ → M ε} {l : ε → M α} (h : runF g R (bnd (bnd (bnd a f) k) l) m H L Q) :
    runF g R (bnd a fun x => bnd (bnd (f x) k) l) m H L Q := by
  unfold runF at h ⊢
  simp only [wp_bnd] at h ⊢
  exact h
theorem runF_bnd {α β γ δ : Type} {g : G} {Xw : XW} {σ : L2.St} {R : List Addr → Hp → α → β → Prop} {R' : List Addr → Hp → γ → δ → Prop} {m0 m : List Addr} {H0 H : Hp} {L : Hh} {Q : β → Hp → Prop} {c : M γ} {f : γ → M α} (h : runF g R (bnd c f) m0 H0 L Q) :
    run g Xw σ R' c m H L (fun d H1 => ∃ m1 L1 a, Ext m H m1 H1 ∧ Sim g m1 L1 H1 ∧ R' m1 H1 a d ∧ runF g R (f a) m0 H0 L1 Q) := by
  unfold runF at h
  rw [wp_bnd] at h
  exact wp_mono h (fun a L1 q m1 H1 b e1 s1 r1 => ⟨m1, L1, a, e1, s1, r1, q⟩) fun _ _ q => q.elim
theorem Ext.notin {m m' : List Addr} {H H' : Hp} {D : Addr} {u : HO} (e : Ext m H m' H') (hD : D ∉ m) (hu : H D = some u) (nt : ∀ ps, u ≠ .tbl ps := by intro ps z; cases z) : D ∉ m' := by
  obtain ⟨k, rfl, hk⟩ := e.pre
  intro h
  rcases List.mem_append.mp h with q | q
  · exact hD q
  · exact (hk D q).no hu nt
theorem pts_ok {X : Cx} {cs : List Tx} {ifs : List Expr} (hl : ifs.length ≤ 1) (h : chkTs p c cs ifs = true) (ht : ∀ t ∈ cs, ∀ e, chkT p c t e = true → PT X e (tT T C Wx X t)) : PTs X ifs (tM (T.g X) Wx RB fun ρ => tsAnd C ρ cs) := by
  cases ifs with
  | nil =>
    cases cs with
    | cons t cs => simp [chkTs] at h
    | nil => exact ⟨fun pins s σ H Q I ⟨m, ρ, L, S, F, q⟩ => pts_nil.run pins s σ H Q I (run_ret (R := RB) q S rfl)⟩
  | cons e ifs =>
    cases ifs with
    | cons _ _ => simp at hl
    | nil =>
      cases cs with
      | nil => simp [chkTs] at h
      | cons t cs =>
        simp only [chkTs, Bool.and_eq_true] at h
        cases cs with
        | cons _ _ => simp [chkTs] at h
        | nil =>
          refine ⟨fun pins s σ H Q I q => (pts_one (ht t (by simp) e h.1)).run pins s σ H Q I ?_⟩
          refine (tM_bnd (R' := RB) q).imp fun k H1 ⟨m1, ρ, L1, w, S1, F1, r1, q1⟩ => ?_
          have r1 : w = k := r1
          subst r1
          cases w
          · rw [if_neg (by simp)] at q1; exact run_ret (R := RB) q1 S1 rfl
          · rw [if_pos rfl] at q1; exact run_ret (R := RB) q1 S1 rfl
/-- a comprehension's turns -/
theorem lc_turns {own : List (Str × Nat)} {t : Tgt} {it : It} {cs : List Tx} {x : Ex} (hown : tgOwn (own.map (·.2)) t = true) {σ : L2.St} {H : Hp} {Q : VK} (q : tE T C Wx X (.lc own t it cs x) σ H Q) :
    tLc (tI T C Wx X it) (tG T C WF X t) (tM (T.g X) WF RB fun ρ => tsAnd C ρ cs) (tE T C WF X x) (own.map (·.2)) σ H Q := by
  refine (tM_bnd (R' := SrcOk (T.g X)) q).imp fun J H1 ⟨m1, ρ, L1, s, S1, F1, sk, q1⟩ D hD => ?_
  have q1 := run_F q1
  obtain ⟨e0, S0⟩ := S1.free (u := .lst []) hD
  refine ⟨fun i n Hc => ∃ mm Lc ws xs, Ext m1 H1 mm Hc ∧ Sim (T.g X) mm Lc Hc ∧ D ∉ mm ∧ Hc D = some (.lst xs) ∧ RelWs X.K mm Hc ws xs ∧ runF (T.g X) (RelW X.K) (bnd (loopC s (fun w => bnd (asgT C t w (wipeF ρ (own.map (·.2)))) fun ρ1 => bnd (tsAnd C ρ1 cs) fun b => if b = true then bnd (evE C ρ1 x) fun v => ret (some v) else ret none) n i ws) fun ws => alloc (.lst ws)) m1 H1 Lc Q,
    ⟨fuel, m1, L1, [], [], e0, S0, S1.notIn hD, upd_same, .nil, q1⟩, ?_⟩
  rintro i n Hc ⟨mm, Lc, ws, xs, ex, S, hDm, hDl, rws, q2⟩
  cases n with
  | zero => exact q2.elim
  | succ n =>
    have q2 : runF (T.g X) (RelW X.K) (bnd (match srcAt Lc i s with
      | none => fail
      | some none => ret ws
      | some (some w) => bnd (bnd (asgT C t w (wipeF ρ (own.map (·.2)))) fun ρ1 => bnd (tsAnd C ρ1 cs) fun b => if b = true then bnd (evE C ρ1 x) fun v => ret (some v) else ret none) fun r => match r with
        | none => loopC s (fun w => bnd (asgT C t w (wipeF ρ (own.map (·.2)))) fun ρ1 => bnd (tsAnd C ρ1 cs) fun b => if b = true then bnd (evE C ρ1 x) fun v => ret (some v) else ret none) n (i + 1) ws
        | some v => if decide (ws.length < sizeLine) then loopC s (fun w => bnd (asgT C t w (wipeF ρ (own.map (·.2)))) fun ρ1 => bnd (tsAnd C ρ1 cs) fun b => if b = true then bnd (evE C ρ1 x) fun v => ret (some v) else ret none) n (i + 1) (ws ++ [v]) else fail) fun ws => alloc (.lst ws)) m1 H1 Lc Q := q2
    obtain ⟨k1, k2⟩ := sk mm Lc Hc ex.x0 S i
    cases es : srcAt Lc i s with
    | none => rw [es] at q2; exact q2.elim
    | some o =>
      cases o with
      | none =>
        left
        refine ⟨k2 es, ?_⟩
        rw [es] at q2
        have ea := ex.adopt hD
        have Sa : Sim (T.g X) (mm ++ [D]) (Lc ++ [.lst ws]) Hc := S.adopt hDm ⟨xs, hDl, rws.mono0 ⟨fun l a h => by
          obtain ⟨hl, _⟩ := List.getElem?_eq_some_iff.mp h
          rw [List.getElem?_append_left hl]
          exact h, fun _ _ h => h, fun _ _ _ h => h⟩⟩ (fun q hq => (S.tb q hq).snoc (fun ps z => by rw [hDl] at z; cases z) fun c q z => by rw [hDl] at z; have z2 := Option.some.inj z; unfold LamX.CodeO at z2; cases z2)
        exact q2 _ _ _ ea Sa (.ref (by rw [← S.len]; simp))
      | some w =>
        right
        obtain ⟨g1, g2⟩ := k1 w es
        rw [es] at q2
        have q3 := runF_assoc3 q2
        refine ⟨g1, fun Hn => ∃ mm Lc ws xs, Ext m1 H1 mm Hn ∧ Sim (T.g X) mm Lc Hn ∧ D ∉ mm ∧ Hn D = some (.lst xs) ∧ RelWs X.K mm Hn ws xs ∧ runF (T.g X) (RelW X.K) (bnd (loopC s (fun w => bnd (asgT C t w (wipeF ρ (own.map (·.2)))) fun ρ1 => bnd (tsAnd C ρ1 cs) fun b => if b = true then bnd (evE C ρ1 x) fun v => ret (some v) else ret none) n (i + 1) ws) fun ws => alloc (.lst ws)) m1 H1 Lc Q,
          fun H' h => ⟨n, Nat.lt_succ_self n, h⟩, fun v H' y => ?_⟩
        obtain ⟨e2, S2, rw2⟩ := g2 v H' y
        have hD2 : H' D = some (.lst xs) := e2.out D _ hDl hDm (fun _ z => nomatch z)
        have ex2 := ex.trans e2
        refine ⟨mm, wipeF ρ (own.map (·.2)), Lc, w, S2, (F1.mono ex2).wipe _, rw2, ?_⟩
        refine (runF_bnd (R' := RG X.K (tgIx t) (wipe σ (own.map (·.2)))) (m := mm) (H := H') q3).imp fun σ3 H3 ⟨m3, L3, ρ3, e3, S3, ⟨F3, fl, fs⟩, q4⟩ => ?_
        have hD3 : H3 D = some (.lst xs) := e3.out D _ hD2 hDm (fun _ z => nomatch z)
        have hm3 : D ∉ m3 := e3.notin hDm hD2
        have ex3 := ex2.trans e3
        simp only [tgOwn, Bool.and_eq_true] at hown
        refine ⟨wipe_same (by rw [fl, wipe_length]) fun j hj => fs j fun hj2 => hj (by
          have := List.all_eq_true.mp hown.2 j hj2
          exact List.contains_iff_mem.mp this), m3, ρ3, L3, S3, F3, ?_⟩
        have q4 : runF (T.g X) (RelW X.K) (bnd (bnd (bnd (tsAnd C ρ3 cs) fun b => if b = true then bnd (evE C ρ3 x) fun v => ret (some v) else ret none) fun r => match r with
          | none => loopC s (fun w => bnd (asgT C t w (wipeF ρ (own.map (·.2)))) fun ρ1 => bnd (tsAnd C ρ1 cs) fun b => if b = true then bnd (evE C ρ1 x) fun v => ret (some v) else ret none) n (i + 1) ws
          | some v => if decide (ws.length < sizeLine) then loopC s (fun w => bnd (asgT C t w (wipeF ρ (own.map (·.2)))) fun ρ1 => bnd (tsAnd C ρ1 cs) fun b => if b = true then bnd (evE C ρ1 x) fun v => ret (some v) else ret none) n (i + 1) (ws ++ [v]) else fail) fun ws => alloc (.lst ws)) m1 H1 L3 Q := q4
        refine (runF_bnd (R' := RB) (m := m3) (H := H3) (runF_assoc3 q4)).imp fun b H4 ⟨m4, L4, b', e4, S4, eb, q5⟩ => ?_
        have eb : b' = b := eb
        subst eb
        have hD4 : H4 D = some (.lst xs) := e4.out D _ hD3 hm3 (fun _ z => nomatch z)
        have hm4 : D ∉ m4 := e4.notin hm3 hD3
        have ex4 := ex3.trans e4
        have rws4 := ((rws.mono e2).mono e3).mono e4
        cases b' with
        | false =>
          rw [if_neg (by simp)] at q5 ⊢
          exact ⟨m4, L4, ws, xs, ex4, S4, hm4, hD4, rws4, q5⟩
        | true =>
          rw [if_pos rfl] at q5 ⊢
          refine ⟨m4, ρ3, L4, S4, F3.mono e4, (runF_bnd (R' := RelW X.K) (m := m4) (H := H4) (runF_assoc3 q5)).imp fun y H5 ⟨m5, L5, w5, e5, S5, r5, q6⟩ => ?_⟩
          have hD5 : H5 D = some (.lst xs) := e5.out D _ hD4 hm4 (fun _ z => nomatch z)
          have hm5 : D ∉ m5 := e5.notin hm4 hD4
          have rws5 := rws4.mono e5
          obtain ⟨S6, x6⟩ := S5.apart (ys := xs ++ [y]) hm5 hD5
          have q6 : runF (T.g X) (RelW X.K) (bnd (if decide (ws.length < sizeLine) then loopC s (fun w => bnd (asgT C t w (wipeF ρ (own.map (·.2)))) fun ρ1 => bnd (tsAnd C ρ1 cs) fun b => if b = true then bnd (evE C ρ1 x) fun v => ret (some v) else ret none) n (i + 1) (ws ++ [w5]) else fail) fun ws => alloc (.lst ws)) m1 H1 L5 Q := q6
          by_cases hz : ws.length < sizeLine
          · rw [if_pos (decide_eq_true hz)] at q6
            exact ⟨xs, hD5, by rw [← rws.length]; exact hz, m5, L5, ws ++ [w5], xs ++ [y], (ex4.trans e5).apart hD, S6, hm5, upd_same, (rws5.append (.one r5)).mono0 x6, q6⟩
          · rw [if_neg (by simpa using hz)] at q6
            exact q6.elim

theorem pe_lcx (O : Ok T p C c X d) {own : List (Str × Nat)} {t : Tgt} {it : It} {cs : List Tx} {x : Ex} {elt tg iter : Expr} {ifs : List Expr} {scope : Scope} {pos : Pos} (hown : tgOwn (own.map (·.2)) t = true) (hb : blkC c.N c.sc scope own = true)
    (hi : PI X tg iter (tI T C Wx X it)) (hg : ∀ (s : Shared) (H : Hp) (Cc : Addr) (cl : List (Str × Addr)) (fp : List Addr), PG (X.blk s H scope (compEnvC scope cl Cc X.env) fp) tg (tG T C WF X t))
    (ht : ∀ (s : Shared) (H : Hp) (Cc : Addr) (cl : List (Str × Addr)) (fp : List Addr), PTs (X.blk s H scope (compEnvC scope cl Cc X.env) fp) ifs (tM (T.g X) WF RB fun ρ => tsAnd C ρ cs))
    (he : ∀ (s : Shared) (H : Hp) (Cc : Addr) (cl : List (Str × Addr)) (fp : List Addr), PE (X.blk s H scope (compEnvC scope cl Cc X.env) fp) elt (tE T C WF X x))
    (hs : ∀ v, foldedSetIterable iter X.env v = pure v) : PE X (.ListComp elt [⟨tg, iter, ifs, 0⟩] scope pos) (tE T C Wx X (.lc own t it cs x)) :=
  PE_imp (pe_lc O.calm (by rw [O.N]; exact O.nd) hi (blkOk_by (by rw [O.N, O.sc]; exact hb)) hg ht he hs) fun σ H Q q => lc_turns hown q
theorem noSet {x : It} {tg e : Expr} (h : chkI p c x tg e = true) (env : PySem.Env) (v : Value) : foldedSetIterable e env v = pure v := by
  cases e <;> first | rfl | skip
  exfalso
  cases x with
  | e x => simp only [chkI] at h; revert h; cases x <;> simp [chkE]
  | rng xs => simp [chkI] at h
  | enum x => cases tg <;> simp [chkI] at h
  | zip x y => cases tg <;> simp [chkI] at h
def clV : Cl → V
  | .ty s => .ty s
  | .own _ => .non
def clU : Cl → Value
  | .ty s => .type s
  | .own _ => .none
theorem cls_ok (O : Ok T p C c X d) : ∀ {cs : List Cl} {es : List Expr}, chkCls p c cs es = true → (PA X es fun _ H Q => Q (cs.map clV) H) ∧ Paired ClsV (cs.map clV) (cs.map clU) ∧ (∀ q ∈ cs, ∃ s, q = .ty s ∧ s ∈ tyNames) ∧ cs.length = es.length
  | [], es, h => by
    cases es with
    | cons e es => simp [chkCls] at h
    | nil => exact ⟨pa_nil, .nil, by simp, rfl⟩
  | .own _ :: cs, es, h => by simp [chkCls] at h
  | .ty s :: cs, es, h => by
    simp only [chkCls] at h
    split at h <;> try cases h
    simp only [Bool.and_eq_true] at h
    obtain ⟨⟨h1, h2⟩, h3⟩ := h
    obtain ⟨i1, i2, i3, i4⟩ := cls_ok O h3
    refine ⟨⟨fun pos pins st σ H Q I q => (pa_cons (tyName_ok O h1 h2) i1 rfl).run pos pins st σ H Q I q⟩, .cons (.ty s) i2, fun q hq => ?_, by simp [i4]⟩
    rcases List.mem_cons.mp hq with e | e
    · exact ⟨s, e, List.contains_iff_mem.mp h2⟩
    · exact i3 q e
theorem any_kit {L : Hh} {w : W} {a : String} (ha : typeNm L w = some a) (hm : a ∈ nmAll) {sb : Nat → Nat → Bool} {K : PySem.W.Frag} : ∀ {cs : List Cl} {b : Bool}, (∀ q ∈ cs, ∃ s, q = .ty s ∧ s ∈ tyNames) → anyKind sb L w cs = some b → PySem.W.kitAny K (.type a) (cs.map clU) = some b
  | [], b, _, h => by
    simp [anyKind] at h
    subst h
    rfl
  | q :: cs, b, hq, h => by
    obtain ⟨s, rfl, hs⟩ := hq q (by simp)
    simp only [anyKind, isKind, ha, Option.map_some] at h
    split at h
    · rename_i a1 b1 e1 e2
      simp only [Option.some.injEq] at e1 h
      subst e1 h
      have ih := any_kit ha hm (K := K) (fun q hq' => hq q (by simp [hq'])) e2
      refine kitAny_cons (kit_ty (kit_nm a hm s hs)) (fun e => ?_) fun e => ?_
      · rw [e, Bool.false_or]; exact ih
      · rw [e, Bool.true_or]
    · cases h
theorem pe_isis' (O : Ok T p C c X d) {x : Ex} {cs : List Cl} {y : Str} {ps pos tpos : Pos} {k : Nat} {l : Expr} {es : List Expr} (hb : bltB p c.sc y "isinstance" = true) (hc : chkCls p c cs es = true) (hl : chkE p c x l = true) (hx : PE X l (tE T C Wx X x)) :
    PE X (.Call (.Name y ps) [l, .Tuple es k tpos] [] pos) (tE T C Wx X (.isis x cs)) := by
  obtain ⟨rfl, g1, g2, g3⟩ := O.blt hb
  obtain ⟨c1, c2, c3, c4⟩ := cls_ok O hc
  refine PE_imp (pe_callB call_isiT g1 g2 PyProof.Rows.boot_isinstance (pa_cons hx (pa_cons (pe_tup c1) pa_nil) (star_plain hl _ X.env)) (by decide) g3 (star_plain hl _ X.env)) fun σ H Q q => ?_
  refine (tM_bnd (R' := RelW X.K) q).imp fun v H1 ⟨m1, ρ, L1, w, S1, F1, r1, q1⟩ => ?_
  have q1 : run (T.g X) (ofW Wx) σ (RelW X.K) (if cs ≠ [] ∧ cs.length < 64 then match anyKind C.sub L1 w cs with
    | some b => ret (.bl b)
    | none => fail else fail) m1 H1 L1 Q := q1
  rcases run_if q1 with ⟨⟨hne, hz⟩, q1⟩ | ⟨_, q1⟩
  · refine ⟨by rw [List.length_map, sizeLine_eq]; omega, fun tp htp => ?_⟩
    cases e : anyKind C.sub L1 w cs with
    | none => rw [e] at q1; exact q1.elim
    | some b =>
      rw [e] at q1
      obtain ⟨e2, S2⟩ := S1.free (u := .tup (cs.map clV)) htp
      cases ea : typeNm L1 w with
      | none =>
        cases cs with
        | nil => exact absurd rfl hne
        | cons q0 cs =>
          obtain ⟨s, rfl, hs⟩ := c3 q0 (by simp)
          simp [anyKind, isKind, ea] at e
      | some a =>
        obtain ⟨t1, t2⟩ := tyx_of S2 (r1.mono e2) ea
        exact ⟨v, tp, cs.map clV, .type a, cs.map clU, b, rfl, upd_same, c2, t1, any_kit ea t2 c3 e, q1.shift e2 _ _ _ (Ext.refl _ _) S2 (.bl _)⟩
  · exact q1.elim

theorem pts_ok1 {t : Tx} {cs : List Tx} {ifs : List Expr} (hl : ifs.length ≤ 1) (h : chkTs p c (t :: cs) ifs = true) (ht : ∀ e, chkT p c t e = true → PT X e (tT T C Wx X t)) : PTs X ifs (tM (T.g X) Wx RB fun ρ => tsAnd C ρ (t :: cs)) := by
  refine pts_ok hl h fun t' ht' => ?_
  cases ifs with
  | nil => simp [chkTs] at h
  | cons e ifs =>
    cases ifs with
    | cons _ _ => simp at hl
    | nil =>
      simp only [chkTs, Bool.and_eq_true] at h
      cases cs with
      | cons _ _ => simp [chkTs] at h
      | nil =>
        simp at ht'
        subst ht'
        exact ht
theorem pi_rngs (O : Ok T p C c X d) {xs : List Ex} {es : List Expr} {tg : Expr} {y : Str} {ps pos : Pos} (hb : bltB p c.sc y "range" = true) (hx : chkEs p c xs es = true) (hl : (es.length == 1 || es.length == 2) = true) (ha : PA X es (tA T C Wx X xs)) : PI X tg (.Call (.Name y ps) es [] pos) (tI T C Wx X (.rng xs)) := by
  have hn := chkEs_len hx
  cases es with
  | nil => simp at hl
  | cons e es =>
    cases xs with
    | nil => simp at hn
    | cons x xs =>
      cases es with
      | nil =>
        cases xs with
        | cons _ _ => simp at hn
        | nil => exact pi_rng1 O hb hx ha
      | cons e2 es =>
        cases xs with
        | nil => simp at hn
        | cons x2 xs =>
          cases es with
          | cons _ _ => simp at hl
          | nil =>
            cases xs with
            | cons _ _ => simp at hn
            | nil => exact pi_rng2 O hb hx ha
theorem PG_imp {e : Expr} {t t' : TG} (h : PG X e t) (k : ∀ v σ H Q, t' v σ H Q → t v σ H Q) : PG X e t' := ⟨fun pins s σ H v u Q I r q => h.run pins s σ H v u Q I r (k v σ H Q q)⟩
theorem PGs_imp {e : List Expr} {t t' : TGs} (h : PGs X e t) (k : ∀ v σ H Q, t' v σ H Q → t v σ H Q) : PGs X e t' := ⟨fun pins s σ H v u Q I r q => h.run pins s σ H v u Q I r (k v σ H Q q)⟩
theorem pg_nm (O : Ok T p C c X d) {i : Nat} {y : Str} {ps : Pos} (h1 : c.N[i]? = some y) (h2 : locB c.sc y = true) (h3 : c.asn.contains y = true) : PG X (.Name y ps) (tG T C Wx X (.nm i)) := by
  refine PG_imp (pg_name (i := i) (by rw [O.N]; exact O.nd) (by rw [O.N]; exact h1) (O.loc h2) (O.fnl (List.contains_iff_mem.mp h3) h2)) fun v σ H Q ⟨m, ρ, L, w, S, F, r, q⟩ => ?_
  exact run_ret (R := RG X.K (tgIx (.nm i)) σ) q S ⟨F.set r, by simp, fun j hj => List.getElem?_set_ne (fun z => hj (by simp [tgIx, z]))⟩
theorem pgs_nl : PGs X [] (tGs T C Wx X []) := by
  refine PGs_imp pgs_nil fun vs σ H Q ⟨m, ρ, L, ws, S, F, r, q⟩ => ?_
  cases ws with
  | cons _ _ => exact False.elim q
  | nil =>
    cases r
    exact ⟨rfl, run_ret (R := RG X.K (tgIxs []) σ) q S ⟨F, rfl, fun _ _ => rfl⟩⟩
theorem pgs_cn {t : Tgt} {ts : List Tgt} {e : Expr} {es : List Expr} (hp : tgPl t = true) (hps : tgPls ts = true) (hk : chkG p c t e = true) (h1 : PG X e (tG T C Wx X t)) (h2 : PGs X es (tGs T C Wx X ts)) : PGs X (e :: es) (tGs T C Wx X (t :: ts)) := by
  refine PGs_imp (pgs_cons h1 h2 (by rw [asgE_plain hk]; rfl)) fun vs σ H Q ⟨m, ρ, L, ws, S, F, r, q⟩ => ?_
  cases ws with
  | nil => exact False.elim q
  | cons w ws =>
    cases r with
    | @cons _ v _ vs ra rb =>
      have q : run (T.g X) (ofW Wx) σ (RG X.K (tgIxs (t :: ts)) σ) (bnd (asgT C t w ρ) fun ρ1 => asgTs C ts ws ρ1) m H L Q := q
      refine ⟨v, vs, rfl, m, ρ, L, w, S, F, ra, ?_⟩
      refine (run_bnd (R' := RG X.K (tgIx t) σ) q).imp fun σ1 H1 ⟨m1, L1, ρ1, e1, S1, ⟨F1, fl, fs⟩, q1⟩ => ?_
      refine ⟨m1, ρ1, L1, ws, S1, F1, rb.mono e1, ?_⟩
      have q2 := pl_noexcs ts hps (E' := fun e L' => ∀ m' H' cls d, Ext m1 H1 m' H' → Sim (T.g X) m' L' H' → (T.g X).rx m' H' e cls d → ofW Wx σ1 e cls d H') q1
      refine wp_mono q2 (fun a L' z m' H' σ' e' s' ⟨rf, rl, rs⟩ => z m' H' σ' e' s' ⟨rf, rl.trans fl, fun i hi => ?_⟩) fun _ _ z => z
      simp only [tgIxs, List.mem_append, not_or] at hi
      exact (rs i hi.2).trans (fs i hi.1)
theorem pg_tp (O : Ok T p C c X d) {ts : List Tgt} {es : List Expr} {k : Nat} {ps : Pos} (hp : tgPls ts = true) (hk : chkGs p c ts es = true) (h : PGs X es (tGs T C Wx X ts)) : PG X (.Tuple es k ps) (tG T C Wx X (.tup ts)) := by
  obtain ⟨a1, a2⟩ := asgE_all hk X.env
  refine PG_imp (pg_tup (n := ts.length) O.calm h a1 a2) fun v σ H Q ⟨m, ρ, L, w, S, F, r, q⟩ => ?_
  cases w with
  | tup ws =>
    cases r with
    | @tup a xs _ hs hr =>
      have q : run (T.g X) (ofW Wx) σ (RG X.K (tgIxs ts) σ) (asgTs C ts ws ρ) m H L Q := q
      refine ⟨a, xs, rfl, sqT hs, ?_, m, ρ, L, ws, S, F, hr, q⟩
      rw [← hr.length]
      exact wp_asgTs_len (pl_noexcs ts hp q)
  | _ => exact False.elim q
/-- o[i] = v: a list, a dict -/
theorem set_all (hu : X.A.units + 65 < cLine) : PSet X (fun o i v H Q => (∃ l xs k j, o = .ref l ∧ i = .int k ∧ H l = some (.lst xs) ∧ ixN xs.length k = some j ∧ Q (upd H l (.lst (xs.set j v)))) ∨ ∃ a H', o = .ref a ∧ DPut H a i v H' ∧ Q H') := by
  intro pins s σ H x y v ov iv u Q I rx ry rv h
  rcases h with ⟨l, xs, k, j, h1, h2, h3, h4, q⟩ | ⟨a, H', h1, h2, q⟩
  · exact set_list pins s σ H x y v ov iv u Q I rx ry rv ⟨l, xs, k, j, h1, h2, h3, h4, q⟩
  · subst h1
    obtain rfl : ov = Value.ref a := rx
    exact d_setItem (by omega) I h2 ry rv fun s4 I4 => ⟨H', I4, q⟩
theorem dput_ok {g : G} {m : List Addr} {L : Hh} {H : Hp} (S : Sim g m L H) {l : Nat} {a : Addr} (hl : m[l]? = some a) {tt : Bool} {kvs : List (Ky × W)} (e : L[l]? = some (.dct tt kvs)) {w z : W} {y v : V} (r : RelW g.K m H w y) {k : Ky} (hk : keyFit tt w = some k) (hz : kvs.length < sizeLine) (rv : RelW g.K m H z v) :
    ∃ H', DPut H a y v H' ∧ Ext m H m H' ∧ Sim g m (L.set l (.dct tt (dPut kvs k z))) H' := by
  cases tt with
  | false =>
    obtain ⟨qs, h1, h2, h3⟩ := S.ob l a _ hl e
    have hlen := congrArg List.length h2
    simp only [List.length_map] at hlen
    obtain ⟨q, rfl, rfl⟩ := keyK_ok r hk
    refine ⟨_, DPut.k h1 (by omega), S.put hl e rfl fun ex => ?_⟩
    obtain ⟨k1, k2⟩ := put_find kyK kyK_inj h2 (h3.mono ex) (rv.mono ex) q
    exact ⟨_, upd_same, k1, k2⟩
  | true =>
    obtain ⟨qs, h1, h2, h3⟩ := S.ob l a _ hl e
    have hlen := congrArg List.length h2
    simp only [List.length_map] at hlen
    obtain ⟨q, b, rfl, hb, rfl⟩ := keyT_ok r hk
    refine ⟨_, DPut.t h1 hb (by omega), S.put hl e rfl fun ex => ?_⟩
    obtain ⟨k1, k2⟩ := put_find kyT kyT_inj h2 (h3.mono ex) (rv.mono ex) q
    exact ⟨_, upd_same, k1, k2⟩
theorem pg_sb (O : Ok T p C c X d) {o i : Ex} {l r : Expr} {ps : Pos} (hi : chkE p c i r = true) (h1 : PE X l (tE T C Wx X o)) (h2 : PE X r (tE T C Wx X i)) : PG X (.Subscript l r ps) (tG T C Wx X (.sub o i)) := by
  refine PG_imp (pg_sub h1 h2 (set_all (hu64 O.room)) (by intro v; cases r <;> first | rfl | (rw [chk_slice] at hi; cases hi))) fun v σ H Q ⟨m, ρ, L, w, S, F, r, q⟩ => ?_
  have q : run (T.g X) (ofW Wx) σ (RG X.K (tgIx (.sub o i)) σ) (bnd (evE C ρ o) fun x => bnd (evE C ρ i) fun y => bnd (setItem x y w) fun _ => ret ρ) m H L Q := q
  refine ⟨m, ρ, L, S, F, (run_bnd (R' := RelW X.K) q).imp fun vo H1 ⟨m1, L1, x, e1, S1, r1, q1⟩ => ⟨m1, ρ, L1, S1, F.mono e1, (run_bnd (R' := RelW X.K) q1).imp fun vi H2 ⟨m2, L2, y, e2, S2, r2, q2⟩ => ?_⟩⟩
  have r1 := r1.mono e2
  have rw2 := (r.mono e1).mono e2
  have F2 := (F.mono e1).mono e2
  cases x with
  | ref l =>
    have q2 : run (T.g X) (ofW Wx) σ (RG X.K (tgIx (.sub o i)) σ) (bnd (match L2[l]? with
      | some (.lst ws) => (match y with
        | .int k => (match _root_.L2.ixN ws.length k with
          | some j => put l (.lst (ws.set j w))
          | none => fail)
        | _ => fail)
      | some (.dct tt kvs) => (match keyFit tt y with
        | some k => if decide (kvs.length < sizeLine) then put l (.dct tt (dPut kvs k w)) else fail
        | none => fail)
      | _ => fail) fun _ => ret ρ) m2 H2 L2 Q := q2
    cases r1 with
    | @ref _ a hl =>
      split at q2
      · rename_i ws e
        obtain ⟨k, rfl⟩ : ∃ k, y = .int k := by
          cases y with
          | int k => exact ⟨k, rfl⟩
          | _ => exact False.elim q2
        obtain ⟨xs, h1, rr⟩ := S2.lst hl e
        cases r2
        dsimp only at q2
        split at q2
        · rename_i j ej
          refine .inl ⟨a, xs, k, j, rfl, rfl, h1, by rw [← rr.length]; exact ej, ?_⟩
          obtain ⟨e3, S3⟩ := S2.put (o' := .lst (ws.set j w)) (u := .lst (xs.set j v)) hl e rfl fun e3 => ⟨_, upd_same, (rr.set rw2).mono e3⟩
          have q3 : wp (ret ρ) (L2.set l (.lst (ws.set j w))) (fun a L' => ∀ m' H' b, Ext m2 H2 m' H' → Sim (T.g X) m' L' H' → RG X.K (tgIx (.sub o i)) σ m' H' a b → Q b H') (fun e L' => ∀ m' H' cls d, Ext m2 H2 m' H' → Sim (T.g X) m' L' H' → (T.g X).rx m' H' e cls d → ofW Wx σ e cls d H') := q2
          exact q3 _ _ σ e3 S3 ⟨F2.mono e3, rfl, fun _ _ => rfl⟩
        · exact q2.elim
      · rename_i tt kvs e
        split at q2
        · rename_i k ek
          by_cases hz : kvs.length < sizeLine
          · rw [if_pos (decide_eq_true hz)] at q2
            obtain ⟨H', d1, e3, S3⟩ := dput_ok S2 hl e r2 ek hz rw2
            have q3 : wp (ret ρ) (L2.set l (.dct tt (dPut kvs k w))) (fun a L' => ∀ m' H' b, Ext m2 H2 m' H' → Sim (T.g X) m' L' H' → RG X.K (tgIx (.sub o i)) σ m' H' a b → Q b H') (fun e L' => ∀ m' H' cls d, Ext m2 H2 m' H' → Sim (T.g X) m' L' H' → (T.g X).rx m' H' e cls d → ofW Wx σ e cls d H') := q2
            exact .inr ⟨a, H', rfl, d1, q3 _ _ σ e3 S3 ⟨F2.mono e3, rfl, fun _ _ => rfl⟩⟩
          · rw [if_neg (by simpa using hz)] at q2
            exact q2.elim
        · exact q2.elim
      · exact q2.elim
  | _ => exact False.elim q2

/-- sorted(set(x)), x a text -/
theorem pe_srtset (O : Ok T p C c X d) {x : Ex} {y z : Str} {ps ps2 pos pos2 : Pos} {l : Expr} (hy : bltB p c.sc y "sorted" = true) (hz : bltB p c.sc z "set" = true) (hl : chkE p c x l = true) (hx : PE X l (tE T C Wx X x)) :
    PE X (.Call (.Name y ps) [.Call (.Name z ps2) [l] [] pos2] [] pos) (tE T C Wx X (.srtset x)) := by
  obtain ⟨rfl, g1, g2, g3⟩ := O.blt hy
  obtain ⟨rfl, k1, k2, k3⟩ := O.blt hz
  have inner := pe_callTy (p := ps2) (pos := pos2) (cr_setTxt O.calm) k1 k2 PyProof.Rows.boot_set (pa_cons hx pa_nil (star_plain hl _ X.env)) (by decide) k3 (star_plain hl _ X.env)
  refine PE_imp (pe_callB (cr_sortedSetTxt O.calm) g1 g2 PyProof.Rows.boot_sorted (pa_cons inner pa_nil) (by decide) g3) fun σ H Q q => ?_
  refine (tM_bnd (R' := RelW X.K) q).imp fun v H1 ⟨m1, ρ, L1, w, S1, F1, r1, q1⟩ => ?_
  cases w <;> try exact False.elim q1
  rename_i t
  cases r1
  rcases run_if q1 with ⟨c1, q1⟩ | ⟨_, q1⟩
  · have c1 := of_decide_eq_true c1
    have hb : scanBound = 4096 := rfl
    refine ⟨_, rfl, by rw [hb]; simp; omega, fun p n hp => ⟨p, _, n, rfl, upd_same, fun ys p2 so nd mem hl hp2 => ?_⟩⟩
    obtain ⟨e2, S2⟩ := S1.free (u := SetX X.prog X.w p (fun j => decide (j ∈ sgn ⟨t.toArray⟩)) n) hp
    have perm : ys.Perm ((dedup (t.map fun c => [c])).map tx) := by
      refine (List.perm_ext_iff_of_nodup nd (List.pairwise_map.mpr ((dedup_nodup _).imp fun h z => h (tx_inj z)))).mpr fun k => ?_
      rw [mem k, decide_eq_true_eq]
      have e3 : sgn (⟨t.toArray⟩ : Str) = (t.map fun c => [c]).map tx := sgn_tx t
      rw [e3, List.mem_map, List.mem_map]
      constructor
      · rintro ⟨a, ha, z⟩; exact ⟨a, dedup_mem.mpr ha, z⟩
      · rintro ⟨a, ha, z⟩; exact ⟨a, dedup_mem.mp ha, z⟩
    rw [sortT_eq perm so]
    exact run_new (q1.shift e2) S2 (rels_txt _) hp2
  · exact q1.elim


/-! ### fields, methods, instances -/
theorem fld_of (O : Ok T p C c X d) {k : Nat} {x : Str} (h : p.fld[k]? = some x) : T.FN.getD k Str.empty = x ∧ k < T.FN.length := by
  rw [O.fl, List.getD_eq_getElem?_getD, h]
  exact ⟨rfl, (List.getElem?_eq_some_iff.mp h).1⟩
theorem fnd_of (O : Ok T p C c X d) : T.FN.Nodup := by rw [O.fl]; exact O.cf.fnd
theorem pe_fldx (O : Ok T p C c X d) {o : Ex} {l : Expr} {n : Str} {f : Nat} {pos : Pos} (hn : noSup l = true) (hf : p.fld[f]? = some n) (ho : PE X l (tE T C Wx X o)) : PE X (.Attribute l n pos) (tE T C Wx X (.fld o f)) := by
  refine ⟨fun pins s σ H Q I q => ?_⟩
  refine attr_of (noSup_base hn _ _ _) (thn (ho.run pins s σ H _ I (tM_bnd (R' := RelW X.K) q)) fun u s1 ⟨v, H1, I1, rv, m1, ρ, L1, x, S1, F1, r1, q1⟩ => ?_)
  cases x <;> try exact False.elim q1
  rename_i l0
  have q1 : run (T.g X) (ofW Wx) σ (RelW X.K) (match L1[l0]? with
    | some (.ins k fs) => if C.cf k f = true then (match getFld fs f with
      | some w => ret w
      | none => fail) else fail
    | _ => fail) m1 H1 L1 Q := q1
  cases r1 with
  | @ref _ a hl =>
    obtain rfl : u = Value.ref a := rv
    split at q1
    · rename_i k fs e
      rcases run_if q1 with ⟨c1, q1⟩ | ⟨_, q1⟩
      · obtain ⟨cx, y, e1, e2, e3⟩ := O.cf.cf k f c1
        obtain rfl : n = y := by rw [hf] at e2; exact Option.some.inj e2
        obtain ⟨dx, qs, h1, h2, h3, h4, h9⟩ := S1.ob l0 a _ hl e
        have h1 : H1 a = some (.ins (He.ga X.K (T.CN.getD k Str.empty)) dx qs) := h1
        rw [cls_of O e1] at h1
        obtain ⟨f1, f2⟩ := fld_of O hf
        split at q1
        · rename_i w ew
          obtain ⟨v', lv, rr⟩ := lk_fld (fnd_of O) f2 h2 h3 h4 ew
          rw [f1] at lv
          exact getattr_ok I1 h1 (O.pg.cls cx (List.mem_of_getElem? e1)).2.cl (O.pg.noat _ e3) lv fun u' s2 I2 ru => ⟨v', H1, I2, ru, run_val q1 S1 rr⟩
        · exact q1.elim
      · exact q1.elim
    · exact q1.elim
/-- a property is read -/
theorem pe_prpx (O : Ok T p C c X d) {o : Ex} {l : Expr} {n : Str} {f : Nat} {pos : Pos} (hn : noSup l = true) (hf : p.pf[f]? = some n) (ho : PE X l (tE T C Wx X o)) : PE X (.Attribute l n pos) (tE T C Wx X (.prp o f)) := by
  refine ⟨fun pins s σ H Q I q => ?_⟩
  refine attr_of (noSup_base hn _ _ _) (thn (ho.run pins s σ H _ I (tM_bnd (R' := RelW X.K) q)) fun u s1 ⟨v, H1, I1, rv, m1, ρ, L1, x, S1, F1, r1, q1⟩ => ?_)
  have q1 : run (T.g X) (ofW Wx) σ (RelW X.K) (match (clsOf L1 x).bind fun c => C.pt c f with
    | some t => noX (C.callM t [x])
    | none => fail) m1 H1 L1 Q := q1
  cases ec : clsOf L1 x with
  | none => rw [ec] at q1; exact q1.elim
  | some k =>
    rw [ec] at q1
    have q1 : run (T.g X) (ofW Wx) σ (RelW X.K) (match C.pt k f with
      | some t => noX (C.callM t [x])
      | none => fail) m1 H1 L1 Q := q1
    cases ed : C.pt k f with
    | none => rw [ed] at q1; exact q1.elim
    | some t =>
      rw [ed] at q1
      obtain ⟨cx, nm, gt, h1, h2, h3, h4, h5, h6, h7⟩ := O.cf.pt k f t ed
      rw [hf] at h2
      cases h2
      obtain ⟨l0, rfl⟩ : ∃ l0, x = .ref l0 := by cases x <;> first | exact ⟨_, rfl⟩ | cases ec
      cases r1 with
      | @ref _ a hl0 =>
        unfold clsOf at ec
        dsimp only at ec
        split at ec
        · rename_i k' fs' e
          cases ec
          obtain ⟨dx, qs, g1, _⟩ := S1.ob l0 a _ hl0 e
          have g1 : H1 a = some (.ins (He.ga X.K (T.CN.getD k Str.empty)) dx qs) := g1
          rw [cls_of O h1] at g1
          obtain rfl : u = Value.ref a := rv
          have t3 := O.tgm t gt h3
          have ead : gt.at_.ad X.K = gtA X.K (He.ga X.K cx) n := by rw [h4]; rfl
          rw [ead, h5, h6] at t3
          have hp := O.pg.prop _ h7
          have cl := (O.pg.cls cx (List.mem_of_getElem? h1)).2.cl
          obtain ⟨mA, J, _⟩ := ins_get I1.hok g1
          obtain ⟨od, J, _⟩ := J.look
          obtain ⟨rest, hrec⟩ := hp.rec_
          have I2 := I1.tok (s1.toks + 1)
          have hc : (PySem.W.clsIn X.K (He.ga X.K cx)).isSome = true := by
            obtain ⟨cd, hc, _⟩ := PySem.W.any_some cl.hd
            rw [hc]
            rfl
          have hroom := O.room
          refine PySem.W.get_bind I1.kIn J (PySem.W.plainGet_of (cl.get n)).1 (PySem.W.findObj_data hc hp.at_ hp.get hp.tak) (PySem.W.plainGet_of (cl.get n)).2 (wpAny_call (PySem.W.prop_get (s := { s1 with toks := s1.toks + 1 }) I1.kIn hrec ?_))
          have cal := t3 X.A.in1 X.stack { s1 with toks := s1.toks + 1 } H1 [.ref a] [] [.ref a] [] Q (fun _ _ _ => False) m1 L1 [.ref l0] σ hroom.in1 I2.env0.in1 (.cons rfl .nil) .nil rfl rfl S1 (.cons (RelW.ref hl0) .nil) (run_noX q1)
          refine codeAny_mono cal fun r s' hq => ?_
          cases r with
          | error e =>
            obtain ⟨_, _, _, _, _, _, _, _, _, _, _, _, z⟩ := hq
            exact z.elim
          | ok fl =>
            cases fl with
            | ret w =>
              obtain ⟨v', H', I3, rv', q3⟩ := I2.after hq
              show wpAny _ _ (handedOut w) _ _ _
              rw [PySem.W.handedOut_of (handed_of rv')]
              exact wpAny_pure ⟨v', H', I3, rv', q3⟩
            | next => exact False.elim hq
            | brk => exact False.elim hq
            | cont => exact False.elim hq
        · cases ec
/-- a field is stored -/
theorem setf_ok (O : Ok T p C c X d) {α : Type} {R : List Addr → Hp → Fr → α → Prop} {pins : List (Addr × Obj)} {s : Shared} {σ : L2.St} {H : Hp} {x w : W} {v : V} {u : Value} {f : Nat} {n : Str} {m : List Addr} {L : Hh} {k : Unit → M Fr} {ov : Value} {vo : V} {Q : α → Hp → Prop} {Q2 : Unit → Shared → Prop} {A : Around} {E : Value → Shared → Prop} {Xw : XW}
    (I : L2.Inv X pins σ H s) (S : Sim (T.g X) m L H) (hf : p.fld[f]? = some n) (rx : RelW X.K m H x vo) (ro : RelV vo ov) (rw' : RelW X.K m H w v) (ru : RelV v u) (q : run (T.g X) Xw σ R (bnd (setFld C x w f) k) m H L Q)
    (h : ∀ H' L' s', Ext m H m H' → Sim (T.g X) m L' H' → L2.Inv X pins σ H' s' → run (T.g X) Xw σ R (k ()) m H' L' Q → Q2 () s') : wpAny (model X.prog X.w) A (setAttr ov n u) Q2 E s := by
  cases x <;> try exact False.elim (run_bnd (R' := RU) q)
  rename_i l0
  have q : run (T.g X) Xw σ R (bnd (match L[l0]? with
    | some (.ins c fs) => if C.cf c f && decide (fs.length < 900) then put l0 (.ins c (putFld f w fs)) else fail
    | _ => fail) k) m H L Q := q
  cases rx with
  | @ref _ a hl =>
    obtain rfl : ov = Value.ref a := ro
    split at q
    · rename_i kc fs e
      by_cases c1 : (C.cf kc f && decide (fs.length < 900)) = true
      · rw [if_pos c1] at q
        simp only [Bool.and_eq_true, decide_eq_true_eq] at c1
        obtain ⟨cx, y, e1, e2, e3⟩ := O.cf.cf kc f c1.1
        obtain rfl : n = y := by rw [hf] at e2; exact Option.some.inj e2
        obtain ⟨dx, qs, h1, h2, h3, h4, h9⟩ := S.ob l0 a _ hl e
        have h1 : H a = some (.ins (He.ga X.K (T.CN.getD kc Str.empty)) dx qs) := h1
        have hlen : qs.length < 1000 := by
          have z := congrArg List.length h2
          simp only [List.length_map] at z
          omega
        obtain ⟨f1, f2⟩ := fld_of O hf
        have c2 : Cls X.K (He.ga X.K (T.CN.getD kc Str.empty)) := by rw [cls_of O e1]; exact (O.pg.cls cx (List.mem_of_getElem? e1)).2.cl
        have c3 : NoAttr X.K (He.ga X.K (T.CN.getD kc Str.empty)) n := by rw [cls_of O e1]; exact O.pg.noat _ e3
        obtain ⟨ex, S'⟩ := S.put (o' := .ins kc (putFld f w fs)) (u := .ins (He.ga X.K (T.CN.getD kc Str.empty)) dx (putF n v qs)) hl e rfl fun ex => by
          obtain ⟨k1, k2, k3⟩ := put_fld (fnd_of O) f2 (rw'.mono ex) h2 h3 (h4.mono ex)
          rw [f1] at k1 k3
          exact ⟨dx, putF n v qs, upd_same, k1, k2, k3, h9⟩
        refine setattr_ok I h1 c2 c3 hlen ru fun s' I' => h _ _ s' ex S' I' ?_
        have q : wp (k ()) (L.set l0 (.ins kc (putFld f w fs))) _ _ := q
        exact wp_mono q (fun _ _ z m' H' b e' s r => z m' H' b (ex.trans e') s r) fun _ _ z m' H' cls dd e' s r => z m' H' cls dd (ex.trans e') s r
      · rw [if_neg c1] at q
        exact False.elim (run_bnd (R' := RU) q)
    · exact False.elim (run_bnd (R' := RU) q)
theorem pg_fl (O : Ok T p C c X d) {o : Ex} {l : Expr} {n : Str} {f : Nat} {pos : Pos} (hf : p.fld[f]? = some n) (ho : PE X l (tE T C Wx X o)) : PG X (.Attribute l n pos) (tG T C Wx X (.fld o f)) := by
  refine ⟨fun pins s σ H v u Q I r q => ?_⟩
  obtain ⟨m, ρ, L, w, S, F, rw', q⟩ := q
  have q : run (T.g X) (ofW Wx) σ (RG X.K (tgIx (.fld o f)) σ) (bnd (evE C ρ o) fun x => bnd (setFld C x w f) fun _ => ret ρ) m H L Q := q
  have ha : assign (.Attribute l n pos) X.env u = (do
      let ov ← holding [u] (eval l X.env)
      standAt pos.atName
      holding [u, ov] (setAttr ov n u)
      release [u, ov] []) := rfl
  rw [ha]
  refine wpAny_bind (wpAny_holding (thn (ho.run pins s σ H _ I ⟨m, ρ, L, S, F, run_bnd (R' := RelW X.K) q⟩) fun ov s1 ⟨vo, H1, I1, ro, m1, L1, x, e1, S1, r1, q1⟩ => ?_))
  refine wpAny_bind (wpAny_standAt (wpAny_bind (wpAny_holding ?_)))
  refine setf_ok O I1 S1 hf r1 ro (rw'.mono e1) r q1 fun H' L' s' ex S' I' q2 => ?_
  exact wpAny_release ⟨σ, H', I', q2 _ _ σ (Ext.refl _ _) S' ⟨(F.mono e1).mono ex, rfl, fun _ _ => rfl⟩⟩
theorem kw_few {ks : List Keyword} {kws : List Str} (h : ks.map (·.arg) = kws.map some) {xs : List Ex} {es : List Expr} (hx : chkEs p c xs es = true) (env : PySem.Env) (pos : Pos) (hn : es.length + ks.length < 20) : methodCallForm (es.length + ks.length) (backTo pos (starEach es env)) (backToKw pos (keywordEach ks env)) = true := by
  unfold methodCallForm
  have h1 := chkEs_star hx env pos
  have h2 : (backTo pos (starEach es env)).all (fun x => !x.1) = true := by
    rw [List.all_eq_true]
    intro z hz
    have := List.any_eq_false.mp h1 z hz
    simpa using this
  rw [h2, (kw_all h env pos).1]
  simp
  split <;> omega
theorem mcall_tree {ks : List Keyword} {kws : List Str} (h : ks.map (·.arg) = kws.map some) {xs : List Ex} {es : List Expr} (hx : chkEs p c xs es = true) {l : Expr} {n : Str} {apos pos : Pos} (hs : noSup l = true) (hl : (apos.endLine == pos.line) = true) (hn : es.length + ks.length < 20) (env : PySem.Env) :
    eval (.Call (.Attribute l n apos) es ks pos) env = (do
      let ov ← eval l env
      standAt apos.atName
      let (f, first) ← holding [ov] (getMethod ov n (do return (← importBound l env).getD true))
      callWith pos f first (backTo pos (starEach es env)) (backToKw pos (keywordEach ks env))) := by
  rw [arm_eval_Call, noSup_base hs]
  unfold methodCall
  rw [kw_few h hx env pos hn]
  unfold methodCallPos calleeOf
  rw [hl]
  rfl
theorem pe_mcallx (O : Ok T p C c X d) (tk : Takes X Wx) {mi : Nat} {nm : Str} {np : Nat} {kws : List Str} {o : Ex} {xs ys : List Ex} {l : Expr} {es : List Expr} {ks : List Keyword} {apos pos : Pos} (hm : p.mf[mi]? = some (nm, np, kws)) (hs : noSup l = true) (hl : (apos.endLine == pos.line) = true) (hn : es.length + ks.length < 20) (hnp : es.length = np)
    (hk : ks.map (·.arg) = kws.map some) (hx : chkEs p c xs es = true) (hy : chkEs p c ys (ks.map (·.value)) = true) (ho : PE X l (tE T C Wx X o)) (ha : PA X es (tA T C Wx X xs)) (hka : PK X ks (tA T C Wx X ys)) :
    PE X (.Call (.Attribute l nm apos) es ks pos) (tE T C Wx X (.mcall mi o xs ys)) := by
  refine ⟨fun pins s σ H Q I q => ?_⟩
  refine PySem.W.methodCall_KW (thn (ho.run pins s σ H _ I (tM_bnd (R' := RelW X.K) q)) fun u s1 ⟨v, H1, I1, rv, m1, ρ, L1, x, S1, F1, r1, q1⟩ => ?_) (mcall_tree hk hx hs hl hn X.env)
  have q1 : run (T.g X) (ofW Wx) σ (RelW X.K) (match (clsOf L1 x).bind fun c => C.mt c mi with
    | some t => bnd (evEs C ρ xs) fun ws => bnd (evEs C ρ ys) fun zs => C.call t (x :: (ws ++ zs))
    | none => fail) m1 H1 L1 Q := q1
  cases x with
  | ref l0 =>
    cases r1 with
    | @ref _ a hl0 =>
      obtain rfl : u = Value.ref a := rv
      cases e : L1[l0]? with
      | none => have e2 : clsOf L1 (.ref l0) = none := by unfold clsOf; dsimp only; rw [e]
                rw [e2] at q1; exact False.elim q1
      | some ob =>
        cases ob with
        | ins kc fs =>
          have e2 : clsOf L1 (.ref l0) = some kc := by unfold clsOf; dsimp only; rw [e]
          rw [e2] at q1
          cases et : C.mt kc mi with
          | none => have e3 : ((some kc).bind fun c => C.mt c mi) = none := et
                    rw [e3] at q1; exact False.elim q1
          | some t =>
            have e3 : ((some kc).bind fun c => C.mt c mi) = some t := et
            rw [e3] at q1
            obtain ⟨cx, nm', np', kws', gt, g1, g2, g3, g4, g5, g6, g7, g8⟩ := O.cf.mt kc mi t et
            rw [hm] at g2
            cases g2
            obtain ⟨dx, qs, h1, h2, h3, h4, h9⟩ := S1.ob l0 a _ hl0 e
            have h1 : H1 a = some (.ins (He.ga X.K (T.CN.getD kc Str.empty)) dx qs) := h1
            rw [cls_of O g1] at h1
            have lk : qs.lookup nm = none := lk_none (FN := T.FN) (by rw [O.fl]; exact g8) h2 h3
            obtain ⟨t1, _, t3⟩ := O.tg t gt g3
            have ead : gt.at_.ad X.K = He.ma X.K (He.ga X.K cx) nm := by rw [g4]; rfl
            rw [ead] at t1 t3
            rw [g5, g6] at t3
            have M := O.pg.meth _ g7
            refine getmeth_ok I1 h1 (O.pg.cls cx (List.mem_of_getElem? g1)).2.cl M lk ?_
            obtain ⟨k1, k2, k3⟩ := kw_all hk X.env pos
            have fin : ∀ (us : List Value) (s2 : Shared) (vs : List V) (H2 : Hp), L2.Inv X pins σ H2 s2 → Vals vs us → us.length = np → (∃ m2 ρ L2 ws, Ext m1 H1 m2 H2 ∧ Sim (T.g X) m2 L2 H2 ∧ RelF X.K m2 H2 ρ σ ∧ RelWs X.K m2 H2 ws vs ∧ run (T.g X) (ofW Wx) σ (RelW X.K) (bnd (evEs C ρ ys) fun zs => C.call t (.ref l0 :: (ws ++ zs))) m2 H2 L2 Q) →
                wpAny (model X.prog X.w) X.A (evalAll ((backToKw pos (keywordEach ks X.env)).map (·.2))) (fun zs s3 => X.K.In s3.heap ∧ wpAny (model X.prog X.w) X.A (call (.ref (He.ma X.K (He.ga X.K cx) nm)) ([.ref a] ++ us) (((backToKw pos (keywordEach ks X.env)).filterMap (·.1)).zip zs)) (EP X pins σ Q) X.xe s3) X.xe s2 := by
              intro us s2 vs H2 I2 rr hlen ⟨m2, ρ2, L2', ws, e12, S2, F2, rw2, q2⟩
              refine thn (hka.run pos pins s2 σ H2 _ I2 ⟨m2, ρ2, L2', S2, F2, run_bnd_len q2⟩) fun zs s3 ⟨zv, H3, I3, r3, m3, L3, as, e23, S3, rz, hla, q3⟩ => ⟨I3.kIn, ?_⟩
              rw [k2]
              have hz : zs.length = kws.length := by
                have e3 := congrArg List.length hk
                have e6 := chkEs_len hy
                simp only [List.length_map] at e3 e6
                have e4 : zs.length = zv.length := r3.length.symm
                have e5 := rz.length
                omega
              refine wpAny_call (call_at tk t3 (vs := .ref a :: vs) (us := .ref a :: us) (O.room.mono (by omega)) I3.env0 I3 (.cons rfl rr) r3 (by simp [hlen]) hz S3 (.cons ((RelW.ref hl0).mono (e12.trans e23)) ((rw2.mono e23).append rz)) q3)
            have q1 := run_bnd_len q1
            cases es with
            | nil =>
              refine PySem.W.callWith_KW0 (first := [.ref a]) (h₀ := X.base) I.ok.mod.kin M.kp k1 ?_ (by rw [k3]; rfl)
              have hx0 : xs = [] := by
                cases xs with
                | nil => rfl
                | cons x xs => simp [chkEs] at hx
              subst hx0
              obtain ⟨m2, L2', ws, e12, S2, rr, hl1, q2⟩ := run_ret (R := RelWs X.K) q1 S1 .nil
              exact fin [] s1 [] H1 I1 .nil (by simpa using hnp) ⟨m2, ρ, L2', ws, e12, S2, F1.mono e12, rr, q2⟩
            | cons e0 rest =>
              have he := (chkEs_head hx X.env)
              have he : starEach (e0 :: rest) X.env = (false, eval e0 X.env) :: starEach rest X.env := by
                rcases he with he | ⟨e1, r1, he1, he2⟩
                · cases he
                · cases he1; exact he2
              refine PySem.W.callWith_KW (first := [.ref a]) (h₀ := X.base) I.ok.mod.kin M.kp k1 (thn (ha.run pos pins s1 σ H1 _ I1 ⟨m1, ρ, L1, S1, F1, q1⟩) fun us s2 ⟨vs, H2, I2, rr, m2, L2', ws, e12, S2, rw2, hl1, q2⟩ => ?_) (by rw [k3, chkEs_star hx]; rfl) he
              refine fin us s2 vs H2 I2 rr ?_ ⟨m2, ρ, L2', ws, e12, S2, F1.mono e12, rw2, q2⟩
              have e1 := rr.length
              have e2 := rw2.length
              have e3 := chkEs_len hx
              omega
        | _ => have e2 : clsOf L1 (.ref l0) = none := by unfold clsOf; dsimp only; rw [e]
               rw [e2] at q1; exact False.elim q1
  | _ => exact False.elim q1
/-- C(..): a new instance -/
theorem pe_mkx (O : Ok T p C c X d) (tk : Takes X Wx) {k : Nat} {y : Str} {np : Nat} {kws : List Str} {xs ys : List Ex} {es : List Expr} {ks : List Keyword} {ps pos : Pos} (hm : p.mkf[k]? = some (y, np, kws)) (g1 : Gl X y) (g2 : (y == ("__debug__" : Str)) = false) (hc : y ∈ p.cls) (hmk : y ∈ p.mkrL) (hnp : es.length = np)
    (hk : ks.map (·.arg) = kws.map some) (hx : chkEs p c xs es = true) (hy : chkEs p c ys (ks.map (·.value)) = true) (ha : PA X es (tA T C Wx X xs)) (hka : PK X ks (tA T C Wx X ys)) :
    PE X (.Call (.Name y ps) es ks pos) (tE T C Wx X (.mk k xs ys)) := by
  refine ⟨fun pins s σ H Q I q => ?_⟩
  refine wpAny_Call_Name_kw (ld_glob I g1 (O.pg.cls y hc).1 ?_ g2)
  obtain ⟨k1, k2, k3⟩ := kw_all hk X.env pos
  have M := O.pg.mkr _ hmk
  have fin : ∀ (us : List Value) (s1 : Shared) (vs : List V) (H1 : Hp), L2.Inv X pins σ H1 s1 → Vals vs us → us.length = np → (∃ m1 ρ L1 ws, Sim (T.g X) m1 L1 H1 ∧ RelF X.K m1 H1 ρ σ ∧ RelWs X.K m1 H1 ws vs ∧ run (T.g X) (ofW Wx) σ (RelW X.K) (bnd (evEs C ρ ys) fun zs => makeOf C k (ws ++ zs)) m1 H1 L1 Q) →
      wpAny (model X.prog X.w) X.A (evalAll ((backToKw pos (keywordEach ks X.env)).map (·.2))) (fun zs s2 => X.K.In s2.heap ∧ wpAny (model X.prog X.w) X.A (call (.ref (He.ga X.K y)) us (((backToKw pos (keywordEach ks X.env)).filterMap (·.1)).zip zs)) (EP X pins σ Q) X.xe s2) X.xe s1 := by
    intro us s1 vs H1 I1 r1 hl ⟨m1, ρ, L1, ws, S1, F1, rw1, q1⟩
    refine thn (hka.run pos pins s1 σ H1 _ I1 ⟨m1, ρ, L1, S1, F1, run_bnd_len q1⟩) fun zs s2 ⟨zv, H2, I2, r2, m2, L2', as, e2, S2, rz, hla, q2⟩ => ⟨I2.kIn, ?_⟩
    rw [k2]
    have hz : zs.length = kws.length := by
      have e3 := congrArg List.length hk
      have e6 := chkEs_len hy
      simp only [List.length_map] at e3 e6
      have e4 : zs.length = zv.length := r2.length.symm
      have e5 := rz.length
      omega
    cases em : C.mks k with
    | none =>
      have z : makeOf C k (ws ++ as) = fail := by unfold makeOf; rw [em]
      rw [z] at q2
      exact q2.elim
    | some ct =>
      obtain ⟨kc, t⟩ := ct
      obtain ⟨cx, np', kws', gt, h1, h2, h3, h4, h5, h6, h7⟩ := O.cf.mks k kc t em
      rw [hm] at h2
      cases h2
      have t3 := O.tgm t gt h3
      have ead : gt.at_.ad X.K = He.ma X.K (He.ga X.K y) "__init__" := by rw [h4]; rfl
      rw [ead, h5, h6] at t3
      have q2 : run (T.g X) (ofW Wx) σ (RelW X.K) (bnd (alloc (.ins kc [])) fun o => bnd (C.callM t (o :: (ws ++ as))) fun r => match r with
        | .non => ret o
        | _ => fail) m2 H2 L2' Q := by
        have e : makeOf C k (ws ++ as) = bnd (alloc (.ins kc [])) fun o => bnd (C.callM t (o :: (ws ++ as))) fun r => match r with
          | .non => ret o
          | _ => fail := by unfold makeOf; rw [em] <;> rfl
        rw [← e]
        exact q2
      have n0 : H2 s2.heap.objs.size = none := I2.hok.fresh (Nat.le_refl _)
      have n1 : H2 (s2.heap.objs.size + 1) = none := I2.hok.fresh (Nat.le_succ _)
      have ne : s2.heap.objs.size ≠ s2.heap.objs.size + 1 := Nat.ne_of_lt (Nat.lt_succ_self _)
      obtain ⟨ea, Sa⟩ := S2.free (u := .own (s2.heap.objs.size + 1)) n0
      have n1' : upd H2 s2.heap.objs.size (.own (s2.heap.objs.size + 1)) (s2.heap.objs.size + 1) = none := by rw [upd_ne (Ne.symm ne)]; exact n1
      obtain ⟨eb, Sb⟩ := Sa.new (u := .ins (He.ga X.K y) s2.heap.objs.size []) (o := .ins kc []) n1' ⟨s2.heap.objs.size, [], by rw [upd_same]; show some (HO.ins (He.ga X.K y) _ []) = some (HO.ins (He.ga X.K (T.CN.getD kc Str.empty)) _ []); rw [cls_of O h1], rfl, fun _ z => by simp at z, .nil, by show kc < T.CN.length; rw [O.cn]; exact (List.getElem?_eq_some_iff.mp h1).1⟩
      have eab := ea.trans eb
      have I3 := L2.Inv.made (C := He.ga X.K y) I2
      have q3 : run (T.g X) (ofW Wx) σ (RelW X.K) (bnd (C.callM t (.ref L2'.length :: (ws ++ as))) fun r => match r with
        | .non => ret (.ref L2'.length)
        | _ => fail) (m2 ++ [s2.heap.objs.size + 1]) (upd (upd H2 s2.heap.objs.size (.own (s2.heap.objs.size + 1))) (s2.heap.objs.size + 1) (.ins (He.ga X.K y) s2.heap.objs.size [])) (L2' ++ [.ins kc []]) Q := run.shift eab q2
      have rs : RelW X.K (m2 ++ [s2.heap.objs.size + 1]) (upd (upd H2 s2.heap.objs.size (.own (s2.heap.objs.size + 1))) (s2.heap.objs.size + 1) (.ins (He.ga X.K y) s2.heap.objs.size [])) (.ref L2'.length) (.ref (s2.heap.objs.size + 1)) := .ref (by rw [← S2.len]; simp)
      have hr : Room d (X.A.under (.builtin "type.__call__" ⟨.ref (He.ga X.K y) :: us, kws.zip zs⟩)) := O.room.make _ _ _
      have cal := t3 _ X.stack _ _ (.ref (s2.heap.objs.size + 1) :: us) zs (.ref (s2.heap.objs.size + 1) :: vs) zv (fun v H' => v = .non ∧ Q (.ref (s2.heap.objs.size + 1)) H') (WE Wx σ) _ _ (.ref L2'.length :: (ws ++ as)) σ hr (I3.env0.make _ us (kws.zip zs)) (.cons rfl r1) r2 (by simp [hl]) hz Sb
        (.cons rs (((rw1.mono e2).append rz).mono eab)) ((run_bnd (R' := RelW X.K) q3).imp fun v H' ⟨m4, L4, w, e4, S4, r4, q4⟩ => by
          cases w <;> try exact False.elim q4
          cases r4
          exact ⟨rfl, run_val q4 S4 (rs.mono e4)⟩)
      refine wpAny_call (make_map I2.kIn M.makes M.init (beq_iff_eq.mp M.fn) (codeAny_mono cal fun r s' hq => ?_))
      cases r with
      | error e => exact passAt tk σ pins _ _ e s' I3 hq
      | ok fl =>
        cases fl with
        | ret u =>
          obtain ⟨v, H', I4, rv, ev, q5⟩ := I3.after hq
          subst ev
          exact ⟨rv, ⟨.ref (s2.heap.objs.size + 1), H', I4, rfl, q5⟩⟩
        | next => exact False.elim hq
        | brk => exact False.elim hq
        | cont => exact False.elim hq
  have q := tM_bnd_len q
  cases es with
  | nil =>
    refine PySem.W.callWith_KW0 (h₀ := X.base) I.ok.mod.kin M.kp k1 ?_ (by rw [k3]; rfl)
    have hx0 : xs = [] := by
      cases xs with
      | nil => rfl
      | cons x xs => simp [chkEs] at hx
    subst hx0
    obtain ⟨m, ρ, L, S, F, q⟩ := q
    obtain ⟨m1, ρ1, L1, ws, S1, F1, r1, hl1, q1⟩ := run_ret (R := RelWs X.K) q S .nil
    exact fin [] s [] H I .nil (by simpa using hnp) ⟨m1, ρ1, L1, ws, S1, F1, r1, q1⟩
  | cons e0 rest =>
    have he : starEach (e0 :: rest) X.env = (false, eval e0 X.env) :: starEach rest X.env := by
      rcases chkEs_head hx X.env with he | ⟨e1, r1, he1, he2⟩
      · cases he
      · cases he1; exact he2
    refine PySem.W.callWith_KW (h₀ := X.base) I.ok.mod.kin M.kp k1 (thn (ha.run pos pins s σ H _ I q) fun us s1 ⟨vs, H1, I1, r, m1, ρ, L1, ws, S1, F1, r1, hl1, q1⟩ => ?_) (by rw [k3, chkEs_star hx]; rfl) he
    refine fin us s1 vs H1 I1 r ?_ ⟨m1, ρ, L1, ws, S1, F1, r1, q1⟩
    have e1 := r.length
    have e2 := r1.length
    have e3 := chkEs_len hx
    omega

/-! ### displays, f-strings, written dicts -/
theorem pe_revx {x : Ex} {l : Expr} {k : Nat} {p1 p2 p3 pos : Pos} (hx : PE X l (tE T C Wx X x)) : PE X (.Subscript l (.Slice none none (some (.UnaryOp .USub (.Constant (.int 1) k p1) p2)) p3) pos) (tE T C Wx X (.rev x)) := by
  refine PE_imp (pe_revL hx) fun σ H Q q => ?_
  refine (tM_bnd (R' := RelW X.K) q).imp fun v H1 ⟨m1, ρ, L1, w, S1, F1, r1, q1⟩ => ?_
  cases w <;> try exact False.elim q1
  rename_i l0
  have q1 : run (T.g X) (ofW Wx) σ (RelW X.K) (match itemsOf L1 (.ref l0) with
    | some ws => alloc (.lst ws.reverse)
    | none => fail) m1 H1 L1 Q := q1
  cases r1 with
  | ref hl =>
    split at q1
    · rename_i ws ew
      obtain ⟨xs, h1, r2⟩ := S1.itemsL hl ew
      exact ⟨_, xs, rfl, h1, fun p hp => run_new q1 S1 r2.reverse hp⟩
    · exact q1.elim
theorem pe_dnewx {tt : Bool} {pos : Pos} : PE X (.Dict [] [] pos) (tE T C Wx X (.dnew tt)) := by
  cases tt with
  | false =>
    refine PE_imp pe_dnewK fun σ H Q ⟨m, ρ, L, S, F, q⟩ p hp => ?_
    obtain ⟨e1, S1⟩ := S.new (o := .dct false []) (u := .dK []) hp ⟨[], upd_same, rfl, .nil⟩
    exact q _ _ _ e1 S1 (.ref (by rw [← S.len]; simp))
  | true =>
    refine PE_imp pe_dnewT fun σ H Q ⟨m, ρ, L, S, F, q⟩ p hp => ?_
    obtain ⟨e1, S1⟩ := S.new (o := .dct true []) (u := .dT []) hp ⟨[], upd_same, rfl, .nil⟩
    exact q _ _ _ e1 S1 (.ref (by rw [← S.len]; simp))
abbrev RTx : List Addr → Hp → Txt → Str → Prop := fun _ _ a b => b = ⟨a.toArray⟩
def RPs (K : PySem.W.Frag) : List Addr → Hp → List (Ky × W) → List (V × V) → Prop := fun m H a b => ∃ kvs : List (Key × V), b = kvs.map (fun kv => (kV kv.1, kv.2)) ∧ a.map (·.1) = kvs.map (fun q => kyK q.1) ∧ RelWs K m H (a.map (·.2)) (kvs.map (·.2))
theorem str_app' (x y : Txt) : (⟨x.toArray⟩ : Str) ++ ⟨y.toArray⟩ = ⟨(x ++ y).toArray⟩ := str_app x y
theorem fs_nil : ∀ (acc : Txt) (σ : L2.St) (H : Hp) (Q : Str → Hp → Prop), tM (T.g X) Wx RTx (fun ρ => evFs C ρ [] acc) σ H Q → tJs [] ⟨acc.toArray⟩ σ H Q := fun acc σ H Q ⟨m, ρ, L, S, F, q⟩ => run_ret (R := RTx) q S rfl
theorem fs_cons {x : Ex} {xs : List Ex} {t : TE} {ts : List TE} (ht : ∀ σ H (Q : VK), (tE T C Wx X x σ H fun v H1 => ∃ m1 ρ L1 w, Sim (T.g X) m1 L1 H1 ∧ RelF X.K m1 H1 ρ σ ∧ RelW X.K m1 H1 w v ∧ (∃ y, fmtW w = some y) ∧ ∀ y, fmtW w = some y → Q (.str ⟨y.toArray⟩) H1) → t σ H Q)
    (ih : ∀ (acc : Txt) (σ : L2.St) (H : Hp) (Q : Str → Hp → Prop), tM (T.g X) Wx RTx (fun ρ => evFs C ρ xs acc) σ H Q → tJs ts ⟨acc.toArray⟩ σ H Q) (acc : Txt) (σ : L2.St) (H : Hp) (Q : Str → Hp → Prop) (q : tM (T.g X) Wx RTx (fun ρ => evFs C ρ (x :: xs) acc) σ H Q) : tJs (t :: ts) ⟨acc.toArray⟩ σ H Q := by
  show t σ H fun x H1 => ∃ y : Str, x = .str y ∧ ((⟨acc.toArray⟩ : Str) ++ y).length ≤ sizeLine ∧ tJs ts (⟨acc.toArray⟩ ++ y) σ H1 Q
  refine ht σ H _ ((tM_bnd (R' := RelW X.K) q).imp fun v H1 ⟨m1, ρ, L1, w, S1, F1, r1, q1⟩ => ?_)
  have q1 : run (T.g X) (ofW Wx) σ RTx (match fmtW w with
    | some y => if lenOk (acc.length + y.length) then evFs C ρ xs (acc ++ y) else fail
    | none => fail) m1 H1 L1 Q := q1
  cases ey0 : fmtW w with
  | none => rw [ey0] at q1; exact q1.elim
  | some y0 =>
    refine ⟨m1, ρ, L1, w, S1, F1, r1, ⟨y0, ey0⟩, fun y ey => ?_⟩
    rw [ey] at q1
    rcases run_if q1 with ⟨c1, q1⟩ | ⟨_, q1⟩
    · refine ⟨_, rfl, ?_, ?_⟩
      · rw [str_app, str_len, List.length_append]; exact lenOk_le c1
      · rw [str_app]; exact ih _ _ _ _ ⟨m1, ρ, L1, S1, F1, q1⟩
    · exact q1.elim
theorem fmt_ok {w : W} {v : V} {m : List Addr} {H : Hp} (r : RelW X.K m H w v) {y : Txt} (h : fmtW w = some y) : (∃ z : Str, v = .str z ∧ z.length ≤ sizeLine ∧ z = ⟨y.toArray⟩) ∨ ∃ i : Int, v = .int i ∧ i.natAbs.log2 < 1920 ∧ toString i = (⟨y.toArray⟩ : Str) := by
  cases w <;> simp [fmtW] at h
  · obtain ⟨h1, h2⟩ := h
    cases r
    exact .inr ⟨_, rfl, h1, by rw [← h2] <;> simp⟩
  · obtain ⟨h1, h2⟩ := h
    subst h2
    cases r
    exact .inl ⟨_, rfl, by rw [str_len]; exact lenOk_le h1, rfl⟩
/-- what a part of an f-string is to give -/
def tFp (T : Tab) (C : Env) (Wx : WX) (X : Cx) (x : Ex) (σ : L2.St) (H : Hp) (Q : VK) : Prop := tE T C Wx X x σ H fun v H1 => ∃ m1 ρ L1 w, Sim (T.g X) m1 L1 H1 ∧ RelF X.K m1 H1 ρ σ ∧ RelW X.K m1 H1 w v ∧ (∃ y, fmtW w = some y) ∧ ∀ y, fmtW w = some y → Q (.str ⟨y.toArray⟩) H1
theorem fs_fmt {x : Ex} {σ : L2.St} {H : Hp} {Q : VK} (q : tFp T C Wx X x σ H Q) : tFmt (tE T C Wx X x) σ H Q := tM.imp q fun v H1 ⟨m1, ρ, L1, w, S1, F1, r1, ⟨y, ey⟩, q1⟩ => by
  rcases fmt_ok r1 ey with ⟨z, h1, h2, h3⟩ | ⟨i, h1, h2, h3⟩
  · exact .inl ⟨z, h1, h2, by rw [h3]; exact q1 y ey⟩
  · exact .inr ⟨i, h1, h2, by rw [h3]; exact q1 y ey⟩
theorem fs_cst {t : Txt} {σ : L2.St} {H : Hp} {Q : VK} (q : tFp T C Wx X (.ks t) σ H Q) : tE T C Wx X (.ks t) σ H Q := by
  obtain ⟨m, ρ, L, S, F, q⟩ := q
  refine ⟨m, ρ, L, S, F, ?_⟩
  have q : ∀ m' H' b, Ext m H m' H' → Sim (T.g X) m' L H' → RelW X.K m' H' (.str t) b → ∃ m1 ρ L1 w, Sim (T.g X) m1 L1 H' ∧ RelF X.K m1 H' ρ σ ∧ RelW X.K m1 H' w b ∧ (∃ y, fmtW w = some y) ∧ ∀ y, fmtW w = some y → Q (.str ⟨y.toArray⟩) H' := q
  show ∀ m' H' b, Ext m H m' H' → Sim (T.g X) m' L H' → RelW X.K m' H' (.str t) b → Q b H'
  intro m' H' b e s r
  obtain ⟨m1, ρ1, L1, w, _, _, r1, ⟨y, ey⟩, q1⟩ := q m' H' b e s r
  cases r
  cases w <;> simp [fmtW] at ey <;> cases r1
  obtain ⟨h1, h2⟩ := ey
  subst h2
  exact q1 _ (by simp [fmtW, h1])
theorem ps_nil (σ : L2.St) (H : Hp) (Q : List (V × V) → Hp → Prop) (q : tM (T.g X) Wx (RPs X.K) (fun ρ => evPs C ρ []) σ H Q) : tPairs [] σ H Q :=
  let ⟨m, ρ, L, S, F, q⟩ := q
  run_ret (R := RPs X.K) q S ⟨[], rfl, rfl, .nil⟩
theorem ps_cons {k v : Ex} {r : List Ex} {trs : List (TE × TE)} (ih : ∀ (σ : L2.St) (H : Hp) (Q : List (V × V) → Hp → Prop), tM (T.g X) Wx (RPs X.K) (fun ρ => evPs C ρ r) σ H Q → tPairs trs σ H Q) (σ : L2.St) (H : Hp) (Q : List (V × V) → Hp → Prop) (q : tM (T.g X) Wx (RPs X.K) (fun ρ => evPs C ρ (k :: v :: r)) σ H Q) :
    tPairs ((tE T C Wx X k, tE T C Wx X v) :: trs) σ H Q := by
  refine (tM_bnd (R' := RelW X.K) q).imp fun kx H1 ⟨m1, ρ, L1, kw, S1, F1, r1, q1⟩ => ⟨m1, ρ, L1, S1, F1, (run_bnd (R' := RelW X.K) q1).imp fun vx H2 ⟨m2, L2, vw, e2, S2, r2, q2⟩ => ih _ _ _ ⟨m2, ρ, L2, S2, F1.mono e2, (run_bnd (R' := RPs X.K) q2).imp fun ps H3 ⟨m3, L3, pw, e3, S3, r3, q3⟩ => ?_⟩⟩
  cases ek : keyFit false kw with
  | none => rw [ek] at q3; exact q3.elim
  | some ky =>
    rw [ek] at q3
    obtain ⟨kk, e4, e5⟩ := keyK_ok r1 ek
    obtain ⟨kvs, h1, h2, h3⟩ := r3
    exact run_ret (R := RPs X.K) q3 S3 ⟨(kk, vx) :: kvs, by rw [e4, h1]; rfl, by rw [List.map_cons, List.map_cons, h2, e5], .cons (r2.mono e3) h3⟩
theorem merge_ok {K : PySem.W.Frag} {m : List Addr} {H : Hp} : ∀ {ps : List (Ky × W)} {kvs : List (Key × V)} {as : List (Ky × W)} {qs : List (Key × V)}, ps.map (·.1) = kvs.map (fun q => kyK q.1) → RelWs K m H (ps.map (·.2)) (kvs.map (·.2)) → as.map (·.1) = qs.map (fun q => kyK q.1) → RelWs K m H (as.map (·.2)) (qs.map (·.2)) →
    (ps.foldl (fun acc p => dPut acc p.1 p.2) as).map (·.1) = (mergeK qs kvs).map (fun q => kyK q.1) ∧ RelWs K m H ((ps.foldl (fun acc p => dPut acc p.1 p.2) as).map (·.2)) ((mergeK qs kvs).map (·.2))
  | [], [], as, qs, _, _, h1, h2 => ⟨h1, h2⟩
  | [], _ :: _, _, _, e, _, _, _ => by simp at e
  | _ :: _, [], _, _, e, _, _, _ => by simp at e
  | (k, w) :: ps, (q, v) :: kvs, as, qs, e, r, h1, h2 => by
    simp only [List.map_cons, List.cons.injEq] at e
    cases r with
    | cons r1 r2 =>
      obtain ⟨k1, k2⟩ := put_find kyK kyK_inj h1 h2 r1 q
      show ((ps.foldl (fun acc p => dPut acc p.1 p.2) (dPut as k w)).map (·.1) = (mergeK (putK qs q v) kvs).map (fun q => kyK q.1)) ∧ _
      rw [e.1]
      exact merge_ok e.2 r2 k1 k2
theorem Sim.apartD {g : G} {m : List Addr} {L : Hh} {H : Hp} {p : Addr} {xs ys : List (Key × V)} (S : Sim g m L H) (hp : p ∉ m) (hl : H p = some (.dK xs)) : Sim g m L (upd H p (.dK ys)) ∧ Ex0 m H m (upd H p (.dK ys)) := by
  have e : Ex0 m H m (upd H p (.dK ys)) := ⟨fun _ _ h => h, fun a zs h => by rw [upd_ne (fun z => by rw [z, hl] at h; cases h)]; exact h, fun a o u h => by rw [upd_ne (fun z => by rw [z, hl] at h; cases h)]; exact h⟩
  exact ⟨⟨S.len, S.nd, fun l a o h1 h2 => (S.ob l a o h1 h2).mono e fun u h => by rw [upd_ne (show a ≠ p from fun z => hp (by rw [← z]; exact List.mem_of_getElem? h1))]; exact h, fun q hq => (S.tb q hq).upd (fun ps z => by rw [hl] at z; cases z) fun c q _ z => by rw [hl] at z; have z2 := Option.some.inj z; unfold LamX.CodeO at z2; cases z2⟩, e⟩
theorem run_bndA {α β γ δ : Type} {g : G} {Xw : XW} {σ : L2.St} {R : List Addr → Hp → α → β → Prop} {R' : List Addr → Hp → γ → δ → Prop} {m0 m : List Addr} {H0 H : Hp} {L : Hh} {Q : β → Hp → Prop} {c : M γ} {f : γ → M α} (e0 : Ext m0 H0 m H) (h : run g Xw σ R (bnd c f) m0 H0 L Q) :
    run g Xw σ R' c m H L (fun d H1 => ∃ m1 L1 a, Ext m H m1 H1 ∧ Sim g m1 L1 H1 ∧ R' m1 H1 a d ∧ run g Xw σ R (f a) m0 H0 L1 Q) := by
  unfold run at h ⊢
  rw [wp_bnd] at h
  exact wp_mono h (fun a L1 q m1 H1 b e1 s1 r1 => ⟨m1, L1, a, e1, s1, r1, q⟩) fun _ _ q m' H' cls d e' s r => q m' H' cls d (e0.trans e') s r
theorem dsp_turn {ps : List Ex} {trs : List (TE × TE)} (hp : ∀ (σ : L2.St) (H : Hp) (Q : List (V × V) → Hp → Prop), tM (T.g X) Wx (RPs X.K) (fun ρ => evPs C ρ ps) σ H Q → tPairs trs σ H Q) {σ : L2.St} {H : Hp} {Q : VK} (q : tE T C Wx X (.dsp ps) σ H Q) : tDisp trs σ H Q := by
  intro p hpn
  obtain ⟨m, ρ, L, S, F, q⟩ := q
  obtain ⟨e0, S0⟩ := S.free (u := .dK []) hpn
  refine hp _ _ _ ⟨m, ρ, L, S0, F.mono e0, (run_bndA (R' := RPs X.K) e0 q).imp fun b H2 ⟨m1, L1, a, e1, S1, r1, q1⟩ => ?_⟩
  have hD : H2 p = some (.dK []) := e1.out p _ upd_same (S.notIn hpn) (fun _ z => nomatch z)
  obtain ⟨kvs, h1, h2, h3⟩ := r1
  rcases run_if q1 with ⟨c1, q1⟩ | ⟨_, q1⟩
  · refine ⟨hD, kvs, h1, ?_, ?_⟩
    · have z := congrArg List.length h2
      simp only [List.length_map] at z
      have := of_decide_eq_true c1
      omega
    · have hm1 : p ∉ m1 := e1.notin (S.notIn hpn) upd_same
      obtain ⟨S2, x2⟩ := S1.apartD (ys := mergeK [] kvs) hm1 hD
      obtain ⟨k1, k2⟩ := merge_ok (as := []) (qs := []) h2 (h3.mono0 x2) rfl .nil
      have x3 : Ex0 m1 (upd H2 p (.dK (mergeK [] kvs))) (m1 ++ [p]) (upd H2 p (.dK (mergeK [] kvs))) := ⟨fun l a h => by
        obtain ⟨hl, _⟩ := List.getElem?_eq_some_iff.mp h
        rw [List.getElem?_append_left hl]
        exact h, fun _ _ h => h, fun _ _ _ h => h⟩
      have S3 := S2.adopt (o := .dct false (a.foldl (fun acc p => dPut acc p.1 p.2) [])) hm1 ⟨_, upd_same, k1, k2.mono0 x3⟩ fun q hq => (S2.tb q hq).snoc (fun ps z => by rw [upd_same] at z; cases z) fun c q z => by rw [upd_same] at z; have z2 := Option.some.inj z; unfold LamX.CodeO at z2; cases z2
      exact q1 _ _ _ (((e0.trans e1).apart hpn).adopt hpn) S3 (.ref (by rw [← S1.len]; simp))
  · exact q1.elim
theorem pe_dgetx (O : Ok T p C c X d) {o k x : Ex} {l a b : Expr} {apos pos : Pos} (hs : noSup l = true) (hl : (apos.endLine == pos.line) = true) (ha : chkE p c k a = true) (hb : chkE p c x b = true) (h1 : PE X l (tE T C Wx X o)) (h2 : PE X a (tE T C Wx X k)) (h3 : PE X b (tE T C Wx X x)) :
    PE X (.Call (.Attribute l "get" apos) [a, b] [] pos) (tE T C Wx X (.dgetd o k x)) := by
  have e1 : starEach [a, b] X.env = [(false, eval a X.env), (false, eval b X.env)] := by
    rw [star_plain ha, star_plain hb]
    rfl
  have hu := hu64 O.room
  refine PE_imp (pe_dget2 (by omega) h1 h2 h3 ⟨noSup_base hs _ _ _, by rw [e1]; rfl, hl, by rw [e1]; rfl⟩) fun σ H Q q => ?_
  refine (tM_bnd (R' := RelW X.K) q).imp fun v H1 ⟨m1, ρ, L1, w, S1, F1, r1, q1⟩ => ?_
  rcases run_if (p := (dctAt L1 w).isSome = true) q1 with ⟨c1, q1⟩ | ⟨_, q1⟩
  · obtain ⟨⟨tt, kvs⟩, e⟩ := Option.isSome_iff_exists.mp c1
    obtain ⟨l0, rfl⟩ : ∃ l0, w = .ref l0 := by
      cases w with
      | ref l0 => exact ⟨l0, rfl⟩
      | _ => simp [dctAt] at e
    simp only [dctAt] at e
    cases r1 with
    | @ref _ ad hl0 =>
      have e : L1[l0]? = some (.dct tt kvs) := by
        split at e
        · rename_i tt' kvs' e2
          simp only [Option.some.injEq, Prod.mk.injEq] at e
          rw [e2, e.1, e.2]
        · cases e
      refine ⟨ad, rfl, isD_ok S1 hl0 e, m1, ρ, L1, S1, F1, (run_bnd (R' := RelW X.K) q1).imp fun v2 H2 ⟨m2, L2', kw, e2, S2, r2, q2⟩ => ⟨m2, ρ, L2', S2, F1.mono e2, (run_bnd (R' := RelW X.K) q2).imp fun v3 H3 ⟨m3, L3, xw, e3, S3, r3, q3⟩ => ?_⟩⟩
      have q3 : run (T.g X) (ofW Wx) σ (RelW X.K) (match dctAt L3 (.ref l0) with
        | some (tt, kvs) => (match keyFit tt kw with
          | some k => ret ((dGet kvs k).getD xw)
          | none => fail)
        | none => fail) m3 H3 L3 Q := q3
      have hl3 : m3[l0]? = some ad := (e2.trans e3).x0.at_ _ _ hl0
      split at q3
      · rename_i tt' kvs' e4
        have e4 : L3[l0]? = some (.dct tt' kvs') := by
          simp only [dctAt] at e4
          split at e4
          · rename_i e5
            simp only [Option.some.injEq, Prod.mk.injEq] at e4
            rw [e5, e4.1, e4.2]
          · cases e4
        split at q3
        · rename_i kk ek
          rcases dget_ok S3 hl3 e4 (r2.mono e3) ek with ⟨a1, a2⟩ | ⟨z, vz, a1, a2, a3⟩
          · rw [a1] at q3; exact ⟨none, a2, run_val q3 S3 r3⟩
          · rw [a1] at q3; exact ⟨some vz, a2, run_val q3 S3 a3⟩
        · exact q3.elim
      · exact q3.elim
  · exact q1.elim
/-- x in a written dict or tuple of texts -/
def rKin (a : Addr) (ng : Bool) (ks : List Txt) : R2 := fun x y H Q => ∃ t : Txt, x = .str ⟨t.toArray⟩ ∧ y = .ref a ∧ Q (.bl (if ng = true then !decide (t ∈ ks) else decide (t ∈ ks))) H
theorem inV_txt (t : Txt) : ∀ ks : List Txt, inV (.str ⟨t.toArray⟩) (ks.map fun k => V.str ⟨k.toArray⟩) = decide (t ∈ ks)
  | [] => rfl
  | k :: ks => by
    show (eqV (.str ⟨k.toArray⟩) (.str ⟨t.toArray⟩) || inV _ _) = _
    rw [inV_txt t ks]
    show (((⟨k.toArray⟩ : Str) == ⟨t.toArray⟩) || _) = _
    have e : ((⟨k.toArray⟩ : Str) == ⟨t.toArray⟩) = (k == t) := SX.S_beq k t
    rw [e]
    by_cases h : k = t
    · simp [h]
    · have h2 : ¬ t = k := fun z => h z.symm
      simp [h, h2]
theorem flat_txt (ks : List Txt) : (ks.map fun k => V.str ⟨k.toArray⟩).all flatV = true := by
  induction ks with
  | nil => rfl
  | cons k ks ih => rw [List.map_cons, List.all_cons, ih]; rfl
theorem kin_gt {a : Addr} {ks : List Txt} (h : ∀ H, SqT X.K H a (ks.map fun t => V.str ⟨t.toArray⟩)) (ng : Bool) : OpR X (compareOp (if ng = true then .NotIn else .In)) (rKin a ng ks) := by
  intro pins s σ H x y v u Q I rx ry ⟨t, e1, e2, q⟩
  cases ng with
  | false => exact op_in_seq pins s σ H x y v u Q I rx ry ⟨a, _, e2, .inr (h H), by rw [e1]; rfl, flat_txt ks, by rw [e1, inV_txt]; exact q⟩
  | true => exact op_notIn_seq pins s σ H x y v u Q I rx ry ⟨a, _, e2, .inr (h H), by rw [e1]; rfl, flat_txt ks, by rw [e1, inV_txt]; exact q⟩
theorem lookup_mem {kvs : List (Txt × W)} {ks : List Txt} (e : kvs.map (·.1) = ks) (t : Txt) : (kvs.lookup t).isSome = decide (t ∈ ks) := by
  subst e
  induction kvs with
  | nil => rfl
  | cons p kvs ih =>
    obtain ⟨k, v⟩ := p
    rw [List.lookup_cons]
    by_cases h : t = k
    · subst h; simp
    · have h2 : (t == k) = false := by simpa using h
      rw [h2]
      simp only [List.map_cons, List.mem_cons, h, false_or]
      exact ih
theorem kin_gd {a : Addr} {kvs : List (Txt × W)} {ks : List Txt} (h : gdOk X.K X.w a kvs) (e : kvs.map (·.1) = ks) (ng : Bool) : OpR X (compareOp (if ng = true then .NotIn else .In)) (rKin a ng ks) := by
  intro pins s σ H x y v u Q I rx ry ⟨t, e1, e2, q⟩
  obtain ⟨es, n, D, hk⟩ := h
  have hr : ∃ r, PySem.W.nsIn X.K a ⟨t.toArray⟩ = some r ∧ r.isSome = decide (t ∈ ks) := by
    have z := hk t
    have z2 := lookup_mem e t
    cases el : kvs.lookup t with
    | none => rw [el] at z z2; exact ⟨none, z, z2⟩
    | some w =>
      rw [el] at z z2
      obtain ⟨u0, y0, z1, _⟩ := z
      exact ⟨some u0, z1, z2⟩
  obtain ⟨r, h1, h2⟩ := hr
  cases ng with
  | false => exact op_in_kd D pins s σ H x y v u Q I rx ry ⟨_, r, e1, e2, h1, by rw [h2]; exact q⟩
  | true => exact op_notIn_kd D pins s σ H x y v u Q I rx ry ⟨_, r, e1, e2, h1, by rw [h2]; exact q⟩
theorem kin_all (O : Ok T p C c X d) {ng : Bool} {gn : Str} {ks : List Txt} (h : ((p.gt.contains (gn, ks)) || (p.gd.any fun q => decide (q.1 = gn) && decide (q.2.map (·.1) = ks))) = true) : ∃ a, X.mg gn = some (.ref a) ∧ OpR X (compareOp (if ng = true then .NotIn else .In)) (rKin a ng ks) := by
  rcases (Bool.or_eq_true _ _).mp h with h | h
  · obtain ⟨a, h1, h2⟩ := O.pg.gt _ (List.contains_iff_mem.mp h)
    exact ⟨a, h1, kin_gt h2 ng⟩
  · obtain ⟨q, hq, h2⟩ := List.any_eq_true.mp h
    simp only [Bool.and_eq_true, decide_eq_true_eq] at h2
    obtain ⟨a, h3, h4⟩ := O.pg.gd q hq
    rw [h2.1] at h3
    exact ⟨a, h3, kin_gd h4 h2.2 ng⟩
theorem tOp_kin {a : Addr} {ng : Bool} {ks : List Txt} {gn : Str} {x : Ex} {σ : L2.St} {H : Hp} {Q : VK} (q : tE T C Wx X (.kin ng x gn ks) σ H Q) : tOp (rKin a ng ks) (tE T C Wx X x) (tC (.ref a)) σ H Q :=
  (tM_bnd (R' := RelW X.K) q).imp fun v H1 ⟨m1, ρ, L1, w, S1, F1, r1, q1⟩ => by
    cases w <;> try exact False.elim q1
    cases r1
    exact ⟨_, rfl, rfl, run_val q1 S1 (.bl _)⟩
theorem kvB_ok : ∀ {a b : List (Txt × W)}, kvB a b = true → a = b
  | [], [], _ => rfl
  | [], _ :: _, h => by simp [kvB] at h
  | _ :: _, [], h => by simp [kvB] at h
  | (t, v) :: r, (t2, v2) :: r2, h => by
    simp only [kvB, Bool.and_eq_true, decide_eq_true_eq] at h
    obtain ⟨⟨h1, h2⟩, h3⟩ := h
    have e : v = v2 := by
      cases v <;> cases v2 <;> simp [flB] at h2
      · rw [h2]
      · rw [h2]
    rw [h1, e, kvB_ok h3]
theorem pe_kgetx (O : Ok T p C c X d) {x : Ex} {gn : Str} {kvs : List (Txt × W)} {l : Expr} {ps pos : Pos} (g1 : Gl X gn) (g2 : (gn == ("__debug__" : Str)) = false) (hl : chkE p c x l = true) (h : (p.gd.any fun q => decide (q.1 = gn) && kvB q.2 kvs) = true) (hx : PE X l (tE T C Wx X x)) :
    PE X (.Subscript (.Name gn ps) l pos) (tE T C Wx X (.kget x gn kvs)) := by
  obtain ⟨q0, hq, h2⟩ := List.any_eq_true.mp h
  simp only [Bool.and_eq_true, decide_eq_true_eq] at h2
  obtain ⟨a, h3, es, n, D, hk⟩ := O.pg.gd q0 hq
  rw [h2.1] at h3
  rw [kvB_ok h2.2] at hk
  refine PE_imp (pe_ix ix_kdict (pe_glob (v := .ref a) g1 h3 rfl g2) hx (ixplain hl)) fun σ H Q q => ?_
  refine (tM_bnd (R' := RelW X.K) q).imp fun v H1 ⟨m1, ρ, L1, w, S1, F1, r1, q1⟩ => ?_
  cases w <;> try exact False.elim q1
  rename_i t
  cases r1
  have q1 : run (T.g X) (ofW Wx) σ (RelW X.K) (match kvs.lookup t with
    | some v => ret v
    | none => fail) m1 H1 L1 Q := q1
  have z := hk t
  cases el : kvs.lookup t with
  | none => rw [el] at q1; exact q1.elim
  | some w =>
    rw [el] at q1 z
    obtain ⟨u0, y0, z1, z2, z3⟩ := z
    exact ⟨a, _, y0, rfl, rfl, ⟨es, n, u0, D.at_, D.lit, z1, z2⟩, run_val q1 S1 (z3 _ _)⟩
theorem pe_isiown (O : Ok T p C c X d) {x : Ex} {k : Nat} {y n : Str} {ps ps2 pos : Pos} {l : Expr} (hb : bltB p c.sc y "isinstance" = true) (hn : p.cls[k]? = some n) (hg : glB c.sc n = true) (hl : chkE p c x l = true) (hx : PE X l (tE T C Wx X x)) :
    PE X (.Call (.Name y ps) [l, .Name n ps2] [] pos) (tE T C Wx X (.isi x (.own k))) := by
  obtain ⟨rfl, g1, g2, g3⟩ := O.blt hb
  obtain ⟨k1, k2⟩ := O.gl hg
  have hm := List.mem_of_getElem? hn
  obtain ⟨c1, c2⟩ := O.pg.cls n hm
  refine PE_imp (pe_callB call_isi g1 g2 PyProof.Rows.boot_isinstance (pa_cons hx (pa_cons (pe_glob (v := .ref (He.ga X.K n)) k1 c1 rfl k2) pa_nil) (star_plain hl _ X.env)) (by decide) g3 (star_plain hl _ X.env)) fun σ H Q q => ?_
  refine (tM_bnd (R' := RelW X.K) q).imp fun v H1 ⟨m1, ρ, L1, w, S1, F1, r1, q1⟩ => ?_
  have fin : ∀ {a : String} {b : Bool}, typeNm L1 w = some a → run (T.g X) (ofW Wx) σ (RelW X.K) (ret (.bl false)) m1 H1 L1 Q → rIsi X.K [v, .ref (He.ga X.K n)] H1 Q := fun {a b} e q1 => by
    obtain ⟨t1, t2⟩ := tyx_of S1 r1 e
    exact ⟨v, .ref (He.ga X.K n), .type a, .ref (He.ga X.K n), false, rfl, .own _, t1, O.pg.kitT n hm a t2, run_val q1 S1 (.bl _)⟩
  have q1 : run (T.g X) (ofW Wx) σ (RelW X.K) (match isKind C.sub L1 w (.own k) with
    | some b => ret (.bl b)
    | none => fail) m1 H1 L1 Q := q1
  cases w with
  | ref l0 =>
    cases e : L1[l0]? with
    | none =>
      have z : isKind C.sub L1 (.ref l0) (.own k) = none := by unfold isKind; dsimp only; rw [e]
      rw [z] at q1; exact q1.elim
    | some ob =>
      cases ob with
      | ins kc fs =>
        have z : isKind C.sub L1 (.ref l0) (.own k) = some (C.sub kc k) := by unfold isKind; dsimp only; rw [e]
        rw [z] at q1
        cases r1 with
        | @ref _ ad hl0 =>
          obtain ⟨dx, qs, h1, h2, h3, h4, h9⟩ := S1.ob l0 ad _ hl0 e
          have h1 : H1 ad = some (.ins (He.ga X.K (T.CN.getD kc Str.empty)) dx qs) := h1
          have hkc : kc < p.cls.length := by rw [← O.cn]; exact h9
          · obtain ⟨cx, ecx⟩ : ∃ cx, p.cls[kc]? = some cx := ⟨_, List.getElem?_eq_getElem hkc⟩
            rw [cls_of O ecx] at h1
            have cX := (O.pg.cls cx (List.mem_of_getElem? ecx)).2
            have kt := O.pg.kit kc k cx n ecx hn
            rw [← O.cf.sub] at kt
            exact ⟨_, .ref (He.ga X.K n), .ref (He.ga X.K cx), .ref (He.ga X.K n), _, rfl, .own _, .base (.ins h1 cX.cl cX.ha cX.hn cX.tk cX.hm), kt, run_val q1 S1 (.bl _)⟩
      | lst ws => exact fin (a := "list") (b := false) (by simp only [typeNm]; rw [e]) (by
          have z : isKind C.sub L1 (.ref l0) (.own k) = some false := by unfold isKind; dsimp only; rw [e]
          rw [z] at q1; exact q1)
      | ro ws => exact fin (a := "list") (b := false) (by simp only [typeNm]; rw [e]) (by
          have z : isKind C.sub L1 (.ref l0) (.own k) = some false := by unfold isKind; dsimp only; rw [e]
          rw [z] at q1; exact q1)
      | dct tt kvs => exact fin (a := "dict") (b := false) (by simp only [typeNm]; rw [e]) (by
          have z : isKind C.sub L1 (.ref l0) (.own k) = some false := by unfold isKind; dsimp only; rw [e]
          rw [z] at q1; exact q1)
      | exi _ _ =>
        have z : isKind C.sub L1 (.ref l0) (.own k) = none := by unfold isKind; dsimp only; rw [e]
        rw [z] at q1; exact q1.elim
      | xdc _ =>
        have z : isKind C.sub L1 (.ref l0) (.own k) = none := by unfold isKind; dsimp only; rw [e]
        rw [z] at q1; exact q1.elim
  | non => exact fin (a := "NoneType") (b := false) rfl q1
  | bl b => exact fin (a := "bool") (b := false) rfl q1
  | int i => exact fin (a := "int") (b := false) rfl q1
  | str z => exact fin (a := "str") (b := false) rfl q1
  | tup ws => exact fin (a := "tuple") (b := false) rfl q1
  | _ => exact False.elim q1
/-! ### exceptions as values -/
theorem xc_of (O : Ok T p C c X d) {k : Nat} {x : Str} (h : p.xcs[k]? = some x) : T.XN.getD k Str.empty = x ∧ k < T.XN.length := by
  rw [O.xn, List.getD_eq_getElem?_getD, h]
  exact ⟨rfl, (List.getElem?_eq_some_iff.mp h).1⟩
theorem pe_xmkx (O : Ok T p C c X d) (tk : Takes X Wx) {k : Nat} {y : Str} {np : Nat} {xs : List Ex} {es : List Expr} {ps pos : Pos} (hm : p.xmkf[k]? = some (y, np)) (g1 : Gl X y) (g2 : (y == ("__debug__" : Str)) = false) (hc : y ∈ p.xcs) (hnp : es.length = np) (h100 : es.length ≤ 100)
    (hx : chkEs p c xs es = true) (ha : PA X es (tA T C Wx X xs)) :
    PE X (.Call (.Name y ps) es [] pos) (tE T C Wx X (.xmk k xs)) := by
  refine ⟨fun pins s σ H Q I q => ?_⟩
  obtain ⟨gy, TX⟩ := O.pg.xc y hc
  refine wpAny_Call_Name_kw (ld_glob I g1 gy ?_ g2)
  have hk : ([] : List Keyword).map (·.arg) = ([] : List Str).map some := rfl
  obtain ⟨k1, k2, k3⟩ := kw_all hk X.env pos
  have fin : ∀ (us : List Value) (s1 : Shared) (vs : List V) (H1 : Hp), L2.Inv X pins σ H1 s1 → Vals vs us → us.length = np → (∃ m1 ρ L1 ws, Sim (T.g X) m1 L1 H1 ∧ RelF X.K m1 H1 ρ σ ∧ RelWs X.K m1 H1 ws vs ∧ run (T.g X) (ofW Wx) σ (RelW X.K) (makeX C k ws) m1 H1 L1 Q) →
      wpAny (model X.prog X.w) X.A (evalAll ((backToKw pos (keywordEach [] X.env)).map (·.2))) (fun zs s2 => X.K.In s2.heap ∧ wpAny (model X.prog X.w) X.A (call (.ref (He.ga X.K y)) us (((backToKw pos (keywordEach [] X.env)).filterMap (·.1)).zip zs)) (EP X pins σ Q) X.xe s2) X.xe s1 := by
    intro us s1 vs H1 I1 r1 hl ⟨m1, ρ, L1, ws, S1, F1, rw1, q1⟩
    show wpAny _ _ (evalAll []) _ _ _
    refine wpAny_pure ⟨I1.kIn, ?_⟩
    show wpAny _ _ (call (.ref (He.ga X.K y)) us []) _ _ _
    cases em : C.xmks k with
    | none =>
      have z : makeX C k ws = fail := by unfold makeX; rw [em]
      rw [z] at q1
      exact q1.elim
    | some ct =>
      obtain ⟨kc, t⟩ := ct
      obtain ⟨cx, np', gt, h1, h2, h3, h4, h5, h6, h7⟩ := O.cf.xmks k kc t em
      rw [hm] at h2
      cases h2
      have t3 := O.tgm t gt h3
      have ead : gt.at_.ad X.K = He.ma X.K (He.ga X.K y) "__init__" := by rw [h4]; rfl
      rw [ead, h5, h6] at t3
      have q2 : run (T.g X) (ofW Wx) σ (RelW X.K) (bnd (alloc (.exi kc none)) fun o => bnd (C.callM t (o :: ws)) fun r => match r with
        | .non => ret o
        | _ => fail) m1 H1 L1 Q := by
        have e : makeX C k ws = bnd (alloc (.exi kc none)) fun o => bnd (C.callM t (o :: ws)) fun r => match r with
          | .non => ret o
          | _ => fail := by unfold makeX; rw [em] <;> rfl
        rw [← e]
        exact q1
      have M := O.pg.meth _ h7
      have hus : us.length ≤ sizeLine := by rw [sizeLine_eq]; omega
      refine xmake_ok TX M.at_ (beq_iff_eq.mp M.fn) hus I1 (R := fun _ _ => True) (CXx := fun _ _ => True) fun a s' hna I3 => ?_
      obtain ⟨x1, x2⟩ := xc_of O h1
      obtain ⟨eb, Sb⟩ := S1.new (u := exo a (He.ga X.K y) none) (o := .exi kc none) hna ⟨by rw [upd_same]; show some (exo a (He.ga X.K y) none) = some (exo a (He.ga X.K (T.XN.getD kc Str.empty)) none); rw [x1], x2⟩
      have q3 : run (T.g X) (ofW Wx) σ (RelW X.K) (bnd (C.callM t (.ref L1.length :: ws)) fun r => match r with
        | .non => ret (.ref L1.length)
        | _ => fail) (m1 ++ [a]) (upd H1 a (exo a (He.ga X.K y) none)) (L1 ++ [.exi kc none]) Q := run.shift eb q2
      have rs : RelW X.K (m1 ++ [a]) (upd H1 a (exo a (He.ga X.K y) none)) (.ref L1.length) (.ref a) := .ref (by rw [← S1.len]; simp)
      have hr : Room d (X.A.under (.builtin "type.__call__" ⟨.ref (He.ga X.K y) :: us, []⟩)) := O.room.make _ _ _
      have cal := t3 _ X.stack _ _ (.ref a :: us) [] (.ref a :: vs) [] (fun v H' => v = .non ∧ Q (.ref a) H') (WE Wx σ) _ _ (.ref L1.length :: ws) σ hr (I3.env0.make _ us []) (.cons rfl r1) .nil (by simp [hl]) rfl Sb
        (by simpa using RelWs.cons rs (rw1.mono eb)) ((run_bnd (R' := RelW X.K) q3).imp fun v H' ⟨m4, L4, w, e4, S4, r4, q4⟩ => by
          cases w <;> try exact False.elim q4
          cases r4
          exact ⟨rfl, run_val q4 S4 (rs.mono e4)⟩)
      refine codeAny_mono cal fun r s'' hq => ?_
      cases r with
      | error e => exact passAt tk σ pins _ _ e s'' I3 hq
      | ok fl =>
        cases fl with
        | ret u =>
          obtain ⟨v, H', I4, rv, ev, q5⟩ := I3.after hq
          subst ev
          exact ⟨rv, ⟨.ref a, H', I4, rfl, q5⟩⟩
        | next => exact False.elim hq
        | brk => exact False.elim hq
        | cont => exact False.elim hq
  have q : tM (T.g X) Wx (RelW X.K) (fun ρ => bnd (evEs C ρ xs) fun ws => makeX C k ws) σ H Q := q
  have q := tM_bnd_len q
  cases es with
  | nil =>
    refine PySem.W.callWith_KW0 (h₀ := X.base) I.ok.mod.kin TX.kC k1 ?_ (by rw [k3]; rfl)
    have hx0 : xs = [] := by
      cases xs with
      | nil => rfl
      | cons x xs => simp [chkEs] at hx
    subst hx0
    obtain ⟨m, ρ, L, S, F, q⟩ := q
    obtain ⟨m1, ρ1, L1, ws, S1, F1, r1, hl1, q1⟩ := run_ret (R := RelWs X.K) q S .nil
    exact fin [] s [] H I .nil (by simpa using hnp) ⟨m1, ρ1, L1, ws, S1, F1, r1, q1⟩
  | cons e0 rest =>
    have he : starEach (e0 :: rest) X.env = (false, eval e0 X.env) :: starEach rest X.env := by
      rcases chkEs_head hx X.env with he | ⟨e1, r1, he1, he2⟩
      · cases he
      · cases he1; exact he2
    refine PySem.W.callWith_KW (h₀ := X.base) I.ok.mod.kin TX.kC k1 (thn (ha.run pos pins s σ H _ I q) fun us s1 ⟨vs, H1, I1, r, m1, ρ, L1, ws, S1, F1, r1, hl1, q1⟩ => ?_) (by rw [k3, chkEs_star hx]; rfl) he
    refine fin us s1 vs H1 I1 r ?_ ⟨m1, ρ, L1, ws, S1, F1, r1, q1⟩
    have e1 := r.length
    have e2 := r1.length
    have e3 := chkEs_len hx
    omega
theorem pe_xflx (O : Ok T p C c X d) {o : Ex} {l : Expr} {n : Str} {f : Nat} {pos : Pos} (hn : noSup l = true) (hf : p.fld[f]? = some n) (ho : PE X l (tE T C Wx X o)) : PE X (.Attribute l n pos) (tE T C Wx X (.xfl o f)) := by
  refine ⟨fun pins s σ H Q I q => ?_⟩
  refine attr_of (noSup_base hn _ _ _) (thn (ho.run pins s σ H _ I (tM_bnd (R' := RelW X.K) q)) fun u s1 ⟨v, H1, I1, rv, m1, ρ, L1, x, S1, F1, r1, q1⟩ => ?_)
  cases x <;> try exact False.elim q1
  rename_i l0
  have q1 : run (T.g X) (ofW Wx) σ (RelW X.K) (match L1[l0]? with
    | some (.exi c (some d)) => (match L1[d]? with
      | some (.xdc fs) => if C.xcf c f then (match getFld fs f with
        | some w => ret w
        | none => fail) else fail
      | _ => fail)
    | _ => fail) m1 H1 L1 Q := q1
  cases r1 with
  | @ref _ a hl =>
    obtain rfl : u = Value.ref a := rv
    split at q1
    · rename_i k dd e
      split at q1
      · rename_i fs e2
        rcases run_if q1 with ⟨c1, q1⟩ | ⟨_, q1⟩
        · obtain ⟨cx, y, e3, e4, e5⟩ := O.cf.xcf k f c1
          obtain rfl : n = y := by rw [hf] at e4; exact Option.some.inj e4
          obtain ⟨ad, g1, g2, g3⟩ := S1.ob l0 a _ hl e
          obtain ⟨qs, h1, h2, h3, h4⟩ := S1.ob dd ad _ g1 e2
          have g2 : H1 a = some (exo a (He.ga X.K (T.XN.getD k Str.empty)) (some ad)) := g2
          rw [(xc_of O e3).1] at g2
          obtain ⟨f1, f2⟩ := fld_of O hf
          split at q1
          · rename_i w ew
            obtain ⟨v', lv, rr⟩ := lk_fld (fnd_of O) f2 h2 h3 h4 ew
            rw [f1] at lv
            exact xget_ok (O.pg.xc cx (List.mem_of_getElem? e3)).2 I1 g2 h1 (O.pg.xno _ e5) lv fun u' s2 I2 ru => ⟨v', H1, I2, ru, run_val q1 S1 rr⟩
          · exact q1.elim
        · exact q1.elim
      · exact q1.elim
    · exact q1.elim
/-- a field of an exception is stored -/
theorem setx_ok (O : Ok T p C c X d) {α : Type} {R : List Addr → Hp → Fr → α → Prop} {pins : List (Addr × Obj)} {s : Shared} {σ : L2.St} {H : Hp} {x w : W} {v : V} {u : Value} {f : Nat} {n : Str} {m : List Addr} {L : Hh} {k : Unit → M Fr} {ov : Value} {vo : V} {Q : α → Hp → Prop} {Q2 : Unit → Shared → Prop} {A : Around} {E : Value → Shared → Prop} {Xw : XW}
    (I : L2.Inv X pins σ H s) (S : Sim (T.g X) m L H) (hf : p.fld[f]? = some n) (rx : RelW X.K m H x vo) (ro : RelV vo ov) (rw' : RelW X.K m H w v) (ru : RelV v u) (q : run (T.g X) Xw σ R (bnd (setX C x w f) k) m H L Q)
    (h : ∀ m' H' L' s', Ext m H m' H' → Sim (T.g X) m' L' H' → L2.Inv X pins σ H' s' → run (T.g X) Xw σ R (k ()) m' H' L' Q → Q2 () s') : wpAny (model X.prog X.w) A (setAttr ov n u) Q2 E s := by
  cases x <;> try exact False.elim (run_bnd (R' := RU) q)
  rename_i l0
  have q : run (T.g X) Xw σ R (bnd (match L[l0]? with
    | some (.exi c none) => if C.xcf c f then bnd (alloc (.xdc [(f, w)])) fun _ => put l0 (.exi c (some L.length)) else fail
    | some (.exi c (some d)) => (match L[d]? with
      | some (.xdc fs) => if C.xcf c f && decide (fs.length ≤ 900) then put d (.xdc ((f, w) :: fs)) else fail
      | _ => fail)
    | _ => fail) k) m H L Q := q
  cases rx with
  | @ref _ a hl =>
    obtain rfl : ov = Value.ref a := ro
    obtain ⟨f1, f2⟩ := fld_of O hf
    split at q
    · rename_i kc e
      by_cases c1 : C.xcf kc f = true
      · rw [if_pos c1] at q
        obtain ⟨cx, y, e3, e4, e5⟩ := O.cf.xcf kc f c1
        obtain rfl : n = y := by rw [hf] at e4; exact Option.some.inj e4
        obtain ⟨g2, g3⟩ := S.ob l0 a _ hl e
        obtain ⟨x1, x2⟩ := xc_of O e3
        have g2 : H a = some (exo a (He.ga X.K (T.XN.getD kc Str.empty)) none) := g2
        rw [x1] at g2
        refine xst_new (O.pg.xc cx (List.mem_of_getElem? e3)).2 I g2 (O.pg.xno _ e5) ru fun dx s' hdx hne I' => ?_
        have ed : Ext m H (m ++ [dx]) (upd H dx (exd dx [(n, v)])) := (S.free (u := exd dx [(n, v)]) hdx).1.adopt hdx
        obtain ⟨ea, Sa⟩ := S.new (u := exd dx [(n, v)]) (o := .xdc [(f, w)]) hdx ⟨[(n, v)], upd_same, by show [n] = [T.FN.getD f Str.empty]; rw [f1], fun q hq => by simp at hq; rw [hq]; exact f2, .cons (rw'.mono ed) .nil⟩
        have hl' : (m ++ [dx])[l0]? = some a := by
          obtain ⟨z, _⟩ := List.getElem?_eq_some_iff.mp hl
          rw [List.getElem?_append_left z]
          exact hl
        have e' : (L ++ [Dx.O.xdc [(f, w)]])[l0]? = some (.exi kc none) := by
          obtain ⟨z, _⟩ := List.getElem?_eq_some_iff.mp e
          rw [List.getElem?_append_left z]
          exact e
        obtain ⟨eb, Sb⟩ := Sa.put (o' := .exi kc (some L.length)) (u := exo a (He.ga X.K cx) (some dx)) hl' e' rfl fun ex => ⟨dx, by rw [← S.len]; simp, by rw [upd_same]; show some (exo a (He.ga X.K cx) (some dx)) = some (exo a (He.ga X.K (T.XN.getD kc Str.empty)) (some dx)); rw [x1], x2⟩
        have q : run (T.g X) Xw σ R (k ()) m H ((L ++ [Dx.O.xdc [(f, w)]]).set l0 (.exi kc (some L.length))) Q := q
        exact h _ _ _ s' (ea.trans eb) Sb I' (run.shift (ea.trans eb) q)
      · rw [if_neg c1] at q
        exact False.elim (run_bnd (R' := RU) q)
    · rename_i kc dd e
      split at q
      · rename_i fs e2
        by_cases c1 : (C.xcf kc f && decide (fs.length ≤ 900)) = true
        · rw [if_pos c1] at q
          simp only [Bool.and_eq_true, decide_eq_true_eq] at c1
          obtain ⟨cx, y, e3, e4, e5⟩ := O.cf.xcf kc f c1.1
          obtain rfl : n = y := by rw [hf] at e4; exact Option.some.inj e4
          obtain ⟨ad, g1, g2, g3⟩ := S.ob l0 a _ hl e
          obtain ⟨qs, h1, h2, h3, h4⟩ := S.ob dd ad _ g1 e2
          obtain ⟨x1, x2⟩ := xc_of O e3
          have g2 : H a = some (exo a (He.ga X.K (T.XN.getD kc Str.empty)) (some ad)) := g2
          rw [x1] at g2
          have hlen : qs.length ≤ 900 := by
            have z := congrArg List.length h2
            simp only [List.length_map] at z
            omega
          refine xst_old (O.pg.xc cx (List.mem_of_getElem? e3)).2 I g2 h1 hlen (O.pg.xno _ e5) ru fun s' I' => ?_
          obtain ⟨eb, Sb⟩ := S.put (o' := .xdc ((f, w) :: fs)) (u := exd ad ((n, v) :: qs)) g1 e2 rfl fun ex => ⟨(n, v) :: qs, upd_same, by rw [List.map_cons, List.map_cons, h2]; show n :: _ = T.FN.getD f Str.empty :: _; rw [f1], fun q hq => by
            rcases List.mem_cons.mp hq with z | z
            · rw [z]; exact f2
            · exact h3 q z, .cons (rw'.mono ex) (h4.mono ex)⟩
          have q : run (T.g X) Xw σ R (k ()) m H (L.set dd (.xdc ((f, w) :: fs))) Q := q
          exact h _ _ _ s' eb Sb I' (run.shift eb q)
        · rw [if_neg c1] at q
          exact False.elim (run_bnd (R' := RU) q)
      · exact False.elim (run_bnd (R' := RU) q)
    · exact False.elim (run_bnd (R' := RU) q)
theorem pg_xf (O : Ok T p C c X d) {o : Ex} {l : Expr} {n : Str} {f : Nat} {pos : Pos} (hf : p.fld[f]? = some n) (ho : PE X l (tE T C Wx X o)) : PG X (.Attribute l n pos) (tG T C Wx X (.xfl o f)) := by
  refine ⟨fun pins s σ H v u Q I r q => ?_⟩
  obtain ⟨m, ρ, L, w, S, F, rw', q⟩ := q
  have q : run (T.g X) (ofW Wx) σ (RG X.K (tgIx (.xfl o f)) σ) (bnd (evE C ρ o) fun x => bnd (setX C x w f) fun _ => ret ρ) m H L Q := q
  have ha : assign (.Attribute l n pos) X.env u = (do
      let ov ← holding [u] (eval l X.env)
      standAt pos.atName
      holding [u, ov] (setAttr ov n u)
      release [u, ov] []) := rfl
  rw [ha]
  refine wpAny_bind (wpAny_holding (thn (ho.run pins s σ H _ I ⟨m, ρ, L, S, F, run_bnd (R' := RelW X.K) q⟩) fun ov s1 ⟨vo, H1, I1, ro, m1, L1, x, e1, S1, r1, q1⟩ => ?_))
  refine wpAny_bind (wpAny_standAt (wpAny_bind (wpAny_holding ?_)))
  refine setx_ok O I1 S1 hf r1 ro (rw'.mono e1) r q1 fun m' H' L' s' ex S' I' q2 => ?_
  exact wpAny_release ⟨σ, H', I', q2 _ _ σ (Ext.refl _ _) S' ⟨(F.mono e1).mono ex, rfl, fun _ _ => rfl⟩⟩
theorem xt_boot : ∀ b ∈ xtNames, bootBuiltins (Str.ofString b) = some (.type b) := by decide +kernel
theorem xt_ne : ∀ b ∈ xtNames, Str.ofString b ≠ ("__name__" : Str) := by decide +kernel
theorem pe_xisx (O : Ok T p C c X d) {x : Ex} {cl : Cl} {y n : Str} {ps ps2 pos : Pos} {l : Expr} (hb : bltB p c.sc y "isinstance" = true) (hl : chkE p c x l = true) (hx : PE X l (tE T C Wx X x))
    {cw : V} {cv : Value} (hn : PE X (.Name n ps2) (fun σ H Q => Q cw H)) (hcv : ∀ u, RelV cw u → u = cv) (hk : ∀ (i : Nat) (z : Str), p.xcs[i]? = some z → PySem.W.kitOne X.K (.ref (He.ga X.K z)) cv = some (p.xsubL.contains (i, cl))) :
    PE X (.Call (.Name y ps) [l, .Name n ps2] [] pos) (tE T C Wx X (.xis x cl)) := by
  obtain ⟨rfl, g1, g2, g3⟩ := O.blt hb
  refine PE_imp (pe_callB call_isX g1 g2 PyProof.Rows.boot_isinstance (pa_cons hx (pa_cons hn pa_nil) (star_plain hl _ X.env)) (by decide) g3 (star_plain hl _ X.env)) fun σ H Q q => ?_
  refine (tM_bnd (R' := RelW X.K) q).imp fun v H1 ⟨m1, ρ, L1, w, S1, F1, r1, q1⟩ => ?_
  cases w <;> try exact False.elim q1
  rename_i l0
  have q1 : run (T.g X) (ofW Wx) σ (RelW X.K) (match L1[l0]? with
    | some (.exi c (some d)) => (match L1[d]? with
      | some (.xdc _) => ret (.bl (C.xsub c cl))
      | _ => fail)
    | _ => fail) m1 H1 L1 Q := q1
  cases r1 with
  | @ref _ a hl0 =>
    split at q1
    · rename_i k dd e
      split at q1
      · rename_i fs e2
        obtain ⟨ad, g1, g2, g3⟩ := S1.ob l0 a _ hl0 e
        obtain ⟨qs, h1, h2, h3, h4⟩ := S1.ob dd ad _ g1 e2
        have g3 : k < p.xcs.length := by rw [← O.xn]; exact g3
        have e3 : p.xcs[k]? = some p.xcs[k] := List.getElem?_eq_getElem g3
        have g2 : H1 a = some (exo a (He.ga X.K (T.XN.getD k Str.empty)) (some ad)) := g2
        rw [(xc_of O e3).1] at g2
        have kt := hk k _ e3
        rw [O.cf.xsub] at q1
        exact ⟨a, _, ad, qs, cw, cv, _, rfl, (O.pg.xc _ (List.mem_of_getElem? e3)).2, g2, h1, hcv, kt, run_val q1 S1 (.bl _)⟩
      · exact q1.elim
    · exact q1.elim
mutual
theorem sndE {c : Dc} {X : Cx} {Wx : WX} (O : Ok T p C c X d) (tk : Takes X Wx) : ∀ (x : Ex) (e : Expr), chkE p c x e = true → PE X e (tE T C Wx X x)
  | .var i, e, h => by
    simp only [chkE] at h
    split at h <;> try cases h
    rename_i y pos
    simp only [Bool.and_eq_true, decide_eq_true_eq] at h
    obtain ⟨⟨⟨h1, h2⟩, h3⟩, h4⟩ := h
    refine PE_imp (pe_var (i := i) (by rw [O.N]; exact h2) (O.vis h1) (by simpa [bne] using h3) (by simpa [bne] using h4)) fun σ H Q ⟨m, ρ, L, S, F, q⟩ => ?_
    have q : run (T.g X) (ofW Wx) σ (RelW X.K) (match ρ[i]? with
      | some (some w) => ret w
      | _ => fail) m H L Q := q
    split at q
    · rename_i w ew
      obtain ⟨v, e1, r⟩ := F.at_ i w ew
      exact ⟨v, e1, run_val q S r⟩
    · exact q.elim
  | .kn, e, h => by
    simp only [chkE] at h
    split at h <;> try cases h
    exact pe_const (fun _ => rfl) (fun _ _ => .non) pe_non
  | .kb b, e, h => by
    simp only [chkE] at h
    split at h <;> try cases h
    have := eq_of_beq h
    subst this
    exact pe_const (fun _ => rfl) (fun _ _ => .bl _) pe_bl
  | .ki i, e, h => by
    simp only [chkE] at h
    split at h <;> try cases h
    have := of_decide_eq_true h
    subst this
    exact pe_const (fun _ => rfl) (fun _ _ => .int _) pe_int
  | .ks x, e, h => by
    simp only [chkE] at h
    split at h <;> try cases h
    have := of_decide_eq_true h
    subst this
    exact pe_const (fun _ => rfl) (fun _ _ => .str _) pe_str
  | .gi n i, e, h => by
    simp only [chkE] at h
    split at h <;> try cases h
    simp only [Bool.and_eq_true, decide_eq_true_eq] at h
    obtain ⟨⟨h1, h2⟩, h3⟩ := h
    obtain ⟨g1, g2⟩ := O.gl h2
    obtain ⟨t, ht⟩ := O.pg.gi _ (List.contains_iff_mem.mp h3)
    exact pe_const (fun _ => rfl) (fun _ _ => .int _) (pe_glob g1 ht ⟨t, rfl⟩ g2)
  | .gs n x, e, h => by
    simp only [chkE] at h
    split at h <;> try cases h
    simp only [Bool.and_eq_true, decide_eq_true_eq] at h
    obtain ⟨⟨h1, h2⟩, h3⟩ := h
    obtain ⟨g1, g2⟩ := O.gl h2
    obtain ⟨t, ht⟩ := O.pg.gs _ (List.contains_iff_mem.mp h3)
    exact pe_const (fun _ => rfl) (fun _ _ => .str _) (pe_glob g1 ht ⟨t, rfl⟩ g2)
  | .bin op a b, e, h => by
    simp only [chkE] at h
    split at h <;> try cases h
    simp only [Bool.and_eq_true, decide_eq_true_eq] at h
    obtain ⟨⟨h1, h2⟩, h3⟩ := h
    subst h1
    exact PE_imp (pe_op (op_bin_ok op) (sndE O tk a _ h2) (sndE O tk b _ h3)) fun σ H Q q => tOp_of q
  | .neg a, e, h => by
    simp only [chkE] at h
    split at h <;> try cases h
    refine PE_imp (pe_un un_neg (sndE O tk a _ h)) fun σ H Q q => (tM_bnd (R' := RelW X.K) q).imp fun v H1 ⟨m1, ρ, L1, w, S1, F1, r1, q1⟩ => ?_
    cases w <;> try exact False.elim q1
    cases r1
    exact ⟨_, rfl, run_val q1 S1 (.int _)⟩
  | .cmp op a b, e, h => by
    simp only [chkE] at h
    split at h <;> try cases h
    simp only [Bool.and_eq_true, decide_eq_true_eq] at h
    obtain ⟨⟨h1, h2⟩, h3⟩ := h
    subst h1
    exact PE_imp (pe_cmpR (op_cmpX_ok (Wx := Wx) O op) (sndE O tk a _ h2) (sndE O tk b _ h3) (markE h3 _)) fun σ H Q q => tOp_of q
  | .chn o1 o2 a b d, e, h => by
    simp only [chkE] at h
    split at h <;> try cases h
    simp only [Bool.and_eq_true, decide_eq_true_eq] at h
    obtain ⟨⟨⟨⟨h1, h2⟩, h3⟩, h4⟩, h5⟩ := h
    subst h1 h2
    refine PE_imp (pe_chain (op_cmp_ok (T := T) (Xw := ofW Wx) (hu64 O.room) o1) (op_cmp_ok (T := T) (Xw := ofW Wx) (hu64 O.room) o2) (sndE O tk a _ h3) (sndE O tk b _ h4) (sndE O tk d _ h5) (by show behindInMarks _ _ = false; exact markE h5 _)) fun σ H Q q => ?_
    refine (tM_bnd (R' := RelW X.K) q).imp fun v H1 ⟨m1, ρ, L1, x, S1, F1, r1, q1⟩ => ⟨m1, ρ, L1, S1, F1, (run_bnd (R' := RelW X.K) q1).imp fun v2 H2 ⟨m2, L2, y, e2, S2, r2, q2⟩ => ?_⟩
    refine ⟨σ, m2, L2, x, y, S2, r1.mono e2, r2, (run_bnd (R' := RelW X.K) q2).imp fun v3 H3 ⟨m3, L3, z, e3, S3, r3, q3⟩ => ?_⟩
    cases z <;> try exact False.elim q3
    rename_i k
    cases r3
    refine ⟨k, rfl, ?_⟩
    cases k
    · rw [if_neg (by simp)]
      exact run_val q3 S3 (.bl _)
    · rw [if_pos rfl]
      exact ⟨m3, ρ, L3, S3, (F1.mono e2).mono e3, (run_bnd (R' := RelW X.K) q3).imp fun v4 H4 ⟨m4, L4, z4, e4, S4, r4, q4⟩ => ⟨σ, m4, L4, y, z4, S4, (r2.mono e3).mono e4, r4, q4⟩⟩
  | .band xs, e, h => by
    simp only [chkE] at h
    split at h <;> try cases h
    simp only [Bool.and_eq_true] at h
    exact sndAnd O tk xs _ _ h.1 (by simpa using h.2)
  | .bor xs, e, h => by
    simp only [chkE] at h
    split at h <;> try cases h
    simp only [Bool.and_eq_true] at h
    exact sndOr O tk xs _ _ h.1 (by simpa using h.2)
  | .bnot a, e, h => by
    simp only [chkE] at h
    split at h <;> try cases h
    have ha := sndE O tk a _ h
    refine ⟨fun pins s σ H Q I q => ?_⟩
    refine UnaryOp_ (thn (ha.run pins s σ H (fun v H1 => rOT (T.g X) (ofW Wx) truth v H1 fun k H2 => Q (.bl (!k)) H2) I ((tM_bnd (R' := RelW X.K) q).imp fun v H1 ⟨m1, ρ, L1, w, S1, F1, r1, q1⟩ => ?_)) fun u s1 ⟨x, H1, I1, r1, q1⟩ => ?_)
    · refine ⟨σ, m1, L1, w, S1, r1, ?_⟩
      exact (run_bnd (R' := RB) q1).imp fun k H2 ⟨m2, L2, b, e2, S2, eb, q2⟩ => by
        have eb : b = k := eb
        subst eb
        exact run_val q2 S2 (.bl _)
    · exact not_of (thn (tru_ok' pins s1 σ H1 x u _ I1 r1 q1) fun k s2 ⟨H2, I2, q2⟩ => ⟨.bl (!k), H2, I2, rfl, q2⟩)
  | .ifx t a b, e, h => by
    simp only [chkE] at h
    split at h <;> try cases h
    simp only [Bool.and_eq_true] at h
    refine PE_imp (pe_ifExp (sndT O tk t _ h.1.1) (sndE O tk a _ h.1.2) (sndE O tk b _ h.2)) fun σ H Q q => ?_
    refine (tM_bnd (R' := RB) q).imp fun k H1 ⟨m1, ρ, L1, w, S1, F1, r1, q1⟩ => ?_
    have r1 : w = k := r1
    subst r1
    rcases run_if q1 with ⟨c1, q2⟩ | ⟨c1, q2⟩
    · rw [if_pos c1]; exact ⟨m1, ρ, L1, S1, F1, q2⟩
    · rw [if_neg c1]; exact ⟨m1, ρ, L1, S1, F1, q2⟩
  | .sub a i, e, h => by
    simp only [chkE] at h
    split at h <;> try cases h
    simp only [Bool.and_eq_true] at h
    exact PE_imp (pe_ix (ix_ok (hu64 O.room)) (sndE O tk a _ h.1) (sndE O tk i _ h.2) (ixplain h.2)) fun σ H Q q => tOp_of q
  | .slc a lo hi, e, h => by
    simp only [chkE] at h
    split at h <;> try cases h
    simp only [Bool.and_eq_true] at h
    refine PE_imp (pe_slice (sl_ok (T := T) (Xw := ofW Wx) rfl) (sndE O tk a _ h.1.1) (sndO O tk lo _ h.1.2) (sndO O tk hi _ h.2)) fun σ H Q q => ?_
    refine (tM_bnd (R' := RelW X.K) q).imp fun v H1 ⟨m1, ρ, L1, x, S1, F1, r1, q1⟩ => ⟨m1, ρ, L1, S1, F1, (run_bnd (R' := fun _ _ (x y : Option Int) => x = y) q1).imp fun l H2 ⟨m2, L2, y, e2, S2, r2, q2⟩ => ?_⟩
    refine ⟨m2, ρ, L2, S2, F1.mono e2, (run_bnd (R' := fun _ _ (x y : Option Int) => x = y) q2).imp fun u H3 ⟨m3, L3, z, e3, S3, r3, q3⟩ => ?_⟩
    have r2 : y = l := r2
    have r3 : z = u := r3
    subst r2 r3
    exact ⟨σ, m3, L3, x, S3, (r1.mono e2).mono e3, q3⟩
  | .lst xs, e, h => by
    simp only [chkE] at h
    split at h <;> try cases h
    refine PE_imp (pe_lst (sndEs O tk xs _ h)) fun σ H Q q => ?_
    refine (tM_bnd (R' := RelWs X.K) q).imp fun vs H1 ⟨m1, ρ, L1, ws, S1, F1, r1, q1⟩ => ?_
    rcases run_if q1 with ⟨c1, q2⟩ | ⟨c1, q2⟩
    · exact ⟨by rw [← r1.length]; exact lenOk_le c1, fun p hp => run_new q2 S1 r1 hp⟩
    · exact q2.elim
  | .tup xs, e, h => by
    simp only [chkE] at h
    split at h <;> try cases h
    refine PE_imp (pe_tup (sndEs O tk xs _ h)) fun σ H Q q => ?_
    refine (tM_bnd (R' := RelWs X.K) q).imp fun vs H1 ⟨m1, ρ, L1, ws, S1, F1, r1, q1⟩ => ?_
    rcases run_if q1 with ⟨c1, q2⟩ | ⟨c1, q2⟩
    · exact ⟨by rw [← r1.length]; exact lenOk_le c1, fun p hp => run_tup q2 S1 r1 hp⟩
    · exact q2.elim
  | .call t xs ys, e, h => by
    simp only [chkE] at h
    split at h <;> try cases h
    split at h <;> try cases h
    rename_i y ps es ks pos _ g hg
    simp only [Bool.and_eq_true, decide_eq_true_eq, beq_iff_eq] at h
    obtain ⟨⟨⟨⟨⟨h1, h2⟩, h3⟩, h4⟩, h5⟩, h6⟩ := h
    obtain ⟨g1, g2⟩ := O.gl h2
    obtain ⟨f2, f1, f3⟩ := O.tg t g hg
    exact pe_target tk (O.room.mono (by omega)) g1 g2 (f1 y h1) f2 f3 h3 (chkEs_len h5) (by simpa using chkEs_len h6) h4 (sndEs O tk xs _ h5) (sndKs O tk ys ks h6) (chkEs_star h5) (fun env => chkEs_head h5 env)
  | .bi b xs, e, h => by
    simp only [chkE] at h
    split at h <;> try cases h
    rename_i y ps es pos
    simp only [Bool.and_eq_true] at h
    obtain ⟨⟨h1, h2⟩, h3⟩ := h
    cases es with
    | nil => simp at h2
    | cons e es => exact pe_bi O h1 h3 (sndEs O tk xs _ h3)
  | .met m o xs, e, h => by
    simp only [chkE] at h
    split at h <;> try cases h
    simp only [Bool.and_eq_true, decide_eq_true_eq] at h
    obtain ⟨⟨⟨⟨⟨⟨h1, h2⟩, h3⟩, h4⟩, h5⟩, h6⟩, h7⟩ := h
    subst h1
    exact pe_met h2 h3 h4 h5 h7 (sndE O tk o _ h6) (sndEs O tk xs _ h7)
  | .lc own t it cs x, e, h => by
    simp only [chkE] at h
    split at h <;> try cases h
    simp only [Bool.and_eq_true, decide_eq_true_eq] at h
    obtain ⟨⟨⟨⟨⟨⟨⟨⟨h1, h2⟩, h3⟩, h4⟩, h5⟩, h6⟩, h7⟩, h8⟩, h9⟩ := h
    subst h1
    exact pe_lcx O h4 h2 (sndI O tk it _ _ h5) (fun s H Cc cl fp => sndG (O.blk h3 s H Cc cl fp) takes0 t _ h6) (fun s H Cc cl fp => sndTs (O.blk h3 s H Cc cl fp) takes0 cs _ h8 h7)
      (fun s H Cc cl fp => sndE (O.blk h3 s H Cc cl fp) takes0 x _ h9) (noSet h5 X.env)
  | .fld o f, e, h => by
    simp only [chkE] at h
    split at h <;> try cases h
    simp only [Bool.and_eq_true, decide_eq_true_eq] at h
    exact pe_fldx O h.1.1 h.1.2 (sndE O tk o _ h.2)
  | .prp o f, e, h => by
    simp only [chkE] at h
    split at h <;> try cases h
    simp only [Bool.and_eq_true, decide_eq_true_eq] at h
    exact pe_prpx O h.1.1 h.1.2 (sndE O tk o _ h.2)
  | .mcall m o xs ys, e, h => by
    simp only [chkE] at h
    split at h <;> try cases h
    split at h <;> try cases h
    rename_i l n apos es ks pos _ nm np kws hm
    simp only [Bool.and_eq_true, decide_eq_true_eq, kwB] at h
    obtain ⟨⟨⟨⟨⟨⟨⟨⟨h1, h2⟩, h3⟩, h4⟩, h5⟩, h6⟩, h7⟩, h8⟩, h9⟩ := h
    subst h1
    exact pe_mcallx O tk hm h2 h3 h4 h5 h6 h8 h9 (sndE O tk o _ h7) (sndEs O tk xs _ h8) (sndKs O tk ys ks h9)
  | .mk m xs ys, e, h => by
    simp only [chkE] at h
    split at h <;> try cases h
    split at h <;> try cases h
    rename_i y ps es ks pos _ x np kws hm
    simp only [Bool.and_eq_true, decide_eq_true_eq, kwB] at h
    obtain ⟨⟨⟨⟨⟨⟨⟨h1, h2⟩, h3⟩, h3b⟩, h4⟩, h5⟩, h6⟩, h7⟩ := h
    subst h1
    obtain ⟨g1, g2⟩ := O.gl h2
    exact pe_mkx O tk hm g1 g2 (List.contains_iff_mem.mp h3) (List.contains_iff_mem.mp h3b) h4 h5 h6 h7 (sndEs O tk xs _ h6) (sndKs O tk ys ks h7)
  | .xmk k xs, e, h => by
    simp only [chkE] at h
    split at h <;> try cases h
    split at h <;> try cases h
    rename_i y ps es pos _ x np hm
    simp only [Bool.and_eq_true, decide_eq_true_eq] at h
    obtain ⟨⟨⟨⟨⟨h1, h2⟩, h3⟩, h4⟩, h5⟩, h6⟩ := h
    subst h1
    obtain ⟨g1, g2⟩ := O.gl h2
    exact pe_xmkx O tk hm g1 g2 (List.contains_iff_mem.mp h3) h4 h5 h6 (sndEs O tk xs _ h6)
  | .xfl o f, e, h => by
    simp only [chkE] at h
    split at h <;> try cases h
    simp only [Bool.and_eq_true, decide_eq_true_eq] at h
    exact pe_xflx O h.1.1 h.1.2 (sndE O tk o _ h.2)
  | .xis x cl, e, h => by
    simp only [chkE] at h
    split at h <;> try cases h
    simp only [Bool.and_eq_true] at h
    obtain ⟨⟨h1, h2⟩, h3⟩ := h
    cases cl with
    | own k =>
      simp only [Bool.and_eq_true, decide_eq_true_eq] at h3
      obtain ⟨k1, k2⟩ := O.gl h3.2
      obtain ⟨c1, c2⟩ := O.pg.xc _ (List.mem_of_getElem? h3.1)
      exact pe_xisx O h1 h2 (sndE O tk x _ h2) (pe_glob (v := .ref (He.ga X.K _)) k1 c1 rfl k2) (fun u h => h) fun i z hz => O.pg.xkit i k z _ hz h3.1
    | ty s =>
      simp only [Bool.and_eq_true] at h3
      obtain ⟨rfl, g1, g2, g3⟩ := O.blt h3.1
      have hm := List.contains_iff_mem.mp h3.2
      exact pe_xisx (cw := .ty s) (cv := .type s) O h1 h2 (sndE O tk x _ h2) (pe_bltn g1 g2 (xt_boot s hm) rfl (xt_ne s hm) g3) (fun u h => h) fun i z hz => O.pg.xkitT i z hz s hm
  | .isi x cl, e, h => by
    simp only [chkE] at h
    split at h <;> try cases h
    simp only [Bool.and_eq_true] at h
    obtain ⟨⟨h1, h2⟩, h3⟩ := h
    cases cl with
    | own k =>
      simp only [Bool.and_eq_true, decide_eq_true_eq] at h3
      exact pe_isiown O h1 h3.1 h3.2 h2 (sndE O tk x _ h2)
    | ty s =>
      simp only [Bool.and_eq_true] at h3
      exact pe_isi' O h1 h3.1 h3.2 h2 (sndE O tk x _ h2)
  | .isis x cs, e, h => by
    simp only [chkE] at h
    split at h <;> try cases h
    simp only [Bool.and_eq_true] at h
    exact pe_isis' O h.1.1 h.2 h.1.2 (sndE O tk x _ h.1.2)
  | .srtset x, e, h => by
    simp only [chkE] at h
    split at h <;> try cases h
    simp only [Bool.and_eq_true] at h
    exact pe_srtset O h.1.1 h.1.2 h.2 (sndE O tk x _ h.2)
  | .lenset x, e, h => by simp [chkE] at h
  | .rev x, e, h => by
    simp only [chkE] at h
    split at h <;> try cases h
    simp only [Bool.and_eq_true, decide_eq_true_eq] at h
    obtain ⟨h1, h2⟩ := h
    subst h1
    exact pe_revx (sndE O tk x _ h2)
  | .fst ps, e, h => by
    simp only [chkE] at h
    split at h <;> try cases h
    obtain ⟨ts, h1, h2⟩ := sndFs O tk ps _ h
    exact PE_imp (pe_joined h1) fun σ H Q ⟨m, ρ, L, S, F, q⟩ => h2 [] σ H _ ⟨m, ρ, L, S, F, (run_bnd (R' := RTx) q).imp fun b H1 ⟨m1, L1, a, e1, S1, r1, q1⟩ => by
      have r1 : b = ⟨a.toArray⟩ := r1
      subst r1
      exact run_val q1 S1 (.str a)⟩
  | .dnew tt, e, h => by
    simp only [chkE] at h
    split at h <;> try cases h
    exact pe_dnewx
  | .dsp ps, e, h => by
    simp only [chkE] at h
    split at h <;> try cases h
    rename_i ks vs pos
    simp only [Bool.and_eq_true, decide_eq_true_eq, Bool.not_eq_true'] at h
    obtain ⟨⟨h1, h2⟩, h3⟩ := h
    obtain ⟨trs, k1, k2, k3, k4⟩ := sndPs O tk ps ks vs pos h3
    exact PE_imp (pe_disp k1 k2 k3 (by intro z; rw [z] at h1; cases h1) h2) fun σ H Q q => dsp_turn k4 q
  | .dgetd o k x, e, h => by
    simp only [chkE] at h
    split at h <;> try cases h
    simp only [Bool.and_eq_true, decide_eq_true_eq] at h
    obtain ⟨⟨⟨⟨⟨h1, h2⟩, h3⟩, h4⟩, h5⟩, h6⟩ := h
    subst h1
    exact pe_dgetx O h2 h3 h5 h6 (sndE O tk o _ h4) (sndE O tk k _ h5) (sndE O tk x _ h6)
  | .kin ng x gn ks, e, h => by
    simp only [chkE] at h
    split at h <;> try cases h
    simp only [Bool.and_eq_true, decide_eq_true_eq] at h
    obtain ⟨⟨⟨⟨h1, h2⟩, h3⟩, h4⟩, h5⟩ := h
    subst h1 h3
    obtain ⟨a, e1, op⟩ := kin_all O (ng := ng) h5
    obtain ⟨g1, g2⟩ := O.gl h4
    refine PE_imp (pe_cmpR op (sndE O tk x _ h2) (pe_glob (v := .ref a) g1 e1 rfl g2) (by cases ng <;> rfl)) fun σ H Q q => tOp_kin q
  | .kget x gn kvs, e, h => by
    simp only [chkE] at h
    split at h <;> try cases h
    simp only [Bool.and_eq_true, decide_eq_true_eq] at h
    obtain ⟨⟨⟨h1, h2⟩, h3⟩, h4⟩ := h
    subst h2
    obtain ⟨g1, g2⟩ := O.gl h3
    exact pe_kgetx O g1 g2 h1 h4 (sndE O tk x _ h1)
  | .gt g ws, e, h => by simp [chkE] at h
  | .dun i a b, e, h => by simp [chkE] at h
  | .why x, e, h => by
    simp only [chkE] at h
    split at h <;> try cases h
    simp only [Bool.and_eq_true, decide_eq_true_eq] at h
    obtain ⟨⟨⟨⟨⟨h0, h1⟩, h2⟩, h3⟩, h4⟩, h5⟩ := h
    exact O.why h0 Wx x _ (by simp only [whyE, Bool.and_eq_true, decide_eq_true_eq]; exact ⟨⟨⟨⟨h1, h2⟩, h3⟩, h4⟩, h5⟩)
theorem sndFs {c : Dc} {X : Cx} {Wx : WX} (O : Ok T p C c X d) (tk : Takes X Wx) : ∀ (ps : List Ex) (es : List Expr), chkFs p c ps es = true → ∃ ts, PJ X es ts ∧ ∀ (acc : Txt) (σ : L2.St) (H : Hp) (Q : Str → Hp → Prop), tM (T.g X) Wx RTx (fun ρ => evFs C ρ ps acc) σ H Q → tJs ts ⟨acc.toArray⟩ σ H Q
  | [], es, h => by
    cases es with
    | cons e es => simp [chkFs] at h
    | nil => exact ⟨[], .nil, fs_nil⟩
  | x :: xs, es, h => by
    cases es with
    | nil => simp [chkFs] at h
    | cons e es =>
      simp only [chkFs, Bool.and_eq_true] at h
      obtain ⟨h1, h2⟩ := h
      obtain ⟨ts, k1, k2⟩ := sndFs O tk xs es h2
      split at h1 <;> try cases h1
      · simp only [Bool.and_eq_true, decide_eq_true_eq] at h1
        obtain ⟨h3, h4⟩ := h1
        subst h3
        exact ⟨_, .cons (pe_fmt (sndE O tk x _ h4)) k1, fs_cons (fun σ H Q q => fs_fmt q) k2⟩
      · rename_i d1 i1 p1
        obtain ⟨y0, rfl⟩ : ∃ y0, x = .ks y0 := by
          cases x <;> simp [chkE] at h1
          exact ⟨_, rfl⟩
        exact ⟨_, .cons (sndE O tk (.ks y0) _ h1) k1, fs_cons (fun σ H Q q => fs_cst q) k2⟩
theorem sndPs {c : Dc} {X : Cx} {Wx : WX} (O : Ok T p C c X d) (tk : Takes X Wx) : ∀ (ps : List Ex) (ks : List (Option Expr)) (vs : List Expr) (pos : Pos), chkPs p c ps ks vs = true → ∃ trs, PPs X pos ks vs trs ∧ ks.all (·.isSome) = true ∧ ks.length = vs.length ∧ ∀ (σ : L2.St) (H : Hp) (Q : List (V × V) → Hp → Prop), tM (T.g X) Wx (RPs X.K) (fun ρ => evPs C ρ ps) σ H Q → tPairs trs σ H Q
  | [], ks, vs, pos, h => by
    simp only [chkPs, Bool.and_eq_true, List.isEmpty_iff] at h
    obtain ⟨rfl, rfl⟩ := h
    exact ⟨[], pps_nil, rfl, rfl, ps_nil⟩
  | [_], ks, vs, pos, h => by simp [chkPs] at h
  | k :: v :: r, ks, vs, pos, h => by
    simp only [chkPs] at h
    split at h <;> try cases h
    rename_i ke ks ve vs
    simp only [Bool.and_eq_true] at h
    obtain ⟨⟨h1, h2⟩, h3⟩ := h
    obtain ⟨trs, k1, k2, k3, k4⟩ := sndPs O tk r ks vs pos h3
    exact ⟨_, pps_cons (sndE O tk k _ h1) (sndE O tk v _ h2) k1, by rw [List.all_cons, k2]; rfl, by simp [k3], ps_cons k4⟩
theorem sndTs {c : Dc} {X : Cx} {Wx : WX} (O : Ok T p C c X d) (tk : Takes X Wx) : ∀ (cs : List Tx) (ifs : List Expr), ifs.length ≤ 1 → chkTs p c cs ifs = true → PTs X ifs (tM (T.g X) Wx RB fun ρ => tsAnd C ρ cs)
  | [], ifs, hl, h => pts_ok hl h fun t ht => by simp at ht
  | t :: cs, ifs, hl, h => pts_ok1 hl h fun e he => sndT O tk t e he
theorem sndI {c : Dc} {X : Cx} {Wx : WX} (O : Ok T p C c X d) (tk : Takes X Wx) : ∀ (it : It) (tg e : Expr), chkI p c it tg e = true → PI X tg e (tI T C Wx X it)
  | .e x, tg, e, h => pi_e (sndE O tk x e h)
  | .rng xs, tg, e, h => by
    simp only [chkI] at h
    split at h <;> try cases h
    simp only [Bool.and_eq_true] at h
    obtain ⟨⟨h1, h2⟩, h3⟩ := h
    have ha := sndEs O tk xs _ h2
    exact pi_rngs O h1 h2 h3 ha
  | .enum x, tg, e, h => by
    simp only [chkI] at h
    split at h <;> try cases h
    simp only [Bool.and_eq_true] at h
    exact pi_en O h.1 h.2 (sndE O tk x _ h.2)
  | .zip x y, tg, e, h => by
    simp only [chkI] at h
    split at h <;> try cases h
    simp only [Bool.and_eq_true] at h
    exact pi_zp O h.1.1 h.1.2 h.2 (sndE O tk x _ h.1.2) (sndE O tk y _ h.2)
theorem sndG {c : Dc} {X : Cx} {Wx : WX} (O : Ok T p C c X d) (tk : Takes X Wx) : ∀ (t : Tgt) (e : Expr), chkG p c t e = true → PG X e (tG T C Wx X t)
  | .nm i, e, h => by
    simp only [chkG] at h
    split at h <;> try cases h
    simp only [Bool.and_eq_true, decide_eq_true_eq] at h
    obtain ⟨⟨h1, h2⟩, h3⟩ := h
    exact pg_nm O h1 h2 h3
  | .tup ts, e, h => by
    simp only [chkG] at h
    split at h <;> try cases h
    simp only [Bool.and_eq_true] at h
    exact pg_tp O h.1 h.2 (sndGs O tk ts _ h.1 h.2)
  | .sub o i, e, h => by
    simp only [chkG] at h
    split at h <;> try cases h
    simp only [Bool.and_eq_true] at h
    exact pg_sb O h.2 (sndE O tk o _ h.1) (sndE O tk i _ h.2)
  | .fld o f, e, h => by
    simp only [chkG] at h
    split at h <;> try cases h
    simp only [Bool.and_eq_true, decide_eq_true_eq] at h
    exact pg_fl O h.1.2 (sndE O tk o _ h.2)
  | .xfl o f, e, h => by
    simp only [chkG] at h
    split at h <;> try cases h
    simp only [Bool.and_eq_true, decide_eq_true_eq] at h
    exact pg_xf O h.1.2 (sndE O tk o _ h.2)
theorem sndGs {c : Dc} {X : Cx} {Wx : WX} (O : Ok T p C c X d) (tk : Takes X Wx) : ∀ (ts : List Tgt) (es : List Expr), tgPls ts = true → chkGs p c ts es = true → PGs X es (tGs T C Wx X ts)
  | [], es, hp, h => by
    cases es with
    | cons e es => simp [chkGs] at h
    | nil => exact pgs_nl
  | t :: ts, es, hp, h => by
    cases es with
    | nil => simp [chkGs] at h
    | cons e es =>
      simp only [chkGs, Bool.and_eq_true] at h
      simp only [tgPls, Bool.and_eq_true] at hp
      exact pgs_cn hp.1 hp.2 h.1 (sndG O tk t e h.1) (sndGs O tk ts es hp.2 h.2)
theorem sndEs {c : Dc} {X : Cx} {Wx : WX} (O : Ok T p C c X d) (tk : Takes X Wx) : ∀ (xs : List Ex) (es : List Expr), chkEs p c xs es = true → PA X es (tA T C Wx X xs)
  | [], es, h => by
    cases es with
    | cons e es => simp [chkEs] at h
    | nil => exact PA_imp pa_nil fun σ H Q ⟨m, ρ, L, S, F, q⟩ => run_ret (R := RelWs X.K) q S .nil
  | x :: xs, es, h => by
    cases es with
    | nil => simp [chkEs] at h
    | cons e es =>
      simp only [chkEs, Bool.and_eq_true] at h
      refine PA_imp (pa_cons (sndE O tk x _ h.1) (sndEs O tk xs _ h.2) (star_plain h.1 es X.env)) fun σ H Q q => ?_
      exact (tM_bnd (R' := RelW X.K) q).imp fun v H1 ⟨m1, ρ, L1, w, S1, F1, r1, q1⟩ => ⟨m1, ρ, L1, S1, F1, (run_bnd (R' := RelWs X.K) q1).imp fun vs H2 ⟨m2, L2, ws, e2, S2, r2, q2⟩ => run_ret (R := RelWs X.K) q2 S2 (.cons (r1.mono e2) r2)⟩
theorem sndKs {c : Dc} {X : Cx} {Wx : WX} (O : Ok T p C c X d) (tk : Takes X Wx) : ∀ (xs : List Ex) (ks : List Keyword), chkEs p c xs (ks.map (·.value)) = true → PK X ks (tA T C Wx X xs)
  | [], ks, h => by
    cases ks with
    | cons e es => simp [chkEs] at h
    | nil => exact ⟨fun pos pins s σ H Q I ⟨m, ρ, L, S, F, q⟩ => pk_nil.run pos pins s σ H Q I (run_ret (R := RelWs X.K) q S .nil)⟩
  | x :: xs, ks, h => by
    cases ks with
    | nil => simp [chkEs] at h
    | cons k ks =>
      obtain ⟨nm, e, kp⟩ := k
      simp only [List.map_cons, chkEs, Bool.and_eq_true] at h
      refine ⟨fun pos pins s σ H Q I q => (pk_cons (sndE O tk x _ h.1) (sndKs O tk xs ks h.2)).run pos pins s σ H Q I ?_⟩
      exact (tM_bnd (R' := RelW X.K) q).imp fun v H1 ⟨m1, ρ, L1, w, S1, F1, r1, q1⟩ => ⟨m1, ρ, L1, S1, F1, (run_bnd (R' := RelWs X.K) q1).imp fun vs H2 ⟨m2, L2, ws, e2, S2, r2, q2⟩ => run_ret (R := RelWs X.K) q2 S2 (.cons (r1.mono e2) r2)⟩
theorem sndO {c : Dc} {X : Cx} {Wx : WX} (O : Ok T p C c X d) (tk : Takes X Wx) : ∀ (x : Option Ex) (e : Option Expr), chkO p c x e = true → PO X e (tM (T.g X) Wx (fun _ _ (x y : Option Int) => x = y) fun ρ => evO C ρ x)
  | none, e, h => by
    cases e with
    | some e => simp [chkO] at h
    | none => exact ⟨fun pins s σ H Q I ⟨m, ρ, L, S, F, q⟩ => po_none.run pins s σ H Q I (run_ret (R := fun _ _ (x y : Option Int) => x = y) q S rfl)⟩
  | some x, e, h => by
    cases e with
    | none => simp [chkO] at h
    | some e =>
      simp only [chkO] at h
      refine ⟨fun pins s σ H Q I q => (po_some (sndE O tk x _ h)).run pins s σ H Q I ?_⟩
      refine (tM_bnd (R' := RelW X.K) q).imp fun v H1 ⟨m1, ρ, L1, w, S1, F1, r1, q1⟩ => ?_
      cases w <;> try exact False.elim q1
      cases r1
      exact ⟨_, rfl, run_ret (R := fun _ _ (x y : Option Int) => x = y) q1 S1 rfl⟩
theorem sndAnd {c : Dc} {X : Cx} {Wx : WX} (O : Ok T p C c X d) (tk : Takes X Wx) : ∀ (xs : List Ex) (es : List Expr) (pos : Pos), chkEs p c xs es = true → es ≠ [] → PE X (.BoolOp .And es pos) (tM (T.g X) Wx (RelW X.K) fun ρ => evAnd C ρ xs)
  | [], es, pos, h, hn => by
    cases es with
    | cons e es => simp [chkEs] at h
    | nil => exact absurd rfl hn
  | x :: xs, es, pos, h, hn => by
    cases es with
    | nil => exact absurd rfl hn
    | cons e es =>
      simp only [chkEs, Bool.and_eq_true] at h
      cases es with
      | nil =>
        cases xs with
        | cons x2 xs => simp [chkEs] at h
        | nil => exact PE_imp (pe_one (sndE O tk x _ h.1)) fun σ H Q q => (tM_bnd (R' := RelW X.K) q).imp fun v H1 ⟨m1, ρ, L1, w, S1, F1, r1, q1⟩ => run_val q1 S1 r1
      | cons e2 es =>
        cases xs with
        | nil => simp [chkEs] at h
        | cons x2 xs =>
          refine PE_imp (pe_and (sndE O tk x _ h.1) (sndAnd O tk (x2 :: xs) (e2 :: es) pos h.2 (by simp))) fun σ H Q q => ?_
          refine (tM_bnd (R' := RelW X.K) q).imp fun v H1 ⟨m1, ρ, L1, w, S1, F1, r1, q1⟩ => ?_
          rw [if_neg (by simp)] at q1
          cases w <;> try exact False.elim q1
          rename_i k
          cases r1
          refine ⟨k, rfl, ?_⟩
          cases k
          · rw [if_neg (by simp)]; exact run_val q1 S1 (.bl _)
          · rw [if_pos rfl]; exact ⟨m1, ρ, L1, S1, F1, q1⟩
theorem sndOr {c : Dc} {X : Cx} {Wx : WX} (O : Ok T p C c X d) (tk : Takes X Wx) : ∀ (xs : List Ex) (es : List Expr) (pos : Pos), chkEs p c xs es = true → es ≠ [] → PE X (.BoolOp .Or es pos) (tM (T.g X) Wx (RelW X.K) fun ρ => evOr C ρ xs)
  | [], es, pos, h, hn => by
    cases es with
    | cons e es => simp [chkEs] at h
    | nil => exact absurd rfl hn
  | x :: xs, es, pos, h, hn => by
    cases es with
    | nil => exact absurd rfl hn
    | cons e es =>
      simp only [chkEs, Bool.and_eq_true] at h
      cases es with
      | nil =>
        cases xs with
        | cons x2 xs => simp [chkEs] at h
        | nil => exact PE_imp (pe_one (sndE O tk x _ h.1)) fun σ H Q q => (tM_bnd (R' := RelW X.K) q).imp fun v H1 ⟨m1, ρ, L1, w, S1, F1, r1, q1⟩ => run_val q1 S1 r1
      | cons e2 es =>
        cases xs with
        | nil => simp [chkEs] at h
        | cons x2 xs =>
          refine PE_imp (pe_or (sndE O tk x _ h.1) (sndOr O tk (x2 :: xs) (e2 :: es) pos h.2 (by simp))) fun σ H Q q => ?_
          refine (tM_bnd (R' := RelW X.K) q).imp fun v H1 ⟨m1, ρ, L1, w, S1, F1, r1, q1⟩ => ?_
          rw [if_neg (by simp)] at q1
          cases w <;> try exact False.elim q1
          rename_i k
          cases r1
          refine ⟨k, rfl, ?_⟩
          cases k
          · rw [if_neg (by simp)]; exact ⟨m1, ρ, L1, S1, F1, q1⟩
          · rw [if_pos rfl]; exact run_val q1 S1 (.bl _)
theorem sndT {c : Dc} {X : Cx} {Wx : WX} (O : Ok T p C c X d) (tk : Takes X Wx) : ∀ (x : Tx) (e : Expr), chkT p c x e = true → PT X e (tT T C Wx X x)
  | .val x, e, h => by
    have hc : chkE p c x e = true := by
      simp only [chkT] at h
      split at h <;> first | exact h | cases h
    have he : ∀ whole, isTrue e X.env whole = (do let v ← whole; standAt e.pos; holding [v] (truthy v)) := by
      intro whole
      simp only [chkT] at h
      split at h <;> first | (cases h; done) | skip
      rename_i n1 n2 n3 n4
      cases e <;> first | rfl | exact absurd rfl (n1 _ _ _) | exact absurd rfl (n2 _ _ _ _) | exact absurd rfl (n3 _ _ _ _) | skip
      rename_i op _ _
      cases op <;> first | rfl | exact absurd rfl (n4 _ _)
    refine ⟨fun pins s σ H Q I q => ?_⟩
    exact isTrue_plain (thn ((sndE O tk x _ hc).run pins s σ H _ I (tOp_tru q)) fun v s1 ⟨x, H1, I1, r1, q1⟩ => tru_ok' pins s1 σ H1 x v Q I1 r1 q1) (he _)
  | .bv x, e, h => by
    cases e <;> simp only [chkT] at h <;> try cases h
    cases x <;> simp only [chkE] at h <;> try cases h
    · rename_i op a b
      split at h <;> try cases h
      rename_i heq
      injection heq with e1 e2 e3 e4
      subst e1 e2 e3 e4
      simp only [Bool.and_eq_true, decide_eq_true_eq] at h
      obtain ⟨⟨h1, h2⟩, h3⟩ := h
      subst h1
      refine PT_imp (pt_cmpR (op_cmpX_ok (Wx := Wx) O op) (sndE O tk a _ h2) (sndE O tk b _ h3) (markE h3 _)) fun σ H Q q => ?_
      have q2 := tOp_bv q
      exact tOp_of q2
    · rename_i o1 o2 a b d
      split at h <;> try cases h
      rename_i heq
      injection heq with e1 e2 e3 e4
      subst e1 e2 e3 e4
      simp only [Bool.and_eq_true, decide_eq_true_eq] at h
      obtain ⟨⟨⟨⟨h1, h2⟩, h3⟩, h4⟩, h5⟩ := h
      subst h1 h2
      refine PT_imp (pt_chain (op_cmp_ok (T := T) (Xw := ofW Wx) (hu64 O.room) o1) (op_cmp_ok (T := T) (Xw := ofW Wx) (hu64 O.room) o2) (sndE O tk a _ h3) (sndE O tk b _ h4) (sndE O tk d _ h5) (by show behindInMarks _ _ = false; exact markE h5 _)) fun σ H Q q => ?_
      have q := tOp_bv q
      refine (tM_bnd (R' := RelW X.K) q).imp fun v H1 ⟨m1, ρ, L1, x, S1, F1, r1, q1⟩ => ⟨m1, ρ, L1, S1, F1, (run_bnd (R' := RelW X.K) q1).imp fun v2 H2 ⟨m2, L2, y, e2, S2, r2, q2⟩ => ?_⟩
      refine ⟨σ, m2, L2, x, y, S2, r1.mono e2, r2, (run_bnd (R' := RelW X.K) q2).imp fun v3 H3 ⟨m3, L3, z, e3, S3, r3, q3⟩ => ?_⟩
      cases z <;> try exact False.elim q3
      rename_i k
      cases r3
      refine ⟨k, rfl, ?_⟩
      cases k
      · rw [if_neg (by simp)]
        exact run_val q3 S3 (.bl _)
      · rw [if_pos rfl]
        exact ⟨m3, ρ, L3, S3, (F1.mono e2).mono e3, (run_bnd (R' := RelW X.K) q3).imp fun v4 H4 ⟨m4, L4, z4, e4, S4, r4, q4⟩ => ⟨σ, m4, L4, y, z4, S4, (r2.mono e3).mono e4, r4, q4⟩⟩
    · rename_i ng x0 gn ks0
      split at h <;> try cases h
      rename_i heq
      injection heq with e1 e2 e3 e4
      subst e1 e2 e3 e4
      simp only [Bool.and_eq_true, decide_eq_true_eq] at h
      obtain ⟨⟨⟨⟨h1, h2⟩, h3⟩, h4⟩, h5⟩ := h
      subst h1 h3
      obtain ⟨a, e1, op⟩ := kin_all O (ng := ng) h5
      obtain ⟨g1, g2⟩ := O.gl h4
      refine PT_imp (pt_cmpR op (sndE O tk x0 _ h2) (pe_glob (v := .ref a) g1 e1 rfl g2) (by cases ng <;> rfl)) fun σ H Q q => ?_
      exact tOp_kin (tOp_bv q)
  | .all ts, e, h => by
    simp only [chkT] at h
    split at h <;> try cases h
    simp only [Bool.and_eq_true] at h
    exact (sndAll O tk ts _ _ h.1 (by simpa using h.2)).pt
  | .any ts, e, h => by
    simp only [chkT] at h
    split at h <;> try cases h
    simp only [Bool.and_eq_true] at h
    exact (sndAny O tk ts _ _ h.1 (by simpa using h.2)).pt
  | .nt t, e, h => by
    simp only [chkT] at h
    split at h <;> try cases h
    refine PT_imp (pt_not (sndT O tk t _ h)) fun σ H Q q => ?_
    exact (tM_bnd (R' := RB) q).imp fun v H1 ⟨m1, ρ, L1, w, S1, F1, r1, q1⟩ => by
      have r1 : w = v := r1
      subst r1
      exact run_ret (R := RB) q1 S1 rfl
theorem sndAll {c : Dc} {X : Cx} {Wx : WX} (O : Ok T p C c X d) (tk : Takes X Wx) : ∀ (xs : List Tx) (es : List Expr) (pos : Pos), chkTs p c xs es = true → es ≠ [] → PW X (.BoolOp .And es pos) (tM (T.g X) Wx RB fun ρ => tsAnd C ρ xs)
  | [], es, pos, h, hn => by
    cases es with
    | cons e es => simp [chkTs] at h
    | nil => exact absurd rfl hn
  | x :: xs, es, pos, h, hn => by
    cases es with
    | nil => exact absurd rfl hn
    | cons e es =>
      simp only [chkTs, Bool.and_eq_true] at h
      cases es with
      | nil =>
        cases xs with
        | cons x2 xs => simp [chkTs] at h
        | nil =>
          refine PW_imp (pw_and1 (sndT O tk x _ h.1)) fun σ H Q q => (tM_bnd (R' := RB) q).imp fun k H1 ⟨m1, ρ, L1, w, S1, F1, r1, q1⟩ => ?_
          have r1 : w = k := r1
          subst r1
          cases w
          · rw [if_neg (by simp)] at q1; exact run_ret (R := RB) q1 S1 rfl
          · rw [if_pos rfl] at q1; exact run_ret (R := RB) q1 S1 rfl
      | cons e2 es =>
        cases xs with
        | nil => simp [chkTs] at h
        | cons x2 xs =>
          refine PW_imp (pw_and (sndT O tk x _ h.1) (sndAll O tk (x2 :: xs) (e2 :: es) pos h.2 (by simp))) fun σ H Q q => ?_
          refine (tM_bnd (R' := RB) q).imp fun k H1 ⟨m1, ρ, L1, w, S1, F1, r1, q1⟩ => ?_
          have r1 : w = k := r1
          subst r1
          cases w
          · rw [if_neg (by simp)] at q1 ⊢; exact run_ret (R := RB) q1 S1 rfl
          · rw [if_pos rfl] at q1 ⊢; exact ⟨m1, ρ, L1, S1, F1, q1⟩
theorem sndAny {c : Dc} {X : Cx} {Wx : WX} (O : Ok T p C c X d) (tk : Takes X Wx) : ∀ (xs : List Tx) (es : List Expr) (pos : Pos), chkTs p c xs es = true → es ≠ [] → PW X (.BoolOp .Or es pos) (tM (T.g X) Wx RB fun ρ => tsOr C ρ xs)
  | [], es, pos, h, hn => by
    cases es with
    | cons e es => simp [chkTs] at h
    | nil => exact absurd rfl hn
  | x :: xs, es, pos, h, hn => by
    cases es with
    | nil => exact absurd rfl hn
    | cons e es =>
      simp only [chkTs, Bool.and_eq_true] at h
      cases es with
      | nil =>
        cases xs with
        | cons x2 xs => simp [chkTs] at h
        | nil =>
          refine PW_imp (pw_or1 (sndT O tk x _ h.1)) fun σ H Q q => (tM_bnd (R' := RB) q).imp fun k H1 ⟨m1, ρ, L1, w, S1, F1, r1, q1⟩ => ?_
          have r1 : w = k := r1
          subst r1
          cases w
          · rw [if_neg (by simp)] at q1; exact run_ret (R := RB) q1 S1 rfl
          · rw [if_pos rfl] at q1; exact run_ret (R := RB) q1 S1 rfl
      | cons e2 es =>
        cases xs with
        | nil => simp [chkTs] at h
        | cons x2 xs =>
          refine PW_imp (pw_or (sndT O tk x _ h.1) (sndAny O tk (x2 :: xs) (e2 :: es) pos h.2 (by simp))) fun σ H Q q => ?_
          refine (tM_bnd (R' := RB) q).imp fun k H1 ⟨m1, ρ, L1, w, S1, F1, r1, q1⟩ => ?_
          have r1 : w = k := r1
          subst r1
          cases w
          · rw [if_neg (by simp)] at q1 ⊢; exact ⟨m1, ρ, L1, S1, F1, q1⟩
          · rw [if_pos rfl] at q1 ⊢; exact run_ret (R := RB) q1 S1 rfl
end
end
end Dx

set_option maxRecDepth 100000
set_option maxHeartbeats 4000000
namespace Dx
open PySem PySem.Spec PyProof.Rows L2
/-- a plain local name on the line -/
def locN (sc : Scope) (line : Nat) : Expr → Bool
  | .Name id pos => decide (sc.names.lookup id = some .local) && pos.line == line
  | _ => false
def headLn (ts : List Expr) : Nat := (ts.head?.map (·.pos.line)).getD 0
def noSw2 (sc : Scope) : Expr → Expr → Bool
  | .Tuple ts _ _, .Tuple vs _ _ => (ts.any fun t => !locN sc (headLn ts) t) || vs.all (foldedForSure 8)
  | .List ts _, .Tuple _ _ _ => ts.any fun t => !locN sc (headLn ts) t
  | _, _ => false
theorem fm_ne {f : Expr → Option Str} {ts : List Expr} (h : ∃ t ∈ ts, f t = none) : (ts.filterMap f).length ≠ ts.length := Nat.ne_of_lt (List.length_filterMap_lt_length_iff_exists.mpr (let ⟨t, a, b⟩ := h; ⟨t, a, b⟩))
theorem sw_ts {ts : List Expr} {env : PySem.Env} (h : (ts.any fun t => !locN env.scope (headLn ts) t) = true) : ∃ t ∈ ts, (match t with
    | .Name id pos => if (env.kindOf id == some .local && pos.line == headLn ts) = true then some id else none
    | _ => (none : Option Str)) = none := by
  obtain ⟨t, ht, hn⟩ := List.any_eq_true.mp h
  refine ⟨t, ht, ?_⟩
  cases t <;> try rfl
  rename_i id pos
  simp only [locN, Bool.not_eq_true', Bool.and_eq_false_iff, decide_eq_false_iff_not] at hn
  show (if (env.kindOf id == some .local && pos.line == headLn ts) = true then some id else none) = none
  rw [if_neg]
  intro z
  simp only [Bool.and_eq_true, beq_iff_eq] at z
  rcases hn with hn | hn
  · exact hn z.1
  · rw [z.2] at hn
    simp at hn
theorem noSw2_st {tg e : Expr} {env : PySem.Env} (h : noSw2 env.scope tg e = true) : swappedStores [tg] e env = pure none := by
  cases tg <;> cases e
  case Tuple.Tuple ts k pos vs k2 pos2 =>
    rcases Bool.or_eq_true_iff.mp (show ((ts.any fun t => !locN env.scope (headLn ts) t) || vs.all (foldedForSure 8)) = true from h) with h | h
    · have z := fm_ne (sw_ts (env := env) h)
      unfold headLn at z
      unfold swappedStores
      simp only []
      split
      · rfl
      · split
        · rfl
        · rw [if_pos]
          simp only [Bool.or_eq_true, bne_iff_ne, ne_eq]
          exact .inl z
    · unfold swappedStores
      simp only []
      split
      · rfl
      · split
        · rfl
        · split
          · rfl
          · rfl
  case List.Tuple ts pos vs k2 pos2 =>
    have z := fm_ne (sw_ts (env := env) h)
    unfold headLn at z
    unfold swappedStores
    simp only []
    split
    · rfl
    · split
      · rfl
      · rw [if_pos]
        simp only [Bool.or_eq_true, bne_iff_ne, ne_eq]
        exact .inl z
  all_goals (simp [noSw2] at h)
def starsB (vs : List Expr) : Bool := vs.any fun
  | .Starred .. => true
  | _ => false
def isLoc (sc : Scope) (x : Str) : Bool := decide (sc.names.lookup x = some .local)
theorem par_st {y z : Str} {py pz tp vp : Pos} {k k2 : Nat} {ea eb : Expr} {env : PySem.Env} (h1 : env.scope.names.lookup y = some .local) (h2 : env.scope.names.lookup z = some .local) (hl : (pz.line == py.line) = true) (hyz : y ≠ z) (hk : env.scope.kind = .function) (hs : starsB [ea, eb] = false) (hf : [ea, eb].all (foldedForSure 8) = false) (hc : [ea, eb].all (constantsAlone 8) = false) :
    swappedStores [.Tuple [.Name y py, .Name z pz] k tp] (.Tuple [ea, eb] k2 vp) env = pure (some [y, z]) := by
  have b1 : env.blockKind = .function := by unfold PySem.Env.blockKind; rw [hk]; rfl
  have k1 : env.kindOf y = some .local := h1
  have k3 : env.kindOf z = some .local := h2
  have p1 : (Expr.Name y py).pos = py := rfl
  have e1 : ([y, z] : List Str).eraseDups.length = 2 := by
    have : (z == y) = false := by simpa using fun q => hyz q.symm
    simp [List.eraseDups_cons, this]
  unfold starsB at hs
  unfold swappedStores
  simp only [b1, k1, k3, hl, List.head?_cons, Option.map_some, Option.getD_some, p1, List.filterMap_cons, List.filterMap_nil, beq_self_eq_true, Bool.and_self, if_true, hs, hf, hc, List.length_cons, List.length_nil]
  simp [e1]
  intro q
  simp at hs
  rcases q with q | q
  · exfalso; have z := hs.1; cases ea <;> first | (cases q; done) | cases z
  · exfalso; have z := hs.2; cases eb <;> first | (cases q; done) | cases z
theorem par3_st {y z u : Str} {py pz pu tp vp : Pos} {k k2 : Nat} {ea eb ed : Expr} {env : PySem.Env} (h1 : env.scope.names.lookup y = some .local) (h2 : env.scope.names.lookup z = some .local) (h3 : env.scope.names.lookup u = some .local) (hl : (pz.line == py.line) = true) (hl2 : (pu.line == py.line) = true) (hyz : y ≠ z) (hyu : y ≠ u) (hzu : z ≠ u) (hk : env.scope.kind = .function)
    (hs : starsB [ea, eb, ed] = false) (hf : [ea, eb, ed].all (foldedForSure 8) = false) (hc : [ea, eb, ed].all (constantsAlone 8) = false) :
    swappedStores [.Tuple [.Name y py, .Name z pz, .Name u pu] k tp] (.Tuple [ea, eb, ed] k2 vp) env = pure (some [y, z, u]) := by
  have b1 : env.blockKind = .function := by unfold PySem.Env.blockKind; rw [hk]; rfl
  have k1 : env.kindOf y = some .local := h1
  have k3 : env.kindOf z = some .local := h2
  have k4 : env.kindOf u = some .local := h3
  have p1 : (Expr.Name y py).pos = py := rfl
  have e1 : ([y, z, u] : List Str).eraseDups.length = 3 := by
    have a1 : (z == y) = false := by simpa using fun q => hyz q.symm
    have a2 : (u == y) = false := by simpa using fun q => hyu q.symm
    have a3 : (u == z) = false := by simpa using fun q => hzu q.symm
    simp [List.eraseDups_cons, a1, a2, a3]
  unfold starsB at hs
  unfold swappedStores
  simp only [b1, k1, k3, k4, hl, hl2, List.head?_cons, Option.map_some, Option.getD_some, p1, List.filterMap_cons, List.filterMap_nil, beq_self_eq_true, Bool.and_self, if_true, hs, hf, hc, List.length_cons, List.length_nil]
  simp [e1]
  intro q
  simp at hs
  rcases q with q | q | q
  · exfalso; have z := hs.1; cases ea <;> first | (cases q; done) | cases z
  · exfalso; have z := hs.2.1; cases eb <;> first | (cases q; done) | cases z
  · exfalso; have z := hs.2.2; cases ed <;> first | (cases q; done) | cases z
end Dx

set_option maxRecDepth 100000
set_option maxHeartbeats 4000000
/-! Dx7: statements. -/
namespace Dx
open PySem PySem.Spec PyProof.Rows L2

def iopP : BOp → Operator := bopP
def noComp : Expr → Bool
  | .ListComp .. => false
  | .SetComp .. => false
  | .DictComp .. => false
  | _ => true
/-- not a pair of displays -/
def noSwap : Expr → Expr → Bool
  | .Tuple .., .Tuple .. => false
  | .List .., .Tuple .. => false
  | _, _ => true
/-- name = [..] on one line -/
def swB (c : Dc) (y : Str) (py : Pos) : Expr → Bool
  | .ListComp _ [⟨_, _, _, a⟩] scope pos => decide (a = 0) && (match c.sc.kind with
    | .function => true
    | _ => false) && (match c.sc.names.lookup y with
    | some .local => true
    | _ => false) && (py.line == pos.line) && !(scope.names.any fun (n, k) => n == y && (k == .local || k == .cell))
  | _ => false
def notName : Expr → Bool
  | .Attribute .. => true
  | .Subscript .. => true
  | .Tuple .. => true
  | _ => false
def fnKind (sc : Scope) : Bool := match sc.kind with
  | .function => true
  | _ => false
/-- a, b = x, y with plain local names -/
def parB (p : Pg) (c : Dc) (t : Tgt) (x : Ex) (tg e : Expr) : Bool := match t, x, tg, e with
  | .tup [.nm i, .nm j], .tup [a, b], .Tuple [.Name y py, .Name z pz] _ _, .Tuple [ea, eb] _ _ =>
    decide (i ≠ j) && decide (y ≠ z) && decide (c.N[i]? = some y) && decide (c.N[j]? = some z) && isLoc c.sc y && isLoc c.sc z && (pz.line == py.line) && fnKind c.sc && !starsB [ea, eb] && !([ea, eb].all (foldedForSure 8)) && !([ea, eb].all (constantsAlone 8)) && chkEs p c [a, b] [ea, eb]
  | _, _, _, _ => false
def par3B (p : Pg) (c : Dc) (t : Tgt) (x : Ex) (tg e : Expr) : Bool := match t, x, tg, e with
  | .tup [.nm i, .nm j, .nm k], .tup [a, b, d], .Tuple [.Name y py, .Name z pz, .Name u pu] _ _, .Tuple [ea, eb, ed] _ _ =>
    decide (i ≠ j) && decide (i ≠ k) && decide (j ≠ k) && decide (y ≠ z) && decide (y ≠ u) && decide (z ≠ u) && decide (c.N[i]? = some y) && decide (c.N[j]? = some z) && decide (c.N[k]? = some u) && isLoc c.sc y && isLoc c.sc z && isLoc c.sc u && (pz.line == py.line) && (pu.line == py.line) && fnKind c.sc && !starsB [ea, eb, ed] && !([ea, eb, ed].all (foldedForSure 8)) && !([ea, eb, ed].all (constantsAlone 8)) && chkEs p c [a, b, d] [ea, eb, ed]
  | _, _, _, _ => false
mutual
def chkS (p : Pg) (c : Dc) : Sm → Stmt → Bool
  | .asg t x, s => (match s with
    | .Assign [tg] e _ => (chkE p c x e && chkG p c t tg && (noSwap tg e || noSw2 c.sc tg e) && (noComp e || notName tg || (match t, tg with
      | .nm _, .Name y py => swB c y py e
      | _, _ => false))) || parB p c t x tg e || par3B p c t x tg e
    | _ => false)
  | .aug i op x, s => (match s with
    | .AugAssign (.Name y _) o e _ => decide (o = bopP op) && decide (c.N[i]? = some y) && locB c.sc y && c.asn.contains y && chkE p c x e
    | _ => false)
  | .augf o f op x, s => (match s with
    | .AugAssign (.Attribute l n _) op' e _ => decide (op' = bopP op) && noSup l && decide (p.fld[f]? = some n) && chkE p c o l && chkE p c x e
    | _ => false)
  | .nev, _ => true
  | .rse k xs, s => (match s with
    | .Raise (some (.Call (.Name y _) es [] _)) none _ => decide (p.xcs[k]? = some y) && glB c.sc y && chkEs p c xs es
    | _ => false)
  | .exp x, s => (match s with
    | .Expr e _ => chkE p c x e && noComp e
    | _ => false)
  | .ifs t a b, s => (match s with
    | .If e u v _ => chkT p c t e && chkSs p c a u && chkSs p c b v
    | _ => false)
  | .whl t b, s => (match s with
    | .While e u [] _ => chkT p c t e && chkSs p c b u
    | _ => false)
  | .fors t it b, s => (match s with
    | .For tg e u [] _ => chkI p c it tg e && chkG p c t tg && chkSs p c b u
    | _ => false)
  | .rtn x, s => (match s with
    | .Return (some e) _ => chkE p c x e
    | _ => false)
  | .rtnN, s => (match s with
    | .Return none _ => true
    | _ => false)
  | .pas, s => (match s with
    | .Pass _ => true
    | _ => false)
  | .brk, s => (match s with
    | .Break _ => true
    | _ => false)
  | .cnt, s => (match s with
    | .Continue _ => true
    | _ => false)
def chkSs (p : Pg) (c : Dc) : List Sm → List Stmt → Bool
  | [], ss => ss.isEmpty
  | x :: xs, ss => (match ss with
    | s :: ss => chkS p c x s && chkSs p c xs ss
    | [] => false)
end

/-- what a statement's end is to reach -/
def PostS (T : Tab) (W : WX) (X : Cx) (D : Ends) (m : List Addr) (H : Hp) (r : Fl × Fr) (L' : Hh) : Prop :=
  ∀ m' H', Ext m H m' H' → Sim (T.g X) m' L' H' → match r.1 with
    | .nx => ∀ σ', RelF X.K m' H' r.2 σ' → D.nx σ' H'
    | .rt w => ∀ v, RelW X.K m' H' w v → D.rt v H'
    | .bk => ∀ σ', RelF X.K m' H' r.2 σ' → D.bk σ' H'
    | .ct => ∀ σ', RelF X.K m' H' r.2 σ' → D.ct σ' H'
    | .ex e => ∀ σ' cls d, RelF X.K m' H' r.2 σ' → T.rx m' H' e cls d → W cls d σ' H'
theorem PostS.mono {T : Tab} {W : WX} {X : Cx} {D : Ends} {m m1 : List Addr} {H H1 : Hp} {r : Fl × Fr} {L' : Hh} (e : Ext m H m1 H1) (h : PostS T W X D m H r L') : PostS T W X D m1 H1 r L' := fun m' H' e' s => h m' H' (e.trans e') s
abbrev wpS (T : Tab) (W : WX) (X : Cx) (D : Ends) (m : List Addr) (H : Hp) (c : M (Fl × Fr)) (L : Hh) : Prop := wp c L (PostS T W X D m H) fun _ _ => True
theorem wpS.mono {T : Tab} {W : WX} {X : Cx} {D : Ends} {m m1 : List Addr} {H H1 : Hp} {c : M (Fl × Fr)} {L : Hh} (e : Ext m H m1 H1) (h : wpS T W X D m H c L) : wpS T W X D m1 H1 c L := wp_mono h (fun _ _ q => q.mono e) fun _ _ q => q
def tS (T : Tab) (W : WX) (X : Cx) (f : Fr → M (Fl × Fr)) : TS := fun D σ H => ∃ m ρ L, Sim (T.g X) m L H ∧ RelF X.K m H ρ σ ∧ wpS T W X D m H (f ρ) L
section
variable {T : Tab} {p : Pg} {C : Env} {c : Dc} {X : Cx} {d : Nat} {W : WX}
theorem PS_imp {s : Stmt} {t t' : TS} (h : PS X s t) (k : ∀ D σ H, t' D σ H → t D σ H) : PS X s t' := ⟨fun pins st σ H D I q => h.run pins st σ H D I (k D σ H q)⟩
theorem PSs_imp {s : List Stmt} {t t' : TS} (h : PSs X s t) (k : ∀ D σ H, t' D σ H → t D σ H) : PSs X s t' := ⟨fun pins st σ H D I q => h.run pins st σ H D I (k D σ H q)⟩
theorem wpS_sx {γ δ : Type} {R' : List Addr → Hp → γ → δ → Prop} {D : Ends} {m : List Addr} {H : Hp} {L : Hh} {ρ : Fr} {σ : L2.St} {a : M γ} {k : γ → M (Fl × Fr)} (F : RelF X.K m H ρ σ) (h : wpS T W X D m H (sx ρ a k) L) :
    run (T.g X) (ofW W) σ R' a m H L (fun v H1 => ∃ m1 L1 x, Ext m H m1 H1 ∧ Sim (T.g X) m1 L1 H1 ∧ R' m1 H1 x v ∧ wpS T W X D m1 H1 (k x) L1) := by
  unfold wpS at h
  rw [wp_sx] at h
  exact wp_mono h (fun x L1 q m1 H1 v e s r => ⟨m1, L1, x, e, s, r, wpS.mono e q⟩) fun e L1 q m1 H1 cls dd ex s r => q m1 H1 ex s σ cls dd (F.mono ex) r
theorem tS_sx {γ δ : Type} {R' : List Addr → Hp → γ → δ → Prop} {D : Ends} {H : Hp} {σ : L2.St} {a : Fr → M γ} {k : Fr → γ → M (Fl × Fr)} (h : tS T W X (fun ρ => sx ρ (a ρ) (k ρ)) D σ H) :
    tM (T.g X) W R' a σ H (fun v H1 => ∃ m1 ρ L1 x, Sim (T.g X) m1 L1 H1 ∧ RelF X.K m1 H1 ρ σ ∧ R' m1 H1 x v ∧ wpS T W X D m1 H1 (k ρ x) L1) :=
  let ⟨m, ρ, L, S, F, q⟩ := h
  ⟨m, ρ, L, S, F, (wpS_sx F q).imp fun v H1 ⟨m1, L1, x, e, S1, r, q1⟩ => ⟨m1, ρ, L1, x, S1, F.mono e, r, q1⟩⟩
theorem wpS_nx {D : Ends} {m : List Addr} {H : Hp} {L : Hh} {ρ : Fr} {σ : L2.St} (S : Sim (T.g X) m L H) (F : RelF X.K m H ρ σ) (h : wpS T W X D m H (ret (.nx, ρ)) L) : D.nx σ H := h m H (Ext.refl m H) S σ F
theorem wpS_bnd {D : Ends} {m : List Addr} {H : Hp} {L : Hh} {a : M (Fl × Fr)} {k : Fl × Fr → M (Fl × Fr)} (h : wpS T W X D m H (bnd a k) L) : wp a L (fun r L1 => wpS T W X D m H (k r) L1) fun _ _ => True := by
  unfold wpS at h
  rw [wp_bnd] at h
  exact h
/-- the ends of a loop's body -/
theorem post_body {D : Ends} {N : L2.St → Hp → Prop} {m : List Addr} {H : Hp} {r : Fl × Fr} {L' : Hh} {next : Fr → M (Fl × Fr)} (hN : ∀ m' ρ H' σ', Sim (T.g X) m' L' H' → RelF X.K m' H' ρ σ' → Ext m H m' H' → wpS T W X D m' H' (next ρ) L' → N σ' H')
    (h : wpS T W X D m H (match r.1 with
      | .nx => next r.2
      | .ct => next r.2
      | .bk => ret (.nx, r.2)
      | .rt w => ret (.rt w, r.2)
      | .ex e => ret (.ex e, r.2)) L') : PostS T W X { D with nx := N, ct := N, bk := D.nx } m H r L' := by
  obtain ⟨f, ρ⟩ := r
  cases f with
  | nx => exact fun m' H' e S σ' F => hN m' ρ H' σ' S F e (h.mono e)
  | ct => exact fun m' H' e S σ' F => hN m' ρ H' σ' S F e (h.mono e)
  | bk => exact fun m' H' e S σ' F => h m' H' e S σ' F
  | rt w => exact fun m' H' e S v r => h m' H' e S v r
  | ex x => exact fun m' H' e S σ' cls dd F r => h m' H' e S σ' cls dd F r
theorem ps_wh {t : Tx} {b : List Sm} {e : Expr} {u : List Stmt} {pos : Pos} (hp : PassesOwn (model X.prog X.w) X.A X.env X.xe) (h1 : PT X e (tT T C W X t)) (h2 : PSs X u (tS T W X fun ρ => exSs C b ρ)) : PS X (.While e u [] pos) (tS T W X fun ρ => exS C (.whl t b) ρ) := by
  refine PS_imp (ps_while hp h1 h2) fun D σ H ⟨m, ρ, L, S, F, q⟩ => ?_
  refine ⟨fun n σ H => tS T W X (fun ρ => loopW (fun ρ => evT C ρ t) (fun ρ => exSs C b ρ) n ρ) D σ H, ⟨fuel, m, ρ, L, S, F, q⟩, fun n σ H w => ?_⟩
  cases n with
  | zero => obtain ⟨m, ρ, L, S, F, q⟩ := w; exact False.elim q
  | succ n =>
    refine (tS_sx (R' := RB) w).imp fun v H1 ⟨m1, ρ, L1, x, S1, F1, r1, q1⟩ => ?_
    have r1 : x = v := r1
    subst r1
    cases x with
    | false => rw [if_neg (by simp)] at q1 ⊢; exact wpS_nx S1 F1 q1
    | true =>
      rw [if_pos rfl] at q1 ⊢
      refine ⟨fun σ H => tS T W X (fun ρ => loopW (fun ρ => evT C ρ t) (fun ρ => exSs C b ρ) n ρ) D σ H, fun σ' H' w => ⟨n, Nat.lt_succ_self n, w⟩, m1, ρ, L1, S1, F1, ?_⟩
      exact wp_mono (wpS_bnd q1) (fun r L' z => post_body (fun m' ρ H' σ' S F e z => ⟨m', ρ, L', S, F, z⟩) z) fun _ _ z => z
theorem ps_fr {t : Tgt} {it : It} {b : List Sm} {tg e : Expr} {u : List Stmt} {pos : Pos} (hp : PassesOwn (model X.prog X.w) X.A X.env X.xe) (hc : X.calm = true) (h1 : PI X tg e (tI T C W X it)) (hg : PG X tg (tG T C W X t)) (h2 : PSs X u (tS T W X fun ρ => exSs C b ρ)) (hs : ∀ v, foldedSetIterable e X.env v = pure v) :
    PS X (.For tg e u [] pos) (tS T W X fun ρ => exS C (.fors t it b) ρ) := by
  refine PS_imp (ps_for hp hc h1 hg h2 hs) fun D σ H q => ?_
  refine (tS_sx (R' := SrcOk (T.g X)) q).imp fun J H1 ⟨m1, ρ, L1, s, S1, F1, sk, q1⟩ => ?_
  refine ⟨fun i n σ H => ∃ m ρ L, Ext m1 H1 m H ∧ Sim (T.g X) m L H ∧ RelF X.K m H ρ σ ∧ wpS T W X D m H (loopF s (fun w ρ => asgT C t w ρ) (fun ρ => exSs C b ρ) n i ρ) L, ⟨fuel, m1, ρ, L1, Ext.refl _ _, S1, F1, q1⟩, ?_⟩
  rintro i n σ H ⟨m, ρ, L, ex, S, F, q⟩
  cases n with
  | zero => exact False.elim q
  | succ n =>
    have q : wpS T W X D m H (match srcAt L i s with
      | none => fail
      | some none => ret (.nx, ρ)
      | some (some w) => sx ρ (asgT C t w ρ) fun ρ1 => bnd (exSs C b ρ1) fun r => (match r.1 with
        | .nx => loopF s (fun w ρ => asgT C t w ρ) (fun ρ => exSs C b ρ) n (i + 1) r.2
        | .ct => loopF s (fun w ρ => asgT C t w ρ) (fun ρ => exSs C b ρ) n (i + 1) r.2
        | .bk => ret (.nx, r.2)
        | .rt w => ret (.rt w, r.2)
        | .ex e => ret (.ex e, r.2))) L := q
    obtain ⟨k1, k2⟩ := sk m L H ex.x0 S i
    cases es : srcAt L i s with
    | none => rw [es] at q; exact False.elim q
    | some o =>
      cases o with
      | none => rw [es] at q; exact .inl ⟨k2 es, wpS_nx S F q⟩
      | some w =>
        obtain ⟨g1, g2⟩ := k1 w es
        rw [es] at q
        refine .inr ⟨g1, fun σ H => ∃ m ρ L, Ext m1 H1 m H ∧ Sim (T.g X) m L H ∧ RelF X.K m H ρ σ ∧ wpS T W X D m H (loopF s (fun w ρ => asgT C t w ρ) (fun ρ => exSs C b ρ) n (i + 1) ρ) L, fun σ' H' z => ⟨n, Nat.lt_succ_self n, z⟩, fun v H' y => ?_⟩
        obtain ⟨e2, S2, rw2⟩ := g2 v H' y
        refine ⟨m, ρ, L, w, S2, F.mono e2, rw2, (wpS_sx (R' := RG X.K (tgIx t) σ) (F.mono e2) (q.mono e2)).imp fun σ3 H3 ⟨m3, L3, ρ3, e3, S3, ⟨F3, _, _⟩, q3⟩ => ?_⟩
        refine ⟨m3, ρ3, L3, S3, F3, ?_⟩
        exact wp_mono (wpS_bnd q3) (fun r L' z => post_body (fun m' ρ H' σ' S F e z => ⟨m', ρ, L', ((ex.trans e2).trans e3).trans e, S, F, z⟩) z) fun _ _ z => z
theorem pip_ok (op : BOp) (Xw : XW) : PIp X (bopP op) (rO2 (T.g X) Xw (iop op)) := by
  intro pins s σ H x y v u Q I rx ry h
  obtain ⟨σ', m, L, a, b, S, ra, rb, h⟩ := h
  cases op with
  | add =>
    cases a <;> cases b <;> try exact False.elim h
    · cases ra; cases rb
      exact ip_add pins s σ H _ _ v u Q I rx ry ⟨_, _, rfl, rfl, run_val h S (.int _)⟩
    · cases ra; cases rb
      rcases run_if h with ⟨c, h⟩ | ⟨_, h⟩
      · refine iop_add_str pins s σ H _ _ v u Q I rx ry ⟨_, _, rfl, rfl, ?_, ?_⟩
        · rw [str_len, str_len]; exact lenOk_le c
        · rw [str_app]; exact run_val h S (.str _)
      · exact h.elim
    · rename_i l1 l2
      cases ra with
      | @ref _ a1 ha =>
        cases rb with
        | @ref _ a2 hb =>
          have h : run (T.g X) Xw σ' (RelW X.K) (match L[l1]?, L[l2]? with
            | some (.lst x), some (.lst y) => if lenOk (x.length + y.length) then bnd (put l1 (.lst (x ++ y))) fun _ => ret (.ref l1) else fail
            | _, _ => fail) m H L Q := h
          split at h
          · rename_i x y e1 e2
            rcases run_if h with ⟨c, h⟩ | ⟨_, h⟩
            · obtain ⟨xs, h1, r1⟩ := S.lst ha e1
              obtain ⟨ys, h2, r2⟩ := S.lst hb e2
              have hz := lenOk_le c
              rw [r1.length, r2.length] at hz
              refine iop_ext pins s σ H _ _ v u Q I rx ry ⟨_, _, xs, ys, rfl, rfl, h1, h2, hz, ?_⟩
              obtain ⟨ex, S1⟩ := S.put (o' := .lst (x ++ y)) (u := .lst (xs ++ ys)) ha e1 rfl fun ex => ⟨_, upd_same, (r1.append r2).mono ex⟩
              exact h _ _ _ ex S1 (.ref ha)
            · exact h.elim
          · exact h.elim
  | sub =>
    cases a <;> cases b <;> try exact False.elim h
    cases ra; cases rb
    exact ip_sub pins s σ H _ _ v u Q I rx ry ⟨_, _, rfl, rfl, run_val h S (.int _)⟩
  | _ => cases a <;> cases b <;> exact False.elim h
theorem noComp_sw {e : Expr} (h : noComp e = true) (t : Option Expr) (l : Nat) (env : PySem.Env) : swapsWith e t l env = pure false := by
  cases e <;> first | rfl | cases h
theorem notName_sw {tg e : Expr} (h : notName tg = true) (l : Nat) (env : PySem.Env) : swapsWith e (some tg) l env = pure false := by
  cases tg <;> first | (cases e <;> rfl) | (simp [notName] at h)
theorem noSwap_st {tg e : Expr} (h : noSwap tg e = true) (env : PySem.Env) : swappedStores [tg] e env = pure none := by
  cases tg <;> first | rfl | (cases e <;> first | rfl | cases h)
theorem asg1 {t : Tgt} {e : Expr} (h : chkG p c t e = true) (env : PySem.Env) : (assignEach [e] env).map (·.2) = [assign e env] := by
  rw [asgE_plain h]
  rfl
theorem tS_asg {t : Tgt} {x : Ex} {D : Ends} {σ : L2.St} {H : Hp} (q : tS T W X (fun ρ => exS C (.asg t x) ρ) D σ H) : tAsg (tE T C W X x) (tG T C W X t) D σ H :=
  (tS_sx (R' := RelW X.K) q).imp fun v H1 ⟨m1, ρ, L1, w, S1, F1, r1, q1⟩ => ⟨m1, ρ, L1, w, S1, F1, r1, (wpS_sx (R' := RG X.K (tgIx t) σ) F1 q1).imp fun σ2 H2 ⟨m2, L2, ρ2, e2, S2, ⟨F2, _, _⟩, q2⟩ => wpS_nx S2 F2 q2⟩
theorem fxT {x : Sm} {b : Bool} (h : b = true) : b = true := h
theorem nSet {it : It} {tg e : Expr} (h : chkI p c it tg e = true) (env : PySem.Env) (v : Value) : foldedSetIterable e env v = pure v := noSet h env v
/-- name = [..] -/
theorem ps_lc (O : Ok T p C c X d) (tk : Takes X W) {i : Nat} {x : Ex} {y : Str} {py pos : Pos} {e : Expr} (he : chkE p c x e = true) (hg : chkG p c (.nm i) (.Name y py) = true) (hs : swB c y py e = true) : PS X (.Assign [.Name y py] e pos) (tS T W X fun ρ => exS C (.asg (.nm i) x) ρ) := by
  cases e <;> try cases hs
  rename_i elt gs scope lpos
  cases gs with
  | nil => cases hs
  | cons g0 gs =>
    cases gs with
    | cons _ _ => obtain ⟨_, _, _, _⟩ := g0; cases hs
    | nil =>
      obtain ⟨tg, iter, ifs, a⟩ := g0
      simp only [swB, Bool.and_eq_true, decide_eq_true_eq, Bool.not_eq_true'] at hs
      obtain ⟨⟨⟨⟨h1, h2⟩, h3⟩, h4⟩, h5⟩ := hs
      subst h1
      cases x <;> simp only [chkE] at he <;> try cases he
      rename_i own t it cs x
      simp only [Bool.and_eq_true, decide_eq_true_eq] at he
      obtain ⟨⟨⟨⟨⟨⟨⟨⟨_, b2⟩, b3⟩, b4⟩, b5⟩, b6⟩, b7⟩, b8⟩, b9⟩ := he
      simp only [chkG, Bool.and_eq_true, decide_eq_true_eq] at hg
      obtain ⟨⟨k1, k2⟩, k3⟩ := hg
      have hk : X.env.scope.kind = .function := by
        rw [O.sc]
        split at h2
        · assumption
        · cases h2
      have hl : X.env.scope.names.lookup y = some .local := by
        rw [O.sc]
        split at h3
        · assumption
        · cases h3
      refine PS_imp (ps_setLc (wi := tI T C W X it) (g := tG T C WF X t) (tt := tM (T.g X) WF RB fun ρ => tsAnd C ρ cs) (te := tE T C WF X x) O.calm (by rw [O.N]; exact O.nd) (by rw [O.N]; exact k1) hl (sw_true hk hl h4 h5) (sndI O tk it _ _ b5) (blkOk_by (by rw [O.N, O.sc]; exact b2)) (fun s H Cc cl fp => sndG (O.blk b3 s H Cc cl fp) takes0 t _ b6) (fun s H Cc cl fp => sndTs (O.blk b3 s H Cc cl fp) takes0 cs _ b8 b7)
        (fun s H Cc cl fp => sndE (O.blk b3 s H Cc cl fp) takes0 x _ b9) (noSet b5 X.env)) fun D σ H q => ?_
      have q1 := tS_asg q
      exact lc_turns b4 (q1.imp fun v H1 ⟨m, ρ, L, w, S, F, r, q2⟩ => run_ret (R := RG X.K (tgIx (.nm i)) σ) q2 S ⟨F.set r, by simp, fun j hj => List.getElem?_set_ne (fun z => hj (by simp [tgIx, z]))⟩)
end
section
variable {T : Tab} {p : Pg} {C : Env} {c : Dc} {X : Cx} {d : Nat} {W : WX}
theorem ps_augfx (O : Ok T p C c X d) {o x : Ex} {f : Nat} {op : BOp} {l e : Expr} {n : Str} {tpos pos : Pos} (hf : p.fld[f]? = some n) (ho : PE X l (tE T C W X o)) (hx : PE X e (tE T C W X x)) : PS X (.AugAssign (.Attribute l n tpos) (bopP op) e pos) (tS T W X fun ρ => exS C (.augf o f op x) ρ) := by
  refine ⟨fun pins st σ H D I q => ?_⟩
  have q : tS T W X (fun ρ => sx ρ (evE C ρ o) fun ov => sx ρ (fldOf C ov f) fun v => sx ρ (evE C ρ x) fun w => sx ρ (iop op v w) fun z => sx ρ (setFld C ov z f) fun _ => ret (.nx, ρ)) D σ H := q
  refine wpAny_AugAssign_AttributeAny (thn (ho.run pins st σ H _ I (tS_sx (R' := RelW X.K) q)) fun ov s1 ⟨vo, H1, I1, ro, m1, ρ, L1, ow, S1, F1, r1, q1⟩ => ?_)
  have q1 := wpS_sx (R' := RelW X.K) F1 q1
  obtain ⟨l0, rfl⟩ : ∃ l0, ow = .ref l0 := by
    cases ow with
    | ref l0 => exact ⟨l0, rfl⟩
    | _ => exact False.elim q1
  have q1 : run (T.g X) (ofW W) σ (RelW X.K) (match L1[l0]? with
    | some (Dx.O.ins k fs) => if C.cf k f = true then (match getFld fs f with
      | some w => ret w
      | none => fail) else fail
    | _ => fail) m1 H1 L1 _ := q1
  cases r1 with
  | @ref _ a hl =>
    obtain rfl : ov = Value.ref a := ro
    split at q1
    · rename_i k fs e1
      rcases run_if q1 with ⟨c1, q1⟩ | ⟨_, q1⟩
      · obtain ⟨cx, y, e2, e3, e4⟩ := O.cf.cf k f c1
        obtain rfl : n = y := by rw [hf] at e3; exact Option.some.inj e3
        obtain ⟨dx, qs, h1, h2, h3, h4, h9⟩ := S1.ob l0 a _ hl e1
        have h1 : H1 a = some (.ins (He.ga X.K (T.CN.getD k Str.empty)) dx qs) := h1
        rw [cls_of O e2] at h1
        obtain ⟨f1, f2⟩ := fld_of O hf
        split at q1
        · rename_i w ew
          obtain ⟨v', lv, rr⟩ := lk_fld (fnd_of O) f2 h2 h3 h4 ew
          rw [f1] at lv
          refine getattr_ok I1 h1 (O.pg.cls cx (List.mem_of_getElem? e2)).2.cl (O.pg.noat _ e4) lv fun u' s2 I2 ru => ?_
          obtain ⟨m2, L2', w', x2, S2, r2, q2⟩ := run_val q1 S1 rr
          refine thn (hx.run pins s2 σ H1 _ I2 ⟨m2, ρ, L2', S2, F1.mono x2, wpS_sx (R' := RelW X.K) (F1.mono x2) q2⟩) fun w3 s3 ⟨y3, H3, I3, r3, m3, L3, w3', x3, S3, r3', q3⟩ => ?_
          refine thn (pip_ok (T := T) op (ofW W) pins s3 σ H3 v' y3 u' w3 _ I3 ru r3 ⟨σ, m3, L3, w', w3', S3, r2.mono x3, r3', wpS_sx (R' := RelW X.K) ((F1.mono x2).mono x3) q3⟩) fun w4 s4 ⟨z4, H4, I4, r4, m4, L4, w4', x4, S4, r4', q4⟩ => ?_
          have F4 := ((F1.mono x2).mono x3).mono x4
          have q5 := wpS_sx (R' := RU) F4 q4
          have x24 := (x2.trans x3).trans x4
          refine setf_ok (R := fun m H (a b : Fr) => a = b) (k := fun _ => ret ρ) O I4 S4 hf ((RelW.ref hl).mono x24) rfl r4' r4 (Q := fun (_ : Fr) H5 => ∀ s5, L2.Inv X pins σ H5 s5 → SP X pins D .next s5) (Xw := ofW W) (σ := σ) ?_ fun H' L' s' ex S' I' q6 => q6 m4 H' ρ (Ext.refl _ _) S' rfl s' I'
          unfold run at q5 ⊢
          rw [wp_bnd]
          refine wp_mono q5 (fun _ L5 z => ?_) fun _ _ z => z
          intro m' H' b e' s' _ s5 I5
          obtain ⟨m6, L6, _, x6, S6, _, q6⟩ := z m' H' () e' s' trivial
          exact ⟨σ, H', I5, wpS_nx S6 (F4.mono x6) q6⟩
        · exact q1.elim
      · exact q1.elim
    · exact q1.elim
theorem wpS_disp {D : Ends} {m : List Addr} {H : Hp} {L : Hh} {ρ : Fr} {ts : List Tgt} {xs : List Ex} (q : wpS T W X D m H (exS C (.asg (.tup ts) (.tup xs)) ρ) L) :
    wpS T W X D m H (sx ρ (evEs C ρ xs) fun ws => if lenOk ws.length = true then sx ρ (asgTs C ts ws ρ) fun ρ1 => ret (.nx, ρ1) else fail) L := by
  have q : wp (sx ρ (evE C ρ (.tup xs)) fun w => sx ρ (asgT C (.tup ts) w ρ) fun ρ1 => ret (.nx, ρ1)) L (PostS T W X D m H) fun _ _ => True := q
  unfold wpS
  rw [wp_sx] at q ⊢
  have q : wp (bnd (evEs C ρ xs) fun ws => if lenOk ws.length then ret (Dx.W.tup ws) else fail) L _ _ := q
  rw [wp_bnd] at q
  refine wp_mono q (fun ws L1 z => ?_) fun _ _ z => z
  by_cases c1 : lenOk ws.length = true
  · rw [if_pos c1] at z ⊢
    exact z
  · rw [if_neg c1] at z
    exact False.elim z
theorem par_ok (O : Ok T p C c X d) {t : Tgt} {x : Ex} {tg e : Expr} {pos : Pos} (h : parB p c t x tg e = true) (ha : ∀ (xs : List Ex) (es : List Expr), chkEs p c xs es = true → PA X es (tA T C W X xs)) : PS X (.Assign [tg] e pos) (tS T W X fun ρ => exS C (.asg t x) ρ) := by
  unfold parB at h
  split at h <;> try cases h
  rename_i i j a b y py z pz _ _ ea eb _ _
  simp only [Bool.and_eq_true, decide_eq_true_eq, Bool.not_eq_true', isLoc] at h
  obtain ⟨⟨⟨⟨⟨⟨⟨⟨⟨⟨⟨h1, h2⟩, h3⟩, h4⟩, h5⟩, h6⟩, h7⟩, h8⟩, h9⟩, h10⟩, h11⟩, h12⟩ := h
  have hk : X.env.scope.kind = .function := by
    rw [O.sc]
    unfold fnKind at h8
    split at h8
    · assumption
    · cases h8
  have l1 : X.env.scope.names.lookup y = some .local := by rw [O.sc]; exact h5
  have l2 : X.env.scope.names.lookup z = some .local := by rw [O.sc]; exact h6
  refine PS_imp (ps_par O.calm (by rw [O.N]; exact O.nd) (by rw [O.N]; exact h3) (by rw [O.N]; exact h4) h1 l1 l2 (ha _ _ h12) (par_st l1 l2 h7 h2 hk h9 h10 h11)) fun D σ H q => ?_
  obtain ⟨m, ρ, L, S, F, q⟩ := q
  refine ⟨m, ρ, L, S, F, (wpS_sx (R' := RelWs X.K) F (wpS_disp q)).imp fun vs H1 ⟨m1, L1, ws, e1, S1, r1, q1⟩ => ?_⟩
  by_cases c1 : lenOk ws.length = true
  · rw [if_pos c1] at q1
    rcases ws with _ | ⟨w1, _ | ⟨w2, _ | ⟨w3, ws⟩⟩⟩
    · exact False.elim q1
    · exact False.elim q1
    · cases r1 with
      | cons r1 r2 =>
        cases r2 with
        | cons r2 r3 =>
          cases r3
          exact ⟨_, _, rfl, wpS_nx S1 (((F.mono e1).set r1).set r2) q1⟩
    · exact False.elim q1
  · rw [if_neg c1] at q1
    exact False.elim q1
theorem par3_ok (O : Ok T p C c X d) {t : Tgt} {x : Ex} {tg e : Expr} {pos : Pos} (h : par3B p c t x tg e = true) (ha : ∀ (xs : List Ex) (es : List Expr), chkEs p c xs es = true → PA X es (tA T C W X xs)) : PS X (.Assign [tg] e pos) (tS T W X fun ρ => exS C (.asg t x) ρ) := by
  unfold par3B at h
  split at h <;> try cases h
  rename_i i j k a b d0 y py z pz u pu _ _ ea eb ed _ _
  simp only [Bool.and_eq_true, decide_eq_true_eq, Bool.not_eq_true', isLoc] at h
  obtain ⟨⟨⟨⟨⟨⟨⟨⟨⟨⟨⟨⟨⟨⟨⟨⟨⟨⟨h1, h2⟩, h3⟩, h4⟩, h5⟩, h6⟩, h7⟩, h8⟩, h9⟩, h10⟩, h11⟩, h12⟩, h13⟩, h14⟩, h15⟩, h16⟩, h17⟩, h18⟩, h19⟩ := h
  have hk : X.env.scope.kind = .function := by
    rw [O.sc]
    unfold fnKind at h15
    split at h15
    · assumption
    · cases h15
  have l1 : X.env.scope.names.lookup y = some .local := by rw [O.sc]; exact h10
  have l2 : X.env.scope.names.lookup z = some .local := by rw [O.sc]; exact h11
  have l3 : X.env.scope.names.lookup u = some .local := by rw [O.sc]; exact h12
  refine PS_imp (ps_par3 O.calm (by rw [O.N]; exact O.nd) (by rw [O.N]; exact h7) (by rw [O.N]; exact h8) (by rw [O.N]; exact h9) h1 h2 h3 l1 l2 l3 (ha _ _ h19) (par3_st l1 l2 l3 h13 h14 h4 h5 h6 hk h16 h17 h18)) fun D σ H q => ?_
  obtain ⟨m, ρ, L, S, F, q⟩ := q
  refine ⟨m, ρ, L, S, F, (wpS_sx (R' := RelWs X.K) F (wpS_disp q)).imp fun vs H1 ⟨m1, L1, ws, e1, S1, r1, q1⟩ => ?_⟩
  by_cases c1 : lenOk ws.length = true
  · rw [if_pos c1] at q1
    rcases ws with _ | ⟨w1, _ | ⟨w2, _ | ⟨w3, _ | ⟨w4, ws⟩⟩⟩⟩
    · exact False.elim q1
    · exact False.elim q1
    · exact False.elim q1
    · cases r1 with
      | cons r1 r2 =>
        cases r2 with
        | cons r2 r3 =>
          cases r3 with
          | cons r3 r4 =>
            cases r4
            exact ⟨_, _, _, rfl, wpS_nx S1 ((((F.mono e1).set r1).set r2).set r3) q1⟩
    · exact False.elim q1
  · rw [if_neg c1] at q1
    exact False.elim q1
end
/-! ### raise -/
section
variable {T : Tab} {p : Pg} {C : Env} {c : Dc} {X : Cx} {d : Nat} {W : WX}
def tRse (T : Tab) (p : Pg) (C : Env) (W : WX) (X : Cx) (k : Nat) (y : Str) (xs : List Ex) : L2.St → Hp → XK → Prop := fun σ H Q => tM (T.g X) W (RelWs X.K) (fun ρ => evEs C ρ xs) σ H fun vs H1 => ∃ n, C.xin k n = true ∧ vs.length = n ∧ ∀ tg fo d, (y, tg, fo) ∈ p.xinL → vs.length = nI fo → H1 d = none → Q (.ref (He.ga X.K y)) (some d) (L2.upd H1 d (.xd (fsI ⟨tg.toArray⟩ fo vs)))
theorem pmk_rse (O : Ok T p C c X d) {k : Nat} {y : Str} {xs : List Ex} {es : List Expr} {ps pos : Pos} (hc : p.xcs[k]? = some y) (g1 : Gl X y) (g2 : (y == ("__debug__" : Str)) = false) (hx : chkEs p c xs es = true) (ha : PA X es (tA T C W X xs)) :
    L2.PMk X (.Call (.Name y ps) es [] pos) (tRse T p C W X k y xs) := by
  intro pins s σ H Q I q
  obtain ⟨gy, TX⟩ := O.pg.xc y (List.mem_of_getElem? hc)
  refine wpAny_Call_Name_kw (ld_glob I g1 gy ?_ g2)
  have hk : ([] : List Keyword).map (·.arg) = ([] : List Str).map some := rfl
  obtain ⟨k1, k2, k3⟩ := kw_all hk X.env pos
  have fin : ∀ (us : List Value) (s1 : Shared) (vs : List V) (H1 : Hp), L2.Inv X pins σ H1 s1 → Vals vs us → (∃ n, C.xin k n = true ∧ vs.length = n ∧ ∀ tg fo d, (y, tg, fo) ∈ p.xinL → vs.length = nI fo → H1 d = none → Q (.ref (He.ga X.K y)) (some d) (L2.upd H1 d (.xd (fsI ⟨tg.toArray⟩ fo vs)))) →
      wpAny (model X.prog X.w) X.A (evalAll ((backToKw pos (keywordEach [] X.env)).map (·.2))) (fun zs s2 => X.K.In s2.heap ∧ wpAny (model X.prog X.w) X.A (call (.ref (He.ga X.K y)) us (((backToKw pos (keywordEach [] X.env)).filterMap (·.1)).zip zs)) (L2.MkP X pins σ Q) X.xe s2) X.xe s1 := by
    intro us s1 vs H1 I1 r1 ⟨n, hn, hl, q1⟩
    show wpAny _ _ (evalAll []) _ _ _
    refine wpAny_pure ⟨I1.kIn, ?_⟩
    show wpAny _ _ (call (.ref (He.ga X.K y)) us []) _ _ _
    obtain ⟨x, tg, fo, e1, e2, e3⟩ := O.cf.xin k n hn
    obtain rfl : x = y := by rw [hc] at e1; exact (Option.some.inj e1).symm
    exact pmk_fin TX (O.ini _ e2) (O.xr k n hn) I1 r1 (hl.trans e3) fun d hd => q1 tg fo d e2 (hl.trans e3) hd
  cases es with
  | nil =>
    refine PySem.W.callWith_KW0 (h₀ := X.base) I.ok.mod.kin TX.kC k1 ?_ (by rw [k3]; rfl)
    have hx0 : xs = [] := by
      cases xs with
      | nil => rfl
      | cons x xs => simp [chkEs] at hx
    subst hx0
    obtain ⟨m, ρ, L, S, F, q⟩ := q
    exact fin [] s [] H I .nil (run_ret (R := RelWs X.K) q S .nil)
  | cons e0 rest =>
    have he : starEach (e0 :: rest) X.env = (false, eval e0 X.env) :: starEach rest X.env := by
      rcases chkEs_head hx X.env with he | ⟨e1, r1, he1, he2⟩
      · cases he
      · cases he1; exact he2
    exact PySem.W.callWith_KW (h₀ := X.base) I.ok.mod.kin TX.kC k1 (thn (ha.run pos pins s σ H _ I q) fun us s1 ⟨vs, H1, I1, r, q1⟩ => fin us s1 vs H1 I1 r q1) (by rw [k3, chkEs_star hx]; rfl) he
theorem rse_read (O : Ok T p C c X d) {k : Nat} {y : Str} {xs : List Ex} (hc : p.xcs[k]? = some y) {D : Ends} {σ : L2.St} {H : Hp} (q : tS T W X (fun ρ => exS C (.rse k xs) ρ) D σ H) : tRse T p C W X k y xs σ H fun cls d H' => W cls d σ H' := by
  refine (tS_sx (R' := RelWs X.K) q).imp fun vs H1 ⟨m1, ρ, L1, ws, S1, F1, r1, q1⟩ => ?_
  have q1 : wpS T W X D m1 H1 (if C.xin k ws.length = true then ret (.ex (.exn k ws), ρ) else fail) L1 := q1
  by_cases hx : C.xin k ws.length = true
  · rw [if_pos hx] at q1
    refine ⟨ws.length, hx, r1.length.symm, fun tg fo d he hl hd => ?_⟩
    obtain ⟨e1, S2⟩ := S1.free (u := .xd (fsI ⟨tg.toArray⟩ fo vs)) hd
    refine q1 m1 _ e1 S2 σ _ _ (F1.mono e1) ?_
    rw [O.rx]
    exact ⟨k, ws, y, tg, fo, d, vs, rfl, hc, he, hl, rfl, rfl, upd_same, r1.mono e1⟩
  · rw [if_neg hx] at q1
    exact q1.elim
end
mutual
theorem sndS {T : Tab} {p : Pg} {C : Env} {c : Dc} {X : Cx} {d : Nat} {W : WX} (O : Ok T p C c X d) (tk : Takes X W) (hp : PassesOwn (model X.prog X.w) X.A X.env X.xe) : ∀ (x : Sm) (s : Stmt), chkS p c x s = true → PS X s (tS T W X fun ρ => exS C x ρ)
  | .asg t x, s, h => by
    simp only [chkS] at h
    split at h <;> try cases h
    rw [Bool.or_eq_true, Bool.or_eq_true] at h
    rcases h with (h | h) | h
    · simp only [Bool.and_eq_true, Bool.or_eq_true] at h
      obtain ⟨⟨⟨h1, h2⟩, h3⟩, h4⟩ := h
      have h5 : ∀ tg e, (noSwap tg e = true ∨ noSw2 c.sc tg e = true) → swappedStores [tg] e X.env = pure none := fun tg e h3 => by
        rcases h3 with h3 | h3
        · exact noSwap_st h3 _
        · exact noSw2_st (by rw [O.sc]; exact h3)
      rcases h4 with (h4 | h4) | h4
      · exact PS_imp (ps_asg (sndE O tk x _ h1) (sndG O tk t _ h2) (noComp_sw h4 _ _ _) (h5 _ _ h3) (asg1 h2 _)) fun D σ H q => tS_asg q
      · exact PS_imp (ps_asg (sndE O tk x _ h1) (sndG O tk t _ h2) (notName_sw h4 _ _) (h5 _ _ h3) (asg1 h2 _)) fun D σ H q => tS_asg q
      · split at h4
        · exact ps_lc O tk h1 h2 h4
        · cases h4
    · exact par_ok O h fun xs es hx => sndEs O tk xs es hx
    · exact par3_ok O h fun xs es hx => sndEs O tk xs es hx
  | .aug i op x, s, h => by
    simp only [chkS] at h
    split at h <;> try cases h
    simp only [Bool.and_eq_true, decide_eq_true_eq] at h
    obtain ⟨⟨⟨⟨h1, h2⟩, h3⟩, h4⟩, h5⟩ := h
    subst h1
    refine PS_imp (ps_aug (i := i) (by rw [O.N]; exact O.nd) (by rw [O.N]; exact h2) (O.loc h3) (sndE O tk x _ h5) (pip_ok (T := T) op (ofW W)) (O.fnl (List.contains_iff_mem.mp h4) h3)) fun D σ H ⟨m, ρ, L, S, F, q⟩ => ?_
    have q : wpS T W X D m H (match ρ[i]? with
      | some (some v) => sx ρ (evE C ρ x) fun w => sx ρ (iop op v w) fun z => ret (.nx, ρ.set i (some z))
      | _ => fail) L := q
    split at q
    · rename_i w e
      obtain ⟨v, e1, r⟩ := F.at_ i w e
      refine ⟨v, e1, m, ρ, L, S, F, (wpS_sx (R' := RelW X.K) F q).imp fun y H1 ⟨m1, L1, w2, e2, S1, r1, q1⟩ => ⟨σ, m1, L1, w, w2, S1, r.mono e2, r1, ?_⟩⟩
      exact (wpS_sx (R' := RelW X.K) (F.mono e2) q1).imp fun z H2 ⟨m2, L2, w3, e3, S2, r2, q2⟩ => wpS_nx S2 (((F.mono e2).mono e3).set r2) q2
    · exact False.elim q
  | .augf o f op x, s, h => by
    simp only [chkS] at h
    split at h <;> try cases h
    simp only [Bool.and_eq_true, decide_eq_true_eq] at h
    obtain ⟨⟨⟨⟨h1, h2⟩, h3⟩, h4⟩, h5⟩ := h
    subst h1
    exact ps_augfx O h3 (sndE O tk o _ h4) (sndE O tk x _ h5)
  | .nev, s, h => ⟨fun pins st σ H D I ⟨m, ρ, L, S, F, q⟩ => False.elim q⟩
  | .rse k xs, s, h => by
    simp only [chkS] at h
    split at h <;> try cases h
    simp only [Bool.and_eq_true, decide_eq_true_eq] at h
    obtain ⟨⟨h1, h2⟩, h3⟩ := h
    obtain ⟨g1, g2⟩ := O.gl h2
    exact PS_imp (ps_raise O.calm tk (pmk_rse O h1 g1 g2 h3 (sndEs O tk xs _ h3))) fun D σ H q => rse_read O h1 q
  | .exp x, s, h => by
    simp only [chkS] at h
    split at h <;> try cases h
    simp only [Bool.and_eq_true] at h
    exact PS_imp (ps_expr (sndE O tk x _ h.1) (noComp_sw h.2 _ _ _)) fun D σ H q => (tS_sx (R' := RelW X.K) q).imp fun v H1 ⟨m1, ρ, L1, w, S1, F1, r1, q1⟩ => wpS_nx S1 F1 q1
  | .ifs t a b, s, h => by
    simp only [chkS] at h
    split at h <;> try cases h
    simp only [Bool.and_eq_true] at h
    refine PS_imp (ps_if (sndT O tk t _ h.1.1) (sndSs O tk hp a _ h.1.2) (sndSs O tk hp b _ h.2)) fun D σ H q => ?_
    refine (tS_sx (R' := RB) q).imp fun v H1 ⟨m1, ρ, L1, x, S1, F1, r1, q1⟩ => ?_
    have r1 : x = v := r1
    subst r1
    cases x
    · rw [if_neg (by simp)] at q1 ⊢; exact ⟨m1, ρ, L1, S1, F1, q1⟩
    · rw [if_pos rfl] at q1 ⊢; exact ⟨m1, ρ, L1, S1, F1, q1⟩
  | .whl t b, s, h => by
    simp only [chkS] at h
    split at h <;> try cases h
    simp only [Bool.and_eq_true] at h
    exact ps_wh hp (sndT O tk t _ h.1) (sndSs O tk hp b _ h.2)
  | .fors t it b, s, h => by
    simp only [chkS] at h
    split at h <;> try cases h
    simp only [Bool.and_eq_true] at h
    exact ps_fr hp O.calm (sndI O tk it _ _ h.1.1) (sndG O tk t _ h.1.2) (sndSs O tk hp b _ h.2) (noSet h.1.1 X.env)
  | .rtn x, s, h => by
    simp only [chkS] at h
    split at h <;> try cases h
    exact PS_imp (ps_ret (sndE O tk x _ h)) fun D σ H q => (tS_sx (R' := RelW X.K) q).imp fun v H1 ⟨m1, ρ, L1, w, S1, F1, r1, q1⟩ => q1 m1 H1 (Ext.refl _ _) S1 v r1
  | .rtnN, s, h => by
    simp only [chkS] at h
    split at h <;> try cases h
    exact PS_imp ps_retN fun D σ H ⟨m, ρ, L, S, F, q⟩ => q m H (Ext.refl _ _) S _ .non
  | .pas, s, h => by
    simp only [chkS] at h
    split at h <;> try cases h
    exact PS_imp ps_pass fun D σ H ⟨m, ρ, L, S, F, q⟩ => wpS_nx S F q
  | .brk, s, h => by
    simp only [chkS] at h
    split at h <;> try cases h
    exact PS_imp ps_break fun D σ H ⟨m, ρ, L, S, F, q⟩ => q m H (Ext.refl _ _) S σ F
  | .cnt, s, h => by
    simp only [chkS] at h
    split at h <;> try cases h
    exact PS_imp ps_continue fun D σ H ⟨m, ρ, L, S, F, q⟩ => q m H (Ext.refl _ _) S σ F
theorem sndSs {T : Tab} {p : Pg} {C : Env} {c : Dc} {X : Cx} {d : Nat} {W : WX} (O : Ok T p C c X d) (tk : Takes X W) (hp : PassesOwn (model X.prog X.w) X.A X.env X.xe) : ∀ (xs : List Sm) (ss : List Stmt), chkSs p c xs ss = true → PSs X ss (tS T W X fun ρ => exSs C xs ρ)
  | [], ss, h => by
    cases ss with
    | cons _ _ => simp [chkSs] at h
    | nil => exact PSs_imp pss_nil fun D σ H ⟨m, ρ, L, S, F, q⟩ => wpS_nx S F q
  | x :: xs, ss, h => by
    cases ss with
    | nil => simp [chkSs] at h
    | cons s ss =>
      simp only [chkSs, Bool.and_eq_true] at h
      refine PSs_imp (pss_cons (sndS O tk hp x s h.1) (sndSs O tk hp xs ss h.2)) fun D σ H ⟨m, ρ, L, S, F, q⟩ => ⟨m, ρ, L, S, F, ?_⟩
      refine wp_mono (wpS_bnd q) (fun r L1 z => ?_) fun _ _ z => z
      obtain ⟨f, ρ1⟩ := r
      cases f with
      | nx => exact fun m' H' e S' σ' F' => ⟨m', ρ1, L1, S', F', wpS.mono e z⟩
      | rt w => exact fun m' H' e S' v r => z m' H' e S' v r
      | bk => exact fun m' H' e S' σ' F' => z m' H' e S' σ' F'
      | ct => exact fun m' H' e S' σ' F' => z m' H' e S' σ' F'
      | ex e0 => exact fun m' H' e S' σ' cls dd F' r => z m' H' e S' σ' cls dd F' r
end
end Dx

set_option maxRecDepth 100000
set_option maxHeartbeats 4000000
/-! Dx8: defs. -/
namespace Dx
open PySem PySem.Spec PyProof.Rows L2

/-- a bound argument: one that is written, a default -/
inductive Arg where | ix (i : Nat) | c (w : W)
def arrW (as : List W) : List Arg → List W
  | [] => []
  | .ix i :: r => (as[i]?.getD .non) :: arrW as r
  | .c w :: r => w :: arrW as r
/-- the small program -/
structure Tm where
  defs : List Df
  tgs : List (Nat × List Arg)
  cfL : List (Nat × Nat) := []
  mtL : List (Nat × Nat × Nat) := []
  ptL : List (Nat × Nat × Nat) := []
  mkL : List (Nat × Nat × Nat) := []
  duL : List (Nat × Nat × Nat) := []
  subL : List (Nat × Nat) := []
  tags : List Txt := []
  xmkL : List (Nat × Nat × Nat) := []
  xcfL : List (Nat × Nat) := []
  xsubL : List (Nat × Cl) := []
  xinL : List (Nat × Nat) := []
def envT (P : Tm) (call callM : Nat → List W → M W) (ev1 lamE : Fr → Ex → M W) (xi : Bool) : Env where
  call := call
  callM := callM
  cf := fun c f => P.cfL.contains (c, f)
  mt := fun c m => (P.mtL.find? fun q => q.1 == c && q.2.1 == m).map (·.2.2)
  pt := fun c m => (P.ptL.find? fun q => q.1 == c && q.2.1 == m).map (·.2.2)
  du := fun c i => (P.duL.find? fun q => q.1 == c && q.2.1 == i).map (·.2.2)
  mks := fun k => (P.mkL.find? fun q => q.1 == k).map (·.2)
  sub := fun a b => a == b || P.subL.contains (a, b)
  tag := fun c => P.tags.getD c []
  xmks := fun k => (P.xmkL.find? fun q => q.1 == k).map (·.2)
  xcf := fun c f => P.xcfL.contains (c, f)
  xsub := fun i j => P.xsubL.contains (i, j)
  xin := fun c n => xi && P.xinL.contains (c, n)
  ev1 := ev1
  lamE := lamE
def envD (P : Tm) : Nat → Env
  | 0 => envT P (fun _ _ => fail) (fun _ _ => fail) (fun _ _ => fail) (fun _ _ => fail) false
  | d + 1 => envT P (fun t as => match P.tgs[t]? with
      | some (k, arr) => (match P.defs[k]? with
        | some f => runD (envD P d) f (arrW as arr)
        | none => fail)
      | none => fail) (envD P d).call (fun ρ x => evE (envD P d) ρ x) (envD P d).ev1 true
theorem envD_lamE {P : Tm} {d : Nat} : (envD P (d + 2)).lamE = fun ρ x => evE (envD P d) ρ x := rfl
theorem envD_callM {P : Tm} {d : Nat} : (envD P (d + 1)).callM = (envD P d).call := rfl
theorem envD_call {P : Tm} {d t k : Nat} {arr : List Arg} {f : Df} (h1 : P.tgs[t]? = some (k, arr)) (h2 : P.defs[k]? = some f) (as : List W) : (envD P (d + 1)).call t as = runD (envD P d) f (arrW as arr) := by
  show (match P.tgs[t]? with
      | some (k, arr) => (match P.defs[k]? with
        | some f => runD (envD P d) f (arrW as arr)
        | none => fail)
      | none => fail) = _
  rw [h1]
  show (match P.defs[k]? with
        | some f => runD (envD P d) f (arrW as arr)
        | none => fail) = _
  rw [h2]
/-- the small program's tables fit -/
def tmB (p : Pg) (P : Tm) : Bool :=
  (P.cfL.all fun q => match p.cls[q.1]?, p.fld[q.2]? with
    | some x, some y => p.noatL.contains (x, y)
    | _, _ => false) &&
  ((P.mtL.all fun q => match p.cls[q.1]?, p.mf[q.2.1]?, p.tg[q.2.2]? with
    | some x, some (nm, np, kws), some g => decide (g.at_ = .meth x nm) && decide (g.npos = np + 1) && decide (g.kws = kws) && p.methL.contains (x, nm) && !p.fld.contains nm
    | _, _, _ => false) &&
  ((P.ptL.all fun q => match p.cls[q.1]?, p.pf[q.2.1]?, p.tg[q.2.2]? with
    | some x, some nm, some g => decide (g.at_ = .get x nm) && decide (g.npos = 1) && decide (g.kws = []) && p.propL.contains (x, nm)
    | _, _, _ => false) &&
  ((P.mkL.all fun q => match p.cls[q.2.1]?, p.mkf[q.1]?, p.tg[q.2.2]? with
    | some x, some (y, np, kws), some g => decide (x = y) && decide (g.at_ = .meth x "__init__") && decide (g.npos = np + 1) && decide (g.kws = kws) && p.mkrL.contains x
    | _, _, _ => false) && ((P.duL.all fun q => match p.cls[q.1]?, duName q.2.1, p.tg[q.2.2]? with
    | some x, some nm, some g => decide (g.at_ = .meth x nm) && decide (g.npos = duN q.2.1) && decide (g.kws = []) && p.methL.contains (x, nm)
    | _, _, _ => false) && (decide (P.subL = p.subL) && (decide p.fld.Nodup && ((P.xmkL.all fun q => match p.xcs[q.2.1]?, p.xmkf[q.1]?, p.tg[q.2.2]? with
    | some x, some (y, np), some g => decide (x = y) && decide (g.at_ = .meth x "__init__") && decide (g.npos = np + 1) && decide (g.kws = []) && p.methL.contains (x, ("__init__" : Str))
    | _, _, _ => false) && ((P.xcfL.all fun q => match p.xcs[q.1]?, p.fld[q.2]? with
    | some x, some y => p.xnoL.contains (x, y)
    | _, _ => false) && (decide (P.xsubL = p.xsubL) && ((P.xinL.all fun q => match p.xcs[q.1]? with
    | some x => p.xinL.any fun r => decide (r.1 = x) && decide (q.2 = nI r.2.2)
    | none => false) && ((List.range p.xcs.length).all fun c => p.xinL.all fun r => !decide (p.xcs[c]? = some r.1) || decide (P.tags.getD c [] = r.2.1))))))))))))
theorem cfOk_of {p : Pg} {P : Tm} (h : tmB p P = true) (call callM : Nat → List W → M W) (ev1 lamE : Fr → Ex → M W) (xi : Bool) : CfOk p (envT P call callM ev1 lamE xi) := by
  simp only [tmB, Bool.and_eq_true, List.all_eq_true, decide_eq_true_eq] at h
  obtain ⟨h1, h2, h3, h4, h7, h5, h6, h8, h9, h10, h11, h12⟩ := h
  refine ⟨fun c f e => ?_, fun c m t e => ?_, fun c m t e => ?_, fun k c t e => ?_, fun c m t e => ?_, ?_, h6, fun k c t e => ?_, fun c f e => ?_, ?_, fun c n e => ?_, fun c x tg fo e1 e2 => ?_⟩
  · have hm : (c, f) ∈ P.cfL := List.contains_iff_mem.mp e
    have z := h1 _ hm
    split at z
    · rename_i x y e1 e2
      exact ⟨x, y, e1, e2, List.contains_iff_mem.mp z⟩
    · cases z
  · have e : (P.mtL.find? fun q => q.1 == c && q.2.1 == m).map (·.2.2) = some t := e
    obtain ⟨q, e1, e2⟩ := Option.map_eq_some_iff.mp e
    have hm := List.mem_of_find?_eq_some e1
    have hp := List.find?_some e1
    simp only [Bool.and_eq_true, beq_iff_eq] at hp
    obtain ⟨qc, qm, qt⟩ := q
    obtain ⟨rfl, rfl⟩ := hp
    subst e2
    have z := h2 _ hm
    split at z
    · rename_i x nm np kws g e1 e2 e3
      simp only [Bool.and_eq_true, decide_eq_true_eq, Bool.not_eq_true'] at z
      obtain ⟨⟨⟨⟨z1, z2⟩, z3⟩, z4⟩, z5⟩ := z
      refine ⟨x, nm, np, kws, g, e1, e2, e3, z1, z2, z3, List.contains_iff_mem.mp z4, fun q => ?_⟩
      rw [List.contains_iff_mem.mpr q] at z5
      cases z5
    · cases z
  · have e : (P.ptL.find? fun q => q.1 == c && q.2.1 == m).map (·.2.2) = some t := e
    obtain ⟨q, e1, e2⟩ := Option.map_eq_some_iff.mp e
    have hm := List.mem_of_find?_eq_some e1
    have hp := List.find?_some e1
    simp only [Bool.and_eq_true, beq_iff_eq] at hp
    obtain ⟨qc, qm, qt⟩ := q
    obtain ⟨rfl, rfl⟩ := hp
    subst e2
    have z := h3 _ hm
    split at z
    · rename_i x nm g e1 e2 e3
      simp only [Bool.and_eq_true, decide_eq_true_eq] at z
      obtain ⟨⟨⟨z1, z2⟩, z3⟩, z4⟩ := z
      exact ⟨x, nm, g, e1, e2, e3, z1, z2, z3, List.contains_iff_mem.mp z4⟩
    · cases z
  · have e : (P.mkL.find? fun q => q.1 == k).map (·.2) = some (c, t) := e
    obtain ⟨q, e1, e2⟩ := Option.map_eq_some_iff.mp e
    have hm := List.mem_of_find?_eq_some e1
    have hp := List.find?_some e1
    simp only [beq_iff_eq] at hp
    obtain ⟨qk, qc, qt⟩ := q
    cases hp
    cases e2
    have z := h4 _ hm
    split at z
    · rename_i x y np kws g e1 e2 e3
      simp only [Bool.and_eq_true, decide_eq_true_eq] at z
      obtain ⟨⟨⟨⟨z1, z2⟩, z3⟩, z4⟩, z5⟩ := z
      subst z1
      exact ⟨x, np, kws, g, e1, e2, e3, z2, z3, z4, List.contains_iff_mem.mp z5⟩
    · cases z
  · have e : (P.duL.find? fun q => q.1 == c && q.2.1 == m).map (·.2.2) = some t := e
    obtain ⟨q, e1, e2⟩ := Option.map_eq_some_iff.mp e
    have hm := List.mem_of_find?_eq_some e1
    have hp := List.find?_some e1
    simp only [Bool.and_eq_true, beq_iff_eq] at hp
    obtain ⟨qc, qm, qt⟩ := q
    obtain ⟨rfl, rfl⟩ := hp
    subst e2
    have z := h7 _ hm
    split at z
    · rename_i x nm g e1 e2 e3
      simp only [Bool.and_eq_true, decide_eq_true_eq] at z
      obtain ⟨⟨⟨z1, z2⟩, z3⟩, z4⟩ := z
      exact ⟨x, nm, g, e1, e2, e3, z1, z2, z3, List.contains_iff_mem.mp z4⟩
    · cases z
  · funext a b
    show (a == b || P.subL.contains (a, b)) = (a == b || p.subL.contains (a, b))
    rw [h5]
  · have e : (P.xmkL.find? fun q => q.1 == k).map (·.2) = some (c, t) := e
    obtain ⟨q, e1, e2⟩ := Option.map_eq_some_iff.mp e
    have hm := List.mem_of_find?_eq_some e1
    have hp := List.find?_some e1
    simp only [beq_iff_eq] at hp
    obtain ⟨qk, qc, qt⟩ := q
    cases hp
    cases e2
    have z := h8 _ hm
    split at z
    · rename_i x y np g e1 e2 e3
      simp only [Bool.and_eq_true, decide_eq_true_eq] at z
      obtain ⟨⟨⟨⟨z1, z2⟩, z3⟩, z4⟩, z5⟩ := z
      subst z1
      exact ⟨x, np, g, e1, e2, e3, z2, z3, z4, List.contains_iff_mem.mp z5⟩
    · cases z
  · have hm : (c, f) ∈ P.xcfL := List.contains_iff_mem.mp e
    have z := h9 _ hm
    split at z
    · rename_i x y e1 e2
      exact ⟨x, y, e1, e2, List.contains_iff_mem.mp z⟩
    · cases z
  · funext a b
    show P.xsubL.contains (a, b) = p.xsubL.contains (a, b)
    rw [h10]
  · have e : (xi && P.xinL.contains (c, n)) = true := e
    rw [Bool.and_eq_true] at e
    have z := h11 _ (List.contains_iff_mem.mp e.2)
    split at z
    · rename_i x e1
      obtain ⟨⟨y, tg, fo⟩, hr, hz⟩ := List.any_eq_true.mp z
      simp only [Bool.and_eq_true, decide_eq_true_eq] at hz
      obtain ⟨rfl, hz⟩ := hz
      exact ⟨_, tg, fo, e1, hr, hz⟩
    · cases z
  · have lc : c < p.xcs.length := (List.getElem?_eq_some_iff.mp e1).1
    have z := h12 c (List.mem_range.mpr lc) _ e2
    simp only [Bool.or_eq_true, Bool.not_eq_true', decide_eq_false_iff_not, decide_eq_true_eq] at z
    rcases z with z | z
    · exact absurd e1 z
    · exact z
theorem cfOk_env {p : Pg} {P : Tm} (h : tmB p P = true) : ∀ d, CfOk p (envD P d)
  | 0 => cfOk_of h _ _ _ _ _
  | _ + 1 => cfOk_of h _ _ _ _ _
/-- how a call's written arguments are bound -/
def BindK (K : PySem.W.Frag) (fd : FuncData) (ps : List Str) (npos : Nat) (kws : List Str) (arr : List Arg) : Prop :=
  ∀ (us ws : List Value) (vs zs : List V), us.length = npos → ws.length = kws.length → Vals vs us → Vals zs ws → ∃ (full : List Value) (fullV : List V), Vals fullV full ∧ full.length = ps.length ∧
    (∀ s : Shared, K.In s.heap → BindsTo s fd ⟨us, kws.zip ws⟩ (ps.zip full)) ∧ ∀ (m : List Addr) (H : Hp) (as : List W), RelWs K m H as (vs ++ zs) → RelWs K m H (arrW as arr) fullV
section
variable {K : PySem.W.Frag} {x qual : Str} {params : Arguments} {body : List Stmt} {scope : Scope} {f : Addr} {fd : FuncData} {ps : List Str} {npos : Nat} {kws : List Str}
theorem RelWs.ixs {m : List Addr} {H : Hp} {as : List W} {vs : List V} (r : RelWs K m H as vs) : ∀ ixs : List Nat, (∀ i ∈ ixs, i < vs.length) → RelWs K m H (arrW as (ixs.map .ix)) (ixs.map fun i => vs[i]?.getD .non)
  | [], _ => .nil
  | i :: ixs, h => by
    have hi := h i (by simp)
    have hi2 : i < as.length := by rw [r.length]; exact hi
    obtain ⟨v, e1, r1⟩ := r.get (List.getElem?_eq_getElem hi2)
    refine .cons ?_ (RelWs.ixs r ixs fun j hj => h j (by simp [hj]))
    show RelW K m H (as[i]?.getD W.non) (vs[i]?.getD V.non)
    rw [e1, List.getElem?_eq_getElem hi2]
    exact r1
theorem vals_ixs {vs : List V} {us : List Value} (r : Vals vs us) : ∀ ixs : List Nat, (∀ i ∈ ixs, i < vs.length) → Vals (ixs.map fun i => vs[i]?.getD .non) (ixs.map fun i => us[i]?.getD .none)
  | [], _ => .nil
  | i :: ixs, h => by
    have hi := h i (by simp)
    obtain ⟨u, e1, r1⟩ := r.get (List.getElem?_eq_getElem hi)
    refine .cons ?_ (vals_ixs r ixs fun j hj => h j (by simp [hj]))
    show L2.RelV (vs[i]?.getD V.non) (us[i]?.getD Value.none)
    rw [e1, List.getElem?_eq_getElem hi]
    exact r1
/-- no defaults: every parameter is written -/
theorem bindK_pure (F : FunD K x qual params body scope [] [] f fd) (ixs : List Nat) (hix : (ixs.all fun i => decide (i < npos + kws.length)) = true) (hl : ixs.length = ps.length)
    (h : ∀ (kV doc pm : Value) (an : Option Addr) (cdv ct : Value) (us ws : List Value), us.length = npos → ws.length = kws.length → bindArgs (PySem.W.fnOf x qual params body scope .none kV doc pm an cdv ct) ⟨us, kws.zip ws⟩ = pure (ps.zip (ixs.map fun i => (us ++ ws)[i]?.getD .none))) :
    BindK K fd ps npos kws (ixs.map .ix) := by
  intro us ws vs zs l1 l2 r1 r2
  obtain ⟨oc, od, dV, kV, doc, pm, an, cdv, ct, osl, rfl, lk, hcd, hD, hK⟩ := F.ex
  have hv : ∀ i ∈ ixs, i < (vs ++ zs).length := fun i hi => by
    have := of_decide_eq_true (List.all_eq_true.mp hix i hi)
    rw [List.length_append, r1.length, r2.length, l1, l2]
    exact this
  rcases hD with ⟨_, rfl⟩ | ⟨e, _⟩
  · exact ⟨_, _, vals_ixs (r1.append r2) ixs hv, by rw [List.length_map, hl], fun s _ => .of_eq (h kV doc pm an cdv ct us ws l1 l2), fun m H as r => r.ixs ixs hv⟩
  · exact absurd rfl e
end
/-- a def that the small program has -/
structure DefOk (T : Tab) (p : Pg) (P : Tm) (K : PySem.W.Frag) (t : Nat) (g : Tg) (f : Addr) : Prop where
  ex : ∃ (k : Nat) (arr : List Arg) (df : Df) (x qual : Str) (params : Arguments) (body : List Stmt) (scope : Scope) (dvs : List V) (kws : List (Str × V)) (fd : FuncData) (N ps : List Str),
    P.tgs[t]? = some (k, arr) ∧ P.defs[k]? = some df ∧ FunD K x qual params body scope dvs kws f fd ∧ FnScope N ps scope ∧ chkSs p ⟨N, scope, N, false⟩ df.body body = true ∧ df.slots = N.length ∧ BindK K fd ps g.npos g.kws arr
section
variable {T : Tab} {p : Pg} {Tp : Tm} {P : Program} {w : World} {K : PySem.W.Frag} {mg : Str → Option Value} {base : Heap}
theorem relF_start {m : List Addr} {H : Hp} {as : List W} {vs : List V} {N : List Str} {n : Nat} (r : RelWs K m H as vs) (hn : n = N.length) (hl : vs.length ≤ N.length) : RelF K m H (as.map some ++ List.replicate (n - as.length) none) (L2.start N vs) := by
  subst hn
  have e := r.length
  unfold L2.start
  refine ⟨by simp [e], fun i w h => ?_⟩
  by_cases hi : i < as.length
  · rw [List.getElem?_append_left (by simpa using hi), List.getElem?_map] at h
    rw [List.getElem?_append_left (by simpa [← e] using hi), List.getElem?_map]
    cases e2 : as[i]? with
    | none => rw [e2] at h; cases h
    | some a =>
      rw [e2] at h
      cases h
      obtain ⟨v, e3, r3⟩ := r.get e2
      exact ⟨v, by rw [e3]; rfl, r3⟩
  · rw [List.getElem?_append_right (by simpa using hi), List.getElem?_replicate] at h
    split at h <;> cases h
theorem runD_ok {C : Env} {df : Df} {as : List W} {g : G} {Xw : XW} {σ : L2.St} {m : List Addr} {H : Hp} {L : Hh} {Q : VK} (h : run g Xw σ (RelW g.K) (runD C df as) m H L Q) :
    as.length ≤ df.slots ∧ run g Xw σ (RelW g.K) (bnd (exSs C df.body (as.map some ++ List.replicate (df.slots - as.length) none)) endOf) m H L Q := by
  rcases run_if h with ⟨c, h⟩ | ⟨_, h⟩
  · exact ⟨of_decide_eq_true c, h⟩
  · exact h.elim
theorem body_ok {C : Env} {X : Cx} {c : List Sm} {ρ : Fr} {σ : L2.St} {m : List Addr} {H : Hp} {L : Hh} {Q : VK} {E : XK} (h : run (T.g X) (fun _ _ cls d H' => E cls d H') σ (RelW X.K) (bnd (exSs C c ρ) endOf) m H L Q) :
    wpS T (fun cls d _ H => E cls d H) X { nx := fun _ H' => Q .non H', rt := Q } m H (exSs C c ρ) L := by
  unfold run at h
  rw [wp_bnd] at h
  refine wp_mono h (fun r L1 q => ?_) fun _ _ _ => trivial
  obtain ⟨f, ρ1⟩ := r
  cases f with
  | nx => exact fun m' H' e S σ' F => q m' H' _ e S .non
  | rt w => exact fun m' H' e S v r => q m' H' v e S r
  | bk => exact False.elim q
  | ct => exact False.elim q
  | ex x => exact fun m' H' e S σ' cls d F r => q m' H' cls d e S r
/-- what a def promises: what the small one does -/
def spD (T : Tab) (P : Program) (w : World) (K : PySem.W.Frag) (mg : Str → Option Value) (base : Heap) (C : Env) (df : Df) (n : Nat) : Sp := fun vs H Q E => vs.length = n ∧ ∃ m L as σ, Sim ⟨P, w, K, mg, base, T.CN, T.FN, T.XN, T.rx, T.tb⟩ m L H ∧ RelWs K m H as vs ∧
  run ⟨P, w, K, mg, base, T.CN, T.FN, T.XN, T.rx, T.tb⟩ (fun _ _ cls d H' => E cls d H') σ (RelW K) (runD C df as) m H L Q
structure TabOk (T : Tab) (p : Pg) (Tp : Tm) (P : Program) (w : World) (K : PySem.W.Frag) (mg : Str → Option Value) (base : Heap) : Prop where
  tm : tmB p Tp = true
  cn : T.CN = p.cls
  fl : T.FN = p.fld
  xn : T.XN = p.xcs
  rx : T.rx = rxX p K
  ini : ∀ q ∈ p.xinL, IniOk P w K mg base (L2.CX P w) (He.ga K q.1) ⟨q.2.1.toArray⟩ q.2.2
theorem xr_of {d : Nat} {A : Around} (hr : Room (d + 1) A) : ∀ c n, (envD Tp d).xin c n = true → Room 2 A := by
  cases d with
  | zero => intro c n z; cases z
  | succ d => exact fun c n _ => hr.mono (by omega)
/-- a context of depth d -/
theorem okD {X : Cx} {c : Dc} {d : Nat} (hN : X.N = c.N) (hsc : X.env.scope = c.sc) (nd : c.N.Nodup) (calm : X.calm = true) (room : Room (d + 1) X.A) (hp : PgOk p X.K X.w X.mg) (fn : ∀ y ∈ c.asn, locB c.sc y = true → X.fn y = true ∨ c.sc.names.lookup y = some .local) (tmb : TabOk T p Tp X.prog X.w X.K X.mg X.base)
    (ih : ∀ t g, p.tg[t]? = some g → PySem.W.keepIn X.K (.ref (g.at_.ad X.K)) = true ∧ (∀ y, g.at_ = .glo y → X.mg y = some (.ref (g.at_.ad X.K))) ∧ CallableP T (envD Tp d) X.prog X.w X.K X.mg X.base d t (g.at_.ad X.K) g.npos g.kws ∧ CallableQ T ((envD Tp d).callM t) X.prog X.w X.K X.mg X.base d (g.at_.ad X.K) g.npos g.kws)
    (why : c.lam = true → ∀ (Wx : WX) (x : Ex) (e : Expr), whyE p c x e = true → PE X e (tE T (envD Tp d) Wx X (.why x))) : Ok T p (envD Tp d) c X d :=
  ⟨hN, hsc, nd, calm, room, hp, fn, fun t g h => ⟨(ih t g h).1, (ih t g h).2.1, (ih t g h).2.2.1⟩, fun t g h => (ih t g h).2.2.2, cfOk_env tmb.tm d, tmb.cn, tmb.fl, tmb.xn, tmb.rx, tmb.ini, xr_of room, why⟩
theorem fnok_step {d : Nat} {f : Addr} {df : Df} {x qual : Str} {params : Arguments} {body : List Stmt} {scope : Scope} {dvs : List V} {kws : List (Str × V)} {fd : FuncData} {N ps : List Str} (hp : PgOk p K w mg) (F : FunD K x qual params body scope dvs kws f fd) (FS : FnScope N ps scope) (hc : chkSs p ⟨N, scope, N, false⟩ df.body body = true) (hs : df.slots = N.length)
    (tmb : TabOk T p Tp P w K mg base) (ih : ∀ t g, p.tg[t]? = some g → PySem.W.keepIn K (.ref (g.at_.ad K)) = true ∧ (∀ y, g.at_ = .glo y → mg y = some (.ref (g.at_.ad K))) ∧ CallableP T (envD Tp d) P w K mg base d t (g.at_.ad K) g.npos g.kws ∧ CallableQ T ((envD Tp d).callM t) P w K mg base d (g.at_.ad K) g.npos g.kws) :
    FnOk P w K mg base (L2.CX P w) (d + 2) f fd ps (spD T P w K mg base (envD Tp d) df ps.length) := by
  refine F.ok FS (fun vs H Q E h => h.1) fun cdv A outer s H vs Q E hr ⟨hl, m, L, as, σ, S, ra, q⟩ => ?_
  obtain ⟨q1, q2⟩ := runD_ok q
  have O : Ok T p (envD Tp d) ⟨N, scope, N, false⟩ (cxOf (L2.CX P w) P w K mg base N qual scope f cdv A outer s H E) d := okD rfl rfl FS.nd rfl hr hp (fun _ _ _ => .inl rfl) tmb ih fun z => by cases z
  refine ⟨tS T (fun cls d _ H => E cls d H) (cxOf (L2.CX P w) P w K mg base N qual scope f cdv A outer s H E) fun ρ => exSs (envD Tp d) df.body ρ, sndSs O (takes_of rfl rfl rfl rfl) (passes_of rfl) df.body body hc, m, _, L, S, relF_start (n := df.slots) ra hs ?_, body_ok q2⟩
  rw [hl]
  have := congrArg List.length FS.pre
  rw [List.length_take] at this
  omega
/-- the law's own def, that calls _law_why with lambdas -/
structure WhyOk (T : Tab) (p : Pg) (P : Program) (w : World) (K : PySem.W.Frag) (mg : Str → Option Value) (base : Heap) (fA c Pt KE MI NL fl g : Addr) (rows : List (List Str × Str)) (q : Str) : Prop where
  code : ∀ (oc : Value) (od : Option Addr) (fd : FuncData) (osl : Array (Option Value)), K.lookup fA = some ⟨oc, od, .func fd, osl⟩ → (∃ c', fd.code = .ref c') → fd.code = .ref c
  tb : T.tb = [(Pt, q ++ "<lambda>")]
  TB : LamX.TabB base mg c Pt
  h1 : mg "KeptError" = some (.ref KE)
  h2 : mg "Missing" = some (.ref MI)
  h3 : mg "NothingLeft" = some (.ref NL)
  h4 : mg "_law_field" = some (.ref fl)
  h5 : mg "_law_why" = some (.ref g)
  Fk : FldOk P w K mg base fl rows
  wy : ∃ (bg : List Stmt) (sg : Scope) (pg : Arguments) (fd : FuncData), whyB sg bg = true ∧ FunD K "_law_why" "_law_why" pg bg sg [] [] g fd ∧ L2.Binds K fd [("_law_ask" : Str)] [] ∧ FnScope Ng [("_law_ask" : Str)] sg
  xs : ∀ q ∈ p.xinL, XfC K (He.ga K q.1) ∧ PySem.W.findIn K (.ref (He.ga K q.1)) "tag" = some none ∧ (∀ f, q.2.2 = some f → f ≠ ("tag" : Str) ∧ PySem.W.findIn K (.ref (He.ga K q.1)) f = some none) ∧
    ((PySem.W.exmAny K (.ref (He.ga K q.1)) [.ref KE, .ref MI] = some true ∧ fieldOf rows ⟨q.2.1.toArray⟩ = q.2.2) ∨ (PySem.W.exmAny K (.ref (He.ga K q.1)) [.ref KE, .ref MI] = some false ∧ PySem.W.exmOne K (.ref (He.ga K q.1)) (.ref NL) = some true ∧ q.2.2 = none))
/-- THE STEP: a target at one depth more -/
theorem callable_step {d t : Nat} {g : Tg} {f : Addr} (hp : PgOk p K w mg) (D : DefOk T p Tp K t g f) (tmb : TabOk T p Tp P w K mg base) (ih : ∀ t g, p.tg[t]? = some g → PySem.W.keepIn K (.ref (g.at_.ad K)) = true ∧ (∀ y, g.at_ = .glo y → mg y = some (.ref (g.at_.ad K))) ∧ CallableP T (envD Tp d) P w K mg base d t (g.at_.ad K) g.npos g.kws ∧ CallableQ T ((envD Tp d).callM t) P w K mg base d (g.at_.ad K) g.npos g.kws) :
    CallableP T (envD Tp (d + 1)) P w K mg base (d + 1) t f g.npos g.kws := by
  intro A outer s H us ws vs zs Q E m L as σ hr e0 r1 r2 l1 l2 S ra q
  obtain ⟨k, arr, df, x, qual, params, body, scope, dvs, kws, fd, N, ps, h1, h2, F, FS, hc, hs, hb⟩ := D.ex
  rw [envD_call h1 h2] at q
  obtain ⟨full, fullV, rf, lf, bf, rw'⟩ := hb us ws vs zs l1 l2 r1 r2
  have kin : K.In s.heap := fun a o h => (e0.bs _ _ (e0.mod.kin a o h)).1
  exact (fnok_step hp F FS hc hs tmb ih).run A outer s H ⟨us, g.kws.zip ws⟩ full fullV Q E hr e0 (bf s kin) rf ⟨by rw [rf.length, lf], m, L, _, σ, S, rw' m H as ra, q⟩
theorem callable_all (hp : PgOk p K w mg) (tmb : TabOk T p Tp P w K mg base) (hD : ∀ t g, p.tg[t]? = some g → PySem.W.keepIn K (.ref (g.at_.ad K)) = true ∧ (∀ y, g.at_ = .glo y → mg y = some (.ref (g.at_.ad K))) ∧ DefOk T p Tp K t g (g.at_.ad K)) :
    ∀ d t g, p.tg[t]? = some g → PySem.W.keepIn K (.ref (g.at_.ad K)) = true ∧ (∀ y, g.at_ = .glo y → mg y = some (.ref (g.at_.ad K))) ∧ CallableP T (envD Tp d) P w K mg base d t (g.at_.ad K) g.npos g.kws ∧ CallableQ T ((envD Tp d).callM t) P w K mg base d (g.at_.ad K) g.npos g.kws
  | 0, t, g, h => by
    obtain ⟨h1, h2, h3⟩ := hD t g h
    exact ⟨h1, h2, fun A outer s H us ws vs zs Q E m L as σ hr e0 r1 r2 l1 l2 S ra q => False.elim q, fun A outer s H us ws vs zs Q E m L as σ hr e0 r1 r2 l1 l2 S ra q => False.elim q⟩
  | d + 1, t, g, h => by
    obtain ⟨h1, h2, h3⟩ := hD t g h
    exact ⟨h1, h2, callable_step hp h3 tmb (callable_all hp tmb hD d), (callable_all hp tmb hD d t g h).2.2.1⟩
end
end Dx

set_option maxRecDepth 100000
set_option maxHeartbeats 4000000
/-! Dx8w: the law's def, that calls _law_why(lambda: ..). -/
namespace Dx
open PySem PySem.Spec PyProof.Rows L2
theorem noPar_eq {a : Arguments} (h : noPar a = true) : a = ⟨[], [], none, [], [], none, []⟩ := by
  obtain ⟨a1, a2, a3, a4, a5, a6, a7⟩ := a
  simp only [noPar, Bool.and_eq_true, List.isEmpty_iff, Option.isNone_iff_eq_none] at h
  obtain ⟨⟨⟨⟨⟨⟨h1, h2⟩, h3⟩, h4⟩, h5⟩, h6⟩, h7⟩ := h
  subst h1 h2 h3 h4 h5 h6 h7
  rfl
theorem exo_code {X : Cx} {pins : List (Addr × Obj)} {σ : L2.St} {H : Hp} {s : Shared} (I : L2.Inv X pins σ H s) {a C : Addr} {d : Option Addr} {q : Str} (h : H a = some (exo a C d)) (h2 : H a = some (LamX.CodeO a q)) : False := by
  obtain ⟨t1, ho⟩ := exo_at I.hok h
  have k := I.hok a _ h2
  obtain ⟨⟨oc, vs, t, e1, e2, e3⟩, _, _⟩ := k
  rw [ho] at e1
  cases e1
  cases e2
  cases e3
theorem exd_code {X : Cx} {pins : List (Addr × Obj)} {σ : L2.St} {H : Hp} {s : Shared} (I : L2.Inv X pins σ H s) {a : Addr} {fs : List (Str × V)} {q : Str} (h : H a = some (exd a fs)) (h2 : H a = some (LamX.CodeO a q)) : False := by
  obtain ⟨mA, hns, rel⟩ := exd_at I.hok h
  have k := I.hok a _ h2
  obtain ⟨⟨oc, vs, t, e1, e2, e3⟩, _, _⟩ := k
  obtain ⟨o, es, ep, f1, f2, _⟩ := hns
  rw [f1] at e1
  cases e1
  rw [f2] at e2
  cases e2
theorem relO_code {X : Cx} {pins : List (Addr × Obj)} {σ : L2.St} {H : Hp} {s : Shared} (I : L2.Inv X pins σ H s) {g : G} {m : List Addr} {a : Addr} {o : O} {q : Str} (r : RelO g m H a o) (h2 : H a = some (LamX.CodeO a q)) : False := by
  have ne : ∀ u : HO, H a = some u → LamX.CodeO a q = u := fun u e => by rw [h2] at e; exact Option.some.inj e
  unfold LamX.CodeO at ne
  cases o with
  | lst ws => obtain ⟨xs, h, _⟩ := r; cases ne _ h
  | ro ws => obtain ⟨o, xs, h, _⟩ := r; cases ne _ h
  | dct tt kvs =>
    cases tt
    · obtain ⟨qs, h, _⟩ := r; cases ne _ h
    · obtain ⟨qs, h, _⟩ := r; cases ne _ h
  | ins c fs => obtain ⟨dx, qs, h, _⟩ := r; cases ne _ h
  | exi c d =>
    cases d with
    | none => obtain ⟨h, _⟩ := r; exact exo_code I h h2
    | some d => obtain ⟨ad, h1, h, _⟩ := r; exact exo_code I h h2
  | xdc fs => obtain ⟨qs, h, _⟩ := r; exact exd_code I h h2
theorem lookup_tag {f : Str} {v w : V} (h : f ≠ ("tag" : Str)) : List.lookup ("tag" : Str) [(f, v), (("tag" : Str), w)] = some w := by
  have e : (("tag" : Str) == f) = false := by simpa using fun z => h z.symm
  rw [List.lookup_cons, e]
  simp
section
variable {T : Tab} {p : Pg} {Tp : Tm} {P : Program} {w : World} {K : PySem.W.Frag} {mg : Str → Option Value} {base : Heap}
/-- what an exception of the lambda is told as -/
theorem rx_ewhy {X : Cx} {C : Env} {fA cc Pt KE MI NL fl g : Addr} {rows : List (List Str × Str)} {q : Str} (cf : CfOk p C) (Wy : WhyOk T p X.prog X.w X.K X.mg X.base fA cc Pt KE MI NL fl g rows q) {m : List Addr} {H : Hp} {e : W} {cls : Value} {dd : Option Addr} {Q : VK} {L : Hh} {g0 : G} (eK : g0.K = X.K)
    (S : Sim g0 m L H) (r : rxX p X.K m H e cls dd) (h : match whyW C e with
      | some w => ∀ m' H' b, Ext m H m' H' → Sim g0 m' L H' → RelW X.K m' H' w b → Q b H'
      | none => False) : ewhy X.K KE MI NL rows Q cls dd H := by
  obtain ⟨k, ws, x, tg, fo, ad, vs, rfl, hx, hm, hl, rfl, rfl, ha, rw'⟩ := r
  obtain ⟨x1, x2, x3, x4⟩ := Wy.xs _ hm
  have et : C.tag k = tg := cf.tag k x tg fo hx hm
  have h : ∀ m' H' b, Ext m H m' H' → Sim g0 m' L H' → RelW X.K m' H' (.tup [.str (C.tag k), ws.headD .non]) b → Q b H' := h
  rw [et] at h
  -- the answer, for a value v
  have ans : ∀ v, RelW X.K m H (ws.headD .non) v → ∀ H' t, More H H' → H' t = none → Q (.ref t) (L2.upd H' t (.tup [.str (⟨tg.toArray⟩ : Str), v])) := fun v rv H' t mo ht => by
    obtain ⟨e1, S1⟩ := S.same mo
    obtain ⟨e2, S2⟩ := S1.free (u := .tup [.str (⟨tg.toArray⟩ : Str), v]) ht
    exact h m _ _ (e1.trans e2) S2 (.tup upd_same (.cons (.str _) (.cons ((rv.mono e1).mono e2) .nil)))
  refine ⟨_, ad, _, ⟨tg.toArray⟩, rfl, rfl, x1, ?_, fun f v hf => ?_, ha, ?_⟩
  · cases fo with
    | none => rfl
    | some f =>
      obtain ⟨v, rfl⟩ : ∃ v, vs = [v] := List.length_eq_one_iff.mp hl
      exact lookup_tag (x3 f rfl).1
  · cases fo with
    | none =>
      have hf : List.lookup f [(("tag" : Str), V.str (⟨tg.toArray⟩ : Str))] = some v := hf
      rw [List.lookup_cons] at hf
      split at hf
      · rename_i z
        rw [beq_iff_eq.mp z]
        exact x2
      · cases hf
    | some f2 =>
      obtain ⟨v0, rfl⟩ : ∃ v, vs = [v] := List.length_eq_one_iff.mp hl
      have hf : List.lookup f [(f2, v0), (("tag" : Str), V.str (⟨tg.toArray⟩ : Str))] = some v := hf
      rw [List.lookup_cons] at hf
      split at hf
      · rename_i z
        rw [beq_iff_eq.mp z]
        exact (x3 f2 rfl).2
      · rw [List.lookup_cons] at hf
        split at hf
        · rename_i z
          rw [beq_iff_eq.mp z]
          exact x2
        · cases hf
  · rcases x4 with ⟨x4, x5⟩ | ⟨x4, x5, x6⟩
    · refine .inl ⟨x4, ?_⟩
      unfold ansF
      rw [x5]
      cases fo with
      | none =>
        have v0 : vs = [] := List.length_eq_zero_iff.mp hl
        subst v0
        cases rw'
        exact ans .non .non
      | some f =>
        obtain ⟨v, rfl⟩ : ∃ v, vs = [v] := List.length_eq_one_iff.mp hl
        cases rw' with
        | cons r1 r2 =>
          cases r2
          refine ⟨v, ?_, ans v r1⟩
          show List.lookup f [(f, v), _] = _
          simp
    · have x6 : fo = none := x6
      subst x6
      have v0 : vs = [] := List.length_eq_zero_iff.mp hl
      subst v0
      cases rw'
      exact .inr ⟨x4, x5, fun t ht => ans .non .non H t (More.refl H) ht⟩
/-- what _law_why makes of a run -/
def whyM (C : Env) (q : M W) : M W := fun L => match q L with
  | .ok w L1 => .ok (.tup [.str [], w]) L1
  | .exc e L1 => (match whyW C e with
    | some w => .ok w L1
    | none => .bad)
  | .bad => .bad
theorem wp_whyM {C : Env} {q : M W} {L : Hh} {Q : W → Hh → Prop} {E : W → Hh → Prop} : wp (whyM C q) L Q E = wp q L (fun w L1 => Q (.tup [.str [], w]) L1) (fun e L1 => match whyW C e with
    | some w => Q w L1
    | none => False) := by
  unfold wp whyM
  cases q L with
  | ok w L1 => rfl
  | exc e L1 => dsimp only; cases whyW C e <;> rfl
  | bad => rfl
/-- the small reading of _law_why(lambda: ..) gives the hand's -/
theorem why_read {X : Cx} {C : Env} {Wx : WX} {x : Ex} {pins : List (Addr × Obj)} {s : Shared} {σ : L2.St} {H : Hp} {Q : VK} {fA cc Pt KE MI NL fl g : Addr} {rows : List (List Str × Str)} {q : Str} (cf : CfOk p C) (Wy : WhyOk T p X.prog X.w X.K X.mg X.base fA cc Pt KE MI NL fl g rows q) (hrx : T.rx = rxX p X.K)
    (I : L2.Inv X pins σ H s) (h : tE T C Wx X (.why x) σ H Q) : LamX.tLam T.tb (twhy X.K KE MI NL rows) (fun E => tM (T.g X) (fun cls d _ H => E cls d H) (RelW X.K) (fun ρ => C.lamE ρ x)) σ H Q := by
  obtain ⟨m, ρ, L, S, F, r⟩ := h
  refine ⟨fun p hp => (S.tb p hp).tabs, fun H1 eN T1 t0 ht0 Qx k => ?_⟩
  have nn : ∀ {a u}, H a = some u → (∀ ps, u ≠ .tbl ps) → H1 a = some u := fun {a u} e n => eN a u e n
  have eE : Ext m H m H1 := ⟨⟨[], by simp, by simp⟩, fun a xs e => nn e (fun _ z => by cases z), fun a o u e => nn e (fun _ z => by cases z), fun a u e _ n => nn e n, fun a h => h.back fun u e n => nn e n⟩
  have S1 : Sim (T.g X) m L H1 := ⟨S.len, S.nd, fun l a o h1 h2 => (S.ob l a o h1 h2).mono eE.x0 fun u e => nn e (fun ps z => (S.ob l a o h1 h2).noTbl ps (by rw [← z]; exact e)), fun p hp => by
    obtain ⟨n, _⟩ := S.tb p hp
    obtain ⟨ps, h1, h2, h3⟩ := T1 p hp
    refine ⟨n, ps, h1, h2, fun pos cv hc => ?_⟩
    obtain ⟨c, e1, e2⟩ := h3 pos cv hc
    refine ⟨c, e1, e2, fun hm => ?_⟩
    obtain ⟨l, hl⟩ := List.getElem?_of_mem hm
    obtain ⟨o, ho, ro⟩ := S.obj hl
    obtain ⟨u, hu⟩ := ro.there
    have hu1 := nn hu (fun ps z => ro.noTbl ps (by rw [← z]; exact hu))
    rw [e2] at hu1
    exact relO_code I ro (by rw [hu, ← Option.some.inj hu1])⟩
  obtain ⟨e2, S2⟩ := S1.free (u := .tup [.str ("" : Str), .non]) ht0
  have e12 := eE.trans e2
  refine ⟨m, ρ, L, S2, F.mono e12, ?_⟩
  have r : wp (whyM C (C.lamE ρ x)) L (fun a L' => ∀ m' H' b, Ext m H m' H' → Sim (T.g X) m' L' H' → RelW X.K m' H' a b → Q b H') (fun e L' => ∀ m' H' cls d, Ext m H m' H' → Sim (T.g X) m' L' H' → T.rx m' H' e cls d → Wx cls d σ H') := r
  rw [wp_whyM] at r
  refine wp_mono r (fun w L1 r m' H' b e3 S3 rb => ?_) fun e L1 r m' H' cls d e3 S3 rx => ?_
  · refine k b H' fun t ht => ?_
    obtain ⟨e4, S4⟩ := S3.free (u := .tup [.str ("" : Str), b]) ht
    exact r m' _ _ ((e12.trans e3).trans e4) S4 (.tup upd_same (.cons (.str []) (.cons (rb.mono e4) .nil)))
  · have rx : T.rx m' H' e cls d := rx
    rw [hrx] at rx
    refine rx_ewhy cf Wy (g0 := T.g X) rfl S3 rx ?_
    cases hw : whyW C e with
    | none => rw [hw] at r; exact r
    | some w => rw [hw] at r; exact fun m2 H2 b e4 S4 rb => r m2 H2 b ((e12.trans e3).trans e4) S4 rb
theorem why_ok {X : Cx} {c : Dc} {e : Nat} {fA cc Pt KE MI NL fl g : Addr} {rows : List (List Str × Str)} (hN : X.N = c.N) (hsc : X.env.scope = c.sc) (nd : c.N.Nodup) (room : Room (e + 3) X.A) (hp : PgOk p X.K X.w X.mg) (tmb : TabOk T p Tp X.prog X.w X.K X.mg X.base)
    (ih : ∀ t g, p.tg[t]? = some g → PySem.W.keepIn X.K (.ref (g.at_.ad X.K)) = true ∧ (∀ y, g.at_ = .glo y → X.mg y = some (.ref (g.at_.ad X.K))) ∧ CallableP T (envD Tp e) X.prog X.w X.K X.mg X.base e t (g.at_.ad X.K) g.npos g.kws ∧ CallableQ T ((envD Tp e).callM t) X.prog X.w X.K X.mg X.base e (g.at_.ad X.K) g.npos g.kws)
    (Wy : WhyOk T p X.prog X.w X.K X.mg X.base fA cc Pt KE MI NL fl g rows X.env.qual) (hcode : X.env.code = .ref cc) {Wx : WX} {x : Ex} {ex : Expr} (hx : whyE p c x ex = true) : PE X ex (tE T (envD Tp (e + 2)) Wx X (.why x)) := by
  unfold whyE at hx
  split at hx <;> try cases hx
  rename_i y ps params body scope lp pos
  simp only [Bool.and_eq_true, decide_eq_true_eq] at hx
  obtain ⟨⟨⟨⟨h1, h2⟩, h3⟩, h4⟩, h5⟩ := hx
  subst h1
  have hpar := noPar_eq h3
  subst hpar
  have hg : Gl X "_law_why" := by
    unfold glB at h2
    split at h2
    · rename_i q
      show X.env.scope.names.lookup _ = _
      rw [hsc]
      exact q
    · cases h2
  obtain ⟨bg, sg, pg, fd, hb, Fw, hbd, Sg⟩ := Wy.wy
  obtain ⟨oc, od, dV, kV, doc, pm, an, cdv, ct, osl, rfl, lk, hcd, _, _⟩ := Fw.ex
  have L : LamX.LamS X.env.scope scope := LamX.lamS_by (by rw [hsc]; exact h4)
  have hva : Vis sg "_law_ask" := (Sg.par "_law_ask" List.mem_cons_self).elim .inl fun z => .inr (.inl z)
  have hbody : ∀ (A : Around) (outer : List PySem.Env) (s : Shared) (H : Hp) (E : XK) (f c' : Addr), Room (e + 1) (A.deeper (LamX.lamEnv X scope s.heap.objs.size f c')) → PE (LamX.lamCx X A outer s H E scope f c') body (tM (T.g X) (fun cls d _ H => E cls d H) (RelW X.K) (fun ρ => (envD Tp (e + 2)).lamE ρ x)) := fun A outer s H E f c' hr2 => by
    have O2 : Ok T p (envD Tp e) ⟨c.N, scope, [], false⟩ (LamX.lamCx X A outer s H E scope f c') e := okD hN rfl nd rfl hr2 hp (fun y hy => by cases hy) tmb ih (fun z => by cases z)
    exact sndE O2 (takes_of (E := E) rfl rfl rfl rfl) x _ h5
  exact ⟨fun pins s σ H Q I q => (LamX.pe_lamcall (T := T.tb) (TT := twhy X.K KE MI NL rows) (x := "_law_why") (a := "_law_ask") (g := g) (c := cc) (P := Pt) (k := e + 1) (Ng := Ng) (t := fun E => tM (T.g X) (fun cls d _ H => E cls d H) (RelW X.K) (fun ρ => (envD Tp (e + 2)).lamE ρ x))
    hg Wy.h5 Fw.kp lk hcd hbd Sg rfl hva (why_gives hb Wy.h1 Wy.h2 Wy.h3 Wy.h4 Wy.Fk ((L2H.roomH_of room).mono (by omega))) Wy.TB hcode (by rw [Wy.tb]; exact List.mem_cons_self) (fun q hq _ => by rw [Wy.tb] at hq; simp at hq; rw [hq]) room L rfl (fun _ _ _ _ _ => rfl) hbody).run pins s σ H Q I (why_read (cfOk_env tmb.tm _) Wy tmb.rx I q)⟩
/-- the law's def -/
theorem fnok_law {e : Nat} {fA cc Pt KE MI NL fl g : Addr} {rows : List (List Str × Str)} {df : Df} {x qual ql : Str} {params : Arguments} {body : List Stmt} {scope : Scope} {dvs : List V} {kws : List (Str × V)} {fd : FuncData} {N ps : List Str} (hp : PgOk p K w mg) (F : FunD K x qual params body scope dvs kws fA fd) (FS : FnScope N ps scope) (hc : chkSs p ⟨N, scope, N, true⟩ df.body body = true) (hs : df.slots = N.length)
    (tmb : TabOk T p Tp P w K mg base) (ih : ∀ d t g, p.tg[t]? = some g → PySem.W.keepIn K (.ref (g.at_.ad K)) = true ∧ (∀ y, g.at_ = .glo y → mg y = some (.ref (g.at_.ad K))) ∧ CallableP T (envD Tp d) P w K mg base d t (g.at_.ad K) g.npos g.kws ∧ CallableQ T ((envD Tp d).callM t) P w K mg base d (g.at_.ad K) g.npos g.kws)
    (Wy : WhyOk T p P w K mg base fA cc Pt KE MI NL fl g rows ql) (hql : ∀ (L : Addr) (cd : Value), (envOfC qual scope L fA cd).qual = ql) :
    FnOk P w K mg base (L2.CX P w) (e + 4) fA fd ps (spD T P w K mg base (envD Tp (e + 2)) df ps.length) := by
  obtain ⟨oc, od, dV, kV, doc, pm, an, cdv, ct, osl, rfl, lk, hcd, hD, hK⟩ := F.ex
  have ec : cdv = .ref cc := by
    have z := Wy.code _ _ _ _ lk
    obtain ⟨c', e1⟩ := He.codeIn_ref hcd
    exact z ⟨c', e1⟩
  refine fn_of lk hcd FS (fun vs H Q E h => h.1) fun A outer s H vs Q E hr ⟨hl, m, L, as, σ, S, ra, q⟩ => ?_
  obtain ⟨q1, q2⟩ := runD_ok q
  have O : Ok T p (envD Tp (e + 2)) ⟨N, scope, N, true⟩ (cxOf (L2.CX P w) P w K mg base N qual scope fA cdv A outer s H E) (e + 2) := okD rfl rfl FS.nd rfl hr hp (fun _ _ _ => .inl rfl) tmb (ih (e + 2)) fun _ Wx x ex hx =>
    why_ok (X := cxOf (L2.CX P w) P w K mg base N qual scope fA cdv A outer s H E) rfl rfl FS.nd hr hp tmb (ih e) (by
      have z := hql s.heap.objs.size cdv
      show WhyOk T p P w K mg base fA cc Pt KE MI NL fl g rows (envOfC qual scope s.heap.objs.size fA cdv).qual
      rw [z]
      exact Wy) (by show (envOfC qual scope s.heap.objs.size fA cdv).code = _; rw [ec]; rfl) hx
  refine ⟨tS T (fun cls d _ H => E cls d H) (cxOf (L2.CX P w) P w K mg base N qual scope fA cdv A outer s H E) fun ρ => exSs (envD Tp (e + 2)) df.body ρ, sndSs O (takes_of rfl rfl rfl rfl) (passes_of rfl) df.body body hc, m, _, L, S, relF_start (n := df.slots) ra hs ?_, body_ok q2⟩
  rw [hl]
  have := congrArg List.length FS.pre
  rw [List.length_take] at this
  omega
end
end Dx

set_option maxRecDepth 100000
set_option maxHeartbeats 4000000
/-! Dx9: what the head tells; the law. -/
namespace Dx
open PySem PySem.Spec PyProof.Rows L2
section
variable {w : World} {K : PySem.W.Frag} {h : Heap} {mg : Str → Option Value} {p : Pg} {fn : List He5.DefA} {ex : List He.Fa} {pe : PySem.W.Frag → Bool}
theorem find_none {P : Params} {x : Str} : ∀ {l : List DictEntry} {ks : List Str}, l.map He.keyOf = He.keysIn P ks → x ∉ ks → l.find? (·.key.isStr x) = none ∧ l.any (·.refKey) = false
  | [], _, _, _ => ⟨rfl, rfl⟩
  | e :: r, [], h, _ => by cases h
  | e :: r, k :: ks, h, hx => by
    have h1 : He.keyOf e :: r.map He.keyOf = some (k, PyData.keyHash P k) :: He.keysIn P ks := h
    injection h1 with h2 h3
    have ih := find_none h3 (fun z => hx (List.mem_cons_of_mem _ z))
    unfold He.keyOf at h2
    split at h2
    · rename_i y t q
      have h4 := Option.some.inj h2
      obtain ⟨h5, h6⟩ := Prod.mk.inj h4
      have hne : y ≠ x := fun z => hx (by rw [← z, h5]; exact List.mem_cons_self)
      refine ⟨?_, ?_⟩
      · rw [List.find?_cons_of_neg, ih.1]
        rw [q]
        intro z
        exact hne (by simpa [Value.isStr] using z)
      · rw [List.any_cons, ih.2, Bool.or_false]
        unfold DictEntry.refKey
        rw [q]
    · cases h2
theorem ns_none {a : Addr} {ks : List Str} {x : Str} (hd : He.dicW K a = some (He.keysIn w.params ks)) (hx : x ∉ ks) : PySem.W.nsIn K a x = some none := by
  unfold He.dicW at hd
  cases q : K.lookup a with
  | none => rw [q] at hd; cases hd
  | some o =>
    obtain ⟨oc, od, dt, osl⟩ := o
    rw [q] at hd
    cases oc with
    | type c =>
      cases od with
      | none =>
        cases dt with
        | dict es n =>
          have h1 : (match decide (c = "dict") && (osl.isEmpty && !(a == sysModules)) with
            | true => some (es.toList.map He.keyOf)
            | false => none) = some (He.keysIn w.params ks) := hd
          split at h1
          · have h2 := find_none (Option.some.inj h1) hx
            unfold PySem.W.nsIn
            rw [q]
            show (match es.toList.find? (·.key.isStr x) with
              | some e => some (some e.val)
              | none => if es.toList.any (·.refKey) then none else some none) = some none
            rw [h2.1, h2.2]
            rfl
          · cases h1
        | _ => cases hd
      | some b => cases dt <;> cases hd
    | _ => cases od <;> cases dt <;> cases hd
theorem tS_inj {a b : Txt} (h : txS a = txS b) : a = b := by
  have : (txS a).cps.toList = (txS b).cps.toList := by rw [h]
  simpa [txS] using this
theorem lookup_memW {t : Txt} {v : W} : ∀ {l : List (Txt × W)}, l.lookup t = some v → (t, v) ∈ l
  | [], h => by cases h
  | (b, u) :: r, h => by
    have h2 : (match t == b with | true => some u | false => r.lookup t) = some v := h
    cases q : (t == b) with
    | true =>
      rw [q] at h2
      have e : u = v := Option.some.inj h2
      rw [beq_iff_eq.mp q, e]
      exact List.mem_cons_self
    | false =>
      rw [q] at h2
      exact List.mem_cons_of_mem _ (lookup_memW h2)
theorem lookup_noW {t : Txt} : ∀ {l : List (Txt × W)}, l.lookup t = none → txS t ∉ l.map fun r => txS r.1
  | [], _ => by simp
  | (b, u) :: r, h => by
    have h2 : (match t == b with | true => some u | false => r.lookup t) = none := h
    cases q : (t == b) with
    | true => rw [q] at h2; cases h2
    | false =>
      rw [q] at h2
      rw [List.map_cons, List.mem_cons, not_or]
      exact ⟨fun z => by rw [tS_inj z] at q; simp at q, lookup_noW h2⟩
theorem gdOk_of {a : Addr} {kvs : List (Txt × W)} (hd : He.dicW K a = some (He.keysIn w.params (kvs.map fun r => txS r.1))) (hf : (kvs.all fun r => flKV r.2) = true) (hv : He.valsB K a (kvs.map fun r => (txS r.1, dvOf r.2)) = true) : gdOk K w a kvs := by
  obtain ⟨es, n, D⟩ := He.dicW_ok hd
  refine ⟨es, n, D, fun t => ?_⟩
  cases e : kvs.lookup t with
  | none => exact ns_none hd (lookup_noW e)
  | some v =>
    have hm := lookup_memW e
    obtain ⟨u, e1, r1⟩ := He.valsB_ok hv (List.mem_map.mpr ⟨(t, v), hm, rfl⟩)
    exact ⟨u, _, e1, r1, flKV_ok (List.all_eq_true.mp hf _ hm)⟩
theorem pgOk_of (X : K.In h) (G : h.Ns mainGlobals mg) (c : SaysY (p.fa ++ ex) fn p.ts p.ex w K) : PgOk p K w mg := by
  have cd := c.a
  have ce := c.more
  simp only [Pg.ex, Bool.and_eq_true, List.all_eq_true] at ce
  obtain ⟨cx, ce1, ce2, ce3, ce4, ce5, ce6⟩ := ce
  simp only [Pg.xx, Bool.and_eq_true, List.all_eq_true, decide_eq_true_eq] at cx
  obtain ⟨cx1, cx2, cx3⟩ := cx
  simp only [xkitB, List.all_eq_true, List.mem_range] at cx3
  have hglo : ∀ x ∈ p.glos, mg x = some (.ref (He.ga K x)) := fun x hx => He.glo_ok X G (SaysA_facts cd (f := .glo x) (by simp only [Pg.fa, List.mem_append, List.mem_map]; exact .inl (.inr (.inr (.inr (.inl ⟨x, hx, rfl⟩))))))
  refine ⟨fun q hq => ?_, fun q hq => ?_, fun x hx => ?_, fun x hx => ⟨?_, ?_⟩, fun i j x y hi hj => ?_, fun y hy a ha => ?_, fun q hq => ?_, fun q hq => ?_, fun q hq => ?_, fun x hx => ?_, fun q hq => ?_, fun q hq => ?_, fun x hx => ⟨?_, ?_⟩, fun q hq => ?_, fun i j x y hi hj => ?_, fun i x hi s hs => ?_⟩
  · exact He.int_ok X G (SaysA_facts cd (f := .int q.1 q.2) (by simp only [Pg.fa, List.mem_append, List.mem_map]; exact .inl (.inl ⟨q, hq, rfl⟩)))
  · exact He.str_ok X G (SaysA_facts cd (f := .str q.1 (txS q.2)) (by simp only [Pg.fa, List.mem_append, List.mem_map]; exact .inl (.inr (.inl ⟨q, hq, rfl⟩))))
  · exact He.free_ok X G (SaysA_facts cd (f := .free x) (by simp only [Pg.fa, List.mem_append, List.mem_map]; exact .inl (.inr (.inr (.inl ⟨x, hx, rfl⟩)))))
  · exact hglo x (by simp only [Pg.glos, List.mem_append]; exact .inr (.inl hx))
  · have z := ce1 x hx
    simp only [clsXB, Bool.and_eq_true, decide_eq_true_eq] at z
    obtain ⟨z1, z2, ⟨z3, z4⟩, z5⟩ := z
    exact ⟨He.cls_ok (SaysA_facts cd (f := .cls x) (by simp only [Pg.fa, List.mem_append, List.mem_map]; exact .inl (.inr (.inr (.inr (.inr (.inl ⟨x, hx, rfl⟩)))))) ), He.eqO_ok z1, He.eqO_ok z2, z3, z4, He.eqO_ok z5⟩
  · have li : i < p.cls.length := (List.getElem?_eq_some_iff.mp hi).1
    have lj : j < p.cls.length := (List.getElem?_eq_some_iff.mp hj).1
    simp only [kitPB, List.all_eq_true, List.mem_range] at ce2
    have z := ce2 i li j lj
    rw [hi, hj] at z
    exact of_decide_eq_true z
  · exact of_decide_eq_true (ce3 y hy a ha)
  · exact He.noat_ok (SaysA_facts cd (f := .noat q.1 q.2) (by simp only [Pg.fa, List.mem_append, List.mem_map]; exact .inl (.inr (.inr (.inr (.inr (.inr (.inl ⟨q, hq, rfl⟩)))))) ))
  · exact He.meth_ok (SaysA_facts cd (f := .meth q.1 q.2) (by simp only [Pg.fa, List.mem_append, List.mem_map]; exact .inl (.inr (.inr (.inr (.inr (.inr (.inr (.inl ⟨q, hq, rfl⟩))))))) ))
  · have z := ce4 q hq
    simp only [propB, Bool.and_eq_true, decide_eq_true_eq] at z
    obtain ⟨z1, z2, z3, z4⟩ := z
    refine ⟨He.eqO_ok z1, He.eqO_ok z2, z3, ?_⟩
    unfold gtA
    split at z4
    · rename_i g rest e
      rw [e]
      exact ⟨rest, rfl⟩
    · cases z4
  · exact He.mkr_ok (SaysA_facts cd (f := .mkr x) (by simp only [Pg.fa, List.mem_append, List.mem_map]; exact .inl (.inr (.inr (.inr (.inr (.inr (.inr (.inr ⟨x, hx, rfl⟩))))))) ))
  · have z := ce5 q hq
    refine ⟨_, hglo q.1 (by simp only [Pg.glos, List.mem_append, List.mem_map]; exact .inr (.inr (.inl ⟨q, hq, rfl⟩))), ?_⟩
    obtain ⟨i, hi, e⟩ := List.mem_iff_getElem.mp hq
    have e1 : p.gd[i]? = some q := by rw [List.getElem?_eq_getElem hi, e]
    have e2 := c.tab
    have e3 := congrArg (fun l => l[i]?) e2
    simp only [Pg.ts, List.getElem?_map, e1, Option.map_some, Option.some.injEq] at e3
    exact gdOk_of e3 (List.all_eq_true.mpr z.1) z.2
  · refine ⟨_, hglo q.1 (by simp only [Pg.glos, List.mem_append, List.mem_map]; exact .inr (.inr (.inr (.inl ⟨q, hq, rfl⟩)))), fun H => ?_⟩
    have z := He.tupB_ok (ce6 q hq) H
    rw [List.map_map] at z
    exact z
  · exact hglo x (by simp only [Pg.glos, List.mem_append]; exact .inr (.inr (.inr (.inr hx))))
  · exact xcB_ok (cx1 x hx)
  · exact cx2 q hq
  · have li : i < p.xcs.length := (List.getElem?_eq_some_iff.mp hi).1
    have lj : j < p.xcs.length := (List.getElem?_eq_some_iff.mp hj).1
    have z := cx3 i li
    rw [hi] at z
    simp only [Bool.and_eq_true, List.all_eq_true, List.mem_range] at z
    have z := z.1 j lj
    rw [hj] at z
    exact of_decide_eq_true z
  · have li : i < p.xcs.length := (List.getElem?_eq_some_iff.mp hi).1
    have z := cx3 i li
    rw [hi] at z
    simp only [Bool.and_eq_true, List.all_eq_true, decide_eq_true_eq] at z
    exact z.2 s hs
theorem glo_of (X : K.In h) (G : h.Ns mainGlobals mg) (c : He5.SaysA (p.fa ++ ex) fn K) {t : Nat} {g : Tg} (e : p.tg[t]? = some g) (y : Str) (hy : g.at_ = .glo y) : mg y = some (.ref (g.at_.ad K)) := by
  rw [hy]
  exact He.glo_ok X G (SaysA_facts c (f := .glo y) (by simp only [Pg.fa, Pg.glos, List.mem_append, List.mem_map, List.mem_filterMap]; exact .inl (.inr (.inr (.inr (.inl ⟨y, .inl ⟨g, List.mem_of_getElem? e, by rw [hy]⟩, rfl⟩))))))
end
def scB (N ps : List Str) (sc : Scope) : Bool := (match sc.kind with
    | .function => true
    | _ => false) && !sc.isCoroutine && !sc.isGenerator && decide N.Nodup && decide (N.take ps.length = ps) && (ps.all fun x => match sc.names.lookup x with
    | some .local => true
    | some .cell => true
    | _ => false) && (sc.names.all fun y => match y.2 with
    | .free => false
    | _ => true)
theorem scB_ok {N ps : List Str} {sc : Scope} (h : scB N ps sc = true) : FnScope N ps sc := by
  simp only [scB, Bool.and_eq_true, decide_eq_true_eq, Bool.not_eq_true', List.all_eq_true] at h
  obtain ⟨⟨⟨⟨⟨⟨h1, h2⟩, h3⟩, h4⟩, h5⟩, h6⟩, h7⟩ := h
  refine ⟨?_, h2, h3, h4, h5, fun x hx => ?_, fun y hy e => ?_⟩
  · split at h1
    · assumption
    · cases h1
  · have := h6 x hx
    split at this
    · exact .inl (by assumption)
    · exact .inr (by assumption)
    · cases this
  · have := h7 y hy
    rw [e] at this
    cases this
def rowB (p : Pg) (r : Rw) (df : Df) : Bool := scB r.N r.ps r.dd.scope && chkSs p ⟨r.N, r.dd.scope, r.N, false⟩ df.body r.dd.body && decide (df.slots = r.N.length)
theorem defOk_of {T : Tab} {p : Pg} {Tp : Tm} {K : PySem.W.Frag} {fn : List He5.DefA} {fa : List He.Fa} (c : He5.SaysA fa fn K) {t k : Nat} {g : Tg} {arr : List Arg} {df : Df} {r : Rw} (hr : r.dd ∈ fn) (h1 : Tp.tgs[t]? = some (k, arr)) (h2 : Tp.defs[k]? = some df) (hb : rowB p r df = true)
    (hbind : ∀ fd, FunD K r.dd.name r.dd.qual r.dd.params r.dd.body r.dd.scope (r.dd.dvs K) (r.dd.kws K) (r.dd.at_ K) fd → BindK K fd r.ps g.npos g.kws arr) : PySem.W.keepIn K (.ref (r.dd.at_ K)) = true ∧ DefOk T p Tp K t g (r.dd.at_ K) := by
  obtain ⟨fd, F⟩ := SaysA_defs c hr
  simp only [rowB, Bool.and_eq_true, decide_eq_true_eq] at hb
  exact ⟨F.kp, ⟨k, arr, df, _, _, _, _, _, _, _, fd, r.N, r.ps, h1, h2, F, scB_ok hb.1.1, hb.1.2, hb.2, hbind fd F⟩⟩
theorem walk_dx {l : PySem.W.OpenLaw} {n k : Nat} {q : Program} {loose : List Str} {XP : (Str → Option Value) → Heap → Prop} {YP : World → Heap → Prop} {d : DefRec} {CX : World → CXT} {x : Str}
    (hn : l.most = some n) (hn2 : n ≤ sizeLine) (hdf : d.params.defaults = []) (hr : Room k callerA)
    (F : ∀ (w : World) (mg : Str → Option Value) (fa : Addr) (h : Heap), YP w h → h.Ns mainGlobals mg → mg d.name = some (.ref fa) →
      ∃ (K : PySem.W.Frag) (fd : FuncData) (sp : Heap → Sp), K.In h ∧ (∀ (s : Shared) (u : Value), BindsTo s fd ⟨[u], []⟩ [(x, u)]) ∧
        (∀ (b : Heap) (H : Hp) (a : Addr) (ns : List Int), ns.length ≤ n → Only H → SqL K H a (ns.map V.int) → sp b [.ref a] H (fun v _ => v = .bl true) fun _ _ _ => False) ∧
        ∀ base : Heap, K.In base → base.Ns mainGlobals mg → FnOk l.prog w K mg base (CX w) k fa fd [x] (sp base))
    (hCX : ∀ (w : World) (H : Hp) (s : Shared) (e : Value) (s' : Shared), CX w [] H s (fun _ _ _ => False) e s' → False) :
    PySem.W.WalkO q loose XP YP l.row.toRowW d [] (fun f vs => PySem.call f vs) := by
  refine Att.attach_call hn hdf fun w s₀ s₁ mg mb fa o pm cd doc a vs ns G Y ho hd hcd hmg hobj hints hlen hg => ?_
  obtain ⟨K, fd, sp, KX, hb, hsp, hF⟩ := F w mg fa _ Y G.T.g hmg
  exact law_call (sp := fun vs H Q E => ∀ b, sp b vs H Q E) KX G.T.g G.T.b G.T.builtins G.T.nolimit hg hobj hints (Nat.le_trans hlen hn2) hr (fun base h1 h2 => (hF base h1 h2).imp fun vs H Q E h => h base) hb (fun H hO hS b => hsp b H a ns hlen hO hS) fun H e s' => hCX w H s₁ e s'
/-- the law's def keeps the law -/
theorem law_sp {T : Tab} {P : Program} {w : World} {K : PySem.W.Frag} {mg : Str → Option Value} {base : Heap} {C : Env} {df : Df} {H : Hp} {a : Addr} {ns : List Int} (hT : T.tb = []) (hO : Only H) (hS : SqL K H a (ns.map V.int))
    (h : wp (runD C df [.scr (ns.map W.int)]) [] (fun w _ => w = .bl true) fun _ _ => False) : spD T P w K mg base C df 1 [.ref a] H (fun v _ => v = .bl true) fun _ _ _ => False := by
  have hs : Scr K H a (ns.map V.int) := by
    rcases hS with (h | ⟨o, h⟩) | h
    · rcases hO a with z | ⟨o, xs, z⟩
      · rw [h] at z; cases z
      · rw [h] at z; cases z
    · exact .inl ⟨o, h⟩
    · exact .inr h
  have hr : ∀ ns : List Int, RelWs K [] H (ns.map W.int) (ns.map V.int) := fun ns => by
    induction ns with
    | nil => exact .nil
    | cons n ns ih => exact .cons (.int n) ih
  refine ⟨rfl, [], [], [.scr (ns.map W.int)], [], ⟨rfl, List.nodup_nil, fun l a o h1 h2 => by simp at h1, fun q hq => by rw [show (⟨P, w, K, mg, base, T.CN, T.FN, T.XN, T.rx, T.tb⟩ : G).tb = T.tb from rfl, hT] at hq; cases hq⟩, .cons (.scr hs (hr ns)) .nil, ?_⟩
  refine wp_mono h (fun v L' e m' H' b _ _ r => ?_) fun _ _ z => z.elim
  subst e
  cases r
  rfl
theorem hCX_of {P : Program} : ∀ (w : World) (H : Hp) (s : Shared) (e : Value) (s' : Shared), L2.CX P w [] H s (fun _ _ _ => False) e s' → False := fun w H s e s' h => by
  obtain ⟨_, _, _, _, _, _, _, _, _, _, _, _, z⟩ := h
  exact z
end Dx

set_option maxRecDepth 100000
set_option maxHeartbeats 4000000
/-! Dx9w: the end of a law that calls _law_why. -/
namespace Dx
open PySem PySem.Spec PyProof.Rows L2
/-- a tracked list as a frozen one -/
theorem fnok_frz {P : Program} {w : World} {K : PySem.W.Frag} {mg : Str → Option Value} {base : Heap} {k : Nat} {f : Addr} {fd : FuncData} {ps : List Str} {sp : Sp} (F : FnOk P w K mg base (L2.CX P w) k f fd ps sp) :
    FnOk P w K mg base (L2.CX P w) k f fd ps (fun vs H Q E => sp vs H Q E ∨ ∃ a xs, H a = some (.lst xs) ∧ (E = fun _ _ _ => False) ∧ ∀ o, sp vs (upd H a (.frz o (.lst xs))) Q E) := by
  refine ⟨fun vs H Q E h => ?_, fun A outer s H args us vs Q E hr e0 hb r h => ?_⟩
  · rcases h with h | ⟨a, xs, _, _, h⟩
    · exact F.len _ _ _ _ h
    · exact F.len _ _ _ _ (h { cls := .none, data := .plain })
  · rcases h with h | ⟨a, xs, ha, hE, h⟩
    · exact F.run A outer s H args us vs Q E hr e0 hb r h
    · subst hE
      have ho := e0.hok a _ ha
      obtain ⟨z, its, n, rv, ge⟩ := id ho
      have nH : ∀ {b}, H b = none → b ≠ a := fun {b} e q => by rw [q, ha] at e; cases e
      have e1 : Env0 P w K mg base A outer s (upd H a (.frz { cls := .type "list", data := .seq its.toArray n } (.lst xs))) := by
        refine ⟨e0.frames, e0.mod, fun b o e => ⟨(e0.bs b o e).1, ?_⟩, e0.bsz, e0.funs, fun b hb => ?_, fun b o e => ?_, e0.bare⟩
        · rw [upd_ne (nH (e0.bs b o e).2)]; exact (e0.bs b o e).2
        · rw [upd_ne (nH (e0.frf b hb))]; exact e0.frf b hb
        · by_cases hba : b = a
          · subst hba
            rw [upd_same] at e
            cases e
            exact ⟨ge, z, its, n, rv, ge⟩
          · rw [upd_ne hba] at e
            exact (e0.hok b o e).stay (fun _ _ _ q => q) (fun c q => by rw [upd_ne (fun y => by rw [y, ha] at q; cases q)]; exact q) fun c ys q => by rw [upd_ne (fun y => by rw [y, ha] at q; cases q)]; exact q
      refine codeAny_mono (F.run A outer s _ args us vs Q _ hr e1 hb r (h _)) fun r s' hq => ?_
      cases r with
      | error e => exact (nocx hq).elim
      | ok fl =>
        cases fl with
        | next => exact False.elim hq
        | brk => exact False.elim hq
        | cont => exact False.elim hq
        | ret u =>
          obtain ⟨v, H', os, bare, un, hok', r', q⟩ := hq
          refine ⟨v, H', os, bare, ⟨fun b o e n => un.keep b o e (by rw [upd_ne (nH n)]; exact n), fun b o e n => un.slot b o e (by rw [upd_ne (nH n)]; exact n), fun b o e n => un.free b o e (by rw [upd_ne (nH n)]; exact n), un.there,
            fun b ys e => un.tups b ys (by rw [upd_ne (fun y => by rw [y, ha] at e; cases e)]; exact e), fun b o u e => un.frzs b o u (by rw [upd_ne (fun y => by rw [y, ha] at e; cases e)]; exact e), fun b qs e => un.tbls b qs (by rw [upd_ne (fun y => by rw [y, ha] at e; cases e)]; exact e)⟩, hok', r', q⟩
/-- the law's def keeps the law, tables standing -/
theorem law_spT {T : Tab} {P : Program} {w : World} {K : PySem.W.Frag} {mg : Str → Option Value} {base : Heap} {C : Env} {df : Df} {H : Hp} {a : Addr} {ns : List Int} (hT : ∀ q ∈ T.tb, H q.1 = some (.tbl #[])) (hS : SqL K H a (ns.map V.int))
    (h : wp (runD C df [.scr (ns.map W.int)]) [] (fun w _ => w = .bl true) fun _ _ => False) :
    (spD T P w K mg base C df 1 [.ref a] H (fun v _ => v = .bl true) fun _ _ _ => False) ∨ ∃ a' xs, H a' = some (.lst xs) ∧ ((fun _ _ _ => False : XK) = fun _ _ _ => False) ∧ ∀ o, spD T P w K mg base C df 1 [.ref a] (upd H a' (.frz o (.lst xs))) (fun v _ => v = .bl true) fun _ _ _ => False := by
  have hr : ∀ (H : Hp) (ns : List Int), RelWs K [] H (ns.map W.int) (ns.map V.int) := fun H ns => by
    induction ns with
    | nil => exact .nil
    | cons n ns ih => exact .cons (.int n) ih
  have key : ∀ H : Hp, (∀ q ∈ T.tb, H q.1 = some (.tbl #[])) → Scr K H a (ns.map V.int) → spD T P w K mg base C df 1 [.ref a] H (fun v _ => v = .bl true) fun _ _ _ => False := fun H hT hs =>
    ⟨rfl, [], [], [.scr (ns.map W.int)], [], ⟨rfl, List.nodup_nil, fun l a o h1 h2 => by simp at h1, fun q hq => ⟨by simp, #[], hT q hq, True.intro, fun pos cv hc => by
      have z : codeAmong pos [] = some cv := hc
      simp [codeAmong] at z⟩⟩, .cons (.scr hs (hr H ns)) .nil, by
      refine wp_mono h (fun v L' e m' H' b _ _ r => ?_) fun _ _ z => z.elim
      subst e
      cases r
      rfl⟩
  rcases hS with (h1 | ⟨o, h1⟩) | h1
  · refine .inr ⟨a, _, h1, rfl, fun o => key _ (fun q hq => ?_) (.inl ⟨o, upd_same⟩)⟩
    rw [upd_ne (fun y => by have z := hT q hq; rw [y, h1] at z; cases z)]
    exact hT q hq
  · exact .inl (key H hT (.inl ⟨o, h1⟩))
  · exact .inl (key H hT (.inr h1))
/-- an __init__ of an exception that is raised -/
def iniRB (r : Rw) (tg : Txt) (fo : Option Str) : Bool := scB r.ps r.ps r.dd.scope && (iniB r.ps r.dd.scope ⟨tg.toArray⟩ fo r.dd.body && decide (r.ps.length = nI fo + 1))
theorem ini_of {p : Pg} {P : Program} {w : World} {K : PySem.W.Frag} {mg : Str → Option Value} {base : Heap} {fa : List He.Fa} {fn : List He5.DefA} (hp : PgOk p K w mg) (hw : whyXB p K = true) (c : He5.SaysA fa fn K) {x : Str} {tg : Txt} {fo : Option Str} (r : Rw) (hr : r.dd ∈ fn) (hdv : r.dd.dvs K = []) (hkw : r.dd.kws K = [])
    (hq : (x, tg, fo) ∈ p.xinL) (hx : x ∈ p.xcs) (hm : (x, ("__init__" : Str)) ∈ p.methL) (hat : r.dd.at_ K = AtP.ad K (.meth x "__init__")) (hb : iniRB r tg fo = true)
    (hbind : ∀ (kV doc pm : Value) (an : Option Addr) (cdv ct : Value) (us : List Value), us.length = r.ps.length → bindArgs (PySem.W.fnOf r.dd.name r.dd.qual r.dd.params r.dd.body r.dd.scope .none kV doc pm an cdv ct) ⟨us, []⟩ = pure (r.ps.zip us)) :
    IniOk P w K mg base (L2.CX P w) (He.ga K x) ⟨tg.toArray⟩ fo := by
  obtain ⟨fd, F⟩ := SaysA_defs c hr
  simp only [iniRB, Bool.and_eq_true, decide_eq_true_eq] at hb
  obtain ⟨h1, h2, h3⟩ := hb
  have M := hp.meth _ hm
  have e : r.dd.at_ K = He.ma K (He.ga K x) "__init__" := hat
  rw [e, hdv, hkw] at F
  have hw := List.all_eq_true.mp hw _ hq
  simp only [Bool.and_eq_true, decide_eq_true_eq] at hw
  obtain ⟨w1, w2, _⟩ := hw
  exact ⟨_, fd, r.ps, M.at_, beq_iff_eq.mp M.fn, init_fn F (scB_ok h1) h2 (hp.xc x hx).2 w1 (fun f ef => by
    subst ef
    simp only [Bool.and_eq_true, decide_eq_true_eq] at w2
    exact w2.2), F.bindsN hbind, h3⟩
/-- _law_field's row -/
def fldRB (r : Rw) : Bool := match r.ps with
  | [y] => scB [y] [y] r.dd.scope && (parOk r.dd.scope y && rowsB y rowsF r.dd.body)
  | _ => false
theorem fld_of_row {P : Program} {w : World} {K : PySem.W.Frag} {mg : Str → Option Value} {base : Heap} {fa : List He.Fa} {fn : List He5.DefA} (c : He5.SaysA fa fn K) (r : Rw) (hr : r.dd ∈ fn) (hdv : r.dd.dvs K = []) (hkw : r.dd.kws K = []) (hb : fldRB r = true)
    (hbind : ∀ (kV doc pm : Value) (an : Option Addr) (cdv ct : Value) (us : List Value), us.length = r.ps.length → bindArgs (PySem.W.fnOf r.dd.name r.dd.qual r.dd.params r.dd.body r.dd.scope .none kV doc pm an cdv ct) ⟨us, []⟩ = pure (r.ps.zip us)) : FldOk P w K mg base (r.dd.at_ K) rowsF := by
  obtain ⟨fd, F⟩ := SaysA_defs c hr
  rw [hdv, hkw] at F
  unfold fldRB at hb
  split at hb
  · rename_i y e
    simp only [Bool.and_eq_true] at hb
    obtain ⟨h1, h2, h3⟩ := hb
    rw [e] at hbind
    exact fld_ok F (scB_ok h1) h2 h3 (F.bindsN (ps := [y]) hbind)
  · cases hb
/-- _law_why's row -/
def whyRB (r : Rw) : Bool := decide (r.ps = [("_law_ask" : Str)]) && (decide (r.dd.name = ("_law_why" : Str)) && (decide (r.dd.qual = ("_law_why" : Str)) && (scB Ng [("_law_ask" : Str)] r.dd.scope && whyB r.dd.scope r.dd.body)))
theorem why_of_row {K : PySem.W.Frag} {fa : List He.Fa} {fn : List He5.DefA} (c : He5.SaysA fa fn K) (r : Rw) (hr : r.dd ∈ fn) (hdv : r.dd.dvs K = []) (hkw : r.dd.kws K = []) (hb : whyRB r = true)
    (hbind : ∀ (kV doc pm : Value) (an : Option Addr) (cdv ct : Value) (us : List Value), us.length = r.ps.length → bindArgs (PySem.W.fnOf r.dd.name r.dd.qual r.dd.params r.dd.body r.dd.scope .none kV doc pm an cdv ct) ⟨us, []⟩ = pure (r.ps.zip us)) :
    ∃ (bg : List Stmt) (sg : Scope) (pg : Arguments) (fd : FuncData), whyB sg bg = true ∧ FunD K "_law_why" "_law_why" pg bg sg [] [] (r.dd.at_ K) fd ∧ L2.Binds K fd [("_law_ask" : Str)] [] ∧ FnScope Ng [("_law_ask" : Str)] sg := by
  obtain ⟨fd, F⟩ := SaysA_defs c hr
  rw [hdv, hkw] at F
  simp only [whyRB, Bool.and_eq_true, decide_eq_true_eq] at hb
  obtain ⟨h1, h2, h3, h4, h5⟩ := hb
  rw [h2, h3] at F
  rw [h1, h2, h3] at hbind
  exact ⟨_, _, _, fd, h5, F, F.bindsN hbind, scB_ok h4⟩
def rowBL (p : Pg) (r : Rw) (df : Df) : Bool := scB r.N r.ps r.dd.scope && chkSs p ⟨r.N, r.dd.scope, r.N, true⟩ df.body r.dd.body && decide (df.slots = r.N.length)
/-! ### defaults -/
def dvW : He.Dv → W
  | .int i => .int i
  | .bl b => .bl b
  | .str s => .str s.cps.toList
  | _ => .non
def dvOkB : He.Dv → Bool
  | .int _ => true
  | .bl _ => true
  | .str _ => true
  | .non => true
  | _ => false
theorem dvW_ok {K : PySem.W.Frag} {d : He.Dv} (h : dvOkB d = true) (m : List Addr) (H : Hp) : RelW K m H (dvW d) (d.v K) := by
  cases d <;> first | (cases h; done) | skip
  · exact .non
  · exact .bl _
  · exact .int _
  · rename_i s
    obtain ⟨a⟩ := s
    have e : (⟨a⟩ : Str) = ⟨a.toList.toArray⟩ := by simp
    show RelW K m H (.str a.toList) (.str ⟨a⟩)
    rw [e]
    exact .str _
def selV {α : Type} (n : α) (sel : List (Nat ⊕ Nat)) (as ds : List α) : List α := sel.map fun
  | .inl i => as[i]?.getD n
  | .inr j => ds[j]?.getD n
def selA (sel : List (Nat ⊕ Nat)) (dfl : List He.Dv) : List Arg := sel.map fun
  | .inl i => .ix i
  | .inr j => .c (dvW (dfl[j]?.getD .non))
theorem selV_vals {as ds : List V} {us its : List Value} (r : Vals as us) (r2 : Vals ds its) : ∀ sel : List (Nat ⊕ Nat), (sel.all fun
    | .inl i => decide (i < as.length)
    | .inr j => decide (j < ds.length)) = true → Vals (selV V.non sel as ds) (selV Value.none sel us its)
  | [], _ => .nil
  | .inl i :: sel, h => by
    simp only [List.all_cons, Bool.and_eq_true, decide_eq_true_eq] at h
    obtain ⟨u, e1, r1⟩ := r.get (List.getElem?_eq_getElem h.1)
    refine .cons ?_ (selV_vals r r2 sel h.2)
    show L2.RelV (as[i]?.getD V.non) (us[i]?.getD Value.none)
    rw [e1, List.getElem?_eq_getElem h.1]
    exact r1
  | .inr i :: sel, h => by
    simp only [List.all_cons, Bool.and_eq_true, decide_eq_true_eq] at h
    obtain ⟨u, e1, r1⟩ := r2.get (List.getElem?_eq_getElem h.1)
    refine .cons ?_ (selV_vals r r2 sel h.2)
    show L2.RelV (ds[i]?.getD V.non) (its[i]?.getD Value.none)
    rw [e1, List.getElem?_eq_getElem h.1]
    exact r1
theorem selA_rel {K : PySem.W.Frag} {m : List Addr} {H : Hp} {ws : List W} {as : List V} {dfl : List He.Dv} (r : RelWs K m H ws as) (hd : dfl.all dvOkB = true) : ∀ sel : List (Nat ⊕ Nat), (sel.all fun
    | .inl i => decide (i < as.length)
    | .inr j => decide (j < (dfl.map (He.Dv.v K)).length)) = true → RelWs K m H (arrW ws (selA sel dfl)) (selV V.non sel as (dfl.map (He.Dv.v K)))
  | [], _ => .nil
  | .inl i :: sel, h => by
    simp only [List.all_cons, Bool.and_eq_true, decide_eq_true_eq] at h
    have hi2 : i < ws.length := by rw [r.length]; exact h.1
    obtain ⟨v, e1, r1⟩ := r.get (List.getElem?_eq_getElem hi2)
    refine .cons ?_ (selA_rel r hd sel h.2)
    show RelW K m H (ws[i]?.getD W.non) (as[i]?.getD V.non)
    rw [e1, List.getElem?_eq_getElem hi2]
    exact r1
  | .inr i :: sel, h => by
    simp only [List.all_cons, Bool.and_eq_true, decide_eq_true_eq] at h
    have h1 : i < dfl.length := by simpa using h.1
    refine .cons ?_ (selA_rel r hd sel h.2)
    show RelW K m H (dvW (dfl[i]?.getD .non)) ((dfl.map (He.Dv.v K))[i]?.getD V.non)
    rw [List.getElem?_map, List.getElem?_eq_getElem h1]
    exact dvW_ok (List.all_eq_true.mp hd _ (List.getElem_mem h1)) m H
theorem bindK_dfl {K : PySem.W.Frag} {x qual : Str} {params : Arguments} {body : List Stmt} {scope : Scope} {f : Addr} {fd : FuncData} {ps : List Str} {npos : Nat} {kws : List Str} (dfl : List He.Dv) (F : FunD K x qual params body scope (dfl.map (He.Dv.v K)) [] f fd) (hne : dfl ≠ []) (hok : dfl.all dvOkB = true) (sel : List (Nat ⊕ Nat)) (hs : (sel.all fun
    | .inl i => decide (i < npos + kws.length)
    | .inr j => decide (j < dfl.length)) = true) (hl : sel.length = ps.length)
    (h : ∀ (T : Addr) (kV doc pm : Value) (an : Option Addr) (cdv ct : Value) (us ws its : List Value), us.length = npos → ws.length = kws.length → its.length = dfl.length → (∃ k, bindArgs (PySem.W.fnOf x qual params body scope (.ref T) kV doc pm an cdv ct) ⟨us, kws.zip ws⟩ = seqItems? (.ref T) >>= k ∧ k (some its.toArray) = pure (ps.zip (selV Value.none sel (us ++ ws) its))) ∨
      bindArgs (PySem.W.fnOf x qual params body scope (.ref T) kV doc pm an cdv ct) ⟨us, kws.zip ws⟩ = pure (ps.zip (selV Value.none sel (us ++ ws) its))) :
    BindK K fd ps npos kws (selA sel dfl) := by
  intro us ws vs zs l1 l2 r1 r2
  obtain ⟨oc, od, dV, kV, doc, pm, an, cdv, ct, osl, rfl, lk, hcd, hD, hK⟩ := F.ex
  rcases hD with ⟨e, _⟩ | ⟨_, T, o, its, m, rfl, lT, oT, rT⟩
  · exact absurd (List.map_eq_nil_iff.mp e) hne
  · have l3 : its.length = dfl.length := by rw [← rT.length, List.length_map]
    have hlen : (vs ++ zs).length = npos + kws.length := by rw [List.length_append, r1.length, r2.length, l1, l2]
    have hs2 : (sel.all fun
      | .inl i => decide (i < (vs ++ zs).length)
      | .inr j => decide (j < (dfl.map (He.Dv.v K)).length)) = true := by
      rw [hlen, List.length_map]
      exact hs
    refine ⟨selV Value.none sel (us ++ ws) its, selV V.non sel (vs ++ zs) (dfl.map (He.Dv.v K)), selV_vals (r1.append r2) rT sel hs2, by unfold selV; rw [List.length_map, hl], fun s X => BindsTo.of_looks fun M => ?_, fun mm H as r => selA_rel r hok sel hs2⟩
    rcases h T kV doc pm an cdv ct us ws its l1 l2 l3 with ⟨k, e1, e2⟩ | e1
    · rw [e1]
      exact looks_items X lT oT (.of_pure e2)
    · rw [e1]
      exact .of_pure rfl
theorem whyX_of {p : Pg} {K : PySem.W.Frag} {w : World} {mg : Str → Option Value} (hp : PgOk p K w mg) (hx : ∀ q ∈ p.xinL, q.1 ∈ p.xcs) (hw : whyXB p K = true) : ∀ q ∈ p.xinL, XfC K (He.ga K q.1) ∧ PySem.W.findIn K (.ref (He.ga K q.1)) "tag" = some none ∧ (∀ f, q.2.2 = some f → f ≠ ("tag" : Str) ∧ PySem.W.findIn K (.ref (He.ga K q.1)) f = some none) ∧
    ((PySem.W.exmAny K (.ref (He.ga K q.1)) [.ref (He.ga K "KeptError"), .ref (He.ga K "Missing")] = some true ∧ fieldOf rowsF ⟨q.2.1.toArray⟩ = q.2.2) ∨ (PySem.W.exmAny K (.ref (He.ga K q.1)) [.ref (He.ga K "KeptError"), .ref (He.ga K "Missing")] = some false ∧ PySem.W.exmOne K (.ref (He.ga K q.1)) (.ref (He.ga K "NothingLeft")) = some true ∧ q.2.2 = none)) := fun q hq => by
  have T := (hp.xc q.1 (hx q hq)).2.ex
  have h := List.all_eq_true.mp hw _ hq
  simp only [Bool.and_eq_true, Bool.or_eq_true, decide_eq_true_eq] at h
  obtain ⟨w1, w2, w3⟩ := h
  refine ⟨⟨T.hg, T.hk, T.hs, T.hd⟩, w1, fun f ef => ?_, w3⟩
  rw [ef] at w2
  simp only [Bool.and_eq_true, decide_eq_true_eq] at w2
  exact w2
theorem bindK_kwd {K : PySem.W.Frag} {x qual : Str} {params : Arguments} {body : List Stmt} {scope : Scope} {f : Addr} {fd : FuncData} {ps : List Str} {npos : Nat} {kws : List Str} (kwd ms : List (Str × He.Dv)) (F : FunD K x qual params body scope [] (kwd.map fun q => (q.1, q.2.v K)) f fd) (hne : kwd ≠ []) (hsub : ∀ q ∈ ms, q ∈ kwd) (hok : (ms.map (·.2)).all dvOkB = true) (sel : List (Nat ⊕ Nat)) (hs : (sel.all fun
    | .inl i => decide (i < npos + kws.length)
    | .inr j => decide (j < ms.length)) = true) (hl : sel.length = ps.length)
    (h : ∀ (D : Addr) (doc pm : Value) (an : Option Addr) (cdv ct : Value) (us ws mv : List Value), us.length = npos → ws.length = kws.length → mv.length = ms.length →
      KwChain D ((ms.map (·.1)).zip mv) (bindArgs (PySem.W.fnOf x qual params body scope .none (.ref D) doc pm an cdv ct) ⟨us, kws.zip ws⟩) (ps.zip (selV Value.none sel (us ++ ws) mv))) :
    BindK K fd ps npos kws (selA sel (ms.map (·.2))) := by
  intro us ws vs zs l1 l2 r1 r2
  obtain ⟨oc, od, dV, kV, doc, pm, an, cdv, ct, osl, rfl, lk, hcd, hD, hK⟩ := F.ex
  rcases hD with ⟨_, rfl⟩ | ⟨e, _⟩
  · rcases hK with e | ⟨D, rfl, hq⟩
    · exact absurd (List.map_eq_nil_iff.mp e) hne
    · obtain ⟨mv, hlm, rk, hks⟩ := kwd_vals (ms := ms.map fun q => (q.1, q.2.v K)) fun q hm => by
        obtain ⟨z, hz, rfl⟩ := List.mem_map.mp hm
        exact hq _ (List.mem_map.mpr ⟨z, hsub z hz, rfl⟩)
      have rk : Vals ((ms.map (·.2)).map (He.Dv.v K)) mv := by
        rw [List.map_map] at rk ⊢
        exact rk
      have hks : ∀ q ∈ (ms.map (·.1)).zip mv, PySem.W.nsIn K D q.1 = some (some q.2) := by
        have e : (ms.map fun q => (q.1, q.2.v K)).map (·.1) = ms.map (·.1) := by rw [List.map_map]; rfl
        rw [e] at hks
        exact hks
      have hlm : mv.length = ms.length := by rw [hlm, List.length_map]
      have hlen : (vs ++ zs).length = npos + kws.length := by rw [List.length_append, r1.length, r2.length, l1, l2]
      have hs2 : (sel.all fun
        | .inl i => decide (i < (vs ++ zs).length)
        | .inr j => decide (j < ((ms.map (·.2)).map (He.Dv.v K)).length)) = true := by
        rw [hlen, List.length_map, List.length_map]
        exact hs
      refine ⟨selV Value.none sel (us ++ ws) mv, selV V.non sel (vs ++ zs) ((ms.map (·.2)).map (He.Dv.v K)), selV_vals (r1.append r2) rk sel hs2, by unfold selV; rw [List.length_map, hl], fun s X => BindsTo.of_looks fun M => KwChain.looks X hks (h D doc pm an cdv ct us ws mv l1 l2 hlm), fun mm H as r => selA_rel r hok sel hs2⟩
  · exact absurd rfl e
/-- walk: the law's def, its table -/
theorem walk_dxT {l : PySem.W.OpenLaw} {n k : Nat} {q : Program} {loose : List Str} {XP : (Str → Option Value) → Heap → Prop} {YP : World → Heap → Prop} {d : DefRec} {x : Str}
    (hn : l.most = some n) (hn2 : n ≤ sizeLine) (hdf : d.params.defaults = []) (hr : Room k callerA)
    (F : ∀ (w : World) (mg : Str → Option Value) (fa : Addr) (h : Heap), YP w h → h.Ns mainGlobals mg → mg d.name = some (.ref fa) →
      ∃ (K : PySem.W.Frag) (fd : FuncData) (c Pt : Addr) (sp : Heap → Sp), K.In h ∧ h.get? Pt = some { cls := .none, data := .fields #[] } ∧ K.lookup Pt = none ∧ PySem.W.CodeHd h c Pt ∧ (∀ (s : Shared) (u : Value), BindsTo s fd ⟨[u], []⟩ [(x, u)]) ∧
        (∀ (b : Heap) (H : Hp) (a : Addr) (ns : List Int), ns.length ≤ n → H Pt = some (.tbl #[]) → SqL K H a (ns.map V.int) → sp b [.ref a] H (fun v _ => v = .bl true) fun _ _ _ => False) ∧
        ∀ base : Heap, K.In base → base.Ns mainGlobals mg → LamX.TabB base mg c Pt → FnOk l.prog w K mg base (L2.CX l.prog w) k fa fd [x] (sp base)) :
    PySem.W.WalkO q loose XP YP l.row.toRowW d [] (fun f vs => PySem.call f vs) := by
  refine LamX.walk_ofTsE (x := x) (CX := fun w => L2.CX l.prog w) hn hn2 hdf hr (fun w mg fa h Y hns hmg => ?_) hCX_of
  obtain ⟨K, fd, c, Pt, sp, KX, h1, h2, h3, hb, hsp, hF⟩ := F w mg fa h Y hns hmg
  refine ⟨K, KX, fd, [(c, Pt)], fun vs H Q E => ∀ b, sp b vs H Q E, fun p hp => ?_, fun p hp => ?_, fun p hp => ?_, hb, fun H a ns hl _ hH hS b => hsp b H a ns hl (hH _ List.mem_cons_self) hS, fun base b1 b2 b3 => (hF base b1 b2 (b3 _ List.mem_cons_self)).imp fun vs H Q E h => h base⟩
  · simp at hp; rw [hp]; exact h1
  · simp at hp; rw [hp]; exact h2
  · simp at hp; rw [hp]; exact h3
end Dx

set_option maxRecDepth 100000
set_option maxHeartbeats 4000000
/-! Dx10: plain rules of the evaluator; the hand that all laws draw from. -/
namespace Dx
open PySem
section
variable {C : Env} {L : Hh}
/-- nothing but l differs -/
structure Same1 (l : Nat) (L L' : Hh) : Prop where
  len : L'.length = L.length
  ne : ∀ j, j ≠ l → L'[j]? = L[j]?
theorem Same1.refl (l : Nat) (L : Hh) : Same1 l L L := ⟨rfl, fun _ _ => rfl⟩
theorem Same1.trans {l : Nat} {L L1 L2 : Hh} (a : Same1 l L L1) (b : Same1 l L1 L2) : Same1 l L L2 := ⟨b.len.trans a.len, fun j h => (b.ne j h).trans (a.ne j h)⟩
theorem Same1.set {l : Nat} {L L1 : Hh} (a : Same1 l L L1) (o : O) : Same1 l L (L1.set l o) := ⟨by rw [List.length_set, a.len], fun j h => by rw [List.getElem?_set_ne (Ne.symm h)]; exact a.ne j h⟩
theorem get_set {l : Nat} {L : Hh} {o o' : O} (h : L[l]? = some o) : (L.set l o')[l]? = some o' := by
  obtain ⟨q, _⟩ := List.getElem?_eq_some_iff.mp h
  exact List.getElem?_set_self q
theorem get_new {L : Hh} {o : O} : (L ++ [o])[L.length]? = some o := by simp
theorem get_old {L : Hh} {o o' : O} {j : Nat} (h : L[j]? = some o) : (L ++ [o'])[j]? = some o := by
  obtain ⟨q, _⟩ := List.getElem?_eq_some_iff.mp h
  rw [List.getElem?_append_left q]
  exact h
theorem lt_of_get {L : Hh} {j : Nat} {o : O} (h : L[j]? = some o) : j < L.length := (List.getElem?_eq_some_iff.mp h).1
/-- not an object: own methods of operators are not asked -/
theorem clsOf_none {L : Hh} {w : W} (h : ∀ l c fs, w = .ref l → L[l]? ≠ some (.ins c fs)) : clsOf L w = none := by
  cases w with
  | ref l =>
    unfold clsOf
    dsimp only
    cases e : L[l]? with
    | none => rfl
    | some o =>
      cases o with
      | ins c fs => exact absurd e (h l c fs rfl)
      | _ => rfl
  | _ => rfl
/-! ### pieces of a run -/
theorem wp_runD {f : Df} {as : List W} {Q : W → Hh → Prop} {E : W → Hh → Prop} (hl : as.length ≤ f.slots) (h : wp (exSs C f.body (as.map some ++ List.replicate (f.slots - as.length) none)) L (fun r L' => wp (endOf r) L' Q E) E) : wp (runD C f as) L Q E := by
  unfold runD
  rw [if_pos (decide_eq_true hl), wp_bnd]
  exact h
/-! ### rules that rewrite -/
section
variable {ρ : Fr} {Q : W → Hh → Prop} {E : W → Hh → Prop}
@[simp] theorem wp_ite {α : Type} {p : Prop} [Decidable p] {a b : M α} {Q : α → Hh → Prop} : wp (if p then a else b) L Q E = if p then wp a L Q E else wp b L Q E := by by_cases h : p <;> simp [h]
@[simp] theorem wp_var {i : Nat} : wp (evE C ρ (.var i)) L Q E = (match ρ[i]? with
    | some (some w) => Q w L
    | _ => False) := by
  show wp (match ρ[i]? with
    | some (some w) => ret w
    | _ => fail) L Q E = _
  cases ρ[i]? with
  | none => rfl
  | some o => cases o <;> rfl
@[simp] theorem wp_kn : wp (evE C ρ .kn) L Q E = Q .non L := rfl
@[simp] theorem wp_kb {b : Bool} : wp (evE C ρ (.kb b)) L Q E = Q (.bl b) L := rfl
@[simp] theorem wp_ki {i : Int} : wp (evE C ρ (.ki i)) L Q E = Q (.int i) L := rfl
@[simp] theorem wp_ks {x : Txt} : wp (evE C ρ (.ks x)) L Q E = Q (.str x) L := rfl
@[simp] theorem wp_gi {g : Str} {i : Int} : wp (evE C ρ (.gi g i)) L Q E = Q (.int i) L := rfl
@[simp] theorem wp_gs {g : Str} {x : Txt} : wp (evE C ρ (.gs g x)) L Q E = Q (.str x) L := rfl
@[simp] theorem wp_bin {op : BOp} {a b : Ex} : wp (evE C ρ (.bin op a b)) L Q E = wp (evE C ρ a) L (fun x L1 => wp (evE C ρ b) L1 (fun y L2 => wp (binop op x y) L2 Q E) E) E := by simp only [evE, wp_bnd]
@[simp] theorem wp_cmp {op : COp} {a b : Ex} : wp (evE C ρ (.cmp op a b)) L Q E = wp (evE C ρ a) L (fun x L1 => wp (evE C ρ b) L1 (fun y L2 => wp (cmpX C op x y) L2 Q E) E) E := by simp only [evE, wp_bnd]
@[simp] theorem wp_sub {a b : Ex} : wp (evE C ρ (.sub a b)) L Q E = wp (evE C ρ a) L (fun x L1 => wp (evE C ρ b) L1 (fun y L2 => wp (itemAt x y) L2 Q E) E) E := by simp only [evE, wp_bnd]
@[simp] theorem wp_lst {xs : List Ex} : wp (evE C ρ (.lst xs)) L Q E = wp (evEs C ρ xs) L (fun ws L1 => if lenOk ws.length = true then Q (.ref L1.length) (L1 ++ [.lst ws]) else False) E := by
  simp only [evE, wp_bnd, wp_ite, wp_fail]
  rfl
@[simp] theorem wp_tup {xs : List Ex} : wp (evE C ρ (.tup xs)) L Q E = wp (evEs C ρ xs) L (fun ws L1 => if lenOk ws.length = true then Q (.tup ws) L1 else False) E := by
  simp only [evE, wp_bnd, wp_ite, wp_fail, wp_ret]
@[simp] theorem wp_call {t : Nat} {xs ys : List Ex} : wp (evE C ρ (.call t xs ys)) L Q E = wp (evEs C ρ xs) L (fun ws L1 => wp (evEs C ρ ys) L1 (fun zs L2 => wp (C.call t (ws ++ zs)) L2 Q E) E) E := by simp only [evE, wp_bnd]
@[simp] theorem wp_bi {b : Bi} {xs : List Ex} : wp (evE C ρ (.bi b xs)) L Q E = wp (evEs C ρ xs) L (fun ws L1 => wp (callBX C b ws) L1 Q E) E := by simp only [evE, wp_bnd]
@[simp] theorem wp_met {m : Bm} {o : Ex} {xs : List Ex} : wp (evE C ρ (.met m o xs)) L Q E = wp (evE C ρ o) L (fun x L1 => if rcvOk L1 m x = true then wp (evEs C ρ xs) L1 (fun ws L2 => wp (callM m x ws) L2 Q E) E else False) E := by simp only [evE, wp_bnd, wp_gets, wp_ite, wp_fail]
@[simp] theorem wp_ifx {t : Tx} {a b : Ex} : wp (evE C ρ (.ifx t a b)) L Q E = wp (evT C ρ t) L (fun k L1 => if k = true then wp (evE C ρ a) L1 Q E else wp (evE C ρ b) L1 Q E) E := by simp only [evE, wp_bnd, wp_ite]
@[simp] theorem wp_bnot {a : Ex} : wp (evE C ρ (.bnot a)) L Q E = wp (evE C ρ a) L (fun x L1 => wp (truth x) L1 (fun b L2 => Q (.bl (!b)) L2) E) E := by simp only [evE, wp_bnd, wp_ret]
@[simp] theorem wp_band {xs : List Ex} : wp (evE C ρ (.band xs)) L Q E = wp (evAnd C ρ xs) L Q E := by simp only [evE]
@[simp] theorem wp_bor {xs : List Ex} : wp (evE C ρ (.bor xs)) L Q E = wp (evOr C ρ xs) L Q E := by simp only [evE]
@[simp] theorem wp_and1 {x : Ex} : wp (evAnd C ρ [x]) L Q E = wp (evE C ρ x) L Q E := by simp only [evAnd, wp_bnd, List.isEmpty_nil, if_true, wp_ret]
@[simp] theorem wp_and2 {x y : Ex} {xs : List Ex} : wp (evAnd C ρ (x :: y :: xs)) L Q E = wp (evE C ρ x) L (fun w L1 => match w with
    | .bl b => if b = true then wp (evAnd C ρ (y :: xs)) L1 Q E else Q (.bl false) L1
    | _ => False) E := by
  rw [evAnd, wp_bnd]
  congr 1
  funext w L1
  cases w <;> first | rfl | (rename_i b; cases b <;> rfl)
@[simp] theorem wp_or1 {x : Ex} : wp (evOr C ρ [x]) L Q E = wp (evE C ρ x) L Q E := by simp only [evOr, wp_bnd, List.isEmpty_nil, if_true, wp_ret]
@[simp] theorem wp_or2 {x y : Ex} {xs : List Ex} : wp (evOr C ρ (x :: y :: xs)) L Q E = wp (evE C ρ x) L (fun w L1 => match w with
    | .bl b => if b = true then Q (.bl true) L1 else wp (evOr C ρ (y :: xs)) L1 Q E
    | _ => False) E := by
  rw [evOr, wp_bnd]
  congr 1
  funext w L1
  cases w <;> first | rfl | (rename_i b; cases b <;> rfl)
@[simp] theorem wp_chn {o1 o2 : COp} {a b c : Ex} : wp (evE C ρ (.chn o1 o2 a b c)) L Q E = wp (evE C ρ a) L (fun x L1 => wp (evE C ρ b) L1 (fun y L2 => wp (cmpop o1 x y) L2 (fun r L3 => match r with
    | .bl k => if k = true then wp (evE C ρ c) L3 (fun z L4 => wp (cmpop o2 y z) L4 Q E) E else Q (.bl false) L3
    | _ => False) E) E) E := by
  simp only [evE, wp_bnd]
  congr 1; funext x L1; congr 1; funext y L2; congr 1; funext r L3
  cases r <;> first | rfl | (rename_i k; cases k <;> first | rfl | (simp only [wp_bnd]; rfl))
@[simp] theorem wp_es_nil {Q : List W → Hh → Prop} : wp (evEs C ρ []) L Q E = Q [] L := rfl
@[simp] theorem wp_es_cons {x : Ex} {xs : List Ex} {Q : List W → Hh → Prop} : wp (evEs C ρ (x :: xs)) L Q E = wp (evE C ρ x) L (fun w L1 => wp (evEs C ρ xs) L1 (fun ws L2 => Q (w :: ws) L2) E) E := by simp only [evEs, wp_bnd, wp_ret]
@[simp] theorem wp_o_none {Q : Option Int → Hh → Prop} : wp (evO C ρ none) L Q E = Q none L := rfl
@[simp] theorem wp_o_some {x : Ex} {Q : Option Int → Hh → Prop} : wp (evO C ρ (some x)) L Q E = wp (evE C ρ x) L (fun w L1 => match w with
    | .int i => Q (some i) L1
    | _ => False) E := by
  simp only [evO, optI, wp_bnd]
  congr 1; funext w L1
  cases w <;> rfl
@[simp] theorem wp_slc {a : Ex} {lo hi : Option Ex} : wp (evE C ρ (.slc a lo hi)) L Q E = wp (evE C ρ a) L (fun x L1 => wp (evO C ρ lo) L1 (fun l L2 => wp (evO C ρ hi) L2 (fun h L3 => wp (sliceOf x l h) L3 Q E) E) E) E := by simp only [evE, wp_bnd]
@[simp] theorem wp_isi {x : Ex} {c : Cl} : wp (evE C ρ (.isi x c)) L Q E = wp (evE C ρ x) L (fun w L1 => match isKind C.sub L1 w c with
    | some b => Q (.bl b) L1
    | none => False) E := by
  simp only [evE, wp_bnd, wp_gets]
  congr 1; funext w L1
  cases isKind C.sub L1 w c <;> rfl
@[simp] theorem wp_isis {x : Ex} {cs : List Cl} : wp (evE C ρ (.isis x cs)) L Q E = wp (evE C ρ x) L (fun w L1 => if cs ≠ [] ∧ cs.length < 64 then (match anyKind C.sub L1 w cs with
    | some b => Q (.bl b) L1
    | none => False) else False) E := by
  simp only [evE, wp_bnd, wp_gets, wp_ite, wp_fail]
  congr 1; funext w L1
  split
  · cases anyKind C.sub L1 w cs <;> rfl
  · rfl
@[simp] theorem wp_srtset {x : Ex} : wp (evE C ρ (.srtset x)) L Q E = wp (evE C ρ x) L (fun w L1 => wp (sortSet w) L1 Q E) E := by simp only [evE, wp_bnd]
@[simp] theorem wp_neg {x : Ex} : wp (evE C ρ (.neg x)) L Q E = wp (evE C ρ x) L (fun w L1 => match w with
    | .int i => Q (.int (-i)) L1
    | _ => False) E := by
  simp only [evE, wp_bnd]
  congr 1; funext w L1
  cases w <;> rfl
@[simp] theorem wp_fld {o : Ex} {f : Nat} : wp (evE C ρ (.fld o f)) L Q E = wp (evE C ρ o) L (fun x L1 => wp (fldOf C x f) L1 Q E) E := by simp only [evE, wp_bnd]
theorem wp_fldOf {l f c : Nat} {fs : List (Nat × W)} {w : W} (h : L[l]? = some (.ins c fs)) (h1 : C.cf c f = true) (h2 : getFld fs f = some w) : wp (fldOf C (.ref l) f) L Q E = Q w L := by
  show wp (match L[l]? with
    | some (.ins c fs) => if C.cf c f then (match getFld fs f with
      | some w => ret w
      | none => fail) else fail
    | _ => fail) L Q E = _
  rw [h]
  dsimp only
  rw [h1, if_pos rfl, h2]
  rfl
theorem wp_setFld {l f c : Nat} {fs : List (Nat × W)} {w : W} {Q : Unit → Hh → Prop} (h : L[l]? = some (.ins c fs)) (h1 : C.cf c f = true) (h2 : fs.length < 900) : wp (setFld C (.ref l) w f) L Q E = Q () (L.set l (.ins c (putFld f w fs))) := by
  show wp (match L[l]? with
    | some (.ins c fs) => if C.cf c f && decide (fs.length < 900) then put l (.ins c (putFld f w fs)) else fail
    | _ => fail) L Q E = _
  rw [h]
  dsimp only
  rw [h1, if_pos (by simpa using h2)]
  rfl
@[simp] theorem wp_mcall {m : Nat} {o : Ex} {xs ys : List Ex} : wp (evE C ρ (.mcall m o xs ys)) L Q E = wp (evE C ρ o) L (fun x L1 => match (clsOf L1 x).bind fun c => C.mt c m with
    | some t => wp (evEs C ρ xs) L1 (fun ws L2 => wp (evEs C ρ ys) L2 (fun zs L3 => wp (C.call t (x :: (ws ++ zs))) L3 Q E) E) E
    | none => False) E := by
  simp only [evE, wp_bnd, wp_gets]
  congr 1; funext w L1
  cases (clsOf L1 w).bind fun c => C.mt c m with
  | none => rfl
  | some t => simp only [wp_bnd]
@[simp] theorem wp_mk {k : Nat} {xs ys : List Ex} : wp (evE C ρ (.mk k xs ys)) L Q E = wp (evEs C ρ xs) L (fun ws L1 => wp (evEs C ρ ys) L1 (fun zs L2 => wp (makeOf C k (ws ++ zs)) L2 Q E) E) E := by simp only [evE, wp_bnd]
theorem wp_make {k c t : Nat} {as : List W} (h : C.mks k = some (c, t)) : wp (makeOf C k as) L Q E = wp (C.callM t (.ref L.length :: as)) (L ++ [.ins c []]) (fun r L1 => match r with
    | .non => Q (.ref L.length) L1
    | _ => False) E := by
  unfold makeOf
  rw [h]
  simp only [wp_bnd]
  show wp (C.callM t (.ref L.length :: as)) (L ++ [.ins c []]) _ E = _
  congr 1; funext r L1
  cases r <;> rfl
@[simp] theorem wp_prp {o : Ex} {m : Nat} : wp (evE C ρ (.prp o m)) L Q E = wp (evE C ρ o) L (fun x L1 => wp (propOf C x m) L1 Q E) E := by simp only [evE, wp_bnd]
@[simp] theorem wp_fst {ps : List Ex} : wp (evE C ρ (.fst ps)) L Q E = wp (evFs C ρ ps []) L (fun t L1 => Q (.str t) L1) E := by simp only [evE, wp_bnd, wp_ret]
@[simp] theorem wp_fs_nil {acc : Txt} {Q : Txt → Hh → Prop} : wp (evFs C ρ [] acc) L Q E = Q acc L := rfl
@[simp] theorem wp_fs_cons {x : Ex} {xs : List Ex} {acc : Txt} {Q : Txt → Hh → Prop} : wp (evFs C ρ (x :: xs) acc) L Q E = wp (evE C ρ x) L (fun w L1 => match fmtW w with
    | some y => if lenOk (acc.length + y.length) = true then wp (evFs C ρ xs (acc ++ y)) L1 Q E else False
    | none => False) E := by
  simp only [evFs, wp_bnd]
  congr 1; funext w L1
  cases fmtW w <;> first | rfl | simp only [wp_ite, wp_fail]
@[simp] theorem wp_dnew {tt : Bool} : wp (evE C ρ (.dnew tt)) L Q E = Q (.ref L.length) (L ++ [.dct tt []]) := by simp only [evE]; rfl
@[simp] theorem wp_dsp {ps : List Ex} : wp (evE C ρ (.dsp ps)) L Q E = wp (evPs C ρ ps) L (fun kvs L1 => if kvs.length ≤ 15 then Q (.ref L1.length) (L1 ++ [.dct false (kvs.foldl (fun acc p => dPut acc p.1 p.2) [])]) else False) E := by
  simp only [evE, wp_bnd, wp_ite, wp_fail, decide_eq_true_eq]
  rfl
@[simp] theorem wp_ps_nil {Q : List (Ky × W) → Hh → Prop} : wp (evPs C ρ []) L Q E = Q [] L := rfl
@[simp] theorem wp_ps_cons {k v : Ex} {r : List Ex} {Q : List (Ky × W) → Hh → Prop} : wp (evPs C ρ (k :: v :: r)) L Q E = wp (evE C ρ k) L (fun kw L1 => wp (evE C ρ v) L1 (fun vw L2 => wp (evPs C ρ r) L2 (fun ps L3 => match keyFit false kw with
    | some ky => Q ((ky, vw) :: ps) L3
    | none => False) E) E) E := by
  simp only [evPs, wp_bnd]
  congr 1; funext kw L1; congr 1; funext vw L2; congr 1; funext ps L3
  cases keyFit false kw <;> rfl
@[simp] theorem wp_dgetd {o k x : Ex} : wp (evE C ρ (.dgetd o k x)) L Q E = wp (evE C ρ o) L (fun d L1 => if (dctAt L1 d).isSome = true then wp (evE C ρ k) L1 (fun kv L2 => wp (evE C ρ x) L2 (fun xv L3 => wp (getD d kv xv) L3 Q E) E) E else False) E := by
  simp only [evE, wp_bnd, wp_gets, wp_ite, wp_fail]
@[simp] theorem wp_getD {o k x : W} : wp (getD o k x) L Q E = (match dctAt L o with
    | some (tt, kvs) => (match keyFit tt k with
      | some k => Q ((dGet kvs k).getD x) L
      | none => False)
    | none => False) := by
  show wp (match dctAt L o with
    | some (tt, kvs) => (match keyFit tt k with
      | some k => ret ((dGet kvs k).getD x)
      | none => fail)
    | none => fail) L Q E = _
  cases dctAt L o with
  | none => rfl
  | some p =>
    obtain ⟨tt, kvs⟩ := p
    dsimp only
    cases keyFit tt k <;> rfl
@[simp] theorem wp_kin {ng : Bool} {x : Ex} {g : Str} {ks : List Txt} : wp (evE C ρ (.kin ng x g ks)) L Q E = wp (evE C ρ x) L (fun w L1 => match w with
    | .str t => Q (.bl (if ng = true then !decide (t ∈ ks) else decide (t ∈ ks))) L1
    | _ => False) E := by
  simp only [evE, wp_bnd]
  congr 1; funext w L1
  cases w <;> rfl
@[simp] theorem wp_kget {x : Ex} {g : Str} {kvs : List (Txt × W)} : wp (evE C ρ (.kget x g kvs)) L Q E = wp (evE C ρ x) L (fun w L1 => match w with
    | .str t => (match kvs.lookup t with
      | some v => Q v L1
      | none => False)
    | _ => False) E := by
  simp only [evE, wp_bnd]
  congr 1; funext w L1
  cases w <;> try rfl
  rename_i t
  dsimp only
  cases kvs.lookup t <;> rfl
@[simp] theorem wp_rev {x : Ex} : wp (evE C ρ (.rev x)) L Q E = wp (evE C ρ x) L (fun w L1 => wp (revOf w) L1 Q E) E := by simp only [evE, wp_bnd]
/-! tests -/
@[simp] theorem wp_tval {x : Ex} {Q : Bool → Hh → Prop} : wp (evT C ρ (.val x)) L Q E = wp (evE C ρ x) L (fun w L1 => wp (truth w) L1 Q E) E := by simp only [evT, wp_bnd]
@[simp] theorem wp_tbv {x : Ex} {Q : Bool → Hh → Prop} : wp (evT C ρ (.bv x)) L Q E = wp (evE C ρ x) L (fun w L1 => match w with
    | .bl b => Q b L1
    | _ => False) E := by
  simp only [evT, wp_bnd]
  congr 1; funext w L1
  cases w <;> rfl
@[simp] theorem wp_tnt {t : Tx} {Q : Bool → Hh → Prop} : wp (evT C ρ (.nt t)) L Q E = wp (evT C ρ t) L (fun b L1 => Q (!b) L1) E := by simp only [evT, wp_bnd, wp_ret]
@[simp] theorem wp_tall {ts : List Tx} {Q : Bool → Hh → Prop} : wp (evT C ρ (.all ts)) L Q E = wp (tsAnd C ρ ts) L Q E := by simp only [evT]
@[simp] theorem wp_tany {ts : List Tx} {Q : Bool → Hh → Prop} : wp (evT C ρ (.any ts)) L Q E = wp (tsOr C ρ ts) L Q E := by simp only [evT]
@[simp] theorem wp_ta_nil {Q : Bool → Hh → Prop} : wp (tsAnd C ρ []) L Q E = Q true L := rfl
@[simp] theorem wp_ta_cons {t : Tx} {ts : List Tx} {Q : Bool → Hh → Prop} : wp (tsAnd C ρ (t :: ts)) L Q E = wp (evT C ρ t) L (fun b L1 => if b = true then wp (tsAnd C ρ ts) L1 Q E else Q false L1) E := by simp only [tsAnd, wp_bnd, wp_ite, wp_ret]
@[simp] theorem wp_to_nil {Q : Bool → Hh → Prop} : wp (tsOr C ρ []) L Q E = Q false L := rfl
@[simp] theorem wp_to_cons {t : Tx} {ts : List Tx} {Q : Bool → Hh → Prop} : wp (tsOr C ρ (t :: ts)) L Q E = wp (evT C ρ t) L (fun b L1 => if b = true then Q true L1 else wp (tsOr C ρ ts) L1 Q E) E := by simp only [tsOr, wp_bnd, wp_ite, wp_ret]
/-! operations -/
@[simp] theorem wp_addI {i j : Int} : wp (binop .add (.int i) (.int j)) L Q E = Q (.int (i + j)) L := rfl
@[simp] theorem wp_subI {i j : Int} : wp (binop .sub (.int i) (.int j)) L Q E = Q (.int (i - j)) L := rfl
@[simp] theorem wp_mulI {i j : Int} : wp (binop .mul (.int i) (.int j)) L Q E = if (smallI i || smallI j) = true then Q (.int (i * j)) L else False := by
  show wp (if (smallI i || smallI j) = true then ret (.int (i * j)) else fail) L Q E = _
  simp only [wp_ite, wp_ret, wp_fail]
@[simp] theorem wp_modI {i j : Int} : wp (binop .mod (.int i) (.int j)) L Q E = if 0 < j then Q (.int (i % j)) L else False := by
  show wp (if decide (0 < j) = true then ret (.int (i % j)) else fail) L Q E = _
  simp only [wp_ite, wp_ret, wp_fail, decide_eq_true_eq]
@[simp] theorem wp_fdivI {i j : Int} : wp (binop .fdiv (.int i) (.int j)) L Q E = if 0 < j ∧ j < 1073741824 then Q (.int (i / j)) L else False := by
  show wp (if (decide (0 < j) && decide (j < 1073741824)) = true then ret (.int (i / j)) else fail) L Q E = _
  simp only [wp_ite, wp_ret, wp_fail, decide_eq_true_eq, Bool.and_eq_true]
@[simp] theorem wp_powI {i j : Int} : wp (binop .pow (.int i) (.int j)) L Q E = if (0 ≤ j ∧ j ≤ 1000000) ∧ i.natAbs < 18446744073709551616 then Q (.int (i ^ j.toNat)) L else False := by
  show wp (if (decide (0 ≤ j) && decide (j ≤ 1000000) && decide (i.natAbs < 2 ^ 64)) = true then ret (.int (i ^ j.toNat)) else fail) L Q E = _
  simp only [wp_ite, wp_ret, wp_fail, decide_eq_true_eq, Bool.and_eq_true]
@[simp] theorem wp_addS {x y : Txt} : wp (binop .add (.str x) (.str y)) L Q E = if lenOk (x.length + y.length) = true then Q (.str (x ++ y)) L else False := by
  show wp (if lenOk (x.length + y.length) = true then ret (.str (x ++ y)) else fail) L Q E = _
  simp only [wp_ite, wp_ret, wp_fail]
@[simp] theorem wp_addL {a b : Nat} : wp (binop .add (.ref a) (.ref b)) L Q E = (match L[a]?, L[b]? with
    | some (.lst x), some (.lst y) => if lenOk (x.length + y.length) = true then Q (.ref L.length) (L ++ [.lst (x ++ y)]) else False
    | _, _ => False) := by
  show wp (match L[a]?, L[b]? with
    | some (.lst x), some (.lst y) => if lenOk (x.length + y.length) then alloc (.lst (x ++ y)) else fail
    | _, _ => fail) L Q E = _
  split
  · simp only [wp_ite, wp_fail]; rfl
  · rfl
@[simp] theorem clsOf_int {i : Int} : clsOf L (.int i) = none := rfl
@[simp] theorem clsOf_bl {b : Bool} : clsOf L (.bl b) = none := rfl
@[simp] theorem clsOf_str {t : Txt} : clsOf L (.str t) = none := rfl
@[simp] theorem clsOf_tup {ws : List W} : clsOf L (.tup ws) = none := rfl
@[simp] theorem clsOf_non : clsOf L .non = none := rfl
@[simp] theorem clsOf_ref {l : Nat} : clsOf L (.ref l) = (match L[l]? with
    | some (.ins c _) => some c
    | _ => none) := rfl
section
variable {x y : W}
@[simp] theorem wpX_lt : wp (cmpX C .lt x y) L Q E = wp (cmpop .lt x y) L Q E := rfl
@[simp] theorem wpX_le : wp (cmpX C .le x y) L Q E = wp (cmpop .le x y) L Q E := rfl
@[simp] theorem wpX_gt : wp (cmpX C .gt x y) L Q E = wp (cmpop .gt x y) L Q E := rfl
@[simp] theorem wpX_ge : wp (cmpX C .ge x y) L Q E = wp (cmpop .ge x y) L Q E := rfl
@[simp] theorem wpX_is : wp (cmpX C .is x y) L Q E = wp (cmpop .is x y) L Q E := rfl
@[simp] theorem wpX_isn : wp (cmpX C .isn x y) L Q E = wp (cmpop .isn x y) L Q E := rfl
@[simp] theorem wpX_eq : wp (cmpX C .eq x y) L Q E = if (clsOf L x).isSome = true then (if sndOk C L x y = true then wp (blM id (callDu C 3 x [y])) L Q E else False) else wp (cmpop .eq x y) L Q E := by
  show wp (if (clsOf L x).isSome = true then (if sndOk C L x y = true then blM id (callDu C 3 x [y]) else fail) else cmpop .eq x y) L Q E = _
  rw [wp_ite, wp_ite]
  rfl
@[simp] theorem wpX_ne : wp (cmpX C .ne x y) L Q E = if (clsOf L x).isSome = true then (if sndOk C L x y = true then wp (blM not (callDu C 3 x [y])) L Q E else False) else wp (cmpop .ne x y) L Q E := by
  show wp (if (clsOf L x).isSome = true then (if sndOk C L x y = true then blM not (callDu C 3 x [y]) else fail) else cmpop .ne x y) L Q E = _
  rw [wp_ite, wp_ite]
  rfl
@[simp] theorem wpX_inn : wp (cmpX C .inn x y) L Q E = if (clsOf L y).isSome = true then wp (blM id (callDu C 2 y [x])) L Q E else wp (cmpop .inn x y) L Q E := by
  show wp (if (clsOf L y).isSome = true then blM id (callDu C 2 y [x]) else cmpop .inn x y) L Q E = _
  rw [wp_ite]
@[simp] theorem wpX_nin : wp (cmpX C .nin x y) L Q E = if (clsOf L y).isSome = true then wp (blM not (callDu C 2 y [x])) L Q E else wp (cmpop .nin x y) L Q E := by
  show wp (if (clsOf L y).isSome = true then blM not (callDu C 2 y [x]) else cmpop .nin x y) L Q E = _
  rw [wp_ite]
theorem wp_blM {f : Bool → Bool} {m : M W} : wp (blM f m) L Q E = wp m L (fun r L' => match r with
    | .bl b => Q (.bl (f b)) L'
    | _ => False) E := by
  unfold blM
  rw [wp_bnd]
  congr 1; funext r L'
  cases r <;> rfl
theorem wp_lenM {m : M W} : wp (lenM m) L Q E = wp m L (fun r L' => match r with
    | .int n => if 0 ≤ n ∧ n < 2 ^ 63 then Q (.int n) L' else False
    | _ => False) E := by
  unfold lenM
  rw [wp_bnd]
  congr 1; funext r L'
  cases r <;> first | rfl | simp only [wp_ite, wp_ret, wp_fail, Bool.and_eq_true, decide_eq_true_eq]
theorem wp_strM {m : M W} : wp (strM m) L Q E = wp m L (fun r L' => match r with
    | .str t => Q (.str t) L'
    | _ => False) E := by
  unfold strM
  rw [wp_bnd]
  congr 1; funext r L'
  cases r <;> rfl
theorem wp_callDu {i c t : Nat} {o : W} {as : List W} (h : clsOf L o = some c) (h2 : C.du c i = some t) : wp (callDu C i o as) L Q E = wp (C.callM t (o :: as)) L Q (fun _ _ => False) := by
  show wp (match (clsOf L o).bind fun c => C.du c i with
    | some t => noX (C.callM t (o :: as))
    | none => fail) L Q E = _
  rw [h]
  show wp (match C.du c i with
    | some t => noX (C.callM t (o :: as))
    | none => fail) L Q E = _
  rw [h2]
  dsimp only
  rw [wp_noX]
theorem wp_propOf {c m t : Nat} {o : W} (h : clsOf L o = some c) (h2 : C.pt c m = some t) : wp (propOf C o m) L Q E = wp (C.callM t [o]) L Q (fun _ _ => False) := by
  show wp (match (clsOf L o).bind fun c => C.pt c m with
    | some t => noX (C.callM t [o])
    | none => fail) L Q E = _
  rw [h]
  show wp (match C.pt c m with
    | some t => noX (C.callM t [o])
    | none => fail) L Q E = _
  rw [h2]
  dsimp only
  rw [wp_noX]
@[simp] theorem wpX_len : wp (callBX C .len [x]) L Q E = if (clsOf L x).isSome = true then wp (lenM (callDu C 0 x [])) L Q E else wp (callB .len [x]) L Q E := by
  show wp (if (clsOf L x).isSome = true then lenM (callDu C 0 x []) else callB .len [x]) L Q E = _
  rw [wp_ite]
@[simp] theorem wpX_repr : wp (callBX C .reprf [x]) L Q E = if (clsOf L x).isSome = true then wp (strM (callDu C 1 x [])) L Q E else wp (callB .reprf [x]) L Q E := by
  show wp (if (clsOf L x).isSome = true then strM (callDu C 1 x []) else callB .reprf [x]) L Q E = _
  rw [wp_ite]
@[simp] theorem callBX_int {ws : List W} : callBX C .intf ws = callB .intf ws := by unfold callBX; rfl
@[simp] theorem callBX_all {ws : List W} : callBX C .allf ws = callB .allf ws := by unfold callBX; rfl
@[simp] theorem callBX_any {ws : List W} : callBX C .anyf ws = callB .anyf ws := by unfold callBX; rfl
@[simp] theorem callBX_sorted {ws : List W} : callBX C .sortedf ws = callB .sortedf ws := by unfold callBX; rfl
@[simp] theorem callBX_list {ws : List W} : callBX C .listf ws = callB .listf ws := by unfold callBX; rfl
@[simp] theorem callBX_tuple {ws : List W} : callBX C .tuplef ws = callB .tuplef ws := by unfold callBX; rfl
@[simp] theorem callBX_str {ws : List W} : callBX C .strf ws = callB .strf ws := by unfold callBX; rfl
@[simp] theorem callBX_min {ws : List W} : callBX C .minf ws = callB .minf ws := by unfold callBX; rfl
@[simp] theorem callBX_max {ws : List W} : callBX C .maxf ws = callB .maxf ws := by unfold callBX; rfl
@[simp] theorem callBX_abs {ws : List W} : callBX C .absf ws = callB .absf ws := by unfold callBX; rfl
end
@[simp] theorem wp_lt {i j : Int} : wp (cmpop .lt (.int i) (.int j)) L Q E = Q (.bl (decide (i < j))) L := rfl
@[simp] theorem wp_le {i j : Int} : wp (cmpop .le (.int i) (.int j)) L Q E = Q (.bl (decide (i ≤ j))) L := rfl
@[simp] theorem wp_gt {i j : Int} : wp (cmpop .gt (.int i) (.int j)) L Q E = Q (.bl (decide (j < i))) L := rfl
@[simp] theorem wp_ge {i j : Int} : wp (cmpop .ge (.int i) (.int j)) L Q E = Q (.bl (decide (j ≤ i))) L := rfl
@[simp] theorem wp_isN {x : W} : wp (cmpop .is x .non) L Q E = Q (.bl (isNone x)) L := by cases x <;> rfl
@[simp] theorem wp_isnN {x : W} : wp (cmpop .isn x .non) L Q E = Q (.bl (!isNone x)) L := by cases x <;> rfl
theorem wp_eq {x y : W} : wp (cmpop .eq x y) L Q E = (match asData L 64 x, asData L 64 y with
    | some d, some e => if (SeqAt.shaped d && SeqAt.shaped e) = true then Q (.bl (PyData.eqv d e)) L else False
    | _, _ => False) := by
  have : cmpop .eq x y = bnd (eqop x y) fun b => ret (.bl b) := by cases x <;> cases y <;> rfl
  rw [this, wp_bnd]
  show wp (match asData L 64 x, asData L 64 y with
    | some d, some e => if SeqAt.shaped d && SeqAt.shaped e then ret (PyData.eqv d e) else fail
    | _, _ => fail) L _ E = _
  split
  · simp only [wp_ite, wp_ret, wp_fail]
  · rfl
theorem wp_neq {x y : W} : wp (cmpop .ne x y) L Q E = (match asData L 64 x, asData L 64 y with
    | some d, some e => if (SeqAt.shaped d && SeqAt.shaped e) = true then Q (.bl (!PyData.eqv d e)) L else False
    | _, _ => False) := by
  have : cmpop .ne x y = bnd (eqop x y) fun b => ret (.bl (!b)) := by cases x <;> cases y <;> rfl
  rw [this, wp_bnd]
  show wp (match asData L 64 x, asData L 64 y with
    | some d, some e => if SeqAt.shaped d && SeqAt.shaped e then ret (PyData.eqv d e) else fail
    | _, _ => fail) L _ E = _
  split
  · simp only [wp_ite, wp_ret, wp_fail]
  · rfl
@[simp] theorem wp_itemL {l : Nat} {i : Int} : wp (itemAt (.ref l) (.int i)) L Q E = (match L[l]? with
    | some (.lst ws) => (match L2.atI ws i with
      | some w => Q w L
      | none => False)
    | some (.ro ws) => (match L2.atI ws i with
      | some w => Q w L
      | none => False)
    | some (.dct tt kvs) => (match keyFit tt (.int i) with
      | some k => (match dGet kvs k with
        | some w => Q w L
        | none => False)
      | none => False)
    | _ => False) := by
  show wp (match L[l]? with
    | some (.lst ws) => (match L2.atI ws i with | some w => ret w | none => fail)
    | some (.ro ws) => (match L2.atI ws i with | some w => ret w | none => fail)
    | some (.dct tt kvs) => (match keyFit tt (.int i) with
      | some k => (match dGet kvs k with | some w => ret w | none => fail)
      | none => fail)
    | _ => fail) L Q E = _
  cases L[l]? with
  | none => rfl
  | some o =>
    cases o with
    | lst ws => dsimp only; cases L2.atI ws i <;> rfl
    | ro ws => dsimp only; cases L2.atI ws i <;> rfl
    | dct tt kvs =>
      dsimp only
      cases keyFit tt (.int i) with
      | none => rfl
      | some k => dsimp only; cases dGet kvs k <;> rfl
    | _ => rfl
theorem wp_itemD {l : Nat} {tt : Bool} {kvs : List (Ky × W)} {i : W} (h : L[l]? = some (.dct tt kvs)) : wp (itemAt (.ref l) i) L Q E = (match keyFit tt i with
      | some k => (match dGet kvs k with
        | some w => Q w L
        | none => False)
      | none => False) := by
  show wp (match L[l]? with
    | some (.lst ws) => (match i with
      | .int i => (match L2.atI ws i with | some w => ret w | none => fail)
      | _ => fail)
    | some (.ro ws) => (match i with
      | .int i => (match L2.atI ws i with | some w => ret w | none => fail)
      | _ => fail)
    | some (.dct tt kvs) => (match keyFit tt i with
      | some k => (match dGet kvs k with | some w => ret w | none => fail)
      | none => fail)
    | _ => fail) L Q E = _
  rw [h]
  dsimp only
  cases keyFit tt i with
  | none => rfl
  | some k => dsimp only; cases dGet kvs k <;> rfl
@[simp] theorem wp_itemT {ws : List W} {i : Int} : wp (itemAt (.tup ws) (.int i)) L Q E = (match L2.atI ws i with
    | some w => Q w L
    | none => False) := by
  show wp (match L2.atI ws i with | some w => ret w | none => fail) L Q E = _
  cases L2.atI ws i <;> rfl
@[simp] theorem wp_itemS {t : Txt} {i : Int} : wp (itemAt (.str t) (.int i)) L Q E = if lenOk t.length = true then (match L2.atI t i with
    | some c => Q (.str [c]) L
    | none => False) else False := by
  show wp (if lenOk t.length then (match L2.atI t i with | some c => ret (.str [c]) | none => fail) else fail) L Q E = _
  simp only [wp_ite, wp_fail]
  split
  · cases L2.atI t i <;> rfl
  · rfl
@[simp] theorem wp_trb {b : Bool} {Q : Bool → Hh → Prop} : wp (truth (.bl b)) L Q E = Q b L := rfl
@[simp] theorem wp_tri {i : Int} {Q : Bool → Hh → Prop} : wp (truth (.int i)) L Q E = Q (i != 0) L := rfl
@[simp] theorem wp_lenL {l : Nat} : wp (callB .len [.ref l]) L Q E = (match itemsOf L (.ref l) with
    | some ws => Q (.int ws.length) L
    | none => False) := by
  show wp (match itemsOf L (.ref l) with
    | some ws => ret (.int ws.length)
    | none => fail) L Q E = _
  cases itemsOf L (.ref l) <;> rfl
@[simp] theorem wp_lenT {ws : List W} : wp (callB .len [.tup ws]) L Q E = Q (.int ws.length) L := rfl
@[simp] theorem wp_lenS {x : Txt} : wp (callB .len [.str x]) L Q E = if lenOk x.length = true then Q (.int x.length) L else False := by
  show wp (if lenOk x.length then ret (.int x.length) else fail) L Q E = _
  simp only [wp_ite, wp_ret, wp_fail]
@[simp] theorem wp_intI {i : Int} : wp (callB .intf [.int i]) L Q E = Q (.int i) L := rfl
theorem itemsOf_lst {l : Nat} {ws : List W} (h : L[l]? = some (.lst ws)) : itemsOf L (.ref l) = some ws := by unfold itemsOf; dsimp only; rw [h]
@[simp] theorem wp_setL {l : Nat} {k : Int} {w : W} {Q : Unit → Hh → Prop} : wp (setItem (.ref l) (.int k) w) L Q E = (match L[l]? with
    | some (.lst ws) => (match L2.ixN ws.length k with
      | some j => Q () (L.set l (.lst (ws.set j w)))
      | none => False)
    | some (.dct tt kvs) => (match keyFit tt (.int k) with
      | some ky => if kvs.length < sizeLine then Q () (L.set l (.dct tt (dPut kvs ky w))) else False
      | none => False)
    | _ => False) := by
  show wp (match L[l]? with
    | some (.lst ws) => (match L2.ixN ws.length k with
      | some j => put l (.lst (ws.set j w))
      | none => fail)
    | some (.dct tt kvs) => (match keyFit tt (.int k) with
      | some ky => if decide (kvs.length < sizeLine) then put l (.dct tt (dPut kvs ky w)) else fail
      | none => fail)
    | _ => fail) L Q E = _
  cases L[l]? with
  | none => rfl
  | some o =>
    cases o with
    | lst ws => dsimp only; cases L2.ixN ws.length k <;> rfl
    | dct tt kvs =>
      dsimp only
      cases keyFit tt (.int k) with
      | none => rfl
      | some ky =>
        simp only [wp_ite, wp_fail, decide_eq_true_eq]
        rfl
    | _ => rfl
/-! targets, statements -/
@[simp] theorem wp_gnm {i : Nat} {w : W} {Q : Fr → Hh → Prop} : wp (asgT C (.nm i) w ρ) L Q E = Q (ρ.set i (some w)) L := rfl
@[simp] theorem wp_gtup {ts : List Tgt} {ws : List W} {Q : Fr → Hh → Prop} : wp (asgT C (.tup ts) (.tup ws) ρ) L Q E = wp (asgTs C ts ws ρ) L Q E := by simp only [asgT]
@[simp] theorem wp_gsub {o i : Ex} {w : W} {Q : Fr → Hh → Prop} : wp (asgT C (.sub o i) w ρ) L Q E = wp (evE C ρ o) L (fun x L1 => wp (evE C ρ i) L1 (fun y L2 => wp (setItem x y w) L2 (fun _ L3 => Q ρ L3) E) E) E := by simp only [asgT, wp_bnd, wp_ret]
@[simp] theorem wp_gfld {o : Ex} {f : Nat} {w : W} {Q : Fr → Hh → Prop} : wp (asgT C (.fld o f) w ρ) L Q E = wp (evE C ρ o) L (fun x L1 => wp (setFld C x w f) L1 (fun _ L2 => Q ρ L2) E) E := by simp only [asgT, wp_bnd, wp_ret]
@[simp] theorem wp_gs_nil {Q : Fr → Hh → Prop} : wp (asgTs C [] [] ρ) L Q E = Q ρ L := rfl
@[simp] theorem wp_gs_cons {t : Tgt} {ts : List Tgt} {w : W} {ws : List W} {Q : Fr → Hh → Prop} : wp (asgTs C (t :: ts) (w :: ws) ρ) L Q E = wp (asgT C t w ρ) L (fun ρ1 L1 => wp (asgTs C ts ws ρ1) L1 Q E) E := by simp only [asgTs, wp_bnd]
end
/-- what follows a statement -/
def thenS (C : Env) (xs : List Sm) (Q : Fl × Fr → Hh → Prop) (E : W → Hh → Prop) (r : Fl × Fr) (L : Hh) : Prop := match r.1 with
  | .nx => wp (exSs C xs r.2) L Q E
  | .rt w => Q (.rt w, r.2) L
  | .bk => Q (.bk, r.2) L
  | .ct => Q (.ct, r.2) L
  | .ex e => Q (.ex e, r.2) L
section
variable {ρ : Fr} {Q : Fl × Fr → Hh → Prop} {E : W → Hh → Prop} {xs : List Sm}
@[simp] theorem thenS_nx : thenS C xs Q E (.nx, ρ) L = wp (exSs C xs ρ) L Q E := rfl
@[simp] theorem thenS_rt {w : W} : thenS C xs Q E (.rt w, ρ) L = Q (.rt w, ρ) L := rfl
@[simp] theorem thenS_bk : thenS C xs Q E (.bk, ρ) L = Q (.bk, ρ) L := rfl
@[simp] theorem thenS_ct : thenS C xs Q E (.ct, ρ) L = Q (.ct, ρ) L := rfl
@[simp] theorem thenS_ex {e : W} : thenS C xs Q E (.ex e, ρ) L = Q (.ex e, ρ) L := rfl
@[simp] theorem wp_ss_nil : wp (exSs C [] ρ) L Q E = Q (.nx, ρ) L := rfl
@[simp] theorem wp_ss_cons {x : Sm} : wp (exSs C (x :: xs) ρ) L Q E = wp (exS C x ρ) L (thenS C xs Q E) E := by
  simp only [exSs, wp_bnd]
  congr 1; funext r L1
  obtain ⟨f, ρ1⟩ := r
  cases f <;> rfl
@[simp] theorem wp_asg {t : Tgt} {x : Ex} : wp (exS C (.asg t x) ρ) L Q E = wp (evE C ρ x) L (fun w L1 => wp (asgT C t w ρ) L1 (fun ρ1 L2 => Q (.nx, ρ1) L2) (fun e L2 => Q (.ex e, ρ) L2)) (fun e L1 => Q (.ex e, ρ) L1) := by simp only [exS, wp_sx, wp_ret]
@[simp] theorem wp_aug {i : Nat} {op : BOp} {x : Ex} : wp (exS C (.aug i op x) ρ) L Q E = (match ρ[i]? with
    | some (some v) => wp (evE C ρ x) L (fun w L1 => wp (iop op v w) L1 (fun z L2 => Q (.nx, ρ.set i (some z)) L2) (fun e L2 => Q (.ex e, ρ) L2)) (fun e L1 => Q (.ex e, ρ) L1)
    | _ => False) := by
  simp only [exS]
  cases ρ[i]? with
  | none => rfl
  | some o =>
    cases o with
    | none => rfl
    | some v => simp only [wp_sx, wp_ret]
@[simp] theorem wp_augf {o : Ex} {f : Nat} {op : BOp} {x : Ex} : wp (exS C (.augf o f op x) ρ) L Q E = wp (evE C ρ o) L (fun ov L1 => wp (fldOf C ov f) L1 (fun v L2 => wp (evE C ρ x) L2 (fun w L3 => wp (iop op v w) L3 (fun z L4 => wp (setFld C ov z f) L4 (fun _ L5 => Q (.nx, ρ) L5) (fun e L5 => Q (.ex e, ρ) L5)) (fun e L4 => Q (.ex e, ρ) L4)) (fun e L3 => Q (.ex e, ρ) L3)) (fun e L2 => Q (.ex e, ρ) L2)) (fun e L1 => Q (.ex e, ρ) L1) := by simp only [exS, wp_sx, wp_ret]
@[simp] theorem wp_iaddI {i j : Int} {Q : W → Hh → Prop} {E : W → Hh → Prop} : wp (iop .add (.int i) (.int j)) L Q E = Q (.int (i + j)) L := rfl
@[simp] theorem wp_isubI {i j : Int} {Q : W → Hh → Prop} {E : W → Hh → Prop} : wp (iop .sub (.int i) (.int j)) L Q E = Q (.int (i - j)) L := rfl
@[simp] theorem wp_exp {x : Ex} : wp (exS C (.exp x) ρ) L Q E = wp (evE C ρ x) L (fun _ L1 => Q (.nx, ρ) L1) (fun e L1 => Q (.ex e, ρ) L1) := by simp only [exS, wp_sx, wp_ret]
@[simp] theorem wp_ifs {t : Tx} {a b : List Sm} : wp (exS C (.ifs t a b) ρ) L Q E = wp (evT C ρ t) L (fun k L1 => if k = true then wp (exSs C a ρ) L1 Q E else wp (exSs C b ρ) L1 Q E) (fun e L1 => Q (.ex e, ρ) L1) := by simp only [exS, wp_sx, wp_ite]
@[simp] theorem wp_rtn {x : Ex} : wp (exS C (.rtn x) ρ) L Q E = wp (evE C ρ x) L (fun w L1 => Q (.rt w, ρ) L1) (fun e L1 => Q (.ex e, ρ) L1) := by simp only [exS, wp_sx, wp_ret]
@[simp] theorem wp_rtnN : wp (exS C .rtnN ρ) L Q E = Q (.rt .non, ρ) L := rfl
@[simp] theorem wp_pas : wp (exS C .pas ρ) L Q E = Q (.nx, ρ) L := rfl
@[simp] theorem wp_brk : wp (exS C .brk ρ) L Q E = Q (.bk, ρ) L := rfl
@[simp] theorem wp_cnt : wp (exS C .cnt ρ) L Q E = Q (.ct, ρ) L := rfl
@[simp] theorem wp_end_rt {w : W} {Q : W → Hh → Prop} : wp (endOf (.rt w, ρ)) L Q E = Q w L := rfl
@[simp] theorem wp_end_nx {Q : W → Hh → Prop} : wp (endOf (.nx, ρ)) L Q E = Q .non L := rfl
@[simp] theorem wp_end_ex {e : W} {Q : W → Hh → Prop} : wp (endOf (.ex e, ρ)) L Q E = E e L := rfl
end
def fHand : Df := ⟨4, [
  .asg (.nm 1) (.lc [(("_law_cell" : PySem.Str), 2)] (.nm 2) (.e (.slc (.var 0) none (some (.ki 63)))) [] (.bi .intf [(.var 2)])),
  .asg (.nm 3) (.bin .add (.ki 5602) (.bin .mul (.ki 71) (.bi .len [(.var 1)]))),
  .fors (.nm 2) (.e (.var 1)) [
    .asg (.nm 3) (.bin .mod (.bi .intf [(.bin .add (.bin .mul (.var 3) (.ki 6971)) (.var 2))]) (.ki 2147483587))],
  .rtn (.lst [(.var 1), (.ki 0), (.ki 0), (.var 3)])]⟩
def fPick : Df := ⟨6, [
  .ifs (.bv (.cmp .lt (.sub (.var 0) (.ki 2)) (.ki 2))) [
    .asg (.sub (.var 0) (.ki 1)) (.bin .add (.sub (.var 0) (.ki 1)) (.ki 1)),
    .asg (.nm 2) (.bin .add (.sub (.var 0) (.ki 3)) (.bin .mul (.sub (.var 0) (.ki 1)) (.ki 9337))),
    .ifs (.bv (.cmp .le (.sub (.var 0) (.ki 1)) (.bi .len [(.sub (.var 0) (.ki 0))]))) [
      .asg (.nm 2) (.sub (.sub (.var 0) (.ki 0)) (.bin .sub (.sub (.var 0) (.ki 1)) (.ki 1)))] [],
    .ifs (.any [(.bv (.cmp .gt (.sub (.var 0) (.ki 1)) (.bi .len [(.sub (.var 0) (.ki 0))]))), (.bv (.cmp .lt (.var 2) (.bin .pow (.ki 10) (.ki 18))))]) [
      .asg (.nm 3) (.bin .mod (.bi .intf [(.bin .add (.bin .add (.bin .mul (.var 2) (.ki 39373)) (.bin .mul (.sub (.var 0) (.ki 1)) (.ki 40692))) (.sub (.var 0) (.ki 3)))]) (.ki 2147483647)),
      .asg (.nm 4) (.bin .mod (.bi .intf [(.bin .add (.bin .mul (.var 3) (.var 3)) (.bin .mul (.sub (.var 0) (.ki 1)) (.ki 52774)))]) (.ki 998244353)),
      .rtn (.bin .mod (.bin .fdiv (.bin .mod (.bi .intf [(.bin .add (.bin .mul (.var 4) (.ki 48271)) (.var 3))]) (.ki 2147483629)) (.ki 13)) (.var 1))] [],
    .asg (.sub (.var 0) (.ki 2)) (.var 2)] [],
  .asg (.nm 5) (.bin .mod (.bi .intf [(.sub (.var 0) (.ki 2))]) (.var 1)),
  .asg (.sub (.var 0) (.ki 2)) (.bin .fdiv (.bi .intf [(.sub (.var 0) (.ki 2))]) (.var 1)),
  .rtn (.var 5)]⟩
def fOf (t : Nat) : Df := ⟨2, [
  .rtn (.sub (.var 1) (.call t [(.var 0), (.bi .len [(.var 1)])] []))]⟩
/-- a hand stands at l: its cells' list at c -/
structure HandAt (L : Hh) (l c : Nat) (is : List Int) : Prop where
  hd : ∃ i z mk : Int, L[l]? = some (.lst [.ref c, .int i, .int z, .int mk]) ∧ 0 ≤ i
  cl : L[c]? = some (.lst (is.map W.int))
  ne : c ≠ l
theorem HandAt.same {L L' : Hh} {l c : Nat} {is : List Int} (h : HandAt L l c is) (k : ∀ (j : Nat) (o : O), L[j]? = some o → L'[j]? = some o) : HandAt L' l c is := by
  obtain ⟨⟨i, z, mk, h1, h2⟩, h3, h4⟩ := h
  exact ⟨⟨i, z, mk, k _ _ h1, h2⟩, k _ _ h3, h4⟩
theorem atI_ofNat {α : Type} (xs : List α) (k : Nat) (h : k < xs.length) : L2.atI xs (k : Int) = xs[k]? := by
  unfold L2.atI L2.ixN
  simp [h]
theorem pick_ok {l c : Nat} {is : List Int} {m : Int} {Q : W → Hh → Prop} {E : W → Hh → Prop} (h : HandAt L l c is) (hm : 0 < m) (hm2 : m < 1073741824)
    (hq : ∀ r L', 0 ≤ r → r < m → HandAt L' l c is → Same1 l L L' → Q (.int r) L') : wp (runD C fPick [.ref l, .int m]) L Q E := by
  obtain ⟨⟨i, z, mk, hl, hi⟩, hc, hne⟩ := h
  refine wp_runD (by simp [fPick]) ?_
  have e1 : ∀ o : O, (L.set l o)[l]? = some o := fun o => get_set hl
  have e2 : ∀ o : O, (L.set l o)[c]? = some (.lst (is.map W.int)) := fun o => by rw [List.getElem?_set_ne (Ne.symm hne)]; exact hc
  have fin : ∀ (r i' z' mk' : Int) (L' : Hh), Same1 l L L' → 0 ≤ i' → L'[l]? = some (.lst [.ref c, .int i', .int z', .int mk']) → Q (.int (r % m)) L' := fun r i' z' mk' L' sm hi' hl' =>
    hq _ _ (Int.emod_nonneg _ (by omega)) (Int.emod_lt_of_pos _ hm) ⟨⟨i', z', mk', hl', hi'⟩, by rw [sm.ne c hne]; exact hc, hne⟩ sm
  have sm0 := Same1.refl l L
  have i1 : 0 ≤ i + 1 := by omega
  by_cases hz : z < 2
  · by_cases hlen : i + 1 ≤ (is.length : Int)
    · have a1 : i < (is.length : Int) := by omega
      have a2 : ¬ ((is.length : Int) < i + 1) := by omega
      have a3 : i.toNat < is.length := by omega
      simp [fPick, hl, hc, itemsOf, L2.atI, L2.ixN, e1, e2, smallI, hz, hlen, hi, a1, a2, a3, hm, hm2, List.set_set]
      split
      · exact ⟨⟨by omega, by omega⟩, fin _ _ _ _ _ (sm0.set _) i1 (e1 _)⟩
      · exact fin _ _ _ _ _ (sm0.set _) i1 (e1 _)
    · have a2 : (is.length : Int) < i + 1 := by omega
      simp [fPick, hl, hc, itemsOf, L2.atI, L2.ixN, e1, e2, smallI, hz, hlen, hi, a2, hm, hm2]
      exact ⟨⟨by omega, by omega⟩, fin _ _ _ _ _ (sm0.set _) i1 (e1 _)⟩
  · simp [fPick, hl, hc, itemsOf, L2.atI, L2.ixN, e1, e2, smallI, hz, hi, hm, hm2]
    exact fin _ _ _ _ _ (sm0.set _) hi (e1 _)
end
end Dx

set_option maxRecDepth 100000
set_option maxHeartbeats 4000000
/-! Dx11: loops by invariants; the hand. -/
namespace Dx
open PySem
section
variable {C : Env} {L : Hh} {ρ : Fr}
@[simp] theorem wp_ie {x : Ex} {Q : Src → Hh → Prop} {E : W → Hh → Prop} : wp (evI C ρ (.e x)) L Q E = wp (evE C ρ x) L (fun w L1 => match w with
    | .ref l => (match itemsOf L1 (.ref l) with
      | some _ => Q (.seq l) L1
      | none => False)
    | .tup ws => Q (.vals ws) L1
    | .str x => Q (.vals (signs x)) L1
    | _ => False) E := by
  simp only [evI, wp_bnd]
  congr 1; funext w L1
  cases w <;> try rfl
  rename_i l
  show wp (match itemsOf L1 (.ref l) with
      | some _ => ret (.seq l)
      | none => fail) L1 Q E = _
  dsimp only
  cases itemsOf L1 (.ref l) <;> rfl
@[simp] theorem wp_irng {xs : List Ex} {Q : Src → Hh → Prop} {E : W → Hh → Prop} : wp (evI C ρ (.rng xs)) L Q E = wp (evEs C ρ xs) L (fun ws L1 => match ws with
    | [.int n] => if smallR n = true then Q (.rng 0 n.toNat) L1 else False
    | [.int a, .int b] => if (smallR a && smallR b) = true then Q (.rng a (b - a).toNat) L1 else False
    | _ => False) E := by
  simp only [evI, wp_bnd]
  congr 1; funext ws L1
  rcases ws with _ | ⟨a, _ | ⟨b, _ | ⟨d, r⟩⟩⟩
  · rfl
  · cases a <;> first | rfl | simp only [wp_ite, wp_ret, wp_fail]
  · cases a <;> cases b <;> first | rfl | simp only [wp_ite, wp_ret, wp_fail]
  · cases a <;> cases b <;> rfl
@[simp] theorem wp_ienum {x : Ex} {Q : Src → Hh → Prop} {E : W → Hh → Prop} : wp (evI C ρ (.enum x)) L Q E = wp (evE C ρ x) L (fun w L1 => match w with
    | .ref l => (match itemsOf L1 (.ref l) with
      | some _ => Q (.enum l) L1
      | none => False)
    | .tup ws => Q (.enumT ws) L1
    | _ => False) E := by
  simp only [evI, wp_bnd]
  congr 1; funext w L1
  cases w <;> try rfl
  rename_i l
  show wp (match itemsOf L1 (.ref l) with
      | some _ => ret (.enum l)
      | none => fail) L1 Q E = _
  dsimp only
  cases itemsOf L1 (.ref l) <;> rfl
@[simp] theorem wp_izip {x y : Ex} {Q : Src → Hh → Prop} {E : W → Hh → Prop} : wp (evI C ρ (.zip x y)) L Q E = wp (evE C ρ x) L (fun w L1 => wp (evE C ρ y) L1 (fun v L2 => match w, v with
    | .ref a, .ref b => (match itemsOf L2 (.ref a), itemsOf L2 (.ref b) with
      | some _, some _ => Q (.zipL a b) L2
      | _, _ => False)
    | .tup xs, .tup ys => Q (.zipT xs ys) L2
    | _, _ => False) E) E := by
  simp only [evI, wp_bnd]
  congr 1; funext w L1
  congr 1; funext v L2
  cases w with
  | ref a =>
    cases v with
    | ref b =>
      show wp (match itemsOf L2 (.ref a), itemsOf L2 (.ref b) with
        | some _, some _ => ret (.zipL a b)
        | _, _ => fail) L2 Q E = _
      dsimp only
      cases itemsOf L2 (.ref a) <;> cases itemsOf L2 (.ref b) <;> rfl
    | _ => rfl
  | tup xs => cases v <;> rfl
  | _ => cases v <;> rfl
/-- a comprehension's turn -/
def turnC (C : Env) (ρ : Fr) (own : List (Str × Nat)) (t : Tgt) (cs : List Tx) (x : Ex) : W → M (Option W) := fun w => bnd (asgT C t w (wipeF ρ (own.map (·.2)))) fun ρ1 => bnd (tsAnd C ρ1 cs) fun b => if b = true then bnd (evE C ρ1 x) fun v => ret (some v) else ret none
theorem wp_turnC {own : List (Str × Nat)} {t : Tgt} {cs : List Tx} {x : Ex} {w : W} {Q : Option W → Hh → Prop} {E : W → Hh → Prop} : wp (turnC C ρ own t cs x w) L Q E = wp (asgT C t w (wipeF ρ (own.map (·.2)))) L (fun ρ1 L1 => wp (tsAnd C ρ1 cs) L1 (fun b L2 => if b = true then wp (evE C ρ1 x) L2 (fun v L3 => Q (some v) L3) E else Q none L2) E) E := by
  simp only [turnC, wp_bnd, wp_ite, wp_ret]
@[simp] theorem wp_lc {own : List (Str × Nat)} {t : Tgt} {it : It} {cs : List Tx} {x : Ex} {Q : W → Hh → Prop} {E : W → Hh → Prop} : wp (evE C ρ (.lc own t it cs x)) L Q E = wp (evI C ρ it) L (fun s L1 => wp (loopC s (turnC C ρ own t cs x) fuel 0 []) L1 (fun ws L2 => Q (.ref L2.length) (L2 ++ [.lst ws])) fun _ _ => False) E := by
  simp only [evE, wp_bnd, wp_noX]
  rfl
theorem loopC_inv {s : Src} {f : W → M (Option W)} {n : Nat} {Q : List W → Hh → Prop} {E : W → Hh → Prop} (Inv : Nat → List W → Hh → Prop)
    (hs : ∀ i acc L, i < n → Inv i acc L → ∃ w, srcAt L i s = some (some w) ∧ wp (f w) L (fun r L' => match r with
      | none => Inv (i + 1) acc L'
      | some v => acc.length < sizeLine ∧ Inv (i + 1) (acc ++ [v]) L') E)
    (he : ∀ acc L, Inv n acc L → srcAt L n s = some none ∧ Q acc L) : ∀ (N i : Nat) (acc : List W) (L : Hh), n - i < N → i ≤ n → Inv i acc L → wp (loopC s f N i acc) L Q E
  | 0, i, acc, L, h, _, _ => absurd h (Nat.not_lt_zero _)
  | N + 1, i, acc, L, h, hi, q => by
    show wp (match srcAt L i s with
    | none => fail
    | some none => ret acc
    | some (some w) => bnd (f w) fun r => match r with
      | none => loopC s f N (i + 1) acc
      | some v => if decide (acc.length < sizeLine) then loopC s f N (i + 1) (acc ++ [v]) else fail) L Q E
    by_cases hn : i < n
    · obtain ⟨w, e, q2⟩ := hs i acc L hn q
      rw [e]
      dsimp only
      rw [wp_bnd]
      refine wp_mono q2 (fun r L' z => ?_) fun _ _ z => z
      cases r with
      | none => exact loopC_inv Inv hs he N (i + 1) acc L' (by omega) hn z
      | some v =>
        dsimp only
        rw [if_pos (decide_eq_true z.1)]
        exact loopC_inv Inv hs he N (i + 1) _ L' (by omega) hn z.2
    · obtain rfl : i = n := by omega
      obtain ⟨e, q2⟩ := he acc L q
      rw [e]
      exact q2
theorem loopF_inv {s : Src} {g : W → Fr → M Fr} {b : Fr → M (Fl × Fr)} {n : Nat} {Q : Fl × Fr → Hh → Prop} {E : W → Hh → Prop} (Inv : Nat → Fr → Hh → Prop)
    (hs : ∀ i ρ L, i < n → Inv i ρ L → ∃ w, srcAt L i s = some (some w) ∧ wp (g w ρ) L (fun ρ1 L1 => wp (b ρ1) L1 (fun r L2 => match r.1 with
      | .nx => Inv (i + 1) r.2 L2
      | .ct => Inv (i + 1) r.2 L2
      | .bk => Q (.nx, r.2) L2
      | .rt w => Q (.rt w, r.2) L2
      | .ex e => Q (.ex e, r.2) L2) E) (fun e L1 => Q (.ex e, ρ) L1))
    (he : ∀ ρ L, Inv n ρ L → srcAt L n s = some none ∧ Q (.nx, ρ) L) : ∀ (N i : Nat) (ρ : Fr) (L : Hh), n - i < N → i ≤ n → Inv i ρ L → wp (loopF s g b N i ρ) L Q E
  | 0, i, ρ, L, h, _, _ => absurd h (Nat.not_lt_zero _)
  | N + 1, i, ρ, L, h, hi, q => by
    show wp (match srcAt L i s with
    | none => fail
    | some none => ret (.nx, ρ)
    | some (some w) => sx ρ (g w ρ) fun ρ1 => bnd (b ρ1) fun r => (match r.1 with
      | .nx => loopF s g b N (i + 1) r.2
      | .ct => loopF s g b N (i + 1) r.2
      | .bk => ret (.nx, r.2)
      | .rt w => ret (.rt w, r.2)
      | .ex e => ret (.ex e, r.2))) L Q E
    by_cases hn : i < n
    · obtain ⟨w, e, q2⟩ := hs i ρ L hn q
      rw [e]
      dsimp only
      rw [wp_sx]
      refine wp_mono q2 (fun ρ1 L1 z => ?_) fun _ _ z => z
      rw [wp_bnd]
      refine wp_mono z (fun r L2 z => ?_) fun _ _ z => z
      obtain ⟨fl, ρ2⟩ := r
      cases fl with
      | nx => exact loopF_inv Inv hs he N (i + 1) ρ2 L2 (by omega) hn z
      | ct => exact loopF_inv Inv hs he N (i + 1) ρ2 L2 (by omega) hn z
      | bk => exact z
      | rt w => exact z
      | ex e => exact z
    · obtain rfl : i = n := by omega
      obtain ⟨e, q2⟩ := he ρ L q
      rw [e]
      exact q2
@[simp] theorem wp_fors {t : Tgt} {it : It} {b : List Sm} {Q : Fl × Fr → Hh → Prop} {E : W → Hh → Prop} : wp (exS C (.fors t it b) ρ) L Q E = wp (evI C ρ it) L (fun s L1 => wp (loopF s (fun w ρ => asgT C t w ρ) (fun ρ => exSs C b ρ) fuel 0 ρ) L1 Q E) (fun e L1 => Q (.ex e, ρ) L1) := by simp only [exS, wp_sx]
theorem srcAt_seq {l i : Nat} {ws : List W} (h : L[l]? = some (.lst ws)) : srcAt L i (.seq l) = some ws[i]? := by
  show (itemsOf L (.ref l)).map _ = _
  rw [itemsOf_lst h]
  rfl
theorem lt_fuel {n : Nat} (h : n < 1099511627776) : n - 0 < fuel := by unfold fuel; omega
theorem hand_ok {ns : List Int} {Q : W → Hh → Prop} {E : W → Hh → Prop} (hq : ∀ (l c : Nat) (is : List Int) (L' : Hh), HandAt L' l c is → (∀ (j : Nat) (o : O), L[j]? = some o → L'[j]? = some o) → Q (.ref l) L') : wp (runD C fHand [.scr (ns.map W.int)]) L Q E := by
  refine wp_runD (by simp [fHand]) ?_
  obtain ⟨is, hl, e⟩ : ∃ is : List Int, is.length ≤ 63 ∧ cutL (ns.map W.int) none (some 63) = is.map W.int := by
    refine ⟨cutL ns none (some 63), ?_, ?_⟩
    · unfold cutL cutI
      rw [List.length_take]
      have : HT.sIx ns.length ns.length (some 63) ≤ 63 := by unfold HT.sIx; simp; omega
      omega
    · unfold cutL cutI
      simp [List.map_drop, List.map_take]
  have sc : ∀ (Q : W → Hh → Prop) (E : W → Hh → Prop), wp (sliceOf (.scr (ns.map W.int)) none (some 63)) L Q E = Q (.ref L.length) (L ++ [.lst (is.map W.int)]) := fun Q E => by
    show wp (alloc (.lst (cutL (ns.map W.int) none (some 63)))) L Q E = _
    rw [e]
    rfl
  have g1 : (L ++ [O.lst (is.map W.int)])[L.length]? = some (.lst (is.map W.int)) := get_new
  simp [fHand, sc, itemsOf_lst g1]
  have szl : (64 : Nat) < sizeLine := by rw [sizeLine_eq]; omega
  refine loopC_inv (n := is.length) (fun i acc L' => L' = L ++ [.lst (is.map W.int)] ∧ acc = (is.take i).map W.int) (fun i acc L' hi ⟨h1, h2⟩ => ?_) (fun acc L' ⟨h1, h2⟩ => ?_) _ 0 [] _ (lt_fuel (by omega)) (Nat.zero_le _) ⟨rfl, rfl⟩
  · subst h1 h2
    refine ⟨.int is[i], by rw [srcAt_seq g1]; simp [hi], ?_⟩
    simp [wp_turnC, wipeF]
    refine ⟨by omega, ?_⟩
    rw [List.take_add_one]
    simp [hi]
  · subst h1 h2
    refine ⟨by rw [srcAt_seq g1]; simp, ?_⟩
    rw [List.take_of_length_le (Nat.le_refl _)]
    have g2 : (L ++ [O.lst (is.map W.int), O.lst (is.map W.int)])[L.length + 1]? = some (.lst (is.map W.int)) := by
      rw [List.getElem?_append_right (by simp)]
      simp
    simp [itemsOf, smallI]
    refine loopF_inv (n := is.length) (fun i ρ L' => L' = L ++ [O.lst (is.map W.int), O.lst (is.map W.int)] ∧ ∃ (a : Option W) (mk : Int), ρ = [some (W.scr (ns.map W.int)), some (W.ref (L.length + 1)), a, some (W.int mk)]) (fun i ρ L' hi ⟨h1, a, mk, h2⟩ => ?_) (fun ρ L' ⟨h1, a, mk, h2⟩ => ?_) _ 0 _ _ (lt_fuel (by omega)) (Nat.zero_le _) ⟨rfl, _, _, rfl⟩
    · subst h1 h2
      refine ⟨.int is[i], by rw [srcAt_seq g2]; simp [hi], ?_⟩
      simp [smallI]
    · subst h1 h2
      refine ⟨by rw [srcAt_seq g2]; simp, ?_⟩
      have lo4 : lenOk 4 = true := by decide
      simp [lo4]
      refine hq _ (L.length + 1) is _ ⟨⟨0, 0, mk, ?_, by omega⟩, ?_, by omega⟩ fun j o e => ?_
      · rw [List.getElem?_append_right (by simp)]
        simp
      · rw [List.getElem?_append_right (by simp)]
        simp
      · rw [List.getElem?_append_left (lt_of_get e)]
        exact e
end
end Dx

set_option maxRecDepth 100000
set_option maxHeartbeats 4000000
/-! Dx12: drawing an item; joining signs. -/
namespace Dx
open PySem
section
variable {C C' : Env} {L : Hh}
theorem of_txt {t l c : Nat} {is : List Int} {x : Txt} {Q : W → Hh → Prop} {E : W → Hh → Prop} (hC : ∀ as, C.call t as = runD C' fPick (arrW as [.ix 0, .ix 1])) (h : HandAt L l c is) (h0 : 0 < x.length) (h1 : x.length < 1000)
    (hq : ∀ (s : Nat) (L' : Hh), s ∈ x → HandAt L' l c is → Same1 l L L' → Q (.str [s]) L') : wp (runD C (fOf t) [.ref l, .str x]) L Q E := by
  refine wp_runD (by simp [fOf]) ?_
  have lo : lenOk x.length = true := by unfold lenOk; rw [decide_eq_true_eq, sizeLine_eq]; omega
  simp [fOf, lo, hC, arrW]
  refine pick_ok h (by omega) (by omega) fun r L' r0 r1 h' sm => ?_
  obtain ⟨k, rfl⟩ := Int.eq_ofNat_of_zero_le r0
  have hk : k < x.length := by omega
  simp [lo, atI_ofNat x k hk, List.getElem?_eq_getElem hk]
  exact hq _ _ (List.getElem_mem hk) h' sm
theorem of_lst {t l c a : Nat} {is : List Int} {ws : List W} {Q : W → Hh → Prop} {E : W → Hh → Prop} (hC : ∀ as, C.call t as = runD C' fPick (arrW as [.ix 0, .ix 1])) (h : HandAt L l c is) (ha : L[a]? = some (.lst ws)) (hl : a ≠ l) (h0 : 0 < ws.length) (h1 : ws.length < 1000)
    (hq : ∀ (w : W) (L' : Hh), w ∈ ws → HandAt L' l c is → Same1 l L L' → Q w L') : wp (runD C (fOf t) [.ref l, .ref a]) L Q E := by
  refine wp_runD (by simp [fOf]) ?_
  simp [fOf, itemsOf_lst ha, ha, hC, arrW]
  refine pick_ok h (by omega) (by omega) fun r L' r0 r1 h' sm => ?_
  obtain ⟨k, rfl⟩ := Int.eq_ofNat_of_zero_le r0
  have hk : k < ws.length := by omega
  have ha' : L'[a]? = some (.lst ws) := by rw [sm.ne a hl]; exact ha
  simp [itemsOf_lst ha', ha', atI_ofNat ws k hk, List.getElem?_eq_getElem hk]
  exact hq _ _ (List.getElem_mem hk) h' sm
theorem Same1.keep {l : Nat} {L L' : Hh} (a : Same1 l L L') {j : Nat} {o : O} (h : L[j]? = some o) (hj : j ≠ l) : L'[j]? = some o := by rw [a.ne j hj]; exact h
/-- signs, joined -/
theorem join_signs : ∀ cs : List Nat, joinT [] (cs.map fun c => [c]) = cs
  | [] => rfl
  | [c] => rfl
  | c :: d :: cs => by
    show [c] ++ ([] ++ joinT [] ([d] :: cs.map fun c => [c])) = _
    have := join_signs (d :: cs)
    rw [show ([d] :: cs.map fun c => [c]) = (d :: cs).map (fun c => [c]) from rfl, this]
    rfl
theorem mapM_txt (ts : List Txt) : (ts.map W.str).mapM txtOf = some ts := by
  induction ts with
  | nil => rfl
  | cons t ts ih => rw [List.map_cons, List.mapM_cons, ih]; rfl
theorem sum_len (cs : List Nat) : ((cs.map fun c => [c]).map List.length).sum = cs.length := by
  induction cs with
  | nil => rfl
  | cons c cs ih => simp [ih] at *; omega
theorem wp_joinL {l : Nat} {ts : List Txt} {Q : W → Hh → Prop} {E : W → Hh → Prop} (h : L[l]? = some (.lst (ts.map W.str))) {sep : Txt} (hz : (ts.map List.length).sum + ts.length * sep.length ≤ 16777216) : wp (callM .join (.str sep) [.ref l]) L Q E = Q (.str (joinT sep ts)) L := by
  show wp (match (itemsOf L (.ref l)).bind fun ws => ws.mapM txtOf with
    | some ts => if decide ((ts.map List.length).sum + ts.length * sep.length ≤ 16777216) then ret (.str (joinT sep ts)) else fail
    | none => fail) L Q E = _
  rw [itemsOf_lst h, Option.bind_some, mapM_txt]
  simp only [wp_ite, decide_eq_true_eq, hz, if_true, wp_ret]
theorem insT_perm' (x : Txt) (xs : List Txt) : (insT x xs).Perm (x :: xs) := insT_perm x xs
/-- sorted signs are signs -/
theorem sort_signs (cs : List Nat) : ∃ ds : List Nat, ds.Perm cs ∧ sortT (cs.map fun c => [c]) = ds.map fun c => [c] := by
  have p := sortT_perm (cs.map fun c => [c])
  refine ⟨(sortT (cs.map fun c => [c])).map fun t => t.headD 0, ?_, ?_⟩
  · have q := p.map fun t : Txt => t.headD 0
    rw [List.map_map] at q
    have e : (fun t : Txt => t.headD 0) ∘ (fun c : Nat => [c]) = id := by funext c; rfl
    rw [e, List.map_id] at q
    exact q
  · rw [List.map_map]
    refine (List.map_id _).symm.trans (List.map_congr_left fun t ht => ?_)
    obtain ⟨c, _, rfl⟩ := List.mem_map.mp (p.mem_iff.mp ht)
    rfl
/-! ### objects, while -/
@[simp] theorem wp_fldR {l f : Nat} {Q : W → Hh → Prop} {E : W → Hh → Prop} : wp (fldOf C (.ref l) f) L Q E = (match L[l]? with
    | some (.ins c fs) => if C.cf c f = true then (match getFld fs f with
      | some w => Q w L
      | none => False) else False
    | _ => False) := by
  show wp (match L[l]? with
    | some (.ins c fs) => if C.cf c f then (match getFld fs f with
      | some w => ret w
      | none => fail) else fail
    | _ => fail) L Q E = _
  cases L[l]? with
  | none => rfl
  | some o =>
    cases o with
    | ins c fs =>
      dsimp only
      cases C.cf c f with
      | false => rfl
      | true =>
        cases getFld fs f <;> rfl
    | _ => rfl
@[simp] theorem wp_setR {l f : Nat} {w : W} {Q : Unit → Hh → Prop} {E : W → Hh → Prop} : wp (setFld C (.ref l) w f) L Q E = (match L[l]? with
    | some (.ins c fs) => if C.cf c f = true ∧ fs.length < 900 then Q () (L.set l (.ins c (putFld f w fs))) else False
    | _ => False) := by
  show wp (match L[l]? with
    | some (.ins c fs) => if C.cf c f && decide (fs.length < 900) then put l (.ins c (putFld f w fs)) else fail
    | _ => fail) L Q E = _
  cases L[l]? with
  | none => rfl
  | some o =>
    cases o with
    | ins c fs =>
      dsimp only
      simp only [wp_ite, wp_fail, Bool.and_eq_true, decide_eq_true_eq]
      rfl
    | _ => rfl
@[simp] theorem wp_whl {c : Tx} {b : List Sm} {ρ : Fr} {Q : Fl × Fr → Hh → Prop} {E : W → Hh → Prop} : wp (exS C (.whl c b) ρ) L Q E = wp (loopW (fun ρ => evT C ρ c) (fun ρ => exSs C b ρ) fuel ρ) L Q E := by simp only [exS]
theorem loopW_step {c : Fr → M Bool} {b : Fr → M (Fl × Fr)} {N : Nat} {ρ : Fr} {Q : Fl × Fr → Hh → Prop} {E : W → Hh → Prop} : wp (loopW c b (N + 1) ρ) L Q E = wp (c ρ) L (fun t L1 => if t = true then wp (b ρ) L1 (fun r L2 => match r.1 with
      | .nx => wp (loopW c b N r.2) L2 Q E
      | .ct => wp (loopW c b N r.2) L2 Q E
      | .bk => Q (.nx, r.2) L2
      | .rt w => Q (.rt w, r.2) L2
      | .ex e => Q (.ex e, r.2) L2) E else Q (.nx, ρ) L1) (fun e L1 => Q (.ex e, ρ) L1) := by
  rw [loopW, wp_sx]
  congr 1; funext t L1
  simp only [wp_ite, wp_bnd, wp_ret]
  congr 1
  congr 1; funext r L2
  obtain ⟨f, ρ1⟩ := r
  cases f <;> rfl
/-- nothing but l differs; more may be there -/
def Keep (l : Nat) (L L' : Hh) : Prop := ∀ (j : Nat) (o : O), j ≠ l → L[j]? = some o → L'[j]? = some o
theorem Keep.refl (l : Nat) (L : Hh) : Keep l L L := fun _ _ _ e => e
theorem Keep.trans {l : Nat} {L L1 L2 : Hh} (a : Keep l L L1) (b : Keep l L1 L2) : Keep l L L2 := fun j o h e => b j o h (a j o h e)
theorem Keep.set {l : Nat} {L : Hh} (o : O) : Keep l L (L.set l o) := fun j o h e => by rw [List.getElem?_set_ne (Ne.symm h)]; exact e
theorem Keep.app {l : Nat} {L : Hh} (os : List O) : Keep l L (L ++ os) := fun j o _ e => by rw [List.getElem?_append_left (lt_of_get e)]; exact e
/-! ### scalars compared -/
theorem eqv_str (a b : Txt) : PyData.eqv (.str ⟨a.toArray⟩) (.str ⟨b.toArray⟩) = (a == b) := by
  show ((⟨a.toArray⟩ : Str) == ⟨b.toArray⟩) = _
  exact SX.S_beq a b
/-- signs that a text can have -/
def okT (t : Txt) : Bool := t.all fun c => decide (c < 1114112)
theorem shaped_str {t : Txt} (h : okT t = true) : SeqAt.shaped (.str ⟨t.toArray⟩) = true := by
  have e : PyData.strOk ⟨t.toArray⟩ = true := by
    unfold PyData.strOk
    simp only [okT] at h
    simpa using h
  simp [SeqAt.shaped, PyData.canLay0, PyData.depth, e]
theorem shaped_int (i : Int) : SeqAt.shaped (.int i) = true := by simp [SeqAt.shaped, PyData.canLay0, PyData.depth]
section
variable {Q : W → Hh → Prop} {E : W → Hh → Prop} {a b : Txt} {i j : Int} {c : Nat}
theorem shaped_iff {t : Txt} : SeqAt.shaped (.str ⟨t.toArray⟩) = okT t := by
  by_cases h : okT t = true
  · rw [shaped_str h, h]
  · have e : PyData.strOk ⟨t.toArray⟩ = false := by
      simp only [okT, Bool.not_eq_true] at h
      unfold PyData.strOk
      simpa using h
    simp [SeqAt.shaped, PyData.canLay0, PyData.depth, e, h]
@[simp] theorem wp_eqS : wp (cmpop .eq (.str a) (.str b)) L Q E = if (okT a && okT b) = true then Q (.bl (a == b)) L else False := by
  rw [wp_eq]
  simp only [asData, shaped_iff, eqv_str]
@[simp] theorem wp_neS : wp (cmpop .ne (.str a) (.str b)) L Q E = if (okT a && okT b) = true then Q (.bl (!(a == b))) L else False := by
  rw [wp_neq]
  simp only [asData, shaped_iff, eqv_str]
@[simp] theorem okT_nil : okT [] = true := rfl
@[simp] theorem okT_cons {c : Nat} {t : Txt} : okT (c :: t) = (decide (c < 1114112) && okT t) := rfl
@[simp] theorem wp_eqI : wp (cmpop .eq (.int i) (.int j)) L Q E = Q (.bl (decide (i = j))) L := by
  rw [wp_eq]
  have : PyData.eqv (.int i) (.int j) = decide (i = j) := by
    simp only [PyData.eqv]
    by_cases h : i = j <;> simp [h]
  simp only [asData, shaped_int, Bool.and_self, if_true, this]
@[simp] theorem wp_neI : wp (cmpop .ne (.int i) (.int j)) L Q E = Q (.bl (!decide (i = j))) L := by
  rw [wp_neq]
  have : PyData.eqv (.int i) (.int j) = decide (i = j) := by
    simp only [PyData.eqv]
    by_cases h : i = j <;> simp [h]
  simp only [asData, shaped_int, Bool.and_self, if_true, this]
@[simp] theorem wp_innS : wp (cmpop .inn (.str [c]) (.str b)) L Q E = Q (.bl (decide (c ∈ b))) L := rfl
@[simp] theorem wp_ninS : wp (cmpop .nin (.str [c]) (.str b)) L Q E = Q (.bl (!decide (c ∈ b))) L := rfl
@[simp] theorem wp_innT {x : W} {ws : List W} : wp (cmpop .inn x (.tup ws)) L Q E = if (flatW x && ws.all flatW) = true then Q (.bl (ws.any fun y => eqW y x)) L else False := by
  have e : cmpop .inn x (.tup ws) = inM id x (.tup ws) := by cases x <;> first | rfl | (rename_i t; rcases t with _ | ⟨_, _ | _⟩ <;> rfl)
  rw [e]
  show wp (match inW L x (.tup ws) with
    | some b => ret (.bl (id b))
    | none => fail) L Q E = _
  unfold inW
  dsimp only
  split
  · rename_i b e
    split at e
    · rename_i h; cases e; rw [if_pos h]; rfl
    · cases e
  · rename_i e
    split at e
    · cases e
    · rename_i h; rw [if_neg h]; rfl
end
end
end Dx

set_option maxRecDepth 100000
set_option maxHeartbeats 4000000
/-! Dx13: plain rules of exceptions as values; nothing lost. -/
namespace Dx
open PySem
section
variable {C : Env} {L : Hh} {ρ : Fr} {Q : W → Hh → Prop} {E : W → Hh → Prop}
@[simp] theorem wp_xmk {k : Nat} {xs : List Ex} : wp (evE C ρ (.xmk k xs)) L Q E = wp (evEs C ρ xs) L (fun ws L1 => wp (makeX C k ws) L1 Q E) E := by simp only [evE, wp_bnd]
@[simp] theorem wp_xfl {o : Ex} {f : Nat} : wp (evE C ρ (.xfl o f)) L Q E = wp (evE C ρ o) L (fun x L1 => wp (xfldOf C x f) L1 Q E) E := by simp only [evE, wp_bnd]
@[simp] theorem wp_xis {x : Ex} {j : Cl} : wp (evE C ρ (.xis x j)) L Q E = wp (evE C ρ x) L (fun w L1 => wp (xisOf C w j) L1 Q E) E := by simp only [evE, wp_bnd]
@[simp] theorem wp_gxfl {o : Ex} {f : Nat} {w : W} {Q : Fr → Hh → Prop} : wp (asgT C (.xfl o f) w ρ) L Q E = wp (evE C ρ o) L (fun x L1 => wp (setX C x w f) L1 (fun _ L2 => Q ρ L2) E) E := by simp only [asgT, wp_bnd, wp_ret]
theorem wp_makeX {k c t : Nat} {as : List W} (h : C.xmks k = some (c, t)) : wp (makeX C k as) L Q E = wp (C.callM t (.ref L.length :: as)) (L ++ [.exi c none]) (fun r L1 => match r with
    | .non => Q (.ref L.length) L1
    | _ => False) E := by
  unfold makeX
  rw [h]
  simp only [wp_bnd]
  show wp (C.callM t (.ref L.length :: as)) (L ++ [.exi c none]) _ E = _
  congr 1; funext r L1
  cases r <;> rfl
theorem wp_xfldOf {l d c f : Nat} {fs : List (Nat × W)} {w : W} (h : L[l]? = some (.exi c (some d))) (h2 : L[d]? = some (.xdc fs)) (h3 : C.xcf c f = true) (h4 : getFld fs f = some w) : wp (xfldOf C (.ref l) f) L Q E = Q w L := by
  show wp (match L[l]? with
    | some (.exi c (some d)) => (match L[d]? with
      | some (.xdc fs) => if C.xcf c f then (match getFld fs f with
        | some w => ret w
        | none => fail) else fail
      | _ => fail)
    | _ => fail) L Q E = _
  rw [h]
  dsimp only
  rw [h2]
  dsimp only
  rw [h3, if_pos rfl, h4]
  rfl
theorem wp_setX0 {l c f : Nat} {w : W} {Q : Unit → Hh → Prop} (h : L[l]? = some (.exi c none)) (h1 : C.xcf c f = true) : wp (setX C (.ref l) w f) L Q E = Q () ((L ++ [O.xdc [(f, w)]]).set l (.exi c (some L.length))) := by
  show wp (match L[l]? with
    | some (.exi c none) => if C.xcf c f then bnd (alloc (.xdc [(f, w)])) fun _ => put l (.exi c (some L.length)) else fail
    | some (.exi c (some d)) => (match L[d]? with
      | some (.xdc fs) => if C.xcf c f && decide (fs.length ≤ 900) then put d (.xdc ((f, w) :: fs)) else fail
      | _ => fail)
    | _ => fail) L Q E = _
  rw [h]
  dsimp only
  rw [h1, if_pos rfl]
  rfl
theorem wp_setX1 {l d c f : Nat} {fs : List (Nat × W)} {w : W} {Q : Unit → Hh → Prop} (h : L[l]? = some (.exi c (some d))) (h2 : L[d]? = some (.xdc fs)) (h1 : C.xcf c f = true) (hl : fs.length ≤ 900) : wp (setX C (.ref l) w f) L Q E = Q () (L.set d (.xdc ((f, w) :: fs))) := by
  show wp (match L[l]? with
    | some (.exi c none) => if C.xcf c f then bnd (alloc (.xdc [(f, w)])) fun _ => put l (.exi c (some L.length)) else fail
    | some (.exi c (some d)) => (match L[d]? with
      | some (.xdc fs) => if C.xcf c f && decide (fs.length ≤ 900) then put d (.xdc ((f, w) :: fs)) else fail
      | _ => fail)
    | _ => fail) L Q E = _
  rw [h]
  dsimp only
  rw [h2]
  dsimp only
  rw [h1, decide_eq_true hl, Bool.and_self, if_pos rfl]
  rfl
theorem wp_xisOf {l d c : Nat} {j : Cl} {fs : List (Nat × W)} (h : L[l]? = some (.exi c (some d))) (h2 : L[d]? = some (.xdc fs)) : wp (xisOf C (.ref l) j) L Q E = Q (.bl (C.xsub c j)) L := by
  show wp (match L[l]? with
    | some (.exi c (some d)) => (match L[d]? with
      | some (.xdc _) => ret (.bl (C.xsub c j))
      | _ => fail)
    | _ => fail) L Q E = _
  rw [h]
  dsimp only
  rw [h2]
  rfl
theorem wp_split {x y : Txt} (h : x.length < 100000) (hy : y.isEmpty = false) : wp (callM .split (.str x) [.str y]) L Q E = Q (.ref L.length) (L ++ [.lst ((PySem.Txt.split ⟨x.toArray⟩ ⟨y.toArray⟩).map fun z => .str z.cps.toList)]) := by
  have e : (decide (x.length + 2 ≤ sizeLine) && !y.isEmpty) = true := by
    rw [hy, decide_eq_true (by rw [sizeLine_eq]; omega)]
    rfl
  show wp (if (decide (x.length + 2 ≤ sizeLine) && !y.isEmpty) = true then alloc (.lst ((PySem.Txt.split ⟨x.toArray⟩ ⟨y.toArray⟩).map fun z => .str z.cps.toList)) else fail) L Q E = _
  rw [if_pos e]
  rfl
end
end Dx

set_option maxRecDepth 100000
set_option maxHeartbeats 2000000
/-! Dx18: plain rules: raise, _law_why. -/
namespace Dx
open PySem PySem.Spec
section
variable {C : Env} {ρ : Fr} {L : Hh} {E : W → Hh → Prop}
@[simp] theorem wp_rse {k : Nat} {xs : List Ex} {F : Fl × Fr → Hh → Prop} : wp (exS C (.rse k xs) ρ) L F E = wp (evEs C ρ xs) L (fun ws L1 => if C.xin k ws.length = true then F (.ex (.exn k ws), ρ) L1 else False) (fun e L1 => F (.ex e, ρ) L1) := by
  show wp (sx ρ (evEs C ρ xs) fun ws => if C.xin k ws.length = true then ret (.ex (.exn k ws), ρ) else fail) L F E = _
  rw [wp_sx]
  congr 1
  funext ws L1
  by_cases h : C.xin k ws.length = true
  · rw [if_pos h, if_pos h]; rfl
  · rw [if_neg h, if_neg h]; rfl
theorem wp_why {x : Ex} {Q : W → Hh → Prop} : wp (evE C ρ (.why x)) L Q E = wp (C.lamE ρ x) L (fun w L1 => Q (.tup [.str [], w]) L1) (fun e L1 => match whyW C e with
    | some w => Q w L1
    | none => False) := wp_whyM
@[simp] theorem whyW_exn {c : Nat} {fs : List W} : whyW C (.exn c fs) = some (.tup [.str (C.tag c), fs.headD .non]) := rfl
end
end Dx

set_option maxRecDepth 100000
set_option maxHeartbeats 0
namespace Q
open PySem PySem.Spec PyProof.Rows L2 Dx
def f_law : Df := ⟨14, [
  .asg (.nm 1) (.call n_law_hand [(.var 0)] []),
  .asg (.nm 2) (.call n_law_signs [(.var 1), (.bin .add (.ki 1) (.call n_law_pick [(.var 1), (.ki 3)] []))] []),
  .asg (.nm 3) (.call n_law_drawn [(.var 1), (.var 2), (.ki 8)] []),
  .asg (.nm 4) (.call n_law_made [(.var 3)] []),
  .asg (.nm 5) (.sub (.lc [(("_law_sign" : PySem.Str), 6)] (.nm 6) (.e (.ks [97, 98, 99, 100, 122])) [(.bv (.cmp .nin (.var 6) (.var 2)))] (.var 6)) (.ki 0)),
  .fors (.nm 7) (.rng [(.ki 8)]) [
    .asg (.tup [(.nm 8), (.nm 9)]) (.tup [(.call n_law_word [(.var 1), (.var 2), (.ki 30)] []), (.call n_law_pick [(.var 1), (.bi .len [(.sub (.var 3) (.ki 1))])] [])]),
    .asg (.nm 10) (.lst [(.mcall M_behind (.var 4) [(.var 8)] [(.var 9)]), (.mcall M_behind_1 (.var 4) [(.var 8)] []), (.mcall M_behind_0_word_state (.var 4) [] [(.var 8), (.var 9)]), (.cmp .inn (.var 8) (.var 4))]),
    .ifs (.nt (.val (.call n_law_same [(.var 10), (.lst [(.call n_law_led [(.var 3), (.var 9), (.var 8)] []), (.call n_law_led [(.var 3), (.ki 0), (.var 8)] []), (.call n_law_led [(.var 3), (.var 9), (.var 8)] []), (.call n_law_has [(.var 3), (.var 8)] [])])] []))) [
      .rtn (.kb false)] [],
    .asg (.nm 11) (.call n_law_pick [(.var 1), (.bin .add (.bi .len [(.var 8)]) (.ki 1))] []),
    .asg (.nm 12) (.call n_law_of [(.var 1), (.lst [(.bin .add (.bin .add (.slc (.var 8) none (some (.var 11))) (.var 5)) (.slc (.var 8) (some (.var 11)) none)), (.bin .add (.bin .add (.slc (.var 8) none (some (.var 11))) (.ks [63])) (.slc (.var 8) (some (.var 11)) none)), .kn, (.ki 3), (.tup [(.ks [97])]), (.lst [(.sub (.var 2) (.ki 0))])])] []),
    .ifs (.any [(.bv (.cmp .inn (.var 12) (.var 4))), (.bv (.cmp .ne (.why (.mcall M_behind (.var 4) [(.var 12)] [(.var 9)])) (.tup [(.ks [73, 110, 118, 97, 108, 105, 100, 87, 111, 114, 100]), (.var 12)])))]) [
      .rtn (.kb false)] [],
    .asg (.nm 13) (.call n_law_of [(.var 1), (.lst [(.bi .len [(.sub (.var 3) (.ki 1))]), (.neg (.ki 1)), (.kb true), .kn, (.ks [48]), (.bin .pow (.ki 10) (.ki 20)), (.tup [(.ki 0)])])] []),
    .ifs (.bv (.cmp .ne (.why (.mcall M_behind (.var 4) [(.call n_law_of [(.var 1), (.lst [(.var 8), (.var 12)])] [])] [(.var 13)])) (.tup [(.ks [73, 110, 118, 97, 108, 105, 100, 83, 116, 97, 116, 101]), (.var 13)]))) [
      .rtn (.kb false)] []],
  .rtn (.band [(.cmp .eq (.mcall M_behind_1 (.var 4) [(.ks [])] []) (.ki 0)), (.cmp .eq (.cmp .inn (.ks []) (.var 4)) (.cmp .inn (.ki 0) (.sub (.var 3) (.ki 2))))])]⟩
def f_law_hand : Df := ⟨4, [
  .asg (.nm 1) (.lc [(("_law_cell" : PySem.Str), 2)] (.nm 2) (.e (.slc (.var 0) none (some (.ki 63)))) [] (.bi .intf [(.var 2)])),
  .asg (.nm 3) (.bin .add (.ki 5602) (.bin .mul (.ki 71) (.bi .len [(.var 1)]))),
  .fors (.nm 2) (.e (.var 1)) [
    .asg (.nm 3) (.bin .mod (.bi .intf [(.bin .add (.bin .mul (.var 3) (.ki 6971)) (.var 2))]) (.ki 2147483587))],
  .rtn (.lst [(.var 1), (.ki 0), (.ki 0), (.var 3)])]⟩
def f_law_signs : Df := ⟨6, [
  .asg (.nm 2) (.ks [97, 98, 99, 100, 101, 102, 103, 104, 105, 106, 107, 108, 109, 110, 111, 112, 113, 114, 115, 116, 117, 118, 119, 120, 121, 122]),
  .asg (.tup [(.nm 3), (.nm 4)]) (.tup [(.call n_law_pick [(.var 0), (.ki 26)] []), (.bin .add (.ki 1) (.call n_law_pick [(.var 0), (.ki 8)] []))]),
  .rtn (.met .join (.ks []) [(.bi .sortedf [(.lc [(("_law_k" : PySem.Str), 5)] (.nm 5) (.rng [(.var 1)]) [] (.sub (.var 2) (.bin .mod (.bi .intf [(.bin .add (.var 3) (.bin .mul (.var 4) (.var 5)))]) (.ki 26))))])])]⟩
def f_law_pick : Df := ⟨6, [
  .ifs (.bv (.cmp .lt (.sub (.var 0) (.ki 2)) (.ki 2))) [
    .asg (.sub (.var 0) (.ki 1)) (.bin .add (.sub (.var 0) (.ki 1)) (.ki 1)),
    .asg (.nm 2) (.bin .add (.sub (.var 0) (.ki 3)) (.bin .mul (.sub (.var 0) (.ki 1)) (.ki 9337))),
    .ifs (.bv (.cmp .le (.sub (.var 0) (.ki 1)) (.bi .len [(.sub (.var 0) (.ki 0))]))) [
      .asg (.nm 2) (.sub (.sub (.var 0) (.ki 0)) (.bin .sub (.sub (.var 0) (.ki 1)) (.ki 1)))] [],
    .ifs (.any [(.bv (.cmp .gt (.sub (.var 0) (.ki 1)) (.bi .len [(.sub (.var 0) (.ki 0))]))), (.bv (.cmp .lt (.var 2) (.bin .pow (.ki 10) (.ki 18))))]) [
      .asg (.nm 3) (.bin .mod (.bi .intf [(.bin .add (.bin .add (.bin .mul (.var 2) (.ki 39373)) (.bin .mul (.sub (.var 0) (.ki 1)) (.ki 40692))) (.sub (.var 0) (.ki 3)))]) (.ki 2147483647)),
      .asg (.nm 4) (.bin .mod (.bi .intf [(.bin .add (.bin .mul (.var 3) (.var 3)) (.bin .mul (.sub (.var 0) (.ki 1)) (.ki 52774)))]) (.ki 998244353)),
      .rtn (.bin .mod (.bin .fdiv (.bin .mod (.bi .intf [(.bin .add (.bin .mul (.var 4) (.ki 48271)) (.var 3))]) (.ki 2147483629)) (.ki 13)) (.var 1))] [],
    .asg (.sub (.var 0) (.ki 2)) (.var 2)] [],
  .asg (.nm 5) (.bin .mod (.bi .intf [(.sub (.var 0) (.ki 2))]) (.var 1)),
  .asg (.sub (.var 0) (.ki 2)) (.bin .fdiv (.bi .intf [(.sub (.var 0) (.ki 2))]) (.var 1)),
  .rtn (.var 5)]⟩
def f_law_drawn : Df := ⟨7, [
  .asg (.nm 3) (.bin .add (.ki 1) (.call n_law_pick [(.var 0), (.var 2)] [])),
  .asg (.nm 4) (.lc [(("_law_k" : PySem.Str), 6)] (.nm 6) (.rng [(.var 3)]) [] (.bi .tuplef [(.lc [(("_law_sign" : PySem.Str), 5)] (.nm 5) (.e (.var 1)) [] (.call n_law_pick [(.var 0), (.var 3)] []))])),
  .rtn (.tup [(.var 1), (.var 4), (.lc [(("_law_k" : PySem.Str), 6)] (.nm 6) (.rng [(.var 3)]) [(.bv (.cmp .eq (.call n_law_pick [(.var 0), (.ki 2)] []) (.ki 0)))] (.var 6))])]⟩
def f_law_made : Df := ⟨1, [
  .rtn (.mk MK_Machine [(.sub (.var 0) (.ki 0)), (.sub (.var 0) (.ki 1)), (.sub (.var 0) (.ki 2))] [])]⟩
def f_law_word : Df := ⟨4, [
  .rtn (.met .join (.ks []) [(.lc [(("_law_k" : PySem.Str), 3)] (.nm 3) (.rng [(.call n_law_pick [(.var 0), (.bin .add (.var 2) (.ki 1))] [])]) [] (.call n_law_of [(.var 0), (.var 1)] []))])]⟩
def f_law_same : Df := ⟨4, [
  .ifs (.bv (.cmp .is (.var 1) .kn)) [
    .rtn (.cmp .is (.var 0) .kn)] [],
  .ifs (.any [(.val (.isi (.var 1) (.ty "bool"))), (.val (.isi (.var 0) (.ty "bool")))]) [
    .rtn (.band [(.isi (.var 1) (.ty "bool")), (.isi (.var 0) (.ty "bool")), (.cmp .eq (.var 0) (.var 1))])] [],
  .ifs (.val (.isis (.var 1) [(.ty "int"), (.ty "str")])) [
    .rtn (.band [(.isis (.var 0) [(.ty "int"), (.ty "str")]), (.cmp .eq (.isi (.var 0) (.ty "int")) (.isi (.var 1) (.ty "int"))), (.cmp .eq (.var 0) (.var 1))])] [],
  .ifs (.any [(.bv (.cmp .ne (.isi (.var 1) (.ty "list")) (.isi (.var 0) (.ty "list")))), (.bv (.cmp .ne (.isi (.var 1) (.ty "tuple")) (.isi (.var 0) (.ty "tuple"))))]) [
    .rtn (.kb false)] [],
  .rtn (.band [(.cmp .eq (.bi .len [(.var 0)]) (.bi .len [(.var 1)])), (.bi .allf [(.lc [(("_law_one" : PySem.Str), 2), (("_law_two" : PySem.Str), 3)] (.tup [(.nm 2), (.nm 3)]) (.zip (.var 0) (.var 1)) [] (.call n_law_same [(.var 2), (.var 3)] []))])])]⟩
def f_law_led : Df := ⟨5, [
  .asg (.nm 3) (.var 1),
  .fors (.nm 4) (.e (.var 2)) [
    .asg (.nm 3) (.sub (.sub (.sub (.var 0) (.ki 1)) (.var 3)) (.met .indexs (.sub (.var 0) (.ki 0)) [(.var 4)]))],
  .rtn (.var 3)]⟩
def f_law_has : Df := ⟨2, [
  .rtn (.cmp .inn (.call n_law_led [(.var 0), (.ki 0), (.var 1)] []) (.sub (.var 0) (.ki 2)))]⟩
def f_law_of : Df := ⟨2, [
  .rtn (.sub (.var 1) (.call n_law_pick [(.var 0), (.bi .len [(.var 1)])] []))]⟩
def f_Machine_behind : Df := ⟨3, [
  .exp (.mcall M_check_state (.var 0) [(.var 2)] []),
  .exp (.mcall M_check_word (.var 0) [(.var 1)] []),
  .rtn (.mcall M_led (.var 0) [(.var 2), (.var 1)] [])]⟩
def f_Machine_len : Df := ⟨1, [
  .rtn (.bi .len [(.fld (.var 0) F_table)])]⟩
def f_Machine_contains : Df := ⟨2, [
  .rtn (.band [(.call n_is_word [(.fld (.var 0) F_signs), (.var 1)] []), (.cmp .inn (.call n_led_by [(.fld (.var 0) F_table), (.fld (.var 0) F_signs), (.var 1)] []) (.fld (.var 0) F_ends))])]⟩
def f_Machine_eq : Df := ⟨2, [
  .rtn (.band [(.isi (.var 1) (.own K_Machine)), (.cmp .eq (.fld (.var 0) F_whole) (.fld (.var 1) F_whole))])]⟩
def f_Machine_init : Df := ⟨5, [
  .exp (.call n_check_alphabet [(.var 1)] []),
  .exp (.call n_check_rows [(.var 2), (.bi .len [(.var 1)])] []),
  .exp (.call n_check_good [(.var 3), (.bi .len [(.var 2)])] []),
  .asg (.fld (.var 0) F_signs) (.var 1),
  .asg (.fld (.var 0) F_table) (.bi .tuplef [(.lc [(("row" : PySem.Str), 4)] (.nm 4) (.e (.var 2)) [] (.bi .tuplef [(.var 4)]))]),
  .asg (.fld (.var 0) F_ends) (.bi .tuplef [(.bi .sortedf [(.var 3)])]),
  .asg (.fld (.var 0) F_whole) (.tup [(.fld (.var 0) F_signs), (.fld (.var 0) F_table), (.fld (.var 0) F_ends)])]⟩
def f_is_word : Df := ⟨3, [
  .rtn (.band [(.isi (.var 1) (.ty "str")), (.bi .allf [(.lc [(("sign" : PySem.Str), 2)] (.nm 2) (.e (.var 1)) [] (.cmp .inn (.var 2) (.var 0)))])])]⟩
def f_led_by : Df := ⟨5, [
  .asg (.nm 3) (.ki 0),
  .fors (.nm 4) (.e (.var 2)) [
    .asg (.nm 3) (.sub (.sub (.var 0) (.var 3)) (.met .find (.var 1) [(.var 4)]))],
  .rtn (.var 3)]⟩
def f_check_alphabet : Df := ⟨1, [
  .ifs (.nt (.val (.call n_is_alphabet [(.var 0)] []))) [
    .rse X_InvalidAlphabet []] []]⟩
def f_check_rows : Df := ⟨6, [
  .asg (.nm 2) (.ifx (.val (.call n_is_list [(.var 0)] [])) (.bi .len [(.var 0)]) (.ki 0)),
  .ifs (.bv (.cmp .gt (.var 2) (.gi ("MOST_STATES" : PySem.Str) 24))) [
    .rse X_TooManyStates [(.gi ("MOST_STATES" : PySem.Str) 24)]] [],
  .ifs (.bv (.cmp .eq (.var 2) (.ki 0))) [
    .rse X_InvalidRow [(.ki 0)]] [],
  .fors (.tup [(.nm 3), (.nm 4)]) (.enum (.var 0)) [
    .ifs (.any [(.nt (.val (.call n_is_list [(.var 4)] []))), (.bv (.cmp .ne (.bi .len [(.var 4)]) (.var 1))), (.nt (.val (.bi .allf [(.lc [(("goal" : PySem.Str), 5)] (.nm 5) (.e (.var 4)) [] (.call n_is_from [(.var 5), (.ki 0), (.bin .sub (.var 2) (.ki 1))] []))])))]) [
      .rse X_InvalidRow [(.var 3)]] []]]⟩
def f_check_good : Df := ⟨4, [
  .asg (.nm 2) (.dnew false),
  .fors (.nm 3) (.e (.var 0)) [
    .ifs (.any [(.nt (.val (.call n_is_from [(.var 3), (.ki 0), (.bin .sub (.var 1) (.ki 1))] []))), (.bv (.cmp .inn (.var 3) (.var 2)))]) [
      .rse X_InvalidGood [(.var 3)]] [],
    .asg (.sub (.var 2) (.var 3)) (.kb true)]]⟩
def f_is_alphabet : Df := ⟨2, [
  .ifs (.any [(.nt (.val (.isi (.var 0) (.ty "str")))), (.nt (.bv (.chn .le .le (.ki 1) (.bi .len [(.var 0)]) (.gi ("MOST_LETTERS" : PySem.Str) 3))))]) [
    .rtn (.kb false)] [],
  .rtn (.band [(.bi .allf [(.lc [(("sign" : PySem.Str), 1)] (.nm 1) (.e (.var 0)) [] (.cmp .inn (.var 1) (.gs ("SMALL" : PySem.Str) [97, 98, 99, 100, 101, 102, 103, 104, 105, 106, 107, 108, 109, 110, 111, 112, 113, 114, 115, 116, 117, 118, 119, 120, 121, 122])))]), (.cmp .eq (.var 0) (.met .join (.ks []) [(.srtset (.var 0))]))])]⟩
def f_is_list : Df := ⟨1, [
  .rtn (.isis (.var 0) [(.ty "list"), (.ty "tuple")])]⟩
def f_is_from : Df := ⟨3, [
  .rtn (.band [(.call n_is_number [(.var 0)] []), (.chn .le .le (.var 1) (.var 0) (.var 2))])]⟩
def f_is_number : Df := ⟨1, [
  .rtn (.band [(.isi (.var 0) (.ty "int")), (.bnot (.isi (.var 0) (.ty "bool")))])]⟩
def f_Machine_check_state : Df := ⟨2, [
  .ifs (.nt (.val (.call n_is_from [(.var 1), (.ki 0), (.bin .sub (.bi .len [(.fld (.var 0) F_table)]) (.ki 1))] []))) [
    .rse X_InvalidState [(.var 1)]] []]⟩
def f_Machine_check_word : Df := ⟨2, [
  .ifs (.nt (.val (.call n_is_word [(.fld (.var 0) F_signs), (.var 1)] []))) [
    .rse X_InvalidWord [(.var 1)]] []]⟩
def f_Machine_led : Df := ⟨5, [
  .asg (.nm 3) (.var 1),
  .fors (.nm 4) (.e (.var 2)) [
    .asg (.nm 3) (.mcall M_step (.var 0) [(.var 3), (.var 4)] [])],
  .rtn (.var 3)]⟩
def f_Machine_step : Df := ⟨3, [
  .rtn (.sub (.sub (.fld (.var 0) F_table) (.var 1)) (.met .find (.fld (.var 0) F_signs) [(.var 2)]))]⟩
def prog : Dx.Tm := { defs := [f_law, f_law_hand, f_law_signs, f_law_pick, f_law_drawn, f_law_made, f_law_word, f_law_same, f_law_led, f_law_has, f_law_of, f_Machine_behind, f_Machine_len, f_Machine_contains, f_Machine_eq, f_Machine_init, f_is_word, f_led_by, f_check_alphabet, f_check_rows, f_check_good, f_is_alphabet, f_is_list, f_is_from, f_is_number, f_Machine_check_state, f_Machine_check_word, f_Machine_led, f_Machine_step], tgs := [(1, ([0]).map .ix), (2, ([0, 1]).map .ix), (3, ([0, 1]).map .ix), (4, ([0, 1, 2]).map .ix), (5, ([0]).map .ix), (6, ([0, 1, 2]).map .ix), (7, ([0, 1]).map .ix), (8, ([0, 1, 2]).map .ix), (9, ([0, 1]).map .ix), (10, ([0, 1]).map .ix), (11, ([0, 1, 2]).map .ix), (11, [.ix 0, .ix 1, .c (.int 0)]), (11, ([0, 1, 2]).map .ix), (12, ([0]).map .ix), (13, ([0, 1]).map .ix), (14, ([0, 1]).map .ix), (15, ([0, 1, 2, 3]).map .ix), (16, ([0, 1]).map .ix), (17, ([0, 1, 2]).map .ix), (18, ([0]).map .ix), (19, ([0, 1]).map .ix), (20, ([0, 1]).map .ix), (21, ([0]).map .ix), (22, ([0]).map .ix), (23, ([0, 1, 2]).map .ix), (24, ([0]).map .ix), (25, ([0, 1]).map .ix), (26, ([0, 1]).map .ix), (27, ([0, 1, 2]).map .ix), (28, ([0, 1, 2]).map .ix)], cfL := [(0, 0), (0, 1), (0, 2), (0, 3)], mtL := [(0, 0, 10), (0, 1, 11), (0, 2, 12), (0, 3, 26), (0, 4, 27), (0, 5, 28), (0, 6, 29)], mkL := [(0, 0, 16)], ptL := [], duL := [(0, 0, 13), (0, 2, 14), (0, 3, 15)], subL := [], xmkL := [], xcfL := [], xsubL := [(0, .own 0), (0, .own 6), (0, .ty "ValueError"), (1, .own 1), (1, .own 6), (1, .ty "ValueError"), (2, .own 2), (2, .own 6), (2, .ty "ValueError"), (3, .own 3), (3, .own 6), (3, .ty "ValueError"), (4, .own 4), (4, .own 6), (4, .ty "ValueError"), (5, .own 5), (5, .own 6), (5, .ty "ValueError"), (6, .own 6), (6, .ty "ValueError"), (7, .own 7), (7, .ty "LookupError"), (8, .own 8), (8, .ty "LookupError"), (8, .ty "IndexError")], xinL := [(0, 0), (1, 1), (2, 1), (3, 1), (4, 1), (5, 1)], tags := [[73, 110, 118, 97, 108, 105, 100, 65, 108, 112, 104, 97, 98, 101, 116], [84, 111, 111, 77, 97, 110, 121, 83, 116, 97, 116, 101, 115], [73, 110, 118, 97, 108, 105, 100, 82, 111, 119], [73, 110, 118, 97, 108, 105, 100, 71, 111, 111, 100], [73, 110, 118, 97, 108, 105, 100, 83, 116, 97, 116, 101], [73, 110, 118, 97, 108, 105, 100, 87, 111, 114, 100], [], [], []] }
theorem b_law : rowBL pg r_law f_law = true := by decide +kernel
theorem b_law_hand : rowB pg r_law_hand f_law_hand = true := by decide +kernel
theorem b_law_signs : rowB pg r_law_signs f_law_signs = true := by decide +kernel
theorem b_law_pick : rowB pg r_law_pick f_law_pick = true := by decide +kernel
theorem b_law_drawn : rowB pg r_law_drawn f_law_drawn = true := by decide +kernel
theorem b_law_made : rowB pg r_law_made f_law_made = true := by decide +kernel
theorem b_law_word : rowB pg r_law_word f_law_word = true := by decide +kernel
theorem b_law_same : rowB pg r_law_same f_law_same = true := by decide +kernel
theorem b_law_led : rowB pg r_law_led f_law_led = true := by decide +kernel
theorem b_law_has : rowB pg r_law_has f_law_has = true := by decide +kernel
theorem b_law_of : rowB pg r_law_of f_law_of = true := by decide +kernel
theorem b_Machine_behind : rowB pg r_Machine_behind f_Machine_behind = true := by decide +kernel
theorem b_Machine_len : rowB pg r_Machine_len f_Machine_len = true := by decide +kernel
theorem b_Machine_contains : rowB pg r_Machine_contains f_Machine_contains = true := by decide +kernel
theorem b_Machine_eq : rowB pg r_Machine_eq f_Machine_eq = true := by decide +kernel
theorem b_Machine_init : rowB pg r_Machine_init f_Machine_init = true := by decide +kernel
theorem b_is_word : rowB pg r_is_word f_is_word = true := by decide +kernel
theorem b_led_by : rowB pg r_led_by f_led_by = true := by decide +kernel
theorem b_check_alphabet : rowB pg r_check_alphabet f_check_alphabet = true := by decide +kernel
theorem b_check_rows : rowB pg r_check_rows f_check_rows = true := by decide +kernel
theorem b_check_good : rowB pg r_check_good f_check_good = true := by decide +kernel
theorem b_is_alphabet : rowB pg r_is_alphabet f_is_alphabet = true := by decide +kernel
theorem b_is_list : rowB pg r_is_list f_is_list = true := by decide +kernel
theorem b_is_from : rowB pg r_is_from f_is_from = true := by decide +kernel
theorem b_is_number : rowB pg r_is_number f_is_number = true := by decide +kernel
theorem b_Machine_check_state : rowB pg r_Machine_check_state f_Machine_check_state = true := by decide +kernel
theorem b_Machine_check_word : rowB pg r_Machine_check_word f_Machine_check_word = true := by decide +kernel
theorem b_Machine_led : rowB pg r_Machine_led f_Machine_led = true := by decide +kernel
theorem b_Machine_step : rowB pg r_Machine_step f_Machine_step = true := by decide +kernel
theorem tmb : tmB pg prog = true := by decide +kernel
abbrev Cd (d : Nat) : Dx.Env := envD prog d
section
variable (d : Nat) (as : List W)
theorem c_law_hand : (Cd (d + 1)).call n_law_hand as = runD (Cd d) f_law_hand (arrW as [.ix 0]) := envD_call rfl rfl as
theorem c_law_signs : (Cd (d + 1)).call n_law_signs as = runD (Cd d) f_law_signs (arrW as [.ix 0, .ix 1]) := envD_call rfl rfl as
theorem c_law_pick : (Cd (d + 1)).call n_law_pick as = runD (Cd d) f_law_pick (arrW as [.ix 0, .ix 1]) := envD_call rfl rfl as
theorem c_law_drawn : (Cd (d + 1)).call n_law_drawn as = runD (Cd d) f_law_drawn (arrW as [.ix 0, .ix 1, .ix 2]) := envD_call rfl rfl as
theorem c_law_made : (Cd (d + 1)).call n_law_made as = runD (Cd d) f_law_made (arrW as [.ix 0]) := envD_call rfl rfl as
theorem c_law_word : (Cd (d + 1)).call n_law_word as = runD (Cd d) f_law_word (arrW as [.ix 0, .ix 1, .ix 2]) := envD_call rfl rfl as
theorem c_law_same : (Cd (d + 1)).call n_law_same as = runD (Cd d) f_law_same (arrW as [.ix 0, .ix 1]) := envD_call rfl rfl as
theorem c_law_led : (Cd (d + 1)).call n_law_led as = runD (Cd d) f_law_led (arrW as [.ix 0, .ix 1, .ix 2]) := envD_call rfl rfl as
theorem c_law_has : (Cd (d + 1)).call n_law_has as = runD (Cd d) f_law_has (arrW as [.ix 0, .ix 1]) := envD_call rfl rfl as
theorem c_law_of : (Cd (d + 1)).call n_law_of as = runD (Cd d) f_law_of (arrW as [.ix 0, .ix 1]) := envD_call rfl rfl as
theorem c_Machine_behind : (Cd (d + 1)).call n_Machine_behind as = runD (Cd d) f_Machine_behind (arrW as [.ix 0, .ix 1, .ix 2]) := envD_call rfl rfl as
theorem c_Machine_behind_2 : (Cd (d + 1)).call n_Machine_behind_2 as = runD (Cd d) f_Machine_behind (arrW as [.ix 0, .ix 1, .c (.int 0)]) := envD_call rfl rfl as
theorem c_Machine_behind_1_word_state : (Cd (d + 1)).call n_Machine_behind_1_word_state as = runD (Cd d) f_Machine_behind (arrW as [.ix 0, .ix 1, .ix 2]) := envD_call rfl rfl as
theorem c_Machine_len : (Cd (d + 1)).call n_Machine_len as = runD (Cd d) f_Machine_len (arrW as [.ix 0]) := envD_call rfl rfl as
theorem c_Machine_contains : (Cd (d + 1)).call n_Machine_contains as = runD (Cd d) f_Machine_contains (arrW as [.ix 0, .ix 1]) := envD_call rfl rfl as
theorem c_Machine_eq : (Cd (d + 1)).call n_Machine_eq as = runD (Cd d) f_Machine_eq (arrW as [.ix 0, .ix 1]) := envD_call rfl rfl as
theorem c_Machine_init : (Cd (d + 1)).call n_Machine_init as = runD (Cd d) f_Machine_init (arrW as [.ix 0, .ix 1, .ix 2, .ix 3]) := envD_call rfl rfl as
theorem c_is_word : (Cd (d + 1)).call n_is_word as = runD (Cd d) f_is_word (arrW as [.ix 0, .ix 1]) := envD_call rfl rfl as
theorem c_led_by : (Cd (d + 1)).call n_led_by as = runD (Cd d) f_led_by (arrW as [.ix 0, .ix 1, .ix 2]) := envD_call rfl rfl as
theorem c_check_alphabet : (Cd (d + 1)).call n_check_alphabet as = runD (Cd d) f_check_alphabet (arrW as [.ix 0]) := envD_call rfl rfl as
theorem c_check_rows : (Cd (d + 1)).call n_check_rows as = runD (Cd d) f_check_rows (arrW as [.ix 0, .ix 1]) := envD_call rfl rfl as
theorem c_check_good : (Cd (d + 1)).call n_check_good as = runD (Cd d) f_check_good (arrW as [.ix 0, .ix 1]) := envD_call rfl rfl as
theorem c_is_alphabet : (Cd (d + 1)).call n_is_alphabet as = runD (Cd d) f_is_alphabet (arrW as [.ix 0]) := envD_call rfl rfl as
theorem c_is_list : (Cd (d + 1)).call n_is_list as = runD (Cd d) f_is_list (arrW as [.ix 0]) := envD_call rfl rfl as
theorem c_is_from : (Cd (d + 1)).call n_is_from as = runD (Cd d) f_is_from (arrW as [.ix 0, .ix 1, .ix 2]) := envD_call rfl rfl as
theorem c_is_number : (Cd (d + 1)).call n_is_number as = runD (Cd d) f_is_number (arrW as [.ix 0]) := envD_call rfl rfl as
theorem c_Machine_check_state : (Cd (d + 1)).call n_Machine_check_state as = runD (Cd d) f_Machine_check_state (arrW as [.ix 0, .ix 1]) := envD_call rfl rfl as
theorem c_Machine_check_word : (Cd (d + 1)).call n_Machine_check_word as = runD (Cd d) f_Machine_check_word (arrW as [.ix 0, .ix 1]) := envD_call rfl rfl as
theorem c_Machine_led : (Cd (d + 1)).call n_Machine_led as = runD (Cd d) f_Machine_led (arrW as [.ix 0, .ix 1, .ix 2]) := envD_call rfl rfl as
theorem c_Machine_step : (Cd (d + 1)).call n_Machine_step as = runD (Cd d) f_Machine_step (arrW as [.ix 0, .ix 1, .ix 2]) := envD_call rfl rfl as
@[simp] theorem cf_Machine_table : (Cd d).cf K_Machine F_table = true := by cases d <;> rfl
@[simp] theorem cf_Machine_signs : (Cd d).cf K_Machine F_signs = true := by cases d <;> rfl
@[simp] theorem cf_Machine_ends : (Cd d).cf K_Machine F_ends = true := by cases d <;> rfl
@[simp] theorem cf_Machine_whole : (Cd d).cf K_Machine F_whole = true := by cases d <;> rfl
@[simp] theorem mt_Machine_behind : (Cd d).mt K_Machine M_behind = some n_Machine_behind := by cases d <;> rfl
@[simp] theorem mt_Machine_behind_1 : (Cd d).mt K_Machine M_behind_1 = some n_Machine_behind_2 := by cases d <;> rfl
@[simp] theorem mt_Machine_behind_0_word_state : (Cd d).mt K_Machine M_behind_0_word_state = some n_Machine_behind_1_word_state := by cases d <;> rfl
@[simp] theorem mt_Machine_check_state : (Cd d).mt K_Machine M_check_state = some n_Machine_check_state := by cases d <;> rfl
@[simp] theorem mt_Machine_check_word : (Cd d).mt K_Machine M_check_word = some n_Machine_check_word := by cases d <;> rfl
@[simp] theorem mt_Machine_led : (Cd d).mt K_Machine M_led = some n_Machine_led := by cases d <;> rfl
@[simp] theorem mt_Machine_step : (Cd d).mt K_Machine M_step = some n_Machine_step := by cases d <;> rfl
@[simp] theorem du_Machine_0 : (Cd d).du K_Machine 0 = some n_Machine_len := by cases d <;> rfl
@[simp] theorem du_Machine_2 : (Cd d).du K_Machine 2 = some n_Machine_contains := by cases d <;> rfl
@[simp] theorem du_Machine_3 : (Cd d).du K_Machine 3 = some n_Machine_eq := by cases d <;> rfl
@[simp] theorem mks_Machine : (Cd d).mks MK_Machine = some (K_Machine, n_Machine_init) := by cases d <;> rfl
@[simp] theorem xin_InvalidAlphabet : (Cd (d + 1)).xin X_InvalidAlphabet 0 = true := rfl
@[simp] theorem tag_InvalidAlphabet : (Cd d).tag X_InvalidAlphabet = [73, 110, 118, 97, 108, 105, 100, 65, 108, 112, 104, 97, 98, 101, 116] := by cases d <;> rfl
@[simp] theorem xin_TooManyStates : (Cd (d + 1)).xin X_TooManyStates 1 = true := rfl
@[simp] theorem tag_TooManyStates : (Cd d).tag X_TooManyStates = [84, 111, 111, 77, 97, 110, 121, 83, 116, 97, 116, 101, 115] := by cases d <;> rfl
@[simp] theorem xin_InvalidRow : (Cd (d + 1)).xin X_InvalidRow 1 = true := rfl
@[simp] theorem tag_InvalidRow : (Cd d).tag X_InvalidRow = [73, 110, 118, 97, 108, 105, 100, 82, 111, 119] := by cases d <;> rfl
@[simp] theorem xin_InvalidGood : (Cd (d + 1)).xin X_InvalidGood 1 = true := rfl
@[simp] theorem tag_InvalidGood : (Cd d).tag X_InvalidGood = [73, 110, 118, 97, 108, 105, 100, 71, 111, 111, 100] := by cases d <;> rfl
@[simp] theorem xin_InvalidState : (Cd (d + 1)).xin X_InvalidState 1 = true := rfl
@[simp] theorem tag_InvalidState : (Cd d).tag X_InvalidState = [73, 110, 118, 97, 108, 105, 100, 83, 116, 97, 116, 101] := by cases d <;> rfl
@[simp] theorem xin_InvalidWord : (Cd (d + 1)).xin X_InvalidWord 1 = true := rfl
@[simp] theorem tag_InvalidWord : (Cd d).tag X_InvalidWord = [73, 110, 118, 97, 108, 105, 100, 87, 111, 114, 100] := by cases d <;> rfl
end
theorem noT : (t : Nat) → t ≥ 30 → pg.tg[t]? = none := fun t h => List.getElem?_eq_none h
theorem hD {K : PySem.W.Frag} {h : Heap} {mg : Str → Option Value} {T : Dx.Tab} (X : K.In h) (G : h.Ns mainGlobals mg) (c : He5.SaysA (pg.fa ++ ex) fn K) : ∀ t g, pg.tg[t]? = some g → PySem.W.keepIn K (.ref (g.at_.ad K)) = true ∧ (∀ y, g.at_ = .glo y → mg y = some (.ref (g.at_.ad K))) ∧ DefOk T pg prog K t g (g.at_.ad K) := by
  intro t g e
  have e0 := e
  match t, e with
  | 0, e =>
    cases e
    have z := defOk_of (T := T) (p := pg) (Tp := prog) c (t := 0) (g := ⟨.glo ("_law_hand" : PySem.Str), 1, []⟩) (r := r_law_hand) (List.mem_of_getElem? (i := 1) rfl) rfl rfl b_law_hand (fun fd F => bindK_pure F [0] rfl rfl fun _ _ _ _ _ _ us ws l1 l2 => match us, ws, l1, l2 with | [_], [], _, _ => rfl)
    exact ⟨z.1, glo_of X G c e0, z.2⟩
  | 1, e =>
    cases e
    have z := defOk_of (T := T) (p := pg) (Tp := prog) c (t := 1) (g := ⟨.glo ("_law_signs" : PySem.Str), 2, []⟩) (r := r_law_signs) (List.mem_of_getElem? (i := 2) rfl) rfl rfl b_law_signs (fun fd F => bindK_pure F [0, 1] rfl rfl fun _ _ _ _ _ _ us ws l1 l2 => match us, ws, l1, l2 with | [_, _], [], _, _ => rfl)
    exact ⟨z.1, glo_of X G c e0, z.2⟩
  | 2, e =>
    cases e
    have z := defOk_of (T := T) (p := pg) (Tp := prog) c (t := 2) (g := ⟨.glo ("_law_pick" : PySem.Str), 2, []⟩) (r := r_law_pick) (List.mem_of_getElem? (i := 3) rfl) rfl rfl b_law_pick (fun fd F => bindK_pure F [0, 1] rfl rfl fun _ _ _ _ _ _ us ws l1 l2 => match us, ws, l1, l2 with | [_, _], [], _, _ => rfl)
    exact ⟨z.1, glo_of X G c e0, z.2⟩
  | 3, e =>
    cases e
    have z := defOk_of (T := T) (p := pg) (Tp := prog) c (t := 3) (g := ⟨.glo ("_law_drawn" : PySem.Str), 3, []⟩) (r := r_law_drawn) (List.mem_of_getElem? (i := 4) rfl) rfl rfl b_law_drawn (fun fd F => bindK_pure F [0, 1, 2] rfl rfl fun _ _ _ _ _ _ us ws l1 l2 => match us, ws, l1, l2 with | [_, _, _], [], _, _ => rfl)
    exact ⟨z.1, glo_of X G c e0, z.2⟩
  | 4, e =>
    cases e
    have z := defOk_of (T := T) (p := pg) (Tp := prog) c (t := 4) (g := ⟨.glo ("_law_made" : PySem.Str), 1, []⟩) (r := r_law_made) (List.mem_of_getElem? (i := 5) rfl) rfl rfl b_law_made (fun fd F => bindK_pure F [0] rfl rfl fun _ _ _ _ _ _ us ws l1 l2 => match us, ws, l1, l2 with | [_], [], _, _ => rfl)
    exact ⟨z.1, glo_of X G c e0, z.2⟩
  | 5, e =>
    cases e
    have z := defOk_of (T := T) (p := pg) (Tp := prog) c (t := 5) (g := ⟨.glo ("_law_word" : PySem.Str), 3, []⟩) (r := r_law_word) (List.mem_of_getElem? (i := 6) rfl) rfl rfl b_law_word (fun fd F => bindK_pure F [0, 1, 2] rfl rfl fun _ _ _ _ _ _ us ws l1 l2 => match us, ws, l1, l2 with | [_, _, _], [], _, _ => rfl)
    exact ⟨z.1, glo_of X G c e0, z.2⟩
  | 6, e =>
    cases e
    have z := defOk_of (T := T) (p := pg) (Tp := prog) c (t := 6) (g := ⟨.glo ("_law_same" : PySem.Str), 2, []⟩) (r := r_law_same) (List.mem_of_getElem? (i := 7) rfl) rfl rfl b_law_same (fun fd F => bindK_pure F [0, 1] rfl rfl fun _ _ _ _ _ _ us ws l1 l2 => match us, ws, l1, l2 with | [_, _], [], _, _ => rfl)
    exact ⟨z.1, glo_of X G c e0, z.2⟩
  | 7, e =>
    cases e
    have z := defOk_of (T := T) (p := pg) (Tp := prog) c (t := 7) (g := ⟨.glo ("_law_led" : PySem.Str), 3, []⟩) (r := r_law_led) (List.mem_of_getElem? (i := 8) rfl) rfl rfl b_law_led (fun fd F => bindK_pure F [0, 1, 2] rfl rfl fun _ _ _ _ _ _ us ws l1 l2 => match us, ws, l1, l2 with | [_, _, _], [], _, _ => rfl)
    exact ⟨z.1, glo_of X G c e0, z.2⟩
  | 8, e =>
    cases e
    have z := defOk_of (T := T) (p := pg) (Tp := prog) c (t := 8) (g := ⟨.glo ("_law_has" : PySem.Str), 2, []⟩) (r := r_law_has) (List.mem_of_getElem? (i := 9) rfl) rfl rfl b_law_has (fun fd F => bindK_pure F [0, 1] rfl rfl fun _ _ _ _ _ _ us ws l1 l2 => match us, ws, l1, l2 with | [_, _], [], _, _ => rfl)
    exact ⟨z.1, glo_of X G c e0, z.2⟩
  | 9, e =>
    cases e
    have z := defOk_of (T := T) (p := pg) (Tp := prog) c (t := 9) (g := ⟨.glo ("_law_of" : PySem.Str), 2, []⟩) (r := r_law_of) (List.mem_of_getElem? (i := 10) rfl) rfl rfl b_law_of (fun fd F => bindK_pure F [0, 1] rfl rfl fun _ _ _ _ _ _ us ws l1 l2 => match us, ws, l1, l2 with | [_, _], [], _, _ => rfl)
    exact ⟨z.1, glo_of X G c e0, z.2⟩
  | 10, e =>
    cases e
    have z := defOk_of (T := T) (p := pg) (Tp := prog) c (t := 10) (g := ⟨.meth ("Machine" : PySem.Str) ("behind" : PySem.Str), 2, [("state" : PySem.Str)]⟩) (r := r_Machine_behind) (List.mem_of_getElem? (i := 11) rfl) rfl rfl b_Machine_behind (fun fd F => bindK_kwd [(("state" : PySem.Str), .int 0)] [] F (by simp) (by simp) rfl [.inl 0, .inl 1, .inl 2] rfl rfl fun _ _ _ _ _ _ us ws its l1 l2 l3 => match us, ws, its, l1, l2, l3 with | [_, _], [_], [], _, _, _ => rfl)
    exact ⟨z.1, glo_of X G c e0, z.2⟩
  | 11, e =>
    cases e
    have z := defOk_of (T := T) (p := pg) (Tp := prog) c (t := 11) (g := ⟨.meth ("Machine" : PySem.Str) ("behind" : PySem.Str), 2, []⟩) (r := r_Machine_behind) (List.mem_of_getElem? (i := 11) rfl) rfl rfl b_Machine_behind (fun fd F => bindK_kwd [(("state" : PySem.Str), .int 0)] [(("state" : PySem.Str), .int 0)] F (by simp) (by simp) rfl [.inl 0, .inl 1, .inr 0] rfl rfl fun _ _ _ _ _ _ us ws its l1 l2 l3 => match us, ws, its, l1, l2, l3 with | [_, _], [], [_], _, _, _ => ⟨_, _, _, _, _, _, rfl, rfl, rfl⟩)
    exact ⟨z.1, glo_of X G c e0, z.2⟩
  | 12, e =>
    cases e
    have z := defOk_of (T := T) (p := pg) (Tp := prog) c (t := 12) (g := ⟨.meth ("Machine" : PySem.Str) ("behind" : PySem.Str), 1, [("word" : PySem.Str), ("state" : PySem.Str)]⟩) (r := r_Machine_behind) (List.mem_of_getElem? (i := 11) rfl) rfl rfl b_Machine_behind (fun fd F => bindK_kwd [(("state" : PySem.Str), .int 0)] [] F (by simp) (by simp) rfl [.inl 0, .inl 1, .inl 2] rfl rfl fun _ _ _ _ _ _ us ws its l1 l2 l3 => match us, ws, its, l1, l2, l3 with | [_], [_, _], [], _, _, _ => rfl)
    exact ⟨z.1, glo_of X G c e0, z.2⟩
  | 13, e =>
    cases e
    have z := defOk_of (T := T) (p := pg) (Tp := prog) c (t := 13) (g := ⟨.meth ("Machine" : PySem.Str) ("__len__" : PySem.Str), 1, []⟩) (r := r_Machine_len) (List.mem_of_getElem? (i := 12) rfl) rfl rfl b_Machine_len (fun fd F => bindK_pure F [0] rfl rfl fun _ _ _ _ _ _ us ws l1 l2 => match us, ws, l1, l2 with | [_], [], _, _ => rfl)
    exact ⟨z.1, glo_of X G c e0, z.2⟩
  | 14, e =>
    cases e
    have z := defOk_of (T := T) (p := pg) (Tp := prog) c (t := 14) (g := ⟨.meth ("Machine" : PySem.Str) ("__contains__" : PySem.Str), 2, []⟩) (r := r_Machine_contains) (List.mem_of_getElem? (i := 13) rfl) rfl rfl b_Machine_contains (fun fd F => bindK_pure F [0, 1] rfl rfl fun _ _ _ _ _ _ us ws l1 l2 => match us, ws, l1, l2 with | [_, _], [], _, _ => rfl)
    exact ⟨z.1, glo_of X G c e0, z.2⟩
  | 15, e =>
    cases e
    have z := defOk_of (T := T) (p := pg) (Tp := prog) c (t := 15) (g := ⟨.meth ("Machine" : PySem.Str) ("__eq__" : PySem.Str), 2, []⟩) (r := r_Machine_eq) (List.mem_of_getElem? (i := 14) rfl) rfl rfl b_Machine_eq (fun fd F => bindK_pure F [0, 1] rfl rfl fun _ _ _ _ _ _ us ws l1 l2 => match us, ws, l1, l2 with | [_, _], [], _, _ => rfl)
    exact ⟨z.1, glo_of X G c e0, z.2⟩
  | 16, e =>
    cases e
    have z := defOk_of (T := T) (p := pg) (Tp := prog) c (t := 16) (g := ⟨.meth ("Machine" : PySem.Str) ("__init__" : PySem.Str), 4, []⟩) (r := r_Machine_init) (List.mem_of_getElem? (i := 15) rfl) rfl rfl b_Machine_init (fun fd F => bindK_pure F [0, 1, 2, 3] rfl rfl fun _ _ _ _ _ _ us ws l1 l2 => match us, ws, l1, l2 with | [_, _, _, _], [], _, _ => rfl)
    exact ⟨z.1, glo_of X G c e0, z.2⟩
  | 17, e =>
    cases e
    have z := defOk_of (T := T) (p := pg) (Tp := prog) c (t := 17) (g := ⟨.glo ("is_word" : PySem.Str), 2, []⟩) (r := r_is_word) (List.mem_of_getElem? (i := 16) rfl) rfl rfl b_is_word (fun fd F => bindK_pure F [0, 1] rfl rfl fun _ _ _ _ _ _ us ws l1 l2 => match us, ws, l1, l2 with | [_, _], [], _, _ => rfl)
    exact ⟨z.1, glo_of X G c e0, z.2⟩
  | 18, e =>
    cases e
    have z := defOk_of (T := T) (p := pg) (Tp := prog) c (t := 18) (g := ⟨.glo ("led_by" : PySem.Str), 3, []⟩) (r := r_led_by) (List.mem_of_getElem? (i := 17) rfl) rfl rfl b_led_by (fun fd F => bindK_pure F [0, 1, 2] rfl rfl fun _ _ _ _ _ _ us ws l1 l2 => match us, ws, l1, l2 with | [_, _, _], [], _, _ => rfl)
    exact ⟨z.1, glo_of X G c e0, z.2⟩
  | 19, e =>
    cases e
    have z := defOk_of (T := T) (p := pg) (Tp := prog) c (t := 19) (g := ⟨.glo ("check_alphabet" : PySem.Str), 1, []⟩) (r := r_check_alphabet) (List.mem_of_getElem? (i := 18) rfl) rfl rfl b_check_alphabet (fun fd F => bindK_pure F [0] rfl rfl fun _ _ _ _ _ _ us ws l1 l2 => match us, ws, l1, l2 with | [_], [], _, _ => rfl)
    exact ⟨z.1, glo_of X G c e0, z.2⟩
  | 20, e =>
    cases e
    have z := defOk_of (T := T) (p := pg) (Tp := prog) c (t := 20) (g := ⟨.glo ("check_rows" : PySem.Str), 2, []⟩) (r := r_check_rows) (List.mem_of_getElem? (i := 19) rfl) rfl rfl b_check_rows (fun fd F => bindK_pure F [0, 1] rfl rfl fun _ _ _ _ _ _ us ws l1 l2 => match us, ws, l1, l2 with | [_, _], [], _, _ => rfl)
    exact ⟨z.1, glo_of X G c e0, z.2⟩
  | 21, e =>
    cases e
    have z := defOk_of (T := T) (p := pg) (Tp := prog) c (t := 21) (g := ⟨.glo ("check_good" : PySem.Str), 2, []⟩) (r := r_check_good) (List.mem_of_getElem? (i := 20) rfl) rfl rfl b_check_good (fun fd F => bindK_pure F [0, 1] rfl rfl fun _ _ _ _ _ _ us ws l1 l2 => match us, ws, l1, l2 with | [_, _], [], _, _ => rfl)
    exact ⟨z.1, glo_of X G c e0, z.2⟩
  | 22, e =>
    cases e
    have z := defOk_of (T := T) (p := pg) (Tp := prog) c (t := 22) (g := ⟨.glo ("is_alphabet" : PySem.Str), 1, []⟩) (r := r_is_alphabet) (List.mem_of_getElem? (i := 21) rfl) rfl rfl b_is_alphabet (fun fd F => bindK_pure F [0] rfl rfl fun _ _ _ _ _ _ us ws l1 l2 => match us, ws, l1, l2 with | [_], [], _, _ => rfl)
    exact ⟨z.1, glo_of X G c e0, z.2⟩
  | 23, e =>
    cases e
    have z := defOk_of (T := T) (p := pg) (Tp := prog) c (t := 23) (g := ⟨.glo ("is_list" : PySem.Str), 1, []⟩) (r := r_is_list) (List.mem_of_getElem? (i := 22) rfl) rfl rfl b_is_list (fun fd F => bindK_pure F [0] rfl rfl fun _ _ _ _ _ _ us ws l1 l2 => match us, ws, l1, l2 with | [_], [], _, _ => rfl)
    exact ⟨z.1, glo_of X G c e0, z.2⟩
  | 24, e =>
    cases e
    have z := defOk_of (T := T) (p := pg) (Tp := prog) c (t := 24) (g := ⟨.glo ("is_from" : PySem.Str), 3, []⟩) (r := r_is_from) (List.mem_of_getElem? (i := 23) rfl) rfl rfl b_is_from (fun fd F => bindK_pure F [0, 1, 2] rfl rfl fun _ _ _ _ _ _ us ws l1 l2 => match us, ws, l1, l2 with | [_, _, _], [], _, _ => rfl)
    exact ⟨z.1, glo_of X G c e0, z.2⟩
  | 25, e =>
    cases e
    have z := defOk_of (T := T) (p := pg) (Tp := prog) c (t := 25) (g := ⟨.glo ("is_number" : PySem.Str), 1, []⟩) (r := r_is_number) (List.mem_of_getElem? (i := 24) rfl) rfl rfl b_is_number (fun fd F => bindK_pure F [0] rfl rfl fun _ _ _ _ _ _ us ws l1 l2 => match us, ws, l1, l2 with | [_], [], _, _ => rfl)
    exact ⟨z.1, glo_of X G c e0, z.2⟩
  | 26, e =>
    cases e
    have z := defOk_of (T := T) (p := pg) (Tp := prog) c (t := 26) (g := ⟨.meth ("Machine" : PySem.Str) ("check_state" : PySem.Str), 2, []⟩) (r := r_Machine_check_state) (List.mem_of_getElem? (i := 25) rfl) rfl rfl b_Machine_check_state (fun fd F => bindK_pure F [0, 1] rfl rfl fun _ _ _ _ _ _ us ws l1 l2 => match us, ws, l1, l2 with | [_, _], [], _, _ => rfl)
    exact ⟨z.1, glo_of X G c e0, z.2⟩
  | 27, e =>
    cases e
    have z := defOk_of (T := T) (p := pg) (Tp := prog) c (t := 27) (g := ⟨.meth ("Machine" : PySem.Str) ("check_word" : PySem.Str), 2, []⟩) (r := r_Machine_check_word) (List.mem_of_getElem? (i := 26) rfl) rfl rfl b_Machine_check_word (fun fd F => bindK_pure F [0, 1] rfl rfl fun _ _ _ _ _ _ us ws l1 l2 => match us, ws, l1, l2 with | [_, _], [], _, _ => rfl)
    exact ⟨z.1, glo_of X G c e0, z.2⟩
  | 28, e =>
    cases e
    have z := defOk_of (T := T) (p := pg) (Tp := prog) c (t := 28) (g := ⟨.meth ("Machine" : PySem.Str) ("led" : PySem.Str), 3, []⟩) (r := r_Machine_led) (List.mem_of_getElem? (i := 27) rfl) rfl rfl b_Machine_led (fun fd F => bindK_pure F [0, 1, 2] rfl rfl fun _ _ _ _ _ _ us ws l1 l2 => match us, ws, l1, l2 with | [_, _, _], [], _, _ => rfl)
    exact ⟨z.1, glo_of X G c e0, z.2⟩
  | 29, e =>
    cases e
    have z := defOk_of (T := T) (p := pg) (Tp := prog) c (t := 29) (g := ⟨.meth ("Machine" : PySem.Str) ("step" : PySem.Str), 3, []⟩) (r := r_Machine_step) (List.mem_of_getElem? (i := 28) rfl) rfl rfl b_Machine_step (fun fd F => bindK_pure F [0, 1, 2] rfl rfl fun _ _ _ _ _ _ us ws l1 l2 => match us, ws, l1, l2 with | [_, _, _], [], _, _ => rfl)
    exact ⟨z.1, glo_of X G c e0, z.2⟩
  | t + 30, e => rw [noT _ (by omega)] at e; cases e
theorem hini {K : PySem.W.Frag} {w : World} {mg : Str → Option Value} {P : Program} {base : Heap} (hpg : PgOk pg K w mg) (hw : whyXB pg K = true) (c : He5.SaysA (pg.fa ++ ex) fn K) : ∀ q ∈ pg.xinL, IniOk P w K mg base (L2.CX P w) (He.ga K q.1) ⟨q.2.1.toArray⟩ q.2.2 :=
  List.forall_mem_cons.mpr ⟨ini_of hpg hw c (x := ("InvalidAlphabet" : PySem.Str)) (tg := [73, 110, 118, 97, 108, 105, 100, 65, 108, 112, 104, 97, 98, 101, 116]) (fo := none) r_x_InvalidAlphabet (List.mem_of_getElem? (i := 29) rfl) rfl rfl (List.mem_of_getElem? (i := 0) rfl) (List.mem_of_getElem? (i := 0) rfl) (List.mem_of_getElem? (i := 8) rfl) rfl (by decide +kernel) (fun _ _ _ _ _ _ us hl => match us, hl with | [_], _ => rfl),
  List.forall_mem_cons.mpr ⟨ini_of hpg hw c (x := ("TooManyStates" : PySem.Str)) (tg := [84, 111, 111, 77, 97, 110, 121, 83, 116, 97, 116, 101, 115]) (fo := some ("most" : PySem.Str)) r_x_TooManyStates (List.mem_of_getElem? (i := 30) rfl) rfl rfl (List.mem_of_getElem? (i := 1) rfl) (List.mem_of_getElem? (i := 1) rfl) (List.mem_of_getElem? (i := 9) rfl) rfl (by decide +kernel) (fun _ _ _ _ _ _ us hl => match us, hl with | [_, _], _ => rfl),
  List.forall_mem_cons.mpr ⟨ini_of hpg hw c (x := ("InvalidRow" : PySem.Str)) (tg := [73, 110, 118, 97, 108, 105, 100, 82, 111, 119]) (fo := some ("state" : PySem.Str)) r_x_InvalidRow (List.mem_of_getElem? (i := 31) rfl) rfl rfl (List.mem_of_getElem? (i := 2) rfl) (List.mem_of_getElem? (i := 2) rfl) (List.mem_of_getElem? (i := 10) rfl) rfl (by decide +kernel) (fun _ _ _ _ _ _ us hl => match us, hl with | [_, _], _ => rfl),
  List.forall_mem_cons.mpr ⟨ini_of hpg hw c (x := ("InvalidGood" : PySem.Str)) (tg := [73, 110, 118, 97, 108, 105, 100, 71, 111, 111, 100]) (fo := some ("given" : PySem.Str)) r_x_InvalidGood (List.mem_of_getElem? (i := 32) rfl) rfl rfl (List.mem_of_getElem? (i := 3) rfl) (List.mem_of_getElem? (i := 3) rfl) (List.mem_of_getElem? (i := 11) rfl) rfl (by decide +kernel) (fun _ _ _ _ _ _ us hl => match us, hl with | [_, _], _ => rfl),
  List.forall_mem_cons.mpr ⟨ini_of hpg hw c (x := ("InvalidState" : PySem.Str)) (tg := [73, 110, 118, 97, 108, 105, 100, 83, 116, 97, 116, 101]) (fo := some ("given" : PySem.Str)) r_x_InvalidState (List.mem_of_getElem? (i := 33) rfl) rfl rfl (List.mem_of_getElem? (i := 4) rfl) (List.mem_of_getElem? (i := 4) rfl) (List.mem_of_getElem? (i := 12) rfl) rfl (by decide +kernel) (fun _ _ _ _ _ _ us hl => match us, hl with | [_, _], _ => rfl),
  List.forall_mem_cons.mpr ⟨ini_of hpg hw c (x := ("InvalidWord" : PySem.Str)) (tg := [73, 110, 118, 97, 108, 105, 100, 87, 111, 114, 100]) (fo := some ("given" : PySem.Str)) r_x_InvalidWord (List.mem_of_getElem? (i := 34) rfl) rfl rfl (List.mem_of_getElem? (i := 5) rfl) (List.mem_of_getElem? (i := 5) rfl) (List.mem_of_getElem? (i := 13) rfl) rfl (by decide +kernel) (fun _ _ _ _ _ _ us hl => match us, hl with | [_, _], _ => rfl),
  fun _ h => by cases h⟩⟩⟩⟩⟩⟩
theorem hxs : ∀ q ∈ pg.xinL, q.1 ∈ pg.xcs := by decide +kernel
def ql : Str := (envOfC ("law" : Str) r_law.dd.scope 0 0 .none).qual
def Tb (K : PySem.W.Frag) : Dx.Tab := ⟨pg.cls, pg.fld, pg.xcs, rxX pg K, [((He.cT K ("law", none)).2, ql ++ "<lambda>")]⟩
/-- WHAT IS LEFT: the plain law -/
def Plain : Prop := ∀ ns : List Int, ns.length ≤ 63 → wp (runD (envD prog 40) f_law [.scr (ns.map W.int)]) [] (fun w _ => w = .bl true) fun _ _ => False
theorem holds_of (pl : Plain) : PySem.Challenge.rw_lastkept_k04_words_read.Holds := by
  w_on; o_law
  refine HandSHeadRun.head_any (r := PySem.W.OpenLaw.row PySem.Challenge.rw_lastkept_k04_words_read) (q := PySem.W.view (PySem.W.OpenLaw.row PySem.Challenge.rw_lastkept_k04_words_read).prog [49]) (H := hk) (ob := ob) (M := 20000) (loose := loose) (d := HandSHeadRun.topDef (PySem.W.OpenLaw.row PySem.Challenge.rw_lastkept_k04_words_read).prog 49) (kwd := []) ob_eq
    (by kernel_rfl) (fun s => by kernel_rfl) run (by kernel_rfl) (by kernel_rfl) (by kernel_rfl) (by rfl) (by first | assumption | decide +kernel) (by decide +kernel) ⟨rfl, rfl, rfl, rfl, rfl, by decide +kernel⟩ ?hw ?hc
  case hw => w_witness2
  case hc =>
    refine walk_dxT (l := PySem.Challenge.rw_lastkept_k04_words_read) (n := 63) (k := 42) (x := "_law_script") rfl (by decide) (by kernel_rfl) ⟨rfl, by decide, by decide⟩ ?F
    intro w mg fa h Y G hmg0
    obtain ⟨K, KX, cz⟩ := Y
    have cx := cz.y
    have hex : pg.ex K = true ∧ whyXB pg K = true := by
      have z : (pg.ex K && whyXB pg K) = true := cx.more
      rw [Bool.and_eq_true] at z
      exact z
    have cy : SaysY (pg.fa ++ ex) fn pg.ts pg.ex w K := ⟨cx.a, cx.tab, hex.1⟩
    have c := cx.a
    have hpg := pgOk_of KX G cy
    have hmg : mg ("law" : PySem.Str) = some (.ref fa) := by
      have e : (HandSHeadRun.topDef (PySem.W.OpenLaw.row PySem.Challenge.rw_lastkept_k04_words_read).prog 49).name = ("law" : PySem.Str) := by kernel_rfl
      rw [← e]
      exact hmg0
    obtain ⟨fd, F⟩ := SaysA_defs c (d := r_law.dd) (List.mem_of_getElem? (i := 0) rfl)
    have e := hmg.symm.trans (He.glo_ok KX G (SaysA_facts c (f := .glo "law") (by simp [ex])))
    cases e
    have hb := b_law
    simp only [rowBL, Bool.and_eq_true, decide_eq_true_eq] at hb
    have bA := FunD.bindsA (ps := r_law.ps) F fun _ _ _ _ _ _ us hl => match us, hl with | [_], _ => rfl
    have gK : ∀ x ∈ pg.xcs, mg x = some (.ref (He.ga K x)) := fun x hx => (hpg.xc x hx).1
    refine ⟨K, fd, (He.cT K ("law", none)).1, (He.cT K ("law", none)).2, fun base => (fun vs H Q E => spD (Tb K) (PySem.Challenge.rw_lastkept_k04_words_read).prog w K mg base (envD prog 40) f_law 1 vs H Q E ∨ ∃ a xs, H a = some (.lst xs) ∧ (E = fun _ _ _ => False) ∧ ∀ o, spD (Tb K) (PySem.Challenge.rw_lastkept_k04_words_read).prog w K mg base (envD prog 40) f_law 1 vs (L2.upd H a (.frz o (.lst xs))) Q E), KX, cz.empty _ List.mem_cons_self, cz.out _ List.mem_cons_self, PySem.W.codeHd_of_K KX (cz.hd _ List.mem_cons_self), fun s v => bA s [v] rfl,
      fun b H a ns hl hT hS => law_spT (T := Tb K) (fun q hq => by
        have e : q = ((He.cT K ("law", none)).2, ql ++ "<lambda>") := List.mem_singleton.mp hq
        rw [e]
        exact hT) hS (pl ns hl), fun base hb1 hb2 TBx => fnok_frz ?_⟩
    have tmk : TabOk (Tb K) pg prog (PySem.Challenge.rw_lastkept_k04_words_read).prog w K mg base := ⟨tmb, rfl, rfl, rfl, rfl, hini hpg hex.2 c⟩
    refine fnok_law (e := 38) (rows := rowsF) (ql := ql) (cc := (He.cT K ("law", none)).1) (Pt := (He.cT K ("law", none)).2) (KE := He.ga K "KeptError") (MI := He.ga K "Missing") (NL := He.ga K "NothingLeft") (fl := He.ga K "_law_field") (g := He.ga K "_law_why") (ps := r_law.ps) hpg F (scB_ok hb.1.1) hb.1.2 hb.2 tmk (callable_all hpg tmk (hD KX G c)) ?_ (fun _ _ => rfl)
    exact {
      code := fun oc od fd osl lk ⟨c', ec⟩ => by
        have z := He.codeOf_eq (p := ("law", none)) lk ec
        rw [ec]
        show Value.ref c' = Value.ref (He.codeOf K ("law", none))
        rw [z]
      tb := rfl
      TB := TBx
      h1 := gK _ (List.mem_of_getElem? (i := 6) rfl)
      h2 := gK _ (List.mem_of_getElem? (i := 7) rfl)
      h3 := gK _ (List.mem_of_getElem? (i := 8) rfl)
      h4 := He.glo_ok KX G (SaysA_facts c (f := .glo "_law_field") (by simp [ex]))
      h5 := He.glo_ok KX G (SaysA_facts c (f := .glo "_law_why") (by simp [ex]))
      Fk := fld_of_row c r_x_law_field (List.mem_of_getElem? (i := 35) rfl) rfl rfl (by decide +kernel) (fun _ _ _ _ _ _ us hl => match us, hl with | [_], _ => rfl)
      wy := why_of_row c r_x_law_why (List.mem_of_getElem? (i := 36) rfl) rfl rfl (by decide +kernel) (fun _ _ _ _ _ _ us hl => match us, hl with | [_], _ => rfl)
      xs := whyX_of hpg hxs hex.2 }
end Q
set_option maxRecDepth 100000
set_option maxHeartbeats 4000000
/-! Ma1: numbers, lists. -/
namespace Q
open PySem Dx
section
variable {L : Hh} {Q E : W → Hh → Prop} {C : Dx.Env} {d : Nat}
theorem num_ok {i : Int} (hq : Q (.bl true) L) : wp (runD C f_is_number [.int i]) L Q E := by
  refine wp_runD (by simp [f_is_number]) ?_
  simp [f_is_number, isKind, typeNm]
  exact hq
theorem from_ok {i lo hi : Int} (h : lo ≤ i ∧ i ≤ hi) (hq : Q (.bl true) L) : wp (runD (Cd (d + 1)) f_is_from [.int i, .int lo, .int hi]) L Q E := by
  refine wp_runD (by simp [f_is_from]) ?_
  simp [f_is_from, c_is_number, arrW]
  refine num_ok ?_
  simp [h.1, h.2]
  exact hq
theorem listT_ok {ws : List W} (hq : Q (.bl true) L) : wp (runD C f_is_list [.tup ws]) L Q E := by
  refine wp_runD (by simp [f_is_list]) ?_
  simp [f_is_list, isKind, anyKind, typeNm]
  exact hq
theorem listL_ok {a : Nat} {ws : List W} (h : L[a]? = some (.lst ws)) (hq : Q (.bl true) L) : wp (runD C f_is_list [.ref a]) L Q E := by
  refine wp_runD (by simp [f_is_list]) ?_
  simp [f_is_list, isKind, anyKind, typeNm, h]
  exact hq
end
end Q

set_option maxRecDepth 100000
set_option maxHeartbeats 4000000
/-! Ma2: the good states are checked. -/
namespace Q
open PySem Dx
/-- what was there is there -/
def Ext (L L' : Hh) : Prop := ∀ (j : Nat) (o : O), L[j]? = some o → L'[j]? = some o
theorem Ext.refl (L : Hh) : Ext L L := fun _ _ e => e
theorem Ext.trans {L L1 L2 : Hh} (a : Ext L L1) (b : Ext L1 L2) : Ext L L2 := fun j o e => b j o (a j o e)
theorem Ext.app {L : Hh} (os : List O) : Ext L (L ++ os) := fun j o e => by rw [List.getElem?_append_left (lt_of_get e)]; exact e
theorem Keep.ext {L L1 L' : Hh} {l : Nat} (a : Ext L L1) (k : Keep l L1 L') (h : L.length ≤ l) : Ext L L' := fun j o e => k j o (by have := lt_of_get e; omega) (a j o e)
/-- a list or a tuple of these -/
def SeqAt (L : Hh) (w : W) (ws : List W) : Prop := w = .tup ws ∨ ∃ a, w = .ref a ∧ L[a]? = some (.lst ws)
theorem SeqAt.ext {L L' : Hh} {w : W} {ws : List W} (h : SeqAt L w ws) (k : Ext L L') : SeqAt L' w ws := by
  rcases h with h | ⟨a, h1, h2⟩
  · exact .inl h
  · exact .inr ⟨a, h1, k a _ h2⟩
theorem list_ok {L : Hh} {Q E : W → Hh → Prop} {C : Dx.Env} {w : W} {ws : List W} (h : SeqAt L w ws) (hq : Q (.bl true) L) : wp (runD C f_is_list [w]) L Q E := by
  rcases h with rfl | ⟨a, rfl, h⟩
  · exact listT_ok hq
  · exact listL_ok h hq
/-- what is seen so far -/
def seen (g : List Nat) : List (Ky × W) := g.map fun k : Nat => (Ky.i (k : Int), W.bl true)
theorem dGet_seen {g : List Nat} {k : Nat} (h : k ∉ g) : dGet (seen g) (.i (k : Int)) = none := by
  unfold dGet seen
  rw [Option.map_eq_none_iff, List.find?_eq_none]
  intro p hp
  obtain ⟨j, hj, rfl⟩ := List.mem_map.mp hp
  simp
  intro z
  exact h (by have : j = k := by omega
              rw [← this]; exact hj)
theorem dPut_seen {g : List Nat} {k : Nat} (h : k ∉ g) : dPut (seen g) (.i (k : Int)) (.bl true) = seen (g ++ [k]) := by
  unfold dPut
  rw [if_neg]
  · simp [seen]
  · intro z
    obtain ⟨p, hp, e⟩ := List.any_eq_true.mp z
    obtain ⟨j, hj, rfl⟩ := List.mem_map.mp hp
    have e2 : (Ky.i (j : Int)) = Ky.i (k : Int) := of_decide_eq_true e
    injection e2 with e3
    exact h (by have : j = k := by omega
                rw [← this]; exact hj)
theorem wp_innD {L : Hh} {Q E : W → Hh → Prop} {D : Nat} {kvs : List (Ky × W)} {i : Int} (h : L[D]? = some (.dct false kvs)) : wp (cmpop .inn (.int i) (.ref D)) L Q E = Q (.bl (dGet kvs (.i i)).isSome) L := by
  show wp (match inW L (.int i) (.ref D) with
    | some b => ret (.bl (id b))
    | none => fail) L Q E = _
  unfold inW
  dsimp only
  rw [h]
  rfl
@[simp] theorem keyFit_int {i : Int} : keyFit false (.int i) = some (.i i) := rfl
def gB : List Sm := [
    .ifs (.any [(.nt (.val (.call n_is_from [(.var 3), (.ki 0), (.bin .sub (.var 1) (.ki 1))] []))), (.bv (.cmp .inn (.var 3) (.var 2)))]) [
      .rse X_InvalidGood [(.var 3)]] [],
    .asg (.sub (.var 2) (.var 3)) (.kb true)]
theorem good_eq : f_check_good = ⟨4, [.asg (.nm 2) (.dnew false), .fors (.nm 3) (.e (.var 0)) gB]⟩ := rfl
theorem good_turn {d : Nat} {L : Hh} {F : Fl × Fr → Hh → Prop} {E : W → Hh → Prop} {w : W} {D many k : Nat} {g : List Nat} (hD : L[D]? = some (.dct false (seen g))) (hk : k < many) (hn : k ∉ g) (hz : g.length < 1000)
    (hq : F (.nx, [some w, some (.int many), some (.ref D), some (.int k)]) (L.set D (.dct false (seen (g ++ [k]))))) : wp (exSs (Cd (d + 2)) gB [some w, some (.int many), some (.ref D), some (.int k)]) L F E := by
  have szl : (seen g).length < sizeLine := by
    rw [sizeLine_eq]
    simp [seen]
    omega
  simp [gB, c_is_from, arrW]
  refine from_ok ⟨by omega, by omega⟩ ?_
  simp [hD]
  rw [wp_innD hD, dGet_seen hn]
  simp [hD, szl, dPut_seen hn]
  exact hq
theorem src_seqat {L0 L : Hh} {w : W} {ws : List W} (h : SeqAt L0 w ws) (k0 : Ext L0 L) {C : Dx.Env} {ρ : Fr} {i : Nat} (hr : ρ[i]? = some (some w)) {Q : Src → Hh → Prop} {E : W → Hh → Prop} (hq : ∀ s, (∀ (L' : Hh) (j : Nat), Ext L0 L' → srcAt L' j s = some ws[j]?) → Q s L) : wp (evI C ρ (.e (.var i))) L Q E := by
  rcases h with rfl | ⟨a, rfl, h⟩
  · simp [hr]
    exact hq _ fun L' j k => rfl
  · have h' := k0 a _ h
    simp [hr, itemsOf_lst h', h']
    exact hq _ fun L' j k => srcAt_seq (k a _ h)
theorem good_ok {d : Nat} {L : Hh} {Q E : W → Hh → Prop} {w : W} {many : Nat} {g : List Nat} (hw : SeqAt L w (g.map fun k : Nat => W.int k)) (hn : g.Nodup) (hb : ∀ k ∈ g, k < many) (hz : g.length < 1000) (hq : ∀ L', Ext L L' → Q .non L') : wp (runD (Cd (d + 2)) f_check_good [w, .int many]) L Q E := by
  rw [good_eq]
  refine wp_runD (by simp) ?_
  simp [-wp_ie]
  refine src_seqat hw (Ext.app _) (by rfl) fun s hs => ?_
  refine loopF_inv (n := g.length) (fun i ρ L' => Ext L L' ∧ L'[L.length]? = some (.dct false (seen (g.take i))) ∧ ∃ v, ρ = [some w, some (.int many), some (.ref L.length), v]) (fun i ρ L' hi ⟨h1, h3, v, e⟩ => ?_) (fun ρ L' ⟨h1, h3, v, e⟩ => ?_) _ 0 _ _ (lt_fuel (by omega)) (Nat.zero_le _) ⟨Ext.app _, get_new, _, rfl⟩
  · subst e
    refine ⟨.int g[i], by rw [hs L' i h1]; simp [hi], ?_⟩
    simp
    have hni : g[i] ∉ g.take i := fun z => by
      obtain ⟨j, hj, e⟩ := List.mem_iff_getElem.mp z
      rw [List.getElem_take] at e
      have hj2 : j < i := by
        rw [List.length_take] at hj
        omega
      exact (List.pairwise_iff_getElem.mp hn) j i (by omega) hi hj2 e
    refine good_turn h3 (hb _ (List.getElem_mem hi)) hni (by rw [List.length_take]; omega) ?_
    refine ⟨fun j o e => ?_, ?_, _, rfl⟩
    · have hj : j ≠ L.length := by have := lt_of_get e; omega
      rw [List.getElem?_set_ne (Ne.symm hj)]
      exact h1 j o e
    · rw [get_set h3, List.take_add_one]
      simp [hi]
  · subst e
    refine ⟨by rw [hs L' _ h1]; simp, ?_⟩
    simp
    exact hq L' h1
end Q

set_option maxRecDepth 100000
set_option maxHeartbeats 4000000
/-! Ma3: the rows are checked. -/
namespace Q
open PySem Dx
def iW (r : List Nat) : List W := r.map fun k : Nat => W.int k
theorem mapM_bls (k : Nat) : (List.replicate k (W.bl true)).mapM blOf = some (List.replicate k true) := by
  induction k with
  | zero => rfl
  | succ k ih => rw [List.replicate_succ, List.mapM_cons, ih]; rfl
theorem wp_allT {L : Hh} {Q E : W → Hh → Prop} {l k : Nat} (h : L[l]? = some (.lst (List.replicate k (W.bl true)))) : wp (callB .allf [.ref l]) L Q E = Q (.bl true) L := by
  show wp (match (itemsOf L (.ref l)).bind fun ws => ws.mapM blOf with
    | some bs => ret (.bl (bs.all id))
    | none => fail) L Q E = _
  rw [itemsOf_lst h, Option.bind_some, mapM_bls]
  simp
theorem lenW {L : Hh} {Q E : W → Hh → Prop} {C : Dx.Env} {w : W} {ws : List W} (h : SeqAt L w ws) (hq : Q (.int ws.length) L) : wp (callBX C .len [w]) L Q E := by
  rcases h with rfl | ⟨a, rfl, h⟩
  · simpa using hq
  · simp [h, itemsOf_lst h]
    exact hq
/-- all goals of a row are states -/
theorem goals_ok {d : Nat} {L : Hh} {Q E : W → Hh → Prop} {ρ : Fr} {w : W} {many : Nat} {r : List Nat} (hw : SeqAt L w (iW r)) (h2 : ρ[2]? = some (some (.int many))) (h4 : ρ[4]? = some (some w)) (h5 : 5 < ρ.length) (hb : ∀ k ∈ r, k < many) (hz : r.length < 1000) (hq : ∀ L', Ext L L' → Q (.bl true) L') :
    wp (evE (Cd (d + 2)) ρ (.bi .allf [(.lc [(("goal" : PySem.Str), 5)] (.nm 5) (.e (.var 4)) [] (.call n_is_from [(.var 5), (.ki 0), (.bin .sub (.var 2) (.ki 1))] []))])) L Q E := by
  have szl : (1000 : Nat) < sizeLine := by rw [sizeLine_eq]; omega
  simp [-wp_ie]
  refine src_seqat hw (Ext.refl L) h4 fun s hs => ?_
  refine loopC_inv (n := r.length) (fun i acc L' => Ext L L' ∧ acc = List.replicate i (W.bl true)) (fun i acc L' hi ⟨h1, e⟩ => ?_) (fun acc L' ⟨h1, e⟩ => ?_) _ 0 [] _ (lt_fuel (by omega)) (Nat.zero_le _) ⟨Ext.refl L, rfl⟩
  · refine ⟨.int r[i], by rw [hs L' i h1]; simp [iW, hi], ?_⟩
    have g2 : ((ρ.set 5 none).set 5 (some (W.int r[i])))[2]? = some (some (.int many)) := by simp [h2]
    have g5 : ((ρ.set 5 none).set 5 (some (W.int r[i])))[5]? = some (some (.int r[i])) := by simp [h5]
    simp only [List.set_set] at g2 g5
    simp [wp_turnC, wipeF, g2, g5, c_is_from, arrW]
    refine from_ok ⟨by omega, by have := hb _ (List.getElem_mem hi); omega⟩ ?_
    exact ⟨by rw [e]; simp; omega, h1, by rw [e, List.replicate_succ']⟩
  · refine ⟨by rw [hs L' _ h1]; simp [iW], ?_⟩
    subst e
    rw [wp_allT get_new]
    exact hq _ (h1.trans (Ext.app _))
end Q

set_option maxRecDepth 100000
set_option maxHeartbeats 4000000
/-! Ma4: the rows are checked. -/
namespace Q
open PySem Dx
def gE : Ex := .bi .allf [(.lc [(("goal" : PySem.Str), 5)] (.nm 5) (.e (.var 4)) [] (.call n_is_from [(.var 5), (.ki 0), (.bin .sub (.var 2) (.ki 1))] []))]
def rB : List Sm := [
    .ifs (.any [(.nt (.val (.call n_is_list [(.var 4)] []))), (.bv (.cmp .ne (.bi .len [(.var 4)]) (.var 1))), (.nt (.val gE))]) [
      .rse X_InvalidRow [(.var 3)]] []]
theorem rows_eq : f_check_rows = ⟨6, [
  .asg (.nm 2) (.ifx (.val (.call n_is_list [(.var 0)] [])) (.bi .len [(.var 0)]) (.ki 0)),
  .ifs (.bv (.cmp .gt (.var 2) (.gi ("MOST_STATES" : PySem.Str) 24))) [
    .rse X_TooManyStates [(.gi ("MOST_STATES" : PySem.Str) 24)]] [],
  .ifs (.bv (.cmp .eq (.var 2) (.ki 0))) [
    .rse X_InvalidRow [(.ki 0)]] [],
  .fors (.tup [(.nm 3), (.nm 4)]) (.enum (.var 0)) rB]⟩ := rfl
theorem src_enumat {L0 L : Hh} {w : W} {ws : List W} (h : SeqAt L0 w ws) (k0 : Ext L0 L) {C : Dx.Env} {ρ : Fr} {i : Nat} (hr : ρ[i]? = some (some w)) {Q : Src → Hh → Prop} {E : W → Hh → Prop} (hq : ∀ s, (∀ (L' : Hh) (j : Nat), Ext L0 L' → srcAt L' j s = some (ws[j]?.map fun w => .tup [.int j, w])) → Q s L) : wp (evI C ρ (.enum (.var i))) L Q E := by
  rcases h with rfl | ⟨a, rfl, h⟩
  · simp [hr]
    exact hq _ fun L' j k => rfl
  · have h' := k0 a _ h
    simp [hr, itemsOf_lst h', h']
    refine hq _ fun L' j k => ?_
    simp [srcAt, itemsOf_lst (k a _ h), k a _ h]
theorem row_turn {d : Nat} {L : Hh} {F : Fl × Fr → Hh → Prop} {E : W → Hh → Prop} {w0 w : W} {many i : Nat} {r : List Nat} {v : Option W} (hw : SeqAt L w (iW r)) (hb : ∀ k ∈ r, k < many) (hz : r.length < 1000)
    (hq : ∀ L', Ext L L' → F (.nx, [some w0, some (.int r.length), some (.int many), some (.int i), some w, v]) L') : wp (exSs (Cd (d + 2)) rB [some w0, some (.int r.length), some (.int many), some (.int i), some w, v]) L F E := by
  simp [rB, c_is_list, arrW, -wpX_len]
  refine list_ok hw ?_
  simp [-wpX_len]
  refine lenW hw ?_
  simp [iW]
  refine goals_ok (d := d) hw (by rfl) (by rfl) (by simp) hb hz fun L' k => ?_
  simp
  exact hq L' k
/-- the rows, each a list or a tuple -/
structure RowsAt (L : Hh) (ws : List W) (rows : List (List Nat)) : Prop where
  len : ws.length = rows.length
  row : ∀ (i : Nat) (r : List Nat), rows[i]? = some r → ∃ w, ws[i]? = some w ∧ SeqAt L w (iW r)
theorem RowsAt.ext {L L' : Hh} {ws : List W} {rows : List (List Nat)} (h : RowsAt L ws rows) (k : Ext L L') : RowsAt L' ws rows := ⟨h.len, fun i r e => let ⟨w, e1, e2⟩ := h.row i r e; ⟨w, e1, e2.ext k⟩⟩
theorem rows_ok {d : Nat} {L : Hh} {Q E : W → Hh → Prop} {w : W} {ws : List W} {rows : List (List Nat)} {k : Nat} (hw : SeqAt L w ws) (hr : RowsAt L ws rows) (h1 : 1 ≤ rows.length) (h24 : rows.length ≤ 24) (hk : ∀ r ∈ rows, r.length = k) (hb : ∀ r ∈ rows, ∀ g ∈ r, g < rows.length) (hz : k < 1000) (hq : ∀ L', Ext L L' → Q .non L') :
    wp (runD (Cd (d + 2)) f_check_rows [w, .int k]) L Q E := by
  rw [rows_eq]
  refine wp_runD (by simp) ?_
  have n1 : ¬ (24 : Int) < (rows.length : Int) := by omega
  have n2 : ¬ rows = [] := fun z => by rw [z] at h1; simp at h1
  simp [-wpX_len, -wp_ienum, c_is_list, arrW]
  refine list_ok hw ?_
  simp [-wpX_len, -wp_ienum]
  refine lenW hw ?_
  rw [hr.len]
  simp [-wp_ienum, n1, n2]
  refine src_enumat (ρ := [some w, some (.int k), some (.int rows.length), none, none, none]) (i := 0) hw (Ext.refl L) (by rfl) fun s hs => ?_
  refine loopF_inv (n := rows.length) (fun i ρ L' => Ext L L' ∧ ∃ a b c, ρ = [some w, some (.int k), some (.int rows.length), a, b, c]) (fun i ρ L' hi ⟨e1, a, b, c, e⟩ => ?_) (fun ρ L' ⟨e1, a, b, c, e⟩ => ?_) _ 0 _ _ (lt_fuel (by omega)) (Nat.zero_le _) ⟨Ext.refl L, _, _, _, rfl⟩
  · subst e
    obtain ⟨wi, g1, g2⟩ := hr.row i rows[i] (List.getElem?_eq_getElem hi)
    refine ⟨.tup [.int i, wi], by rw [hs L' i e1, g1]; rfl, ?_⟩
    simp
    have hm : rows[i] ∈ rows := List.getElem_mem hi
    have hkr := hk _ hm
    have := row_turn (d := d) (F := fun r L2 => match r.1 with
      | .nx => Ext L L2 ∧ ∃ a b c, r.2 = [some w, some (.int k), some (.int rows.length), a, b, c]
      | _ => False) (E := E) (w0 := w) (i := i) (v := c) (g2.ext e1) (hb _ hm) (by omega) (fun L2 k2 => ⟨e1.trans k2, _, _, _, by rw [hkr]⟩)
    rw [hkr] at this
    refine wp_mono this (fun r L2 z => ?_) fun _ _ z => z
    obtain ⟨fl, ρ2⟩ := r
    cases fl with
    | nx => exact z
    | _ => exact False.elim z
  · subst e
    refine ⟨by rw [hs L' _ e1]; simp [hr.len], ?_⟩
    simp
    exact hq L' e1
end Q

set_option maxRecDepth 100000
set_option maxHeartbeats 4000000
/-! Ma5: alphabets. -/
namespace Q
open PySem Dx
abbrev small : Txt := [97, 98, 99, 100, 101, 102, 103, 104, 105, 106, 107, 108, 109, 110, 111, 112, 113, 114, 115, 116, 117, 118, 119, 120, 121, 122]
theorem small_lt {c : Nat} (h : c ∈ small) : c < 1114112 := by
  have : ∀ c ∈ small, c < 1114112 := by decide
  exact this c h
theorem mapM_bl (bs : List Bool) : (bs.map W.bl).mapM blOf = some bs := by
  induction bs with
  | nil => rfl
  | cons t ts ih => rw [List.map_cons, List.mapM_cons, ih]; rfl
theorem dedup_sing : ∀ cs : List Nat, dedup (cs.map fun c => [c]) = (dedup cs).map fun c => [c]
  | [] => rfl
  | c :: cs => by
    have ih := dedup_sing cs
    rw [List.map_cons]
    unfold dedup
    rw [ih]
    by_cases h : c ∈ dedup cs
    · simp [h]
    · simp [h]
theorem dedup_len {α : Type} [DecidableEq α] : ∀ l : List α, (dedup l).length ≤ l.length
  | [] => Nat.le_refl _
  | x :: l => by
    unfold dedup
    split
    · exact Nat.le_succ_of_le (dedup_len l)
    · simp [dedup_len l]
/-- the signs of t, each once, in their order -/
theorem srt_ex (t : Txt) : ∃ ds : Txt, sortT (dedup (t.map fun c => [c])) = ds.map (fun c => [c]) ∧ ds.length ≤ t.length := by
  rw [dedup_sing]
  obtain ⟨ds, p, e⟩ := sort_signs (dedup t)
  exact ⟨ds, e, by rw [p.length_eq]; exact dedup_len t⟩
def srt (t : Txt) : Txt := joinT [] (sortT (dedup (t.map fun c => [c])))
theorem srt_eq (t : Txt) : sortT (dedup (t.map fun c => [c])) = (srt t).map fun c => [c] := by
  obtain ⟨ds, e, _⟩ := srt_ex t
  unfold srt
  rw [e, join_signs]
theorem srt_len (t : Txt) : (srt t).length ≤ t.length := by
  obtain ⟨ds, e, h⟩ := srt_ex t
  unfold srt
  rw [e, join_signs]
  exact h
theorem srt_mem {t : Txt} {c : Nat} (h : c ∈ srt t) : c ∈ t := by
  have p := sortT_perm (dedup (t.map fun c => [c]))
  rw [srt_eq] at p
  have h2 : [c] ∈ (srt t).map fun c => [c] := List.mem_map.mpr ⟨c, h, rfl⟩
  obtain ⟨d, hd, e⟩ := List.mem_map.mp (dedup_mem.mp (p.mem_iff.mp h2))
  cases e
  exact hd
def isA (t : Txt) : Bool := decide (1 ≤ t.length) && decide (t.length ≤ 3) && t.all (fun c => decide (c ∈ small)) && (t == srt t)
section
variable {L : Hh} {Q E : W → Hh → Prop} {C : Dx.Env}
theorem wp_allL {l : Nat} {bs : List Bool} (h : L[l]? = some (.lst (bs.map W.bl))) : wp (callB .allf [.ref l]) L Q E = Q (.bl (bs.all id)) L := by
  show wp (match (itemsOf L (.ref l)).bind fun ws => ws.mapM blOf with
    | some bs => ret (.bl (bs.all id))
    | none => fail) L Q E = _
  rw [itemsOf_lst h, Option.bind_some, mapM_bl]
  rfl
theorem wp_sortSet {t : Txt} (h : t.length < 4000) : wp (sortSet (.str t)) L Q E = Q (.ref L.length) (L ++ [.lst (((srt t).map fun c => [c]).map W.str)]) := by
  show wp (if decide (t.length < 4000) = true then alloc (.lst ((sortT (dedup (t.map fun c => [c]))).map .str)) else fail) L Q E = _
  rw [if_pos (decide_eq_true h), srt_eq]
  rfl
theorem okT_of {t : Txt} (h : ∀ c ∈ t, c < 0x110000) : okT t = true := by
  unfold okT
  rw [List.all_eq_true]
  exact fun c hc => decide_eq_true (h c hc)
def aE : Ex := (.bi .allf [(.lc [(("sign" : PySem.Str), 1)] (.nm 1) (.e (.var 0)) [] (.cmp .inn (.var 1) (.gs ("SMALL" : PySem.Str) small)))])
theorem alpha_eq : f_is_alphabet = ⟨2, [
  .ifs (.any [(.nt (.val (.isi (.var 0) (.ty "str")))), (.nt (.bv (.chn .le .le (.ki 1) (.bi .len [(.var 0)]) (.gi ("MOST_LETTERS" : PySem.Str) 3))))]) [
    .rtn (.kb false)] [],
  .rtn (.band [aE, (.cmp .eq (.var 0) (.met .join (.ks []) [(.srtset (.var 0))]))])]⟩ := rfl
theorem all_small {t : Txt} {v : Option W} (hz : t.length < 1000) (hq : ∀ L' : Hh, Ext L L' → Q (.bl (t.all fun c => decide (c ∈ small))) L') : wp (evE C [some (.str t), v] aE) L Q E := by
  have szl : (1000 : Nat) < sizeLine := by rw [sizeLine_eq]; omega
  simp [aE]
  refine loopC_inv (n := t.length) (fun i acc L' => L' = L ∧ acc = ((t.take i).map fun c => decide (c ∈ small)).map W.bl) (fun i acc L' hi ⟨g1, g2⟩ => ?_) (fun acc L' ⟨g1, g2⟩ => ?_) _ 0 [] _ (lt_fuel (by omega)) (Nat.zero_le _) ⟨rfl, rfl⟩
  · subst g1 g2
    refine ⟨.str [t[i]], by show some (signs t)[i]? = _; simp [signs, hi], ?_⟩
    have hti : t[i]? = some t[i] := List.getElem?_eq_getElem hi
    rw [wp_turnC]
    simp only [wipeF, List.map_cons, List.map_nil, wp_gnm, wp_ta_nil, if_true, wp_cmp, wp_var, wp_gs, List.set_cons_succ, List.set_cons_zero, List.getElem?_cons_succ, List.getElem?_cons_zero, wpX_inn, clsOf_str, Option.isSome_none, Bool.false_eq_true, if_false, wp_innS]
    refine ⟨by rw [List.length_map, List.length_map, List.length_take]; omega, trivial, ?_⟩
    rw [List.take_add_one, hti, Option.toList_some, List.map_append, List.map_append]; rfl
  · subst g1 g2
    refine ⟨by show some (signs t)[t.length]? = _; simp [signs], ?_⟩
    rw [List.take_of_length_le (Nat.le_refl _), wp_allL get_new]
    have ea : ((t.map fun c => decide (c ∈ small)).all id) = t.all fun c => decide (c ∈ small) := by rw [List.all_map]; rfl
    rw [ea]
    exact hq _ (Ext.app _)
theorem alpha_s {t : Txt} (hs : ∀ c ∈ t, c < 0x110000) (hz : t.length < 1000) (hq : ∀ L' : Hh, Ext L L' → Q (.bl (isA t)) L') : wp (runD C f_is_alphabet [.str t]) L Q E := by
  rw [alpha_eq]
  refine wp_runD (by simp) ?_
  have lo : lenOk t.length = true := by unfold lenOk; rw [decide_eq_true_eq, sizeLine_eq]; omega
  have self : Q (.bl (isA t)) L := hq L (Ext.refl L)
  by_cases h1 : 1 ≤ t.length
  · by_cases h3 : t.length ≤ 3
    · have h1' : (1 : Int) ≤ t.length := by omega
      have h3' : (t.length : Int) ≤ 3 := by omega
      simp [isKind, typeNm, lo, h1, h3, h1', h3']
      refine all_small hz fun L1 k1 => ?_
      cases hal : t.all (fun c => decide (c ∈ small)) with
      | false =>
        have e : isA t = false := by unfold isA; rw [hal]; simp
        rw [← e]
        dsimp only
        rw [if_neg (by rw [e]; exact Bool.false_ne_true)]
        exact hq _ k1
      | true =>
        have e : isA t = (t == srt t) := by unfold isA; rw [hal, decide_eq_true h1, decide_eq_true h3]; rfl
        dsimp only
        rw [if_pos rfl]
        simp [rcvOk]
        rw [wp_sortSet (by omega)]
        have hj : (((srt t).map fun c => [c]).map List.length).sum + ((srt t).map fun c => [c]).length * ([] : Txt).length ≤ 16777216 := by
          rw [sum_len]
          have := srt_len t
          simp
          omega
        rw [wp_joinL get_new hj, join_signs, wp_eqS, okT_of hs, okT_of fun c hc => hs c (srt_mem hc)]
        rw [← e]
        exact hq _ (k1.trans (Ext.app _))
    · have h1' : (1 : Int) ≤ t.length := by omega
      have h3' : ¬ (t.length : Int) ≤ 3 := by omega
      have e : isA t = false := by unfold isA; simp [h3]
      rw [e] at self
      simp [isKind, typeNm, lo, h1, h3, h1', h3', self]
  · have h1' : ¬ (1 : Int) ≤ t.length := by omega
    have e : isA t = false := by unfold isA; simp; omega
    rw [e] at self
    simp [isKind, typeNm, lo, h1, h1', self]
theorem isA_small {t : Txt} (h : isA t = true) : (∀ c ∈ t, c ∈ small) ∧ 1 ≤ t.length ∧ t.length ≤ 3 := by
  unfold isA at h
  simp only [Bool.and_eq_true, decide_eq_true_eq, List.all_eq_true] at h
  exact ⟨h.1.2, h.1.1.1, h.1.1.2⟩
theorem isA_lt {t : Txt} (h : isA t = true) : ∀ c ∈ t, c < 0x110000 := fun c hc => small_lt ((isA_small h).1 c hc)
theorem alphabet_ok {d : Nat} {t : Txt} (h : isA t = true) (hq : ∀ L' : Hh, Ext L L' → Q .non L') : wp (runD (Cd (d + 1)) f_check_alphabet [.str t]) L Q E := by
  refine wp_runD (by simp [f_check_alphabet]) ?_
  simp [f_check_alphabet, c_is_alphabet, arrW]
  refine alpha_s (isA_lt h) (by have := isA_small h; omega) fun L1 k1 => ?_
  simp [h]
  exact hq _ k1
end
end Q

set_option maxRecDepth 100000
set_option maxHeartbeats 4000000
/-! Ma6: data compared. -/
namespace Q
open PySem Dx
section
variable {α : Type} {g : α → PyData} {f : α → W}
theorem eqvAll_map [DecidableEq α] (h : ∀ a b, PyData.eqv (g a) (g b) = decide (a = b)) : ∀ as bs : List α, PyData.eqvAll (as.map g) (bs.map g) = decide (as = bs)
  | [], [] => rfl
  | [], _ :: _ => rfl
  | _ :: _, [] => rfl
  | a :: as, b :: bs => by
    rw [List.map_cons, List.map_cons]
    simp only [PyData.eqvAll, h, eqvAll_map h as bs]
    by_cases e : a = b <;> by_cases e2 : as = bs <;> simp [e, e2]
theorem eqv_tupM [DecidableEq α] (h : ∀ a b, PyData.eqv (g a) (g b) = decide (a = b)) (as bs : List α) : PyData.eqv (.tuple (as.map g)) (.tuple (bs.map g)) = decide (as = bs) := by
  simp only [PyData.eqv]
  exact eqvAll_map h as bs
theorem eqv_lstM [DecidableEq α] (h : ∀ a b, PyData.eqv (g a) (g b) = decide (a = b)) (as bs : List α) : PyData.eqv (.list (as.map g)) (.list (bs.map g)) = decide (as = bs) := by
  simp only [PyData.eqv]
  exact eqvAll_map h as bs
theorem lay_map : ∀ {as : List α}, (∀ a ∈ as, PyData.canLay0 (g a) = true) → PyData.canLayAll0 (as.map g) = true
  | [], _ => rfl
  | a :: as, h => by
    rw [List.map_cons]
    simp only [PyData.canLayAll0, h a (by simp), lay_map (as := as) fun b hb => h b (by simp [hb])]
    rfl
theorem dep_map {k : Nat} : ∀ {as : List α}, (∀ a ∈ as, PyData.depth (g a) ≤ k) → PyData.depthAll (as.map g) ≤ k
  | [], _ => by simp [PyData.depthAll]
  | a :: as, h => by
    rw [List.map_cons]
    simp only [PyData.depthAll]
    exact Nat.max_le.mpr ⟨h a (by simp), dep_map fun b hb => h b (by simp [hb])⟩
theorem mapM_as {L : Hh} {n : Nat} : ∀ {as : List α}, (∀ a ∈ as, asData L n (f a) = some (g a)) → (as.map f).mapM (asData L n) = some (as.map g)
  | [], _ => rfl
  | a :: as, h => by
    rw [List.map_cons, List.mapM_cons, h a (by simp), mapM_as fun b hb => h b (by simp [hb])]
    rfl
theorem as_tup {L : Hh} {n : Nat} {as : List α} (h : ∀ a ∈ as, asData L n (f a) = some (g a)) : asData L (n + 1) (.tup (as.map f)) = some (.tuple (as.map g)) := by
  show (((as.map f).mapM (asData L n)).map PyData.tuple) = _
  rw [mapM_as h]
  rfl
theorem as_lst {L : Hh} {n l : Nat} {as : List α} (hl : L[l]? = some (.lst (as.map f))) (h : ∀ a ∈ as, asData L n (f a) = some (g a)) : asData L (n + 1) (.ref l) = some (.list (as.map g)) := by
  show (match L[l]? with
    | some (.lst ws) => (ws.mapM (asData L n)).map PyData.list
    | some (.ro ws) => (ws.mapM (asData L n)).map PyData.list
    | _ => none) = _
  rw [hl]
  dsimp only
  rw [mapM_as h]
  rfl
end
theorem eqv_nat (a b : Nat) : PyData.eqv (.int (a : Int)) (.int (b : Int)) = decide (a = b) := by
  simp only [PyData.eqv]
  by_cases h : a = b
  · simp [h]
  · have : ¬ ((a : Int) = (b : Int)) := by omega
    simp [h, this]
theorem eqv_txt (a b : Txt) : PyData.eqv (.str ⟨a.toArray⟩) (.str ⟨b.toArray⟩) = decide (a = b) := by
  rw [eqv_str]
  by_cases h : a = b <;> simp [h]
/-- numbers as data -/
def iD (r : List Nat) : List PyData := r.map fun k : Nat => PyData.int (k : Int)
theorem as_int {L : Hh} {n k : Nat} : asData L n (.int (k : Int)) = some (.int (k : Int)) := by cases n <;> rfl
theorem as_str {L : Hh} {n : Nat} {t : Txt} : asData L n (.str t) = some (.str ⟨t.toArray⟩) := by cases n <;> rfl
theorem as_iT {L : Hh} {n : Nat} {r : List Nat} : asData L (n + 1) (.tup (iW r)) = some (.tuple (iD r)) := as_tup fun _ _ => as_int
theorem as_iL {L : Hh} {n l : Nat} {r : List Nat} (h : L[l]? = some (.lst (iW r))) : asData L (n + 1) (.ref l) = some (.list (iD r)) := as_lst h fun _ _ => as_int
/-- a table: a tuple of tuples -/
def tabW (rows : List (List Nat)) : W := .tup (rows.map fun r => .tup (iW r))
def tabD (rows : List (List Nat)) : List PyData := rows.map fun r => .tuple (iD r)
theorem as_tab {L : Hh} {n : Nat} {rows : List (List Nat)} : asData L (n + 2) (tabW rows) = some (.tuple (tabD rows)) := as_tup fun _ _ => as_iT
theorem as_tabL {L : Hh} {n l : Nat} {rows : List (List Nat)} (h : L[l]? = some (.lst (rows.map fun r => .tup (iW r)))) : asData L (n + 2) (.ref l) = some (.list (tabD rows)) := as_lst h fun _ _ => as_iT
theorem eqv_iT (a b : List Nat) : PyData.eqv (.tuple (iD a)) (.tuple (iD b)) = decide (a = b) := eqv_tupM eqv_nat a b
theorem eqv_iL (a b : List Nat) : PyData.eqv (.list (iD a)) (.list (iD b)) = decide (a = b) := eqv_lstM eqv_nat a b
theorem eqv_tab (a b : List (List Nat)) : PyData.eqv (.tuple (tabD a)) (.tuple (tabD b)) = decide (a = b) := eqv_tupM eqv_iT a b
theorem eqv_tabL (a b : List (List Nat)) : PyData.eqv (.list (tabD a)) (.list (tabD b)) = decide (a = b) := eqv_lstM eqv_iT a b
theorem lay_i {r : List Nat} : PyData.canLayAll0 (iD r) = true := lay_map fun _ _ => rfl
theorem lay_tab {rows : List (List Nat)} : PyData.canLayAll0 (tabD rows) = true := lay_map fun r _ => by simp only [PyData.canLay0]; exact lay_i
theorem dep_i {r : List Nat} : PyData.depthAll (iD r) ≤ 0 := dep_map fun _ _ => by simp [PyData.depth]
theorem dep_tab {rows : List (List Nat)} : PyData.depthAll (tabD rows) ≤ 1 := dep_map fun r _ => by
  have := dep_i (r := r)
  simp only [PyData.depth]
  omega
theorem lay_txt {t : Txt} (h : okT t = true) : PyData.canLay0 (.str ⟨t.toArray⟩) = true := by
  have := shaped_str h
  simp only [SeqAt.shaped, Bool.and_eq_true] at this
  exact this.1
/-- a machine's three things -/
def wholeW (t : Txt) (rows : List (List Nat)) (ends : List Nat) : W := .tup [.str t, tabW rows, .tup (iW ends)]
def wholeD (t : Txt) (rows : List (List Nat)) (ends : List Nat) : PyData := .tuple [.str ⟨t.toArray⟩, .tuple (tabD rows), .tuple (iD ends)]
theorem as_whole {L : Hh} {t : Txt} {rows : List (List Nat)} {ends : List Nat} : asData L 64 (wholeW t rows ends) = some (wholeD t rows ends) := by
  show ((([.str t, tabW rows, .tup (iW ends)] : List W).mapM (asData L 63)).map PyData.tuple) = _
  rw [List.mapM_cons, List.mapM_cons, List.mapM_cons, List.mapM_nil, as_str, as_tab (n := 61), as_iT (n := 62)]
  rfl
theorem shaped_whole {t : Txt} {rows : List (List Nat)} {ends : List Nat} (h : okT t = true) : SeqAt.shaped (wholeD t rows ends) = true := by
  have d1 := dep_tab (rows := rows)
  have d2 := dep_i (r := ends)
  simp only [SeqAt.shaped, wholeD, PyData.canLay0, PyData.canLayAll0, PyData.depth, PyData.depthAll, lay_tab, lay_i, Bool.and_eq_true, decide_eq_true_eq]
  have := lay_txt h
  simp only [PyData.canLay0] at this
  refine ⟨⟨this, trivial, trivial, trivial⟩, by omega⟩
theorem eqv_whole {t t' : Txt} {rows rows' : List (List Nat)} {ends ends' : List Nat} : PyData.eqv (wholeD t rows ends) (wholeD t' rows' ends') = decide (t = t' ∧ rows = rows' ∧ ends = ends') := by
  show (PyData.eqv (.str ⟨t.toArray⟩) (.str ⟨t'.toArray⟩) && (PyData.eqv (.tuple (tabD rows)) (.tuple (tabD rows')) && (PyData.eqv (.tuple (iD ends)) (.tuple (iD ends')) && true))) = _
  rw [eqv_txt, eqv_tab, eqv_iT]
  by_cases h1 : t = t' <;> by_cases h2 : rows = rows' <;> by_cases h3 : ends = ends' <;> simp [h1, h2, h3]
theorem wp_eqWhole {L : Hh} {Q E : W → Hh → Prop} {t t' : Txt} {rows rows' : List (List Nat)} {ends ends' : List Nat} (h : okT t = true) (h' : okT t' = true) : wp (cmpop .eq (wholeW t rows ends) (wholeW t' rows' ends')) L Q E = Q (.bl (decide (t = t' ∧ rows = rows' ∧ ends = ends'))) L := by
  rw [wp_eq, as_whole, as_whole]
  simp only [shaped_whole h, shaped_whole h', eqv_whole, Bool.and_self, if_true]
end Q

set_option maxRecDepth 100000
set_option maxHeartbeats 4000000
/-! Ma7: a machine is made. -/
namespace Q
open PySem Dx
theorem Ext.kp {l : Nat} {L L' : Hh} (s : Ext L L') : Keep l L L' := fun j o _ e => s j o e
/-- ascending -/
def srtN (g : List Nat) : List Nat := (sortI (g.map fun k : Nat => (k : Int))).map Int.toNat
theorem srtN_int (g : List Nat) : (sortI (g.map fun k : Nat => (k : Int))).map W.int = iW (srtN g) := by
  unfold iW srtN
  rw [List.map_map]
  refine List.map_congr_left fun i hi => ?_
  obtain ⟨k, _, rfl⟩ := List.mem_map.mp ((sortI_perm _).mem_iff.mp hi)
  simp
theorem srtN_asc {g h : List Nat} (p : g.Perm h) (hs : g.Pairwise (· ≤ ·)) : srtN h = g := by
  have e : (g.map fun k : Nat => (k : Int)) = sortI (h.map fun k : Nat => (k : Int)) := by
    refine sortI_eq (p.map _) ?_
    rw [List.pairwise_map]
    exact hs.imp fun h => by omega
  unfold srtN
  rw [← e, List.map_map]
  refine (List.map_congr_left fun k _ => ?_).trans (List.map_id _)
  simp
/-- a machine -/
def macO (t : Txt) (rows : List (List Nat)) (ends : List Nat) : O := .ins K_Machine [(F_signs, .str t), (F_table, tabW rows), (F_ends, .tup (iW ends)), (F_whole, wholeW t rows ends)]
theorem mapM_intI (r : List Nat) : (iW r).mapM intOf = some (r.map fun k : Nat => (k : Int)) := by
  induction r with
  | nil => rfl
  | cons t ts ih =>
    show ((W.int t :: iW ts).mapM intOf) = _
    rw [List.mapM_cons, ih]
    rfl
section
variable {L : Hh} {Q E : W → Hh → Prop} {C : Dx.Env}
theorem tupW {w : W} {ws : List W} (h : SeqAt L w ws) (hq : Q (.tup ws) L) : wp (callBX C .tuplef [w]) L Q E := by
  rcases h with rfl | ⟨a, rfl, h⟩
  · exact hq
  · rw [callBX_tuple]
    show wp (match itemsOf L (.ref a) with
      | some ws => ret (.tup ws)
      | none => fail) L Q E
    rw [itemsOf_lst h]
    exact hq
theorem sortedW {w : W} {g : List Nat} (h : SeqAt L w (iW g)) (hq : ∀ L', Ext L L' → L'[L.length]? = some (.lst (iW (srtN g))) → Q (.ref L.length) L') : wp (callBX C .sortedf [w]) L Q E := by
  rw [callBX_sorted]
  have fin : wp (alloc (.lst ((sortI (g.map fun k : Nat => (k : Int))).map W.int))) L Q E := by
    rw [srtN_int]
    exact hq _ (Ext.app _) get_new
  rcases h with rfl | ⟨a, rfl, h⟩
  · show wp (match (iW g).mapM intOf with
      | some is => alloc (.lst ((sortI is).map .int))
      | none => fail) L Q E
    rw [mapM_intI]
    exact fin
  · show wp (match itemsOf L (.ref a) with
      | some ws => (match ws.mapM intOf with
        | some is => alloc (.lst ((sortI is).map .int))
        | none => (match ws.mapM txtOf with
          | some ts => if decide (ts.length < 64) then alloc (.lst ((sortT ts).map .str)) else fail
          | none => fail))
      | none => fail) L Q E
    rw [itemsOf_lst h]
    dsimp only
    rw [mapM_intI]
    exact fin
def tabE : Ex := (.bi .tuplef [(.lc [(("row" : PySem.Str), 4)] (.nm 4) (.e (.var 2)) [] (.bi .tuplef [(.var 4)]))])
def endE : Ex := (.bi .tuplef [(.bi .sortedf [(.var 3)])])
theorem init_eq : f_Machine_init = ⟨5, [
  .exp (.call n_check_alphabet [(.var 1)] []),
  .exp (.call n_check_rows [(.var 2), (.bi .len [(.var 1)])] []),
  .exp (.call n_check_good [(.var 3), (.bi .len [(.var 2)])] []),
  .asg (.fld (.var 0) F_signs) (.var 1),
  .asg (.fld (.var 0) F_table) tabE,
  .asg (.fld (.var 0) F_ends) endE,
  .asg (.fld (.var 0) F_whole) (.tup [(.fld (.var 0) F_signs), (.fld (.var 0) F_table), (.fld (.var 0) F_ends)])]⟩ := rfl
theorem tabE_ok {w a b v : W} {x : Option W} {ws : List W} {rows : List (List Nat)} (hw : SeqAt L w ws) (hr : RowsAt L ws rows) (hz : rows.length < 1000) (hq : ∀ L', Ext L L' → Q (tabW rows) L') : wp (evE C [some a, some b, some w, some v, x] tabE) L Q E := by
  have szl : (1000 : Nat) < sizeLine := by rw [sizeLine_eq]; omega
  simp [tabE, -wp_ie]
  refine src_seqat hw (Ext.refl L) (by rfl) fun s hs => ?_
  refine loopC_inv (n := rows.length) (fun i acc L' => L' = L ∧ acc = (rows.take i).map fun r => .tup (iW r)) (fun i acc L' hi ⟨h1, e⟩ => ?_) (fun acc L' ⟨h1, e⟩ => ?_) _ 0 [] _ (lt_fuel (by omega)) (Nat.zero_le _) ⟨rfl, rfl⟩
  · subst h1
    obtain ⟨wi, g1, g2⟩ := hr.row i rows[i] (List.getElem?_eq_getElem hi)
    refine ⟨wi, by rw [hs L' i (Ext.refl L'), g1], ?_⟩
    simp [wp_turnC, wipeF, -callBX_tuple]
    refine tupW g2 ?_
    refine ⟨by rw [e]; simp; omega, rfl, ?_⟩
    rw [e, List.take_add_one]
    simp [hi]
  · subst h1
    refine ⟨by rw [hs L' _ (Ext.refl L')]; rw [List.getElem?_eq_none (by rw [hr.len]; omega)], ?_⟩
    subst e
    rw [List.take_of_length_le (Nat.le_refl _), ← callBX_tuple (C := C)]
    exact tupW (.inr ⟨_, rfl, get_new⟩) (hq _ (Ext.app _))
theorem endE_ok {w a b v : W} {x : Option W} {g : List Nat} (hg : SeqAt L v (iW g)) (hq : ∀ L', Ext L L' → Q (.tup (iW (srtN g))) L') : wp (evE C [some a, some b, some w, some v, x] endE) L Q E := by
  simp [endE, -callBX_tuple, -callBX_sorted]
  refine sortedW hg fun L1 k1 g1 => ?_
  exact tupW (.inr ⟨_, rfl, g1⟩) (hq _ k1)
theorem SeqAt.kp {L L' : Hh} {l c : Nat} {fs : List (Nat × W)} {w : W} {ws : List W} (h : SeqAt L w ws) (hl : L[l]? = some (.ins c fs)) (k : Keep l L L') : SeqAt L' w ws := by
  rcases h with h | ⟨a, h1, h2⟩
  · exact .inl h
  · refine .inr ⟨a, h1, k a _ (fun e => ?_) h2⟩
    rw [e, hl] at h2
    cases h2
theorem RowsAt.kp {L L' : Hh} {l c : Nat} {fs : List (Nat × W)} {ws : List W} {rows : List (List Nat)} (h : RowsAt L ws rows) (hl : L[l]? = some (.ins c fs)) (k : Keep l L L') : RowsAt L' ws rows := ⟨h.len, fun i r e => let ⟨w, e1, e2⟩ := h.row i r e; ⟨w, e1, e2.kp hl k⟩⟩
/-- what a machine may be made of -/
structure Fit (t : Txt) (rows : List (List Nat)) (good : List Nat) : Prop where
  al : isA t = true
  one : 1 ≤ rows.length
  most : rows.length ≤ 24
  wide : ∀ r ∈ rows, r.length = t.length
  goal : ∀ r ∈ rows, ∀ g ∈ r, g < rows.length
  nod : good.Nodup
  gst : ∀ k ∈ good, k < rows.length
theorem nodup_len : ∀ (n : Nat) {g : List Nat}, g.Nodup → (∀ k ∈ g, k < n) → g.length ≤ n
  | 0, g, _, h => by
    cases g with
    | nil => simp
    | cons a g => exact absurd (h a (by simp)) (by omega)
  | n + 1, g, hn, h => by
    have h1 := nodup_len n (hn.erase n) fun k hk => by
      have h2 := h k (List.mem_of_mem_erase hk)
      have h3 := ((List.Nodup.mem_erase_iff hn).mp hk).1
      omega
    have h2 := List.length_erase (a := n) (l := g)
    split at h2 <;> omega
theorem Fit.ok {t : Txt} {rows : List (List Nat)} {good : List Nat} (f : Fit t rows good) : okT t = true := okT_of (isA_lt f.al)
theorem init_ok {d l : Nat} {t : Txt} {rows : List (List Nat)} {good : List Nat} {w v : W} {ws : List W} (hl : L[l]? = some (.ins K_Machine [])) (f : Fit t rows good) (hw : SeqAt L w ws) (hr : RowsAt L ws rows) (hg : SeqAt L v (iW good))
    (hq : ∀ L', Keep l L L' → L'[l]? = some (macO t rows (srtN good)) → Q .non L') : wp (runD (Cd (d + 3)) f_Machine_init [.ref l, .str t, w, v]) L Q E := by
  have ht := isA_small f.al
  have lo : lenOk t.length = true := by unfold lenOk; rw [decide_eq_true_eq, sizeLine_eq]; omega
  have hgl := nodup_len _ f.nod f.gst
  have h24 := f.most
  rw [init_eq]
  refine wp_runD (by simp) ?_
  rw [wp_ss_cons]
  simp [c_check_alphabet, arrW, -wp_ss_cons]
  refine alphabet_ok f.al fun L1 k1 => ?_
  rw [wp_ss_cons]
  simp [lo, c_check_rows, arrW, -wp_ss_cons]
  refine rows_ok (hw.ext k1) (hr.ext k1) f.one f.most f.wide f.goal (by omega) fun L2 k2 => ?_
  rw [wp_ss_cons]
  simp [-wpX_len, -wp_ss_cons]
  refine lenW (hw.ext (k1.trans k2)) ?_
  rw [hr.len]
  simp [c_check_good, arrW, -wp_ss_cons]
  refine good_ok (hg.ext (k1.trans k2)) f.nod f.gst (by omega) fun L3 k3 => ?_
  have k03 := (k1.trans k2).trans k3
  have l3 := k03 _ _ hl
  simp only [wp_ss_cons, wp_asg, wp_gfld, wp_var, List.getElem?_cons_succ, List.getElem?_cons_zero]
  rw [wp_setFld l3 (cf_Machine_signs _) (by simp)]
  have e4 : Keep l L (L3.set l (.ins K_Machine (putFld F_signs (.str t) []))) := k03.kp.trans (Keep.set _)
  have l4 := get_set (o' := .ins K_Machine (putFld F_signs (.str t) [])) l3
  generalize L3.set l (.ins K_Machine (putFld F_signs (.str t) [])) = L4 at e4 l4
  rw [thenS_nx]
  simp only [wp_ss_cons, wp_asg, wp_gfld]
  refine tabE_ok (hw.kp hl e4) (hr.kp hl e4) (by omega) fun L5 k5 => ?_
  have l5 := k5 _ _ l4
  simp only [wp_var, List.getElem?_cons_succ, List.getElem?_cons_zero]
  rw [wp_setFld l5 (cf_Machine_table _) (by simp [putFld])]
  have e6 := (e4.trans k5.kp).trans (Keep.set (l := l) (.ins K_Machine (putFld F_table (tabW rows) (putFld F_signs (.str t) []))))
  have l6 := get_set (o' := .ins K_Machine (putFld F_table (tabW rows) (putFld F_signs (.str t) []))) l5
  generalize L5.set l (.ins K_Machine (putFld F_table (tabW rows) (putFld F_signs (.str t) []))) = L6 at e6 l6
  rw [thenS_nx]
  simp only [wp_ss_cons, wp_asg, wp_gfld]
  refine endE_ok (hg.kp hl e6) fun L7 k7 => ?_
  have l7 := k7 _ _ l6
  simp only [wp_var, List.getElem?_cons_succ, List.getElem?_cons_zero]
  rw [wp_setFld l7 (cf_Machine_ends _) (by simp [putFld])]
  have e8 := (e6.trans k7.kp).trans (Keep.set (l := l) (.ins K_Machine (putFld F_ends (.tup (iW (srtN good))) (putFld F_table (tabW rows) (putFld F_signs (.str t) [])))))
  have l8 := get_set (o' := .ins K_Machine (putFld F_ends (.tup (iW (srtN good))) (putFld F_table (tabW rows) (putFld F_signs (.str t) [])))) l7
  generalize L7.set l (.ins K_Machine (putFld F_ends (.tup (iW (srtN good))) (putFld F_table (tabW rows) (putFld F_signs (.str t) [])))) = L8 at e8 l8
  rw [thenS_nx]
  have lo3 : lenOk 3 = true := by decide
  simp [l8, putFld, getFld, lo3]
  refine hq _ (e8.trans (Keep.set _)) ?_
  rw [get_set l8]
  rfl
/-- Machine(t, rows, good) -/
theorem mk_ok {d k : Nat} {t : Txt} {rows : List (List Nat)} {good : List Nat} {w v : W} {ws : List W} {as : List W} {n : Nat} (hk : (Cd (d + 5)).mks k = some (K_Machine, n)) (hn : ∀ l, (Cd (d + 4)).call n (.ref l :: as) = runD (Cd (d + 3)) f_Machine_init [.ref l, .str t, w, v]) (f : Fit t rows good) (hw : SeqAt L w ws) (hr : RowsAt L ws rows) (hg : SeqAt L v (iW good))
    (hq : ∀ L', Ext L L' → L'[L.length]? = some (macO t rows (srtN good)) → Q (.ref L.length) L') : wp (makeOf (Cd (d + 5)) k as) L Q E := by
  rw [wp_make hk, envD_callM, hn]
  have k0 : Ext L (L ++ [.ins K_Machine []]) := Ext.app _
  refine init_ok get_new f (hw.ext k0) (hr.ext k0) (hg.ext k0) fun L1 k1 l1 => ?_
  exact hq _ (fun j o e => k1 j o (by have := lt_of_get e; omega) (k0 j o e)) l1
theorem mk_Machine {d : Nat} {t : Txt} {rows : List (List Nat)} {good : List Nat} {w v : W} {ws : List W} (f : Fit t rows good) (hw : SeqAt L w ws) (hr : RowsAt L ws rows) (hg : SeqAt L v (iW good))
    (hq : ∀ L', Ext L L' → L'[L.length]? = some (macO t rows (srtN good)) → Q (.ref L.length) L') : wp (makeOf (Cd (d + 5)) MK_Machine [.str t, w, v]) L Q E := mk_ok (mks_Machine _) (fun l => c_Machine_init _ _) f hw hr hg hq
end
end Q

set_option maxRecDepth 100000
set_option maxHeartbeats 4000000
/-! Ma8: what a machine tells. -/
namespace Q
open PySem Dx
theorem clsM {L : Hh} {l : Nat} {t : Txt} {rows : List (List Nat)} {ends : List Nat} (h : L[l]? = some (macO t rows ends)) : clsOf L (.ref l) = some K_Machine := by
  rw [clsOf_ref, h]
  rfl
theorem sub_refl {d k : Nat} : (Cd d).sub k k = true := by cases d <;> simp [envD, envT]
section
variable {L : Hh} {Q E : W → Hh → Prop} {d l : Nat} {t : Txt} {rows : List (List Nat)} {ends : List Nat}
theorem f_signs (h : L[l]? = some (macO t rows ends)) : wp (fldOf (Cd d) (.ref l) F_signs) L Q E = Q (.str t) L := wp_fldOf h (cf_Machine_signs _) rfl
theorem f_table (h : L[l]? = some (macO t rows ends)) : wp (fldOf (Cd d) (.ref l) F_table) L Q E = Q (tabW rows) L := wp_fldOf h (cf_Machine_table _) rfl
theorem f_ends (h : L[l]? = some (macO t rows ends)) : wp (fldOf (Cd d) (.ref l) F_ends) L Q E = Q (.tup (iW ends)) L := wp_fldOf h (cf_Machine_ends _) rfl
theorem f_whole (h : L[l]? = some (macO t rows ends)) : wp (fldOf (Cd d) (.ref l) F_whole) L Q E = Q (wholeW t rows ends) L := wp_fldOf h (cf_Machine_whole _) rfl
end
end Q

set_option maxRecDepth 100000
set_option maxHeartbeats 4000000
/-! La1: a pick, an alphabet. -/
namespace Q
open PySem Dx
abbrev RQ : Type := W → Hh → Prop
theorem pick_eq : f_law_pick = fPick := rfl
theorem hand_eq : f_law_hand = fHand := rfl
theorem Same1_kp {l : Nat} {L L' : Hh} (s : Same1 l L L') : Keep l L L' := fun j o h e => by rw [s.ne j h]; exact e
theorem hand_ext {L L' : Hh} {l c : Nat} {is : List Int} (h : HandAt L l c is) (k : Ext L L') : HandAt L' l c is := h.same k
theorem hand_lt {L : Hh} {l c : Nat} {is : List Int} (h : HandAt L l c is) : l < L.length := by
  obtain ⟨⟨i, z, mk, h1, _⟩, _⟩ := h
  exact lt_of_get h1
theorem sortT_idem {xs : List Txt} (h : xs.Pairwise (fun a b => txtLe a b = true)) : sortT xs = xs :=
  uniq_of (fun _ _ => le_anti) (sortT_perm xs) (sortT_sorted xs) h
theorem dedup_id {α : Type} [DecidableEq α] : ∀ {l : List α}, l.Nodup → dedup l = l
  | [], _ => rfl
  | x :: l, h => by
    have h2 := List.nodup_cons.mp h
    unfold dedup
    rw [dedup_id h2.2, if_neg h2.1]
theorem sing_inj {a b : Nat} (h : ([a] : Txt) = [b]) : a = b := by cases h; rfl
/-- sorted signs, each once: an alphabet -/
theorem isA_sort {cs ds : Txt} (h1 : 1 ≤ cs.length) (h3 : cs.length ≤ 3) (hs : ∀ c ∈ cs, c ∈ small) (hn : cs.Nodup) (p : ds.Perm cs) (e : sortT (cs.map fun c => [c]) = ds.map fun c => [c]) : isA ds = true := by
  have hl := p.length_eq
  have nd : (ds.map fun c => [c]).Nodup := List.pairwise_map.mpr ((p.nodup_iff.mpr hn).imp fun h z => h (sing_inj z))
  have e2 : srt ds = ds := by
    unfold srt
    rw [dedup_id nd, ← e, sortT_idem (sortT_sorted _), e, join_signs]
  unfold isA
  rw [e2]
  simp only [Bool.and_eq_true, decide_eq_true_eq, List.all_eq_true, beq_self_eq_true, and_true]
  exact ⟨⟨by omega, by omega⟩, fun c hc => hs c (p.mem_iff.mp hc)⟩
section
variable {L : Hh} {Q E : RQ} {d l c : Nat} {is : List Int}
/-- a pick, called -/
theorem cpick {m : Int} (h : HandAt L l c is) (hm : 0 < m) (hm2 : m < 1073741824) (hq : ∀ (r : Nat) L', (r : Int) < m → HandAt L' l c is → Keep l L L' → Q (.int r) L') : wp ((Cd (d + 1)).call n_law_pick [.ref l, .int m]) L Q E := by
  rw [c_law_pick, pick_eq]
  refine pick_ok h hm hm2 fun r L' r0 r1 h' s => ?_
  obtain ⟨k, rfl⟩ := Int.eq_ofNat_of_zero_le r0
  exact hq k L' r1 h' (Same1_kp s)
theorem mapM_int_none {t : Txt} {ts : List Txt} : ((t :: ts).map W.str).mapM intOf = none := by
  rw [List.map_cons, List.mapM_cons]
  rfl
theorem wp_sortedT {a : Nat} {t : Txt} {ts : List Txt} (h : L[a]? = some (.lst ((t :: ts).map W.str))) (hl : (t :: ts).length < 64) : wp (callB .sortedf [.ref a]) L Q E = Q (.ref L.length) (L ++ [.lst ((sortT (t :: ts)).map W.str)]) := by
  show wp (match itemsOf L (.ref a) with
    | some ws => (match ws.mapM intOf with
      | some is => alloc (.lst ((sortI is).map .int))
      | none => (match ws.mapM txtOf with
        | some ts => if decide (ts.length < 64) then alloc (.lst ((sortT ts).map .str)) else fail
        | none => fail))
    | none => fail) L Q E = _
  rw [itemsOf_lst h]
  dsimp only
  rw [mapM_int_none]
  dsimp only
  rw [mapM_txt]
  dsimp only
  rw [if_pos (decide_eq_true hl)]
  rfl
/-- the letter at a place -/
def letN (a b k : Nat) : Nat := small.getD ((a + (1 + b) * k) % 26) 0
theorem at_small {j : Nat} (h : j < 26) : L2.atI small (j : Int) = some (small.getD j 0) := by
  rw [atI_ofNat small j h, List.getElem?_eq_getElem h, List.getD_eq_getElem?_getD, List.getElem?_eq_getElem h]
  rfl
theorem mem_small {j : Nat} (h : j < 26) : small.getD j 0 ∈ small := by
  rw [List.getD_eq_getElem?_getD, List.getElem?_eq_getElem h]
  exact List.getElem_mem h
theorem letN_mem (a b k : Nat) : letN a b k ∈ small := by
  unfold letN
  exact mem_small (Nat.mod_lt _ (by omega))
theorem small_inj : ∀ i < 26, ∀ j < 26, small.getD i 0 = small.getD j 0 → i = j := by decide +kernel
theorem letN_ne {a b i j : Nat} (hb : b < 8) (hij : i < j) (hj : j < 3) : letN a b i ≠ letN a b j := fun e => by
  have h := small_inj _ (Nat.mod_lt _ (by decide)) _ (Nat.mod_lt _ (by decide)) e
  have k : ∀ i j : Nat, i < j → j < 3 → (a + (1 + b) * i) % 26 = (a + (1 + b) * j) % 26 → False := fun i j h1 h2 h3 => by
    have : (i = 0 ∧ j = 1) ∨ (i = 0 ∧ j = 2) ∨ (i = 1 ∧ j = 2) := by omega
    rcases this with ⟨rfl, rfl⟩ | ⟨rfl, rfl⟩ | ⟨rfl, rfl⟩ <;> omega
  exact k i j hij hj h
def lets (a b n : Nat) : Txt := (List.range n).map (letN a b)
theorem lets_nodup {a b n : Nat} (hb : b < 8) (hn : n ≤ 3) : (lets a b n).Nodup := by
  unfold lets
  refine List.pairwise_map.mpr ?_
  refine List.Pairwise.imp_of_mem (fun {i j} hi hj h => ?_) List.pairwise_lt_range
  exact letN_ne hb h (by have := List.mem_range.mp hj; omega)
theorem signs_ok {n : Nat} (h : HandAt L l c is) (hn1 : 1 ≤ n) (hn : n ≤ 3) (hq : ∀ t L', isA t = true → t.length = n → HandAt L' l c is → Keep l L L' → Q (.str t) L') : wp (runD (Cd (d + 1)) f_law_signs [.ref l, .int n]) L Q E := by
  refine wp_runD (by simp [f_law_signs]) ?_
  simp [f_law_signs]
  refine cpick h (by omega) (by omega) fun r1 L1 r11 h1 k1 => ?_
  refine cpick h1 (by omega) (by omega) fun r2 L2 r21 h2 k2 => ?_
  obtain ⟨R1, eR1⟩ : ∃ R1 : Int, (r1 : Int) = R1 := ⟨_, rfl⟩
  obtain ⟨R2, eR2⟩ : ∃ R2 : Int, (r2 : Int) = R2 := ⟨_, rfl⟩
  rw [eR1, eR2]
  have hl26 : lenOk 26 = true := by decide
  have s3 : smallR (n : Int) = true := by unfold smallR; simp; omega
  have szl : (64 : Nat) < sizeLine := by rw [sizeLine_eq]; omega
  have lo2 : lenOk 2 = true := by decide
  simp [s3, rcvOk, lo2]
  refine loopC_inv (n := n) (fun i acc L' => L' = L2 ∧ acc = ((lets r1 r2 i).map fun c => [c]).map W.str) (fun i acc L' hi ⟨e1, e4⟩ => ?_) (fun acc L' ⟨e1, e4⟩ => ?_) _ 0 [] _ (lt_fuel (by omega)) (Nat.zero_le _) ⟨rfl, rfl⟩
  · subst e1
    refine ⟨.int i, by simp [srcAt, hi], ?_⟩
    have hj2 : (r1 + (1 + r2) * i) % 26 < 26 := Nat.mod_lt _ (by omega)
    have hj : (R1 + (1 + R2) * (i : Int)) % 26 = (((r1 + (1 + r2) * i) % 26 : Nat) : Int) := by
      rw [← eR1, ← eR2]
      simp
    have hsm : smallI (i : Int) = true := by unfold smallI; simp; omega
    have g : L2.atI ([97, 98, 99, 100, 101, 102, 103, 104, 105, 106, 107, 108, 109, 110, 111, 112, 113, 114, 115, 116, 117, 118, 119, 120, 121, 122] : List Nat) ((R1 + (1 + R2) * (i : Int)) % 26) = some (letN r1 r2 i) := by
      rw [hj]
      unfold letN
      exact at_small hj2
    simp [wp_turnC, wipeF, hsm, hl26, g]
    refine ⟨by rw [e4]; simp [lets]; omega, ?_⟩
    rw [e4]
    simp [lets, List.range_succ]
  · subst e1 e4
    refine ⟨by simp [srcAt], ?_⟩
    have hnd := lets_nodup (a := r1) (b := r2) (n := n) (by omega) hn
    have hll : (lets r1 r2 n).length = n := by simp [lets]
    have hms : ∀ c ∈ lets r1 r2 n, c ∈ small := fun c hc => by
      obtain ⟨k, _, rfl⟩ := List.mem_map.mp hc
      exact letN_mem _ _ _
    generalize lets r1 r2 n = cs at hnd hll hms
    cases cs with
    | nil => simp at hll; omega
    | cons c0 cs =>
      obtain ⟨ds, pm, es⟩ := sort_signs (c0 :: cs)
      have ia := isA_sort (by omega) (by omega) hms hnd pm es
      have hds := pm.length_eq
      rw [List.map_cons] at es ⊢
      rw [wp_sortedT get_new (by simp at hll ⊢; omega), es]
      rw [wp_joinL get_new (by rw [sum_len]; simp at hll hds ⊢; omega), join_signs]
      exact hq ds _ ia (by omega) (hand_ext h2 ((Ext.app _).trans (Ext.app _))) (k1.trans (k2.trans ((Keep.app _).trans (Keep.app _))))
end
end Q

set_option maxRecDepth 100000
set_option maxHeartbeats 4000000
/-! La2: what is the same; a drawn machine. -/
namespace Q
open PySem Dx
/-- tuples of numbers -/
def tW (rows : List (List Nat)) : List W := rows.map fun r => .tup (iW r)
inductive SameR (L : Hh) : Nat → W → W → Prop
  | int {n : Nat} (i : Int) : SameR L n (.int i) (.int i)
  | bl {n : Nat} (b : Bool) : SameR L n (.bl b) (.bl b)
  | str {n : Nat} {t : Txt} (h : okT t = true) : SameR L n (.str t) (.str t)
  | tup {n : Nat} {vs ws : List W} (hl : vs.length = ws.length) (h : ∀ (i : Nat) (v w : W), vs[i]? = some v → ws[i]? = some w → SameR L n v w) (hz : vs.length < 1000) : SameR L (n + 1) (.tup vs) (.tup ws)
  | lst {n a b : Nat} {vs ws : List W} (ha : L[a]? = some (.lst vs)) (hb : L[b]? = some (.lst ws)) (hl : vs.length = ws.length) (h : ∀ (i : Nat) (v w : W), vs[i]? = some v → ws[i]? = some w → SameR L n v w) (hz : vs.length < 1000) : SameR L (n + 1) (.ref a) (.ref b)
theorem SameR.mono {L L' : Hh} {n m : Nat} {v w : W} (h : SameR L n v w) (k : Ext L L') : n ≤ m → SameR L' m v w := by
  induction h generalizing m with
  | int i => exact fun _ => .int i
  | bl b => exact fun _ => .bl b
  | str h => exact fun _ => .str h
  | tup hl h hz ih =>
    intro z
    obtain ⟨m, rfl⟩ : ∃ m', m = m' + 1 := ⟨m - 1, by omega⟩
    exact .tup hl (fun i v w e1 e2 => ih i v w e1 e2 (by omega)) hz
  | lst ha hb hl h hz ih =>
    intro z
    obtain ⟨m, rfl⟩ : ∃ m', m = m' + 1 := ⟨m - 1, by omega⟩
    exact .lst (k _ _ ha) (k _ _ hb) hl (fun i v w e1 e2 => ih i v w e1 e2 (by omega)) hz
theorem same_iT {L : Hh} {n : Nat} {r : List Nat} (hz : r.length < 1000) : SameR L (n + 1) (.tup (iW r)) (.tup (iW r)) := .tup rfl (fun i v w e1 e2 => by
  rw [e1] at e2
  cases e2
  obtain ⟨k, _, rfl⟩ := List.mem_map.mp (List.mem_of_getElem? e1)
  exact .int _) (by simpa [iW] using hz)
theorem same_iL {L : Hh} {n a b : Nat} {r : List Nat} (ha : L[a]? = some (.lst (iW r))) (hb : L[b]? = some (.lst (iW r))) (hz : r.length < 1000) : SameR L (n + 1) (.ref a) (.ref b) := .lst ha hb rfl (fun i v w e1 e2 => by
  rw [e1] at e2
  cases e2
  obtain ⟨k, _, rfl⟩ := List.mem_map.mp (List.mem_of_getElem? e1)
  exact .int _) (by simpa [iW] using hz)
theorem same_tL {L : Hh} {n a b : Nat} {rows : List (List Nat)} (ha : L[a]? = some (.lst (tW rows))) (hb : L[b]? = some (.lst (tW rows))) (hz : rows.length < 1000) (hr : ∀ r ∈ rows, r.length < 1000) : SameR L (n + 2) (.ref a) (.ref b) := .lst ha hb rfl (fun i v w e1 e2 => by
  rw [e1] at e2
  cases e2
  obtain ⟨r, hm, rfl⟩ := List.mem_map.mp (List.mem_of_getElem? e1)
  exact same_iT (hr r hm)) (by simpa [tW] using hz)
theorem eqv_bl (a b : Bool) : PyData.eqv (.bool a) (.bool b) = (a == b) := by cases a <;> cases b <;> rfl
@[simp] theorem wp_eqB {L : Hh} {Q E : RQ} {a b : Bool} : wp (cmpop .eq (.bl a) (.bl b)) L Q E = Q (.bl (a == b)) L := by
  rw [wp_eq]
  have s1 : ∀ b : Bool, SeqAt.shaped (.bool b) = true := by decide
  simp [asData, s1, eqv_bl]
@[simp] theorem wp_neB {L : Hh} {Q E : RQ} {a b : Bool} : wp (cmpop .ne (.bl a) (.bl b)) L Q E = Q (.bl (!(a == b))) L := by
  rw [wp_neq]
  have s1 : ∀ b : Bool, SeqAt.shaped (.bool b) = true := by decide
  simp [asData, s1, eqv_bl]
section
theorem all_same {d : Nat} {s : Src} {vs ws : List W} {L : Hh} {Q E1 E2 : RQ} {ρ0 ρ1 : W} (hl : vs.length = ws.length) (hz : vs.length < 1000) (hs : ∀ L' i, Ext L L' → srcAt L' i s = some (match vs[i]?, ws[i]? with
      | some x, some y => some (.tup [x, y])
      | _, _ => none))
    (ih : ∀ (i : Nat) (v w : W), vs[i]? = some v → ws[i]? = some w → ∀ (L' : Hh) (Q E : RQ), Ext L L' → (∀ L2, Ext L' L2 → Q (.bl true) L2) → wp (runD (Cd d) f_law_same [v, w]) L' Q E) (hq : ∀ L', Ext L L' → Q (.bl true) L') :
    wp (loopC s (turnC (Cd (d + 1)) [some ρ0, some ρ1, none, none] [(("_law_one" : PySem.Str), 2), (("_law_two" : PySem.Str), 3)] (.tup [(.nm 2), (.nm 3)]) [] (.call n_law_same [(.var 2), (.var 3)] [])) fuel 0 []) L (fun ws L1 => wp (callB .allf [.ref L1.length]) (L1 ++ [.lst ws]) Q E2) E1 := by
  have szl : (1000 : Nat) < sizeLine := by rw [sizeLine_eq]; omega
  refine loopC_inv (n := vs.length) (fun i acc L' => Ext L L' ∧ acc = List.replicate i (W.bl true)) (fun i acc L' hi ⟨h1, h2⟩ => ?_) (fun acc L' ⟨h1, h2⟩ => ?_) _ 0 [] _ (lt_fuel (by omega)) (Nat.zero_le _) ⟨Ext.refl L, rfl⟩
  · have hi2 : i < ws.length := by omega
    refine ⟨.tup [vs[i], ws[i]], by rw [hs L' i h1]; simp [hi, hi2], ?_⟩
    simp [wp_turnC, wipeF, c_law_same, arrW]
    refine ih i _ _ (List.getElem?_eq_getElem hi) (List.getElem?_eq_getElem hi2) L' _ _ h1 fun L2 k2 => ?_
    exact ⟨by rw [h2]; simp; omega, h1.trans k2, by rw [h2, List.replicate_succ']⟩
  · refine ⟨by rw [hs L' _ h1]; simp [hl], ?_⟩
    subst h2
    rw [wp_allT get_new]
    exact hq _ (h1.trans (Ext.app _))
theorem same_ok {n : Nat} {L0 : Hh} {v w : W} (h : SameR L0 n v w) : ∀ (d : Nat) (L : Hh) (Q E : RQ), Ext L0 L → n ≤ d → (∀ L', Ext L L' → Q (.bl true) L') → wp (runD (Cd d) f_law_same [v, w]) L Q E := by
  induction h with
  | @int n i =>
    intro d L Q E k hd hq
    refine wp_runD (by simp [f_law_same]) ?_
    simp [f_law_same, isNone, isKind, anyKind, typeNm]
    exact hq L (Ext.refl L)
  | @bl n b =>
    intro d L Q E k hd hq
    refine wp_runD (by simp [f_law_same]) ?_
    simp [f_law_same, isNone, isKind, anyKind, typeNm, wp_eqB]
    exact hq L (Ext.refl L)
  | @str n t h =>
    intro d L Q E k hd hq
    refine wp_runD (by simp [f_law_same]) ?_
    simp [f_law_same, isNone, isKind, anyKind, typeNm, h]
    exact hq L (Ext.refl L)
  | @tup n vs ws hl h hz ih =>
    intro d L Q E k hd hq
    obtain ⟨d, rfl⟩ : ∃ d', d = d' + 1 := ⟨d - 1, by omega⟩
    refine wp_runD (by simp [f_law_same]) ?_
    simp [f_law_same, isNone, isKind, anyKind, typeNm, hl]
    exact all_same (s := .zipT vs ws) hl hz (fun L' i _ => rfl) (fun i v w e1 e2 L' Q E k' hq => ih i v w e1 e2 d L' Q E (k.trans k') (by omega) hq) hq
  | @lst n a b vs ws ha hb hl h hz ih =>
    intro d L Q E k hd hq
    obtain ⟨d, rfl⟩ : ∃ d', d = d' + 1 := ⟨d - 1, by omega⟩
    refine wp_runD (by simp [f_law_same]) ?_
    have ha' := k _ _ ha
    have hb' := k _ _ hb
    simp [f_law_same, isNone, isKind, anyKind, typeNm, hl, ha', hb', itemsOf]
    exact all_same (s := .zipL a b) hl hz (fun L' i e => by
      have q1 := itemsOf_lst (e _ _ ha')
      have q2 := itemsOf_lst (e _ _ hb')
      unfold srcAt
      dsimp only
      rw [q1, q2]
      try rfl) (fun i v w e1 e2 L' Q E k' hq => ih i v w e1 e2 d L' Q E (k.trans k') (by omega) hq) hq
end
end Q

set_option maxRecDepth 100000
set_option maxHeartbeats 4000000
/-! La3: a drawn machine. -/
namespace Q
open PySem Dx
structure Drawn (w m : Nat) (rows : List (List Nat)) (good : List Nat) : Prop where
  one : 1 ≤ rows.length
  most : rows.length ≤ m
  wide : ∀ r ∈ rows, r.length = w
  goal : ∀ r ∈ rows, ∀ g ∈ r, g < rows.length
  asc : good.Pairwise (· < ·)
  gst : ∀ k ∈ good, k < rows.length
theorem Drawn.fit {t : Txt} {m : Nat} {rows : List (List Nat)} {good : List Nat} (h : Drawn t.length m rows good) (ha : isA t = true) (hm : m ≤ 24) : Fit t rows good :=
  ⟨ha, h.one, by have := h.most; omega, h.wide, h.goal, h.asc.imp fun h => by omega, h.gst⟩
def rowE : Ex := (.bi .tuplef [(.lc [(("_law_sign" : PySem.Str), 5)] (.nm 5) (.e (.var 1)) [] (.call n_law_pick [(.var 0), (.var 3)] []))])
def linE : Ex := (.lc [(("_law_k" : PySem.Str), 6)] (.nm 6) (.rng [(.var 3)]) [] rowE)
def gooE : Ex := (.lc [(("_law_k" : PySem.Str), 6)] (.nm 6) (.rng [(.var 3)]) [(.bv (.cmp .eq (.call n_law_pick [(.var 0), (.ki 2)] []) (.ki 0)))] (.var 6))
theorem drawn_eq : f_law_drawn = ⟨7, [
  .asg (.nm 3) (.bin .add (.ki 1) (.call n_law_pick [(.var 0), (.var 2)] [])),
  .asg (.nm 4) linE,
  .rtn (.tup [(.var 1), (.var 4), gooE])]⟩ := rfl
section
variable {L : Hh} {Q E : RQ} {d l c : Nat} {is : List Int}
/-- the same, the number as such: no cast stands in the term (the kernel would count it out) -/
theorem cpickI {m : Int} (h : HandAt L l c is) (hm : 0 < m) (hm2 : m < 1073741824) (hq : ∀ (r : Int) (k : Nat) L', r = k → r < m → HandAt L' l c is → Keep l L L' → Q (.int r) L') : wp ((Cd (d + 1)).call n_law_pick [.ref l, .int m]) L Q E :=
  cpick h hm hm2 fun k L' hk h' kk => hq k k L' rfl hk h' kk
theorem rowE_ok {ρ : Fr} {sg : Txt} {many : Nat} {M : Int} (hM : M = many) (h : HandAt L l c is) (h0 : ρ[0]? = some (some (.ref l))) (h1 : ρ[1]? = some (some (.str sg))) (h3 : ρ[3]? = some (some (.int M))) (hz : sg.length < 1000) (hm : 0 < many) (hm2 : many < 1000)
    (hq : ∀ r L', r.length = sg.length → (∀ g ∈ r, g < many) → HandAt L' l c is → Keep l L L' → Q (.tup (iW r)) L') : wp (evE (Cd (d + 1)) ρ rowE) L Q E := by
  have szl : (1000 : Nat) < sizeLine := by rw [sizeLine_eq]; omega
  simp [rowE, h1]
  refine loopC_inv (n := sg.length) (fun i acc L' => HandAt L' l c is ∧ Keep l L L' ∧ ∃ r : List Nat, r.length = i ∧ (∀ g ∈ r, g < many) ∧ acc = iW r) (fun i acc L' hi ⟨g1, g2, r, g3, g4, g5⟩ => ?_) (fun acc L' ⟨g1, g2, r, g3, g4, g5⟩ => ?_) _ 0 [] _ (lt_fuel (by omega)) (Nat.zero_le _) ⟨h, Keep.refl l L, [], rfl, (fun _ z => nomatch z), rfl⟩
  · refine ⟨.str [sg[i]], by show some (signs sg)[i]? = _; simp [signs, hi], ?_⟩
    have q0 : ((ρ.set 5 none).set 5 (some (W.str [sg[i]])))[0]? = some (some (.ref l)) := by simp [h0]
    have q3 : ((ρ.set 5 none).set 5 (some (W.str [sg[i]])))[3]? = some (some (.int M)) := by simp [h3]
    simp only [List.set_set] at q0 q3
    simp [wp_turnC, wipeF, q0, q3]
    refine cpick g1 (by omega) (by omega) fun k L2 hk hh kk => ?_
    refine ⟨by rw [g5]; simp [iW]; omega, hh, g2.trans kk, r ++ [k], by simp [g3], fun g hg => ?_, by rw [g5]; simp [iW]⟩
    rcases List.mem_append.mp hg with z | z
    · exact g4 g z
    · have : g = k := by simpa using z
      omega
  · refine ⟨by show some (signs sg)[sg.length]? = _; simp [signs], ?_⟩
    subst g5
    show wp (callB .tuplef [.ref L'.length]) (L' ++ [.lst (iW r)]) Q E
    rw [← callBX_tuple (C := Cd d)]
    refine tupW (.inr ⟨_, rfl, get_new⟩) ?_
    exact hq r _ g3 g4 (hand_ext g1 (Ext.app _)) (g2.trans (Keep.app _))
theorem linE_ok {sg : Txt} {m : W} {many : Nat} {M : Int} (hM : M = many) (h : HandAt L l c is) (hz : sg.length < 1000) (hm : 0 < many) (hm2 : many < 1000)
    (hq : ∀ rows a L', rows.length = many → (∀ r ∈ rows, r.length = sg.length) → (∀ r ∈ rows, ∀ g ∈ r, g < many) → L'[a]? = some (.lst (tW rows)) → a ≠ l → HandAt L' l c is → Keep l L L' → Q (.ref a) L') : wp (evE (Cd (d + 1)) [some (.ref l), some (.str sg), some m, some (.int M), none, none, none] linE) L Q E := by
  have szl : (1000 : Nat) < sizeLine := by rw [sizeLine_eq]; omega
  have sR : smallR M = true := by unfold smallR; simp; omega
  have tn : M.toNat = many := by omega
  simp [linE, sR, tn]
  refine loopC_inv (n := many) (fun i acc L' => HandAt L' l c is ∧ Keep l L L' ∧ ∃ rows : List (List Nat), rows.length = i ∧ (∀ r ∈ rows, r.length = sg.length) ∧ (∀ r ∈ rows, ∀ g ∈ r, g < many) ∧ acc = tW rows) (fun i acc L' hi ⟨g1, g2, rows, g3, g4, g5, g6⟩ => ?_) (fun acc L' ⟨g1, g2, rows, g3, g4, g5, g6⟩ => ?_) _ 0 [] _ (lt_fuel (by omega)) (Nat.zero_le _) ⟨h, Keep.refl l L, [], rfl, (fun _ z => nomatch z), (fun _ z => nomatch z), rfl⟩
  · refine ⟨.int i, by simp [srcAt, hi], ?_⟩
    simp [wp_turnC, wipeF]
    refine rowE_ok hM g1 (by rfl) (by rfl) (by rfl) hz hm hm2 fun r L2 e1 e2 hh kk => ?_
    refine ⟨by rw [g6]; simp [tW]; omega, hh, g2.trans kk, rows ++ [r], by simp [g3], fun x hx => ?_, fun x hx => ?_, by rw [g6]; simp [tW]⟩
    · rcases List.mem_append.mp hx with z | z
      · exact g4 x z
      · have : x = r := by simpa using z
        rw [this]; exact e1
    · rcases List.mem_append.mp hx with z | z
      · exact g5 x z
      · have : x = r := by simpa using z
        rw [this]; exact e2
  · refine ⟨by simp [srcAt], ?_⟩
    subst g6
    have hl := hand_lt g1
    exact hq rows _ _ g3 g4 g5 get_new (by omega) (hand_ext g1 (Ext.app _)) (g2.trans (Keep.app _))
theorem gooE_ok {sg : Txt} {m a : W} {many : Nat} {M : Int} (hM : M = many) (h : HandAt L l c is) (hm : 0 < many) (hm2 : many < 1000)
    (hq : ∀ good b L', good.Pairwise (· < ·) → (∀ k ∈ good, k < many) → L'[b]? = some (.lst (iW good)) → b ≠ l → HandAt L' l c is → Keep l L L' → Q (.ref b) L') : wp (evE (Cd (d + 1)) [some (.ref l), some (.str sg), some m, some (.int M), some a, none, none] gooE) L Q E := by
  have szl : (1000 : Nat) < sizeLine := by rw [sizeLine_eq]; omega
  have sR : smallR M = true := by unfold smallR; simp; omega
  have tn : M.toNat = many := by omega
  simp [gooE, sR, tn]
  refine loopC_inv (n := many) (fun i acc L' => HandAt L' l c is ∧ Keep l L L' ∧ ∃ good : List Nat, good.Pairwise (· < ·) ∧ (∀ k ∈ good, k < i) ∧ good.length ≤ i ∧ acc = iW good) (fun i acc L' hi ⟨g1, g2, good, g3, g4, g5, g6⟩ => ?_) (fun acc L' ⟨g1, g2, good, g3, g4, g5, g6⟩ => ?_) _ 0 [] _ (lt_fuel (by omega)) (Nat.zero_le _) ⟨h, Keep.refl l L, [], .nil, (fun _ z => nomatch z), Nat.le_refl _, rfl⟩
  · refine ⟨.int i, by simp [srcAt, hi], ?_⟩
    simp [wp_turnC, wipeF]
    refine cpick g1 (by omega) (by omega) fun k L2 hk hh kk => ?_
    simp
    by_cases hk0 : k = 0
    · simp [hk0]
      refine ⟨by rw [g6]; simp [iW]; omega, hh, g2.trans kk, good ++ [i], ?_, fun x hx => ?_, by simp; omega, by rw [g6]; simp [iW]⟩
      · refine List.pairwise_append.mpr ⟨g3, by simp, fun x hx y hy => ?_⟩
        have : y = i := by simpa using hy
        have := g4 x hx
        omega
      · rcases List.mem_append.mp hx with z | z
        · have := g4 x z; omega
        · have : x = i := by simpa using z
          omega
    · simp [hk0]
      exact ⟨hh, g2.trans kk, good, g3, fun x hx => by have := g4 x hx; omega, by omega, g6⟩
  · refine ⟨by simp [srcAt], ?_⟩
    subst g6
    have hl := hand_lt g1
    exact hq good _ _ g3 g4 get_new (by omega) (hand_ext g1 (Ext.app _)) (g2.trans (Keep.app _))
theorem drawn_ok {sg : Txt} {m : Nat} (h : HandAt L l c is) (hz : sg.length < 1000) (hm : 0 < m) (hm2 : m < 1000)
    (hq : ∀ rows good a b L', Drawn sg.length m rows good → L'[a]? = some (.lst (tW rows)) → L'[b]? = some (.lst (iW good)) → a ≠ l → b ≠ l → HandAt L' l c is → Keep l L L' → Q (.tup [.str sg, .ref a, .ref b]) L') : wp (runD (Cd (d + 1)) f_law_drawn [.ref l, .str sg, .int m]) L Q E := by
  rw [drawn_eq]
  refine wp_runD (by simp) ?_
  simp
  refine cpickI h (by omega) (by omega) fun K k L1 hK hk h1 k1 => ?_
  simp
  have hM2 : 1 + K = ((1 + k : Nat) : Int) := by omega
  refine linE_ok hM2 h1 hz (by omega) (by omega) fun rows a L2 e1 e2 e3 ga na h2 k2 => ?_
  refine gooE_ok hM2 h2 (by omega) (by omega) fun good b L3 s1 s2 gb nb h3 k3 => ?_
  have lo3 : lenOk 3 = true := by decide
  simp [lo3]
  refine hq rows good a b L3 ⟨by omega, by omega, e2, fun r hr g hg => by have := e3 r hr g hg; omega, s1, fun x hx => by have := s2 x hx; omega⟩ (k3 _ _ na ga) gb na nb h3 (k1.trans (k2.trans k3))
end
end Q

set_option maxRecDepth 100000
set_option maxHeartbeats 4000000
/-! Lb1: words read by a model, by a machine. -/
namespace Q
open PySem Dx
abbrev FQ : Type := Fl × Fr → Hh → Prop
/-- where a sign first stands -/
def ixN (sg : Txt) (c : Nat) : Nat := ((Builtin.Str.occurrences (⟨sg.toArray⟩ : Str) ⟨#[c]⟩ 0 (⟨sg.toArray⟩ : Str).length 1).head?).getD 0
theorem ix_ok {sg : Txt} {c : Nat} (h : c ∈ sg) : Txt.index0 (⟨sg.toArray⟩ : Str) ⟨[c].toArray⟩ = some (ixN sg c) ∧ Txt.find (⟨sg.toArray⟩ : Str) ⟨[c].toArray⟩ = ((ixN sg c : Nat) : Int) ∧ ixN sg c < sg.length := by
  have e : ([c] : List Nat).toArray = #[c] := rfl
  have f := StrLaws.found_one (⟨sg.toArray⟩ : Str) c
  have sp := StrLaws.occ_spec (⟨sg.toArray⟩ : Str) ⟨#[c]⟩ 0 (⟨sg.toArray⟩ : Str).length 1
  unfold Txt.index0 Txt.find ixN
  rw [e]
  cases q : Builtin.Str.occurrences (⟨sg.toArray⟩ : Str) ⟨#[c]⟩ 0 (⟨sg.toArray⟩ : Str).length 1 with
  | nil =>
    rw [q] at f
    simp at f
    exact absurd h f
  | cons k r =>
    rw [q] at sp
    have h1 := (sp k (by simp)).1
    have e1 : (⟨#[c]⟩ : Str).length = 1 := rfl
    have e2 : (⟨sg.toArray⟩ : Str).length = sg.length := str_len sg
    rw [e1, e2] at h1
    exact ⟨rfl, rfl, by simp; omega⟩
def stepN (rows : List (List Nat)) (sg : Txt) (s c : Nat) : Nat := (rows.getD s []).getD (ixN sg c) 0
def ledN (rows : List (List Nat)) (sg : Txt) (s : Nat) (t : Txt) : Nat := t.foldl (stepN rows sg) s
/-- rows that fit the signs -/
structure Tabl (sg : Txt) (rows : List (List Nat)) : Prop where
  one : 1 ≤ rows.length
  most : rows.length < 1000
  wide : ∀ r ∈ rows, r.length = sg.length
  goal : ∀ r ∈ rows, ∀ g ∈ r, g < rows.length
  sgl : sg.length < 1000
theorem step_row {sg : Txt} {rows : List (List Nat)} {s c : Nat} (T : Tabl sg rows) (hs : s < rows.length) (hc : c ∈ sg) : rows[s]? = some (rows.getD s []) ∧ (rows.getD s [])[ixN sg c]? = some (stepN rows sg s c) ∧ stepN rows sg s c < rows.length := by
  have e : rows[s]? = some (rows.getD s []) := by rw [List.getD_eq_getElem?_getD, List.getElem?_eq_getElem hs]; rfl
  have hm : rows.getD s [] ∈ rows := List.mem_of_getElem? e
  have hx := (ix_ok hc).2.2
  have hw := T.wide _ hm
  have e2 : (rows.getD s [])[ixN sg c]? = some (stepN rows sg s c) := by
    unfold stepN
    rw [List.getD_eq_getElem?_getD (l := rows.getD s []), List.getElem?_eq_getElem (by omega)]
    rfl
  exact ⟨e, e2, T.goal _ hm _ (List.mem_of_getElem? e2)⟩
theorem led_lt {sg : Txt} {rows : List (List Nat)} (T : Tabl sg rows) : ∀ {t : Txt} {s : Nat}, (∀ c ∈ t, c ∈ sg) → s < rows.length → ledN rows sg s t < rows.length
  | [], s, _, hs => hs
  | c :: t, s, h, hs => led_lt T (t := t) (fun d hd => h d (by simp [hd])) (step_row T hs (h c (by simp))).2.2
theorem led_take {sg : Txt} {rows : List (List Nat)} {t : Txt} {s i : Nat} (hi : i < t.length) : ledN rows sg s (t.take (i + 1)) = stepN rows sg (ledN rows sg s (t.take i)) t[i] := by
  unfold ledN
  rw [List.take_add_one, List.getElem?_eq_getElem hi, List.foldl_append]
  rfl
abbrev modW (sg : Txt) (a b : Nat) : W := .tup [.str sg, .ref a, .ref b]
section
variable {L : Hh} {Q E : RQ} {F : FQ} {C : Dx.Env} {d l c a b m : Nat} {is : List Int} {sg t : Txt} {rows : List (List Nat)} {good : List Nat}
theorem item_ref {ws : List W} {k : Nat} {w : W} (h : L[a]? = some (.lst ws)) (e : ws[k]? = some w) : wp (itemAt (.ref a) (.int (k : Int))) L Q E = Q w L := by
  have hk := (List.getElem?_eq_some_iff.mp e).1
  rw [wp_itemL, h]
  dsimp only
  rw [atI_ofNat ws k hk, e]
theorem item_tup {ws : List W} {k : Nat} {w : W} (e : ws[k]? = some w) : wp (itemAt (.tup ws) (.int (k : Int))) L Q E = Q w L := by
  have hk := (List.getElem?_eq_some_iff.mp e).1
  rw [wp_itemT, atI_ofNat ws k hk, e]
theorem mod_0 : wp (itemAt (modW sg a b) (.int 0)) L Q E = Q (.str sg) L := item_tup (k := 0) rfl
theorem mod_1 : wp (itemAt (modW sg a b) (.int 1)) L Q E = Q (.ref a) L := item_tup (k := 1) rfl
theorem mod_2 : wp (itemAt (modW sg a b) (.int 2)) L Q E = Q (.ref b) L := item_tup (k := 2) rfl
theorem wp_index {c : Nat} (h : c ∈ sg) : wp (callM .indexs (.str sg) [.str [c]]) L Q E = Q (.int ((ixN sg c : Nat) : Int)) L := by
  show wp (match PySem.Txt.index0 (⟨sg.toArray⟩ : Str) ⟨[c].toArray⟩ with
    | some k => ret (W.int ((k : Nat) : Int))
    | none => fail) L Q E = _
  rw [(ix_ok h).1]
  rfl
theorem wp_find {c : Nat} (h : c ∈ sg) : wp (callM .find (.str sg) [.str [c]]) L Q E = Q (.int ((ixN sg c : Nat) : Int)) L := by
  show wp (ret (W.int (PySem.Txt.find (⟨sg.toArray⟩ : Str) ⟨[c].toArray⟩))) L Q E = _
  rw [(ix_ok h).2.1]
  rfl
/-! ### the model -/
def ledB : Sm := .asg (.nm 3) (.sub (.sub (.sub (.var 0) (.ki 1)) (.var 3)) (.met .indexs (.sub (.var 0) (.ki 0)) [(.var 4)]))
theorem law_led_eq : f_law_led = ⟨5, [.asg (.nm 3) (.var 1), .fors (.nm 4) (.e (.var 2)) [ledB], .rtn (.var 3)]⟩ := rfl
theorem ledB_ok {x y : Option W} {s c : Nat} (T : Tabl sg rows) (ha : L[a]? = some (.lst (tW rows))) (hs : s < rows.length) (hc : c ∈ sg) (hq : F (.nx, [some (modW sg a b), x, y, some (.int ((stepN rows sg s c : Nat) : Int)), some (.str [c])]) L) :
    wp (exS C ledB [some (modW sg a b), x, y, some (.int (s : Int)), some (.str [c])]) L F E := by
  obtain ⟨e1, e2, _⟩ := step_row T hs hc
  have g1 : (tW rows)[s]? = some (.tup (iW (rows.getD s []))) := by unfold tW; rw [List.getElem?_map, e1]; rfl
  have g2 : (iW (rows.getD s []))[ixN sg c]? = some (.int ((stepN rows sg s c : Nat) : Int)) := by unfold iW; rw [List.getElem?_map, e2]; rfl
  simp only [ledB, wp_asg, wp_sub, wp_var, wp_ki, wp_met, List.getElem?_cons_zero, List.getElem?_cons_succ, mod_0, mod_1]
  rw [item_ref ha g1]
  simp only [show rcvOk L .indexs (.str sg) = true from rfl, if_true, wp_es_cons, wp_es_nil, wp_var, List.getElem?_cons_zero, List.getElem?_cons_succ]
  rw [wp_index hc, item_tup g2, wp_gnm]
  exact hq
theorem law_led_ok {s : Nat} (T : Tabl sg rows) (ha : L[a]? = some (.lst (tW rows))) (hs : s < rows.length) (ht : ∀ c ∈ t, c ∈ sg) (hz : t.length < 1000) (hq : Q (.int ((ledN rows sg s t : Nat) : Int)) L) : wp (runD C f_law_led [modW sg a b, .int (s : Int), .str t]) L Q E := by
  rw [law_led_eq]
  refine wp_runD (by simp) ?_
  simp
  refine loopF_inv (n := t.length) (fun i ρ L' => L' = L ∧ ∃ v, ρ = [some (modW sg a b), some (.int (s : Int)), some (.str t), some (.int ((ledN rows sg s (t.take i) : Nat) : Int)), v]) (fun i ρ L' hi ⟨e1, v, e2⟩ => ?_) (fun ρ L' ⟨e1, v, e2⟩ => ?_) _ 0 _ _ (lt_fuel (by omega)) (Nat.zero_le _) ⟨rfl, none, rfl⟩
  · subst e1 e2
    refine ⟨.str [t[i]], by show some (signs t)[i]? = _; simp [signs, hi], ?_⟩
    rw [wp_gnm]
    simp only [List.set_cons_succ, List.set_cons_zero]
    rw [wp_ss_cons]
    have hti : t[i] ∈ t := List.getElem_mem hi
    refine ledB_ok T ha (led_lt T (fun c hc => ht c (List.mem_of_mem_take hc)) hs) (ht _ hti) ?_
    rw [thenS_nx, wp_ss_nil]
    exact ⟨rfl, _, by rw [led_take hi]⟩
  · subst e1 e2
    refine ⟨by show some (signs t)[t.length]? = _; simp [signs], ?_⟩
    rw [List.take_of_length_le (Nat.le_refl _)]
    simp
    exact hq
/-! ### the machine -/
theorem tab_row {s c : Nat} (T : Tabl sg rows) (hs : s < rows.length) (hc : c ∈ sg) : wp (itemAt (tabW rows) (.int (s : Int))) L (fun x L1 => wp (itemAt x (.int ((ixN sg c : Nat) : Int))) L1 Q E) E = Q (.int ((stepN rows sg s c : Nat) : Int)) L := by
  obtain ⟨e1, e2, _⟩ := step_row T hs hc
  have g1 : (rows.map fun r => W.tup (iW r))[s]? = some (.tup (iW (rows.getD s []))) := by rw [List.getElem?_map, e1]; rfl
  have g2 : (iW (rows.getD s []))[ixN sg c]? = some (.int ((stepN rows sg s c : Nat) : Int)) := by unfold iW; rw [List.getElem?_map, e2]; rfl
  unfold tabW
  rw [item_tup g1, item_tup g2]
theorem step_ok {s c : Nat} (h : L[m]? = some (macO sg rows good)) (T : Tabl sg rows) (hs : s < rows.length) (hc : c ∈ sg) (hq : Q (.int ((stepN rows sg s c : Nat) : Int)) L) : wp (runD (Cd d) f_Machine_step [.ref m, .int (s : Int), .str [c]]) L Q E := by
  refine wp_runD (by simp [f_Machine_step]) ?_
  simp only [f_Machine_step, List.map_cons, List.map_nil, List.length_cons, List.length_nil, Nat.sub_self, List.replicate_zero, List.append_nil, wp_ss_cons, wp_rtn, wp_sub, wp_fld, wp_var, List.getElem?_cons_zero, List.getElem?_cons_succ, f_table h]
  obtain ⟨e1, e2, _⟩ := step_row T hs hc
  have g1 : (rows.map fun r => W.tup (iW r))[s]? = some (.tup (iW (rows.getD s []))) := by rw [List.getElem?_map, e1]; rfl
  have g2 : (iW (rows.getD s []))[ixN sg c]? = some (.int ((stepN rows sg s c : Nat) : Int)) := by unfold iW; rw [List.getElem?_map, e2]; rfl
  unfold tabW
  rw [item_tup g1]
  simp only [wp_met, wp_fld, wp_var, List.getElem?_cons_zero, List.getElem?_cons_succ, f_signs h]
  simp only [show rcvOk L .find (.str sg) = true from rfl, if_true, wp_es_cons, wp_es_nil, wp_var, List.getElem?_cons_zero, List.getElem?_cons_succ]
  rw [wp_find hc, item_tup g2, thenS_rt, wp_end_rt]
  exact hq
def mledB : Sm := .asg (.nm 3) (.mcall M_step (.var 0) [(.var 3), (.var 4)] [])
theorem led_eq : f_Machine_led = ⟨5, [.asg (.nm 3) (.var 1), .fors (.nm 4) (.e (.var 2)) [mledB], .rtn (.var 3)]⟩ := rfl
theorem mled_ok {s : Nat} (h : L[m]? = some (macO sg rows good)) (T : Tabl sg rows) (hs : s < rows.length) (ht : ∀ c ∈ t, c ∈ sg) (hz : t.length < 1000) (hq : Q (.int ((ledN rows sg s t : Nat) : Int)) L) : wp (runD (Cd (d + 1)) f_Machine_led [.ref m, .int (s : Int), .str t]) L Q E := by
  rw [led_eq]
  refine wp_runD (by simp) ?_
  simp
  refine loopF_inv (n := t.length) (fun i ρ L' => L' = L ∧ ∃ v, ρ = [some (.ref m), some (.int (s : Int)), some (.str t), some (.int ((ledN rows sg s (t.take i) : Nat) : Int)), v]) (fun i ρ L' hi ⟨e1, v, e2⟩ => ?_) (fun ρ L' ⟨e1, v, e2⟩ => ?_) _ 0 _ _ (lt_fuel (by omega)) (Nat.zero_le _) ⟨rfl, none, rfl⟩
  · subst e1 e2
    refine ⟨.str [t[i]], by show some (signs t)[i]? = _; simp [signs, hi], ?_⟩
    rw [wp_gnm]
    simp only [List.set_cons_succ, List.set_cons_zero]
    rw [wp_ss_cons]
    have hti : t[i] ∈ t := List.getElem_mem hi
    simp only [mledB, wp_asg, wp_mcall, wp_var, List.getElem?_cons_zero, List.getElem?_cons_succ, clsM h, Option.bind_some, mt_Machine_step, wp_es_cons, wp_es_nil, List.cons_append, List.nil_append, List.append_nil]
    rw [c_Machine_step]
    refine step_ok h T (led_lt T (fun c hc => ht c (List.mem_of_mem_take hc)) hs) (ht _ hti) ?_
    rw [wp_gnm, thenS_nx, wp_ss_nil]
    exact ⟨rfl, _, by rw [led_take hi]; rfl⟩
  · subst e1 e2
    refine ⟨by show some (signs t)[t.length]? = _; simp [signs], ?_⟩
    rw [List.take_of_length_le (Nat.le_refl _)]
    simp
    exact hq
end
end Q

set_option maxRecDepth 100000
set_option maxHeartbeats 4000000
/-! Lb2: states and words, checked. -/
namespace Q
open PySem Dx
/-- no state -/
def OddS (L : Hh) (n : Nat) (w : W) : Prop := (∃ i : Int, w = .int i ∧ ¬ (0 ≤ i ∧ i ≤ (n : Int) - 1)) ∨ ∃ a, typeNm L w = some a ∧ a ≠ "int"
def wordB (sg t : Txt) : Bool := t.all fun c => decide (c ∈ sg)
theorem wordB_iff {sg t : Txt} : wordB sg t = true ↔ ∀ c ∈ t, c ∈ sg := by
  unfold wordB
  rw [List.all_eq_true]
  exact ⟨fun h c hc => of_decide_eq_true (h c hc), fun h c hc => decide_eq_true (h c hc)⟩
/-- no word -/
def BadW (L : Hh) (sg : Txt) (w : W) : Prop := (∃ t, w = .str t ∧ wordB sg t = false ∧ t.length < 1000) ∨ ∃ a, typeNm L w = some a ∧ a ≠ "str"
section
variable {L : Hh} {Q E : RQ} {F : FQ} {C : Dx.Env} {d l c a b m : Nat} {is : List Int} {sg t : Txt} {rows : List (List Nat)} {good : List Nat} {w : W}
theorem kind_ty {n x : String} {sb : Nat → Nat → Bool} (h : typeNm L w = some x) : isKind sb L w (.ty n) = some (x == n || (x == "bool" && n == "int")) := by
  show (typeNm L w).map _ = _
  rw [h]
  rfl
theorem num_no {x : String} (h : typeNm L w = some x) (hx : x ≠ "int") (hq : Q (.bl false) L) : wp (runD C f_is_number [w]) L Q E := by
  refine wp_runD (by simp [f_is_number]) ?_
  have e1 : (x == "int") = false := by simpa using hx
  by_cases hb : x = "bool"
  · subst hb
    simp [f_is_number, kind_ty h]
    exact hq
  · have e2 : (x == "bool") = false := by simpa using hb
    simp [f_is_number, kind_ty h, hb, hx]
    exact hq
theorem from_odd {n : Nat} {N : Int} (hN : N = (n : Int) - 1) (h : OddS L n w) (hq : Q (.bl false) L) : wp (runD (Cd (d + 1)) f_is_from [w, .int 0, .int N]) L Q E := by
  refine wp_runD (by simp [f_is_from]) ?_
  rcases h with ⟨i, rfl, h⟩ | ⟨x, h, hx⟩
  · simp [f_is_from, c_is_number, arrW]
    refine num_ok ?_
    by_cases h0 : 0 ≤ i
    · have h1 : ¬ i ≤ N := fun z => h ⟨h0, by omega⟩
      simp [h0, h1]
      exact hq
    · simp [h0]
      exact hq
  · simp [f_is_from, c_is_number, arrW]
    refine num_no h hx ?_
    simp
    exact hq
theorem tab_len : wp (callBX C .len [tabW rows]) L Q E = Q (.int rows.length) L := by
  simp [tabW]
theorem cst_eq : f_Machine_check_state = ⟨2, [
  .ifs (.nt (.val (.call n_is_from [(.var 1), (.ki 0), (.bin .sub (.bi .len [(.fld (.var 0) F_table)]) (.ki 1))] []))) [
    .rse X_InvalidState [(.var 1)]] []]⟩ := rfl
theorem cst_ok {s : Nat} (h : L[m]? = some (macO sg rows good)) (hs : s < rows.length) (hq : Q .non L) : wp (runD (Cd (d + 2)) f_Machine_check_state [.ref m, .int (s : Int)]) L Q E := by
  rw [cst_eq]
  refine wp_runD (by simp) ?_
  simp [f_table h, tab_len, c_is_from, arrW, -wp_fldR, -wpX_len]
  refine from_ok ⟨by omega, by omega⟩ ?_
  simp
  exact hq
theorem cst_no (h : L[m]? = some (macO sg rows good)) (hw : OddS L rows.length w) (hq : E (.exn X_InvalidState [w]) L) : wp (runD (Cd (d + 2)) f_Machine_check_state [.ref m, w]) L Q E := by
  rw [cst_eq]
  refine wp_runD (by simp) ?_
  simp [f_table h, tab_len, c_is_from, arrW, -wp_fldR, -wpX_len]
  refine from_odd rfl hw ?_
  simp
  exact hq
/-! ### words -/
def wE : Ex := (.bi .allf [(.lc [(("sign" : PySem.Str), 2)] (.nm 2) (.e (.var 1)) [] (.cmp .inn (.var 2) (.var 0)))])
theorem isw_eq : f_is_word = ⟨3, [.rtn (.band [(.isi (.var 1) (.ty "str")), wE])]⟩ := rfl
theorem wE_ok {v : Option W} (hz : t.length < 1000) (hq : ∀ L' : Hh, Ext L L' → Q (.bl (wordB sg t)) L') : wp (evE C [some (.str sg), some (.str t), v] wE) L Q E := by
  have szl : (1000 : Nat) < sizeLine := by rw [sizeLine_eq]; omega
  simp [wE]
  refine loopC_inv (n := t.length) (fun i acc L' => L' = L ∧ acc = ((t.take i).map fun c => decide (c ∈ sg)).map W.bl) (fun i acc L' hi ⟨g1, g2⟩ => ?_) (fun acc L' ⟨g1, g2⟩ => ?_) _ 0 [] _ (lt_fuel (by omega)) (Nat.zero_le _) ⟨rfl, rfl⟩
  · subst g1 g2
    refine ⟨.str [t[i]], by show some (signs t)[i]? = _; simp [signs, hi], ?_⟩
    have hti : t[i]? = some t[i] := List.getElem?_eq_getElem hi
    rw [wp_turnC]
    simp only [wipeF, List.map_cons, List.map_nil, wp_gnm, wp_ta_nil, if_true, wp_cmp, wp_var, List.set_cons_succ, List.set_cons_zero, List.getElem?_cons_succ, List.getElem?_cons_zero, wpX_inn, clsOf_str, Option.isSome_none, Bool.false_eq_true, if_false, wp_innS]
    refine ⟨by rw [List.length_map, List.length_map, List.length_take]; omega, trivial, ?_⟩
    rw [List.take_add_one, hti, Option.toList_some, List.map_append, List.map_append]; rfl
  · subst g1 g2
    refine ⟨by show some (signs t)[t.length]? = _; simp [signs], ?_⟩
    rw [List.take_of_length_le (Nat.le_refl _), wp_allL get_new]
    have ea : ((t.map fun c => decide (c ∈ sg)).all id) = wordB sg t := by rw [List.all_map]; rfl
    rw [ea]
    exact hq _ (Ext.app _)
theorem isw_str (hz : t.length < 1000) (hq : ∀ L' : Hh, Ext L L' → Q (.bl (wordB sg t)) L') : wp (runD C f_is_word [.str sg, .str t]) L Q E := by
  rw [isw_eq]
  refine wp_runD (by simp) ?_
  simp [isKind, typeNm]
  exact wE_ok hz fun L1 k1 => by simpa using hq L1 k1
theorem isw_no (hw : BadW L sg w) (hq : ∀ L' : Hh, Ext L L' → Q (.bl false) L') : wp (runD C f_is_word [.str sg, w]) L Q E := by
  rcases hw with ⟨t, rfl, h, hz⟩ | ⟨x, h, hx⟩
  · exact isw_str hz fun L1 k1 => by rw [h]; exact hq L1 k1
  · rw [isw_eq]
    refine wp_runD (by simp) ?_
    simp [kind_ty h, hx]
    exact hq L (Ext.refl L)
theorem cwd_eq : f_Machine_check_word = ⟨2, [
  .ifs (.nt (.val (.call n_is_word [(.fld (.var 0) F_signs), (.var 1)] []))) [
    .rse X_InvalidWord [(.var 1)]] []]⟩ := rfl
theorem cwd_ok (h : L[m]? = some (macO sg rows good)) (ht : wordB sg t = true) (hz : t.length < 1000) (hq : ∀ L', Ext L L' → Q .non L') : wp (runD (Cd (d + 1)) f_Machine_check_word [.ref m, .str t]) L Q E := by
  rw [cwd_eq]
  refine wp_runD (by simp) ?_
  simp [f_signs h, c_is_word, arrW, -wp_fldR]
  refine isw_str hz fun L1 k1 => ?_
  simp [ht]
  exact hq L1 k1
theorem cwd_no (h : L[m]? = some (macO sg rows good)) (hw : BadW L sg w) (hq : ∀ L', Ext L L' → E (.exn X_InvalidWord [w]) L') : wp (runD (Cd (d + 1)) f_Machine_check_word [.ref m, w]) L Q E := by
  rw [cwd_eq]
  refine wp_runD (by simp) ?_
  simp [f_signs h, c_is_word, arrW, -wp_fldR]
  refine isw_no hw fun L1 k1 => ?_
  simp
  exact hq L1 k1
/-! ### behind -/
theorem beh_ok {s : Nat} (h : L[m]? = some (macO sg rows good)) (T : Tabl sg rows) (hs : s < rows.length) (ht : wordB sg t = true) (hz : t.length < 1000) (hq : ∀ L', Ext L L' → Q (.int ((ledN rows sg s t : Nat) : Int)) L') : wp (runD (Cd (d + 3)) f_Machine_behind [.ref m, .str t, .int (s : Int)]) L Q E := by
  refine wp_runD (by simp [f_Machine_behind]) ?_
  simp [f_Machine_behind, -clsOf_ref, clsM h, c_Machine_check_state, arrW]
  refine cst_ok h hs ?_
  simp [-clsOf_ref, clsM h, c_Machine_check_word, arrW]
  refine cwd_ok h ht hz fun L1 k1 => ?_
  have h1 := k1 _ _ h
  simp [-clsOf_ref, clsM h1, c_Machine_led, arrW]
  refine mled_ok h1 T hs (wordB_iff.mp ht) hz ?_
  exact hq L1 k1
theorem beh_noS {x : W} (h : L[m]? = some (macO sg rows good)) (hw : OddS L rows.length w) (hq : E (.exn X_InvalidState [w]) L) : wp (runD (Cd (d + 3)) f_Machine_behind [.ref m, x, w]) L Q E := by
  refine wp_runD (by simp [f_Machine_behind]) ?_
  simp [f_Machine_behind, -clsOf_ref, clsM h, c_Machine_check_state, arrW]
  refine cst_no h hw ?_
  simp
  exact hq
theorem beh_noW {s : Nat} (h : L[m]? = some (macO sg rows good)) (hs : s < rows.length) (hw : BadW L sg w) (hq : ∀ L', Ext L L' → E (.exn X_InvalidWord [w]) L') : wp (runD (Cd (d + 3)) f_Machine_behind [.ref m, w, .int (s : Int)]) L Q E := by
  refine wp_runD (by simp [f_Machine_behind]) ?_
  simp [f_Machine_behind, -clsOf_ref, clsM h, c_Machine_check_state, arrW]
  refine cst_ok h hs ?_
  simp [-clsOf_ref, clsM h, c_Machine_check_word, arrW]
  refine cwd_no h hw fun L1 k1 => ?_
  simp
  exact hq L1 k1
/-! ### in -/
def lbB : Sm := .asg (.nm 3) (.sub (.sub (.var 0) (.var 3)) (.met .find (.var 1) [(.var 4)]))
theorem ledby_eq : f_led_by = ⟨5, [.asg (.nm 3) (.ki 0), .fors (.nm 4) (.e (.var 2)) [lbB], .rtn (.var 3)]⟩ := rfl
theorem lbB_ok {y : Option W} {s c : Nat} (T : Tabl sg rows) (hs : s < rows.length) (hc : c ∈ sg) (hq : F (.nx, [some (tabW rows), some (.str sg), y, some (.int ((stepN rows sg s c : Nat) : Int)), some (.str [c])]) L) :
    wp (exS C lbB [some (tabW rows), some (.str sg), y, some (.int (s : Int)), some (.str [c])]) L F E := by
  obtain ⟨e1, e2, _⟩ := step_row T hs hc
  have g1 : (rows.map fun r => W.tup (iW r))[s]? = some (.tup (iW (rows.getD s []))) := by rw [List.getElem?_map, e1]; rfl
  have g2 : (iW (rows.getD s []))[ixN sg c]? = some (.int ((stepN rows sg s c : Nat) : Int)) := by unfold iW; rw [List.getElem?_map, e2]; rfl
  simp only [lbB, wp_asg, wp_sub, wp_var, wp_met, List.getElem?_cons_zero, List.getElem?_cons_succ]
  unfold tabW at hq ⊢
  rw [item_tup g1]
  simp only [show rcvOk L .find (.str sg) = true from rfl, if_true, wp_es_cons, wp_es_nil, wp_var, List.getElem?_cons_zero, List.getElem?_cons_succ]
  rw [wp_find hc, item_tup g2, wp_gnm]
  exact hq
theorem ledby_ok (T : Tabl sg rows) (ht : ∀ c ∈ t, c ∈ sg) (hz : t.length < 1000) (hq : Q (.int ((ledN rows sg 0 t : Nat) : Int)) L) : wp (runD C f_led_by [tabW rows, .str sg, .str t]) L Q E := by
  have hs := T.one
  rw [ledby_eq]
  refine wp_runD (by simp) ?_
  simp
  refine loopF_inv (n := t.length) (fun i ρ L' => L' = L ∧ ∃ v, ρ = [some (tabW rows), some (.str sg), some (.str t), some (.int ((ledN rows sg 0 (t.take i) : Nat) : Int)), v]) (fun i ρ L' hi ⟨e1, v, e2⟩ => ?_) (fun ρ L' ⟨e1, v, e2⟩ => ?_) _ 0 _ _ (lt_fuel (by omega)) (Nat.zero_le _) ⟨rfl, none, rfl⟩
  · subst e1 e2
    refine ⟨.str [t[i]], by show some (signs t)[i]? = _; simp [signs, hi], ?_⟩
    rw [wp_gnm]
    simp only [List.set_cons_succ, List.set_cons_zero]
    rw [wp_ss_cons]
    have hti : t[i] ∈ t := List.getElem_mem hi
    refine lbB_ok T (led_lt T (fun c hc => ht c (List.mem_of_mem_take hc)) hs) (ht _ hti) ?_
    rw [thenS_nx, wp_ss_nil]
    exact ⟨rfl, _, by rw [led_take hi]⟩
  · subst e1 e2
    refine ⟨by show some (signs t)[t.length]? = _; simp [signs], ?_⟩
    rw [List.take_of_length_le (Nat.le_refl _)]
    simp
    exact hq
theorem flat_iW (g : List Nat) : (iW g).all flatW = true := by
  rw [List.all_eq_true]
  intro w hw
  obtain ⟨k, _, rfl⟩ := List.mem_map.mp hw
  rfl
theorem any_iW (g : List Nat) (k : Nat) : ((iW g).any fun y => eqW y (.int (k : Int))) = decide (k ∈ g) := by
  induction g with
  | nil => rfl
  | cons x g ih =>
    show (eqW (.int (x : Int)) (.int (k : Int)) || (iW g).any _) = _
    rw [ih]
    show (((x : Int) == (k : Int)) || decide (k ∈ g)) = _
    by_cases h : k = x
    · subst h; simp
    · have : ¬ ((x : Int) = (k : Int)) := by omega
      simp [h, this]
theorem con_ok (h : L[m]? = some (macO sg rows good)) (T : Tabl sg rows) (ht : wordB sg t = true) (hz : t.length < 1000) (hq : ∀ L', Ext L L' → Q (.bl (decide (ledN rows sg 0 t ∈ good))) L') : wp (runD (Cd (d + 1)) f_Machine_contains [.ref m, .str t]) L Q E := by
  refine wp_runD (by simp [f_Machine_contains]) ?_
  simp [f_Machine_contains, f_signs h, c_is_word, arrW, -wp_fldR, -wpX_inn]
  refine isw_str hz fun L1 k1 => ?_
  have h1 := k1 _ _ h
  rw [ht]
  simp [f_signs h1, f_table h1, c_led_by, arrW, -wp_fldR, -wpX_inn]
  refine ledby_ok T (wordB_iff.mp ht) hz ?_
  simp only [f_ends h1, wpX_inn]
  rw [show clsOf L1 (.tup (iW good)) = none from rfl, Option.isSome_none, if_neg Bool.false_ne_true, wp_innT, flat_iW, any_iW]
  simp [flatW]
  exact hq L1 k1
theorem con_no (h : L[m]? = some (macO sg rows good)) (hw : BadW L sg w) (hq : ∀ L', Ext L L' → Q (.bl false) L') : wp (runD (Cd (d + 1)) f_Machine_contains [.ref m, w]) L Q E := by
  refine wp_runD (by simp [f_Machine_contains]) ?_
  simp [f_Machine_contains, f_signs h, c_is_word, arrW, -wp_fldR, -wpX_inn]
  refine isw_no hw fun L1 k1 => ?_
  simp
  exact hq L1 k1
theorem m_in (h : L[m]? = some (macO sg rows good)) {bb : Bool} (hk : ∀ (Q E : RQ), (∀ L', Ext L L' → Q (.bl bb) L') → wp (runD (Cd (d + 1)) f_Machine_contains [.ref m, w]) L Q E) (hq : ∀ L', Ext L L' → Q (.bl bb) L') : wp (cmpX (Cd (d + 3)) .inn w (.ref m)) L Q E := by
  rw [wpX_inn, clsM h, Option.isSome_some, if_pos rfl, wp_blM, wp_callDu (clsM h) (du_Machine_2 _), envD_callM, c_Machine_contains]
  exact hk _ _ fun L1 k1 => hq L1 k1
end
end Q

set_option maxRecDepth 100000
set_option maxHeartbeats 4000000
/-! Lb3: a model and its machine; drawn words, drawn items; the same told. -/
namespace Q
open PySem Dx
/-- the model -/
structure ModAt (L : Hh) (l c : Nat) (is : List Int) (sg : Txt) (mx : Nat) (rows : List (List Nat)) (good : List Nat) (a b : Nat) : Prop where
  hd : HandAt L l c is
  al : isA sg = true
  dr : Drawn sg.length mx rows good
  m24 : mx ≤ 24
  ra : L[a]? = some (.lst (tW rows))
  rb : L[b]? = some (.lst (iW good))
  na : a ≠ l
  nb : b ≠ l
section
variable {L L' : Hh} {Q E : RQ} {F : FQ} {C : Dx.Env} {d l c a b m mx : Nat} {is : List Int} {sg t : Txt} {rows : List (List Nat)} {good : List Nat} {w : W}
theorem ModAt.kp (h : ModAt L l c is sg mx rows good a b) (hh : HandAt L' l c is) (k : Keep l L L') : ModAt L' l c is sg mx rows good a b := ⟨hh, h.al, h.dr, h.m24, k _ _ h.na h.ra, k _ _ h.nb h.rb, h.na, h.nb⟩
theorem ModAt.ext (h : ModAt L l c is sg mx rows good a b) (k : Ext L L') : ModAt L' l c is sg mx rows good a b := ⟨hand_ext h.hd k, h.al, h.dr, h.m24, k _ _ h.ra, k _ _ h.rb, h.na, h.nb⟩
theorem ModAt.tabl (h : ModAt L l c is sg mx rows good a b) : Tabl sg rows := by
  have h1 := isA_small h.al
  have h2 := h.dr.most
  have h3 := h.m24
  exact ⟨h.dr.one, by omega, h.dr.wide, h.dr.goal, by omega⟩
/-- with its machine -/
structure St (L : Hh) (l c : Nat) (is : List Int) (sg : Txt) (mx : Nat) (rows : List (List Nat)) (good : List Nat) (a b m : Nat) : Prop where
  mo : ModAt L l c is sg mx rows good a b
  gm : L[m]? = some (macO sg rows good)
  nm : m ≠ l
theorem St.kp (h : St L l c is sg mx rows good a b m) (hh : HandAt L' l c is) (k : Keep l L L') : St L' l c is sg mx rows good a b m := ⟨h.mo.kp hh k, k _ _ h.nm h.gm, h.nm⟩
theorem St.ext (h : St L l c is sg mx rows good a b m) (k : Ext L L') : St L' l c is sg mx rows good a b m := ⟨h.mo.ext k, k _ _ h.gm, h.nm⟩
/-! ### draws -/
theorem of_eq : f_law_of = fOf n_law_pick := rfl
theorem lof_txt {x : Txt} (h : HandAt L l c is) (h0 : 0 < x.length) (h1 : x.length < 1000) (hq : ∀ (s : Nat) L', s ∈ x → HandAt L' l c is → Keep l L L' → Q (.str [s]) L') : wp ((Cd (d + 2)).call n_law_of [.ref l, .str x]) L Q E := by
  rw [c_law_of]
  show wp (runD (Cd (d + 1)) f_law_of [.ref l, .str x]) L Q E
  rw [of_eq]
  exact of_txt (C' := Cd d) (fun as => by rw [c_law_pick, pick_eq]) h h0 h1 fun s L' hs hh sm => hq s L' hs hh (Same1_kp sm)
theorem lof_lst {ws : List W} (h : HandAt L l c is) (ha : L[a]? = some (.lst ws)) (hl : a ≠ l) (h0 : 0 < ws.length) (h1 : ws.length < 1000) (hq : ∀ (w : W) L', w ∈ ws → HandAt L' l c is → Keep l L L' → Q w L') : wp ((Cd (d + 2)).call n_law_of [.ref l, .ref a]) L Q E := by
  rw [c_law_of]
  show wp (runD (Cd (d + 1)) f_law_of [.ref l, .ref a]) L Q E
  rw [of_eq]
  exact of_lst (C' := Cd d) (fun as => by rw [c_law_pick, pick_eq]) h ha hl h0 h1 fun w L' hs hh sm => hq w L' hs hh (Same1_kp sm)
def wordE : Ex := (.lc [(("_law_k" : PySem.Str), 3)] (.nm 3) (.rng [(.call n_law_pick [(.var 0), (.bin .add (.var 2) (.ki 1))] [])]) [] (.call n_law_of [(.var 0), (.var 1)] []))
theorem lword_eq : f_law_word = ⟨4, [.rtn (.met .join (.ks []) [wordE])]⟩ := rfl
theorem word_ok {most : Nat} (h : HandAt L l c is) (hs1 : 1 ≤ sg.length) (hs : sg.length < 1000) (hm : most < 1000) (hq : ∀ (t : Txt) L', wordB sg t = true → t.length ≤ most → HandAt L' l c is → Keep l L L' → Q (.str t) L') : wp (runD (Cd (d + 2)) f_law_word [.ref l, .str sg, .int (most : Int)]) L Q E := by
  have szl : (1000 : Nat) < sizeLine := by rw [sizeLine_eq]; omega
  rw [lword_eq]
  refine wp_runD (by simp) ?_
  simp only [List.map_cons, List.map_nil, List.length_cons, List.length_nil, Nat.reduceAdd, Nat.reduceSub, List.replicate_succ, List.replicate_zero, List.cons_append, List.nil_append, wp_ss_cons, wp_rtn, wp_met, wp_ks]
  simp only [show rcvOk L .join (.str []) = true from rfl, if_true, wp_es_cons, wp_es_nil, wordE, wp_lc, wp_irng, wp_call, wp_var, wp_bin, wp_ki, wp_addI, List.getElem?_cons_zero, List.getElem?_cons_succ, List.append_nil]
  obtain ⟨MO, eMO⟩ : ∃ M : Int, (most : Int) + 1 = M := ⟨_, rfl⟩
  rw [eMO]
  refine cpickI h (by omega) (by omega) fun N n L1 eN hn h1 k1 => ?_
  have sR : smallR N = true := by unfold smallR; simp; omega
  have tn : N.toNat = n := by omega
  dsimp only
  rw [sR, if_pos rfl, tn]
  refine loopC_inv (n := n) (fun i acc L' => HandAt L' l c is ∧ Keep l L L' ∧ ∃ t : Txt, t.length = i ∧ (∀ x ∈ t, x ∈ sg) ∧ acc = (t.map fun c => [c]).map W.str) (fun i acc L' hi ⟨g1, g2, t, g3, g4, g5⟩ => ?_) (fun acc L' ⟨g1, g2, t, g3, g4, g5⟩ => ?_) _ 0 [] _ (lt_fuel (by omega)) (Nat.zero_le _) ⟨h1, k1, [], rfl, by simp, rfl⟩
  · refine ⟨.int i, by simp [srcAt, hi], ?_⟩
    rw [wp_turnC]
    simp only [wipeF, List.map_cons, List.map_nil, wp_gnm, wp_ta_nil, if_true, wp_call, wp_es_cons, wp_es_nil, wp_var, List.set_cons_succ, List.set_cons_zero, List.getElem?_cons_succ, List.getElem?_cons_zero, List.append_nil]
    refine lof_txt g1 (by omega) hs fun s L2 hs2 h2 k2 => ?_
    refine ⟨by rw [g5]; simp; omega, h2, g2.trans k2, t ++ [s], by simp [g3], fun x hx => ?_, by rw [g5]; simp⟩
    rcases List.mem_append.mp hx with z | z
    · exact g4 x z
    · simp at z
      rw [z]
      exact hs2
  · refine ⟨by simp [srcAt], ?_⟩
    subst g5
    rw [wp_joinL get_new (by rw [sum_len]; simp; omega), join_signs]
    rw [thenS_rt, wp_end_rt]
    exact hq t _ (wordB_iff.mpr g4) (by omega) (hand_ext g1 (Ext.app _)) (g2.trans (Keep.app _))
/-! ### the model's good states -/
theorem shaped_iL {r : List Nat} : SeqAt.shaped (.list (iD r)) = true := by
  have d2 := dep_i (r := r)
  simp only [SeqAt.shaped, PyData.canLay0, PyData.depth, lay_i, Bool.and_eq_true, decide_eq_true_eq]
  have d3 : PyData.depthAll (iD r) + 1 ≤ 64 := by omega
  exact ⟨trivial, decide_eq_true d3⟩
theorem wp_innL {k : Nat} {g : List Nat} (h : L[b]? = some (.lst (iW g))) : wp (cmpop .inn (.int (k : Int)) (.ref b)) L Q E = Q (.bl (decide (k ∈ g))) L := by
  show wp (match inW L (.int k) (.ref b) with
    | some b => ret (.bl (id b))
    | none => fail) L Q E = _
  have e : inW L (.int k) (.ref b) = some (decide (k ∈ g)) := by
    unfold inW
    dsimp only
    rw [h]
    dsimp only
    rw [as_int, as_iL (n := 63) h]
    dsimp only
    rw [shaped_int, shaped_iL, Bool.and_self, if_pos rfl]
    congr 1
    unfold iD
    rw [List.any_map]
    have : ((fun z => PyData.eqv z (.int (k : Int))) ∘ fun k : Nat => PyData.int (k : Int)) = fun j : Nat => decide (j = k) := by
      funext j
      exact eqv_nat j k
    rw [this]
    by_cases hk : k ∈ g
    · rw [decide_eq_true hk, List.any_eq_true]
      exact ⟨k, hk, by simp⟩
    · rw [decide_eq_false hk, List.any_eq_false]
      intro j hj z
      exact hk (by rw [← of_decide_eq_true z]; exact hj)
  rw [e]
  rfl
theorem has_ok (h : ModAt L l c is sg mx rows good a b) (ht : wordB sg t = true) (hz : t.length < 1000) (hq : Q (.bl (decide (ledN rows sg 0 t ∈ good))) L) : wp (runD (Cd (d + 1)) f_law_has [modW sg a b, .str t]) L Q E := by
  have T := h.tabl
  refine wp_runD (by simp [f_law_has]) ?_
  simp only [f_law_has, List.map_cons, List.map_nil, List.length_cons, List.length_nil, Nat.reduceAdd, Nat.reduceSub, List.replicate_zero, List.cons_append, List.nil_append, wp_ss_cons, wp_rtn, wp_cmp, wp_call, wp_es_cons, wp_es_nil, wp_var, wp_ki, wp_sub, List.getElem?_cons_zero, List.getElem?_cons_succ, List.append_nil]
  rw [c_law_led]
  show wp (runD (Cd d) f_law_led [modW sg a b, .int ((0 : Nat) : Int), .str t]) L _ _
  refine law_led_ok T h.ra (by have := T.one; omega) (wordB_iff.mp ht) hz ?_
  rw [mod_2, wpX_inn, clsOf_ref, h.rb]
  dsimp only
  rw [Option.isSome_none, if_neg Bool.false_ne_true, wp_innL h.rb, thenS_rt, wp_end_rt]
  exact hq
/-! ### tuples compared with themselves -/
/-- plain data -/
structure Dat (L : Hh) (w : W) (d : PyData) : Prop where
  as_ : asData L 63 w = some d
  lay : d.canLay0 = true
  dep : d.depth ≤ 20
theorem neT_self {x : Txt} {w : W} {dd : PyData} (hx : okT x = true) (h : Dat L w dd) (hq : Q (.bl false) L) : wp (cmpX C .ne (.tup [.str x, w]) (.tup [.str x, w])) L Q E := by
  have e : asData L 64 (.tup [.str x, w]) = some (.tuple [.str ⟨x.toArray⟩, dd]) := by
    show ((([.str x, w] : List W).mapM (asData L 63)).map PyData.tuple) = _
    rw [List.mapM_cons, List.mapM_cons, List.mapM_nil, as_str, h.as_]
    rfl
  have ly : PyData.canLay0 (.tuple [.str ⟨x.toArray⟩, dd]) = true := by
    have := lay_txt hx
    simp only [PyData.canLay0, PyData.canLayAll0, h.lay, Bool.and_true] at this ⊢
    exact this
  have sh : SeqAt.shaped (.tuple [.str ⟨x.toArray⟩, dd]) = true := by
    have d1 : PyData.depthAll [.str ⟨x.toArray⟩, dd] ≤ 20 := by
      simp only [PyData.depthAll]
      exact Nat.max_le.mpr ⟨by simp [PyData.depth], Nat.max_le.mpr ⟨h.dep, by simp⟩⟩
    have d2 : PyData.depthAll [.str ⟨x.toArray⟩, dd] + 1 ≤ 64 := by omega
    simp only [SeqAt.shaped, ly, PyData.depth, Bool.true_and]
    exact decide_eq_true d2
  rw [wpX_ne, show clsOf L (.tup [.str x, w]) = none from rfl, Option.isSome_none, if_neg Bool.false_ne_true, wp_neq, e]
  simp only [sh, Bool.and_self, if_true, SeqAt.eqv_refl _ ly, Bool.not_true]
  exact hq
theorem dat_str {x : Txt} (h : okT x = true) : Dat L (.str x) (.str ⟨x.toArray⟩) := ⟨as_str, lay_txt h, by simp [PyData.depth]⟩
theorem dat_non : Dat L .non .none := ⟨rfl, rfl, by simp [PyData.depth]⟩
theorem dat_int (i : Int) : Dat L (.int i) (.int i) := ⟨rfl, rfl, by simp [PyData.depth]⟩
theorem dat_bl (x : Bool) : Dat L (.bl x) (.bool x) := ⟨rfl, rfl, by simp [PyData.depth]⟩
theorem dat_t1s {x : Txt} (h : okT x = true) : Dat L (.tup [.str x]) (.tuple [.str ⟨x.toArray⟩]) := ⟨rfl, by
  have := lay_txt h
  simp only [PyData.canLay0, PyData.canLayAll0, Bool.and_true] at this ⊢
  exact this, by simp [PyData.depth, PyData.depthAll]⟩
theorem dat_t1i {i : Int} : Dat L (.tup [.int i]) (.tuple [.int i]) := ⟨rfl, rfl, by simp [PyData.depth, PyData.depthAll]⟩
theorem dat_l1s {x : Txt} {z : Nat} (hz : L[z]? = some (.lst [.str x])) (h : okT x = true) : Dat L (.ref z) (.list [.str ⟨x.toArray⟩]) := ⟨by
  show (match L[z]? with
    | some (.lst ws) => (ws.mapM (asData L 62)).map PyData.list
    | some (.ro ws) => (ws.mapM (asData L 62)).map PyData.list
    | _ => none) = _
  rw [hz]
  rfl, by
  have := lay_txt h
  simp only [PyData.canLay0, PyData.canLayAll0, Bool.and_true] at this ⊢
  exact this, by simp [PyData.depth, PyData.depthAll]⟩
end
end Q

set_option maxRecDepth 100000
set_option maxHeartbeats 4000000
/-! K04a: the law's statements. -/
namespace Q
open PySem Dx
def A2 : Sm := .asg (.nm 2) (.call n_law_signs [(.var 1), (.bin .add (.ki 1) (.call n_law_pick [(.var 1), (.ki 3)] []))] [])
def A3 : Sm := .asg (.nm 3) (.call n_law_drawn [(.var 1), (.var 2), (.ki 8)] [])
def A4 : Sm := .asg (.nm 4) (.call n_law_made [(.var 3)] [])
def A5 : Sm := .asg (.nm 5) (.sub (.lc [(("_law_sign" : PySem.Str), 6)] (.nm 6) (.e (.ks [97, 98, 99, 100, 122])) [(.bv (.cmp .nin (.var 6) (.var 2)))] (.var 6)) (.ki 0))
def T1 : Sm := .asg (.tup [(.nm 8), (.nm 9)]) (.tup [(.call n_law_word [(.var 1), (.var 2), (.ki 30)] []), (.call n_law_pick [(.var 1), (.bi .len [(.sub (.var 3) (.ki 1))])] [])])
def T2 : Sm := .asg (.nm 10) (.lst [(.mcall M_behind (.var 4) [(.var 8)] [(.var 9)]), (.mcall M_behind_1 (.var 4) [(.var 8)] []), (.mcall M_behind_0_word_state (.var 4) [] [(.var 8), (.var 9)]), (.cmp .inn (.var 8) (.var 4))])
def T3 : Sm := .ifs (.nt (.val (.call n_law_same [(.var 10), (.lst [(.call n_law_led [(.var 3), (.var 9), (.var 8)] []), (.call n_law_led [(.var 3), (.ki 0), (.var 8)] []), (.call n_law_led [(.var 3), (.var 9), (.var 8)] []), (.call n_law_has [(.var 3), (.var 8)] [])])] []))) [
      .rtn (.kb false)] []
def T4 : Sm := .asg (.nm 11) (.call n_law_pick [(.var 1), (.bin .add (.bi .len [(.var 8)]) (.ki 1))] [])
def T5 : Sm := .asg (.nm 12) (.call n_law_of [(.var 1), (.lst [(.bin .add (.bin .add (.slc (.var 8) none (some (.var 11))) (.var 5)) (.slc (.var 8) (some (.var 11)) none)), (.bin .add (.bin .add (.slc (.var 8) none (some (.var 11))) (.ks [63])) (.slc (.var 8) (some (.var 11)) none)), .kn, (.ki 3), (.tup [(.ks [97])]), (.lst [(.sub (.var 2) (.ki 0))])])] [])
def T6 : Sm := .ifs (.any [(.bv (.cmp .inn (.var 12) (.var 4))), (.bv (.cmp .ne (.why (.mcall M_behind (.var 4) [(.var 12)] [(.var 9)])) (.tup [(.ks [73, 110, 118, 97, 108, 105, 100, 87, 111, 114, 100]), (.var 12)])))]) [
      .rtn (.kb false)] []
def T7 : Sm := .asg (.nm 13) (.call n_law_of [(.var 1), (.lst [(.bi .len [(.sub (.var 3) (.ki 1))]), (.neg (.ki 1)), (.kb true), .kn, (.ks [48]), (.bin .pow (.ki 10) (.ki 20)), (.tup [(.ki 0)])])] [])
def T8 : Sm := .ifs (.bv (.cmp .ne (.why (.mcall M_behind (.var 4) [(.call n_law_of [(.var 1), (.lst [(.var 8), (.var 12)])] [])] [(.var 13)])) (.tup [(.ks [73, 110, 118, 97, 108, 105, 100, 83, 116, 97, 116, 101]), (.var 13)]))) [
      .rtn (.kb false)] []
def TL : Sm := .rtn (.band [(.cmp .eq (.mcall M_behind_1 (.var 4) [(.ks [])] []) (.ki 0)), (.cmp .eq (.cmp .inn (.ks []) (.var 4)) (.cmp .inn (.ki 0) (.sub (.var 3) (.ki 2))))])
theorem law_eq : f_law = ⟨14, [
  .asg (.nm 1) (.call n_law_hand [(.var 0)] []), A2, A3, A4, A5,
  .fors (.nm 7) (.rng [(.ki 8)]) [T1, T2, T3, T4, T5, T6, T7, T8], TL]⟩ := rfl
section
variable {L : Hh} {Q E : RQ} {F : FQ} {C : Dx.Env} {d l c a b m : Nat} {is : List Int} {sg t : Txt} {rows : List (List Nat)} {good : List Nat} {x s : Nat} {w0 w2 w3 w4 w5 w6 w7 w8 w9 w10 w11 w12 w13 : Option W}
theorem a2_ok (h : HandAt L l c is) (hq : ∀ sg L', isA sg = true → HandAt L' l c is → F (.nx, [w0, some (.ref l), some (.str sg), w3, w4, w5, w6, w7, w8, w9, w10, w11, w12, w13]) L') :
    wp (exS (Cd (d + 2)) A2 [w0, some (.ref l), w2, w3, w4, w5, w6, w7, w8, w9, w10, w11, w12, w13]) L F E := by
  simp [A2]
  refine cpick h (by omega) (by omega) fun r L1 hr h1 k1 => ?_
  have e : (1 : Int) + (r : Int) = ((1 + r : Nat) : Int) := by omega
  simp [c_law_signs, arrW]
  rw [e]
  refine signs_ok h1 (by omega) (by omega) fun sg L2 ha hl h2 k2 => ?_
  exact hq sg L2 ha h2
theorem a3_ok (h : HandAt L l c is) (ha : isA sg = true) (hq : ∀ L' rows good a b, ModAt L' l c is sg 8 rows good a b → F (.nx, [w0, some (.ref l), some (.str sg), some (modW sg a b), w4, w5, w6, w7, w8, w9, w10, w11, w12, w13]) L') :
    wp (exS (Cd (d + 2)) A3 [w0, some (.ref l), some (.str sg), w3, w4, w5, w6, w7, w8, w9, w10, w11, w12, w13]) L F E := by
  have := isA_small ha
  simp [A3, c_law_drawn, arrW]
  refine drawn_ok (m := 8) h (by omega) (by omega) (by omega) fun rows good a b L' dr ra rb na nb hh kk => ?_
  exact hq L' rows good a b ⟨hh, ha, dr, by omega, ra, rb, na, nb⟩
theorem rowsT (h : L[a]? = some (.lst (tW rows))) : RowsAt L (tW rows) rows := ⟨by simp [tW], fun i r e => ⟨.tup (iW r), by simp [tW, e], .inl rfl⟩⟩
theorem asc_le {g : List Nat} (h : g.Pairwise (· < ·)) : g.Pairwise (· ≤ ·) := h.imp fun h => by omega
theorem a4_ok (h : ModAt L l c is sg 8 rows good a b) (hq : ∀ L' m, St L' l c is sg 8 rows good a b m → F (.nx, [w0, some (.ref l), some (.str sg), some (modW sg a b), some (.ref m), w5, w6, w7, w8, w9, w10, w11, w12, w13]) L') :
    wp (exS (Cd (d + 6)) A4 [w0, some (.ref l), some (.str sg), some (modW sg a b), w4, w5, w6, w7, w8, w9, w10, w11, w12, w13]) L F E := by
  have f := h.dr.fit h.al (by omega)
  have e2 : srtN good = good := srtN_asc (List.Perm.refl good) (asc_le h.dr.asc)
  have hl := hand_lt h.hd
  simp only [A4, wp_asg, wp_call, wp_es_cons, wp_es_nil, wp_var, List.getElem?_cons_zero, List.getElem?_cons_succ, List.append_nil]
  rw [c_law_made]
  refine wp_runD (by simp [f_law_made, arrW]) ?_
  simp [f_law_made, arrW, mod_0, mod_1, mod_2, -wp_itemT]
  refine mk_Machine f (.inr ⟨a, rfl, h.ra⟩) (rowsT h.ra) (.inr ⟨b, rfl, h.rb⟩) fun L1 k1 g1 => ?_
  rw [e2] at g1
  exact hq L1 _ ⟨h.ext k1, g1, by omega⟩
/-- some sign is strange -/
theorem strange_ex (h : sg.length ≤ 3) : ∃ x r, ([97, 98, 99, 100, 122] : List Nat).filter (fun c => !decide (c ∈ sg)) = x :: r ∧ x ∉ sg ∧ x < 128 := by
  cases e : ([97, 98, 99, 100, 122] : List Nat).filter (fun c => !decide (c ∈ sg)) with
  | nil =>
    exfalso
    rw [List.filter_eq_nil_iff] at e
    have k : ∀ c ∈ ([97, 98, 99, 100, 122] : List Nat), c ∈ sg := fun c hc => by
      have := e c hc
      simpa using this
    have k1 := k 97 (by simp)
    have k2 := k 98 (by simp)
    have k3 := k 99 (by simp)
    have k4 := k 100 (by simp)
    rcases sg with _ | ⟨p, _ | ⟨q, _ | ⟨r, _ | ⟨u, sg⟩⟩⟩⟩
    · simp at k1
    · simp at k1 k2; omega
    · simp at k1 k2 k3; omega
    · simp at k1 k2 k3 k4; omega
    · simp at h
  | cons x r =>
    have hx : x ∈ ([97, 98, 99, 100, 122] : List Nat).filter (fun c => !decide (c ∈ sg)) := by rw [e]; simp
    rw [List.mem_filter] at hx
    refine ⟨x, r, rfl, by simpa using hx.2, ?_⟩
    have : ∀ c ∈ ([97, 98, 99, 100, 122] : List Nat), c < 128 := by decide
    exact this x hx.1
def a5E : Ex := (.lc [(("_law_sign" : PySem.Str), 6)] (.nm 6) (.e (.ks [97, 98, 99, 100, 122])) [(.bv (.cmp .nin (.var 6) (.var 2)))] (.var 6))
theorem a5E_ok {v1 v3 v4 v5 : Option W} (hq : ∀ L' z, Ext L L' → L'[z]? = some (.lst ((([97, 98, 99, 100, 122] : List Nat).filter fun c => !decide (c ∈ sg)).map fun c => W.str [c])) → Q (.ref z) L') :
    wp (evE C [w0, v1, some (.str sg), v3, v4, v5, w6, w7, w8, w9, w10, w11, w12, w13] a5E) L Q E := by
  have szl : (1000 : Nat) < sizeLine := by rw [sizeLine_eq]; omega
  simp only [a5E, wp_lc, wp_ie, wp_ks]
  refine loopC_inv (n := 5) (fun i acc L' => L' = L ∧ acc = (((([97, 98, 99, 100, 122] : List Nat).take i).filter fun c => !decide (c ∈ sg)).map fun c => W.str [c])) (fun i acc L' hi ⟨g1, g2⟩ => ?_) (fun acc L' ⟨g1, g2⟩ => ?_) _ 0 [] _ (lt_fuel (by omega)) (Nat.zero_le _) ⟨rfl, rfl⟩
  · subst g1 g2
    obtain ⟨y, hy⟩ : ∃ y, ([97, 98, 99, 100, 122] : List Nat)[i]? = some y := ⟨_, List.getElem?_eq_getElem hi⟩
    refine ⟨.str [y], by show some (signs [97, 98, 99, 100, 122])[i]? = _; unfold signs; rw [List.getElem?_map, hy]; rfl, ?_⟩
    rw [wp_turnC]
    simp only [wipeF, List.map_cons, List.map_nil, wp_gnm, wp_ta_cons, wp_ta_nil, wp_tbv, wp_cmp, wp_var, List.set_cons_succ, List.set_cons_zero, List.getElem?_cons_succ, List.getElem?_cons_zero, wpX_nin, clsOf_str, Option.isSome_none, Bool.false_eq_true, if_false, wp_ninS]
    rw [List.take_add_one, hy, Option.toList_some, List.filter_append, List.map_append]
    by_cases hm : y ∈ sg
    · simp [hm]
    · simp [hm]
      have := List.length_filter_le (fun c => !decide (c ∈ sg)) (([97, 98, 99, 100, 122] : List Nat).take i)
      rw [List.length_take] at this
      simp at this
      omega
  · subst g1 g2
    refine ⟨by show some (signs [97, 98, 99, 100, 122])[5]? = _; rfl, ?_⟩
    exact hq _ _ (Ext.app _) get_new
theorem a5_ok (h : St L l c is sg 8 rows good a b m) (hq : ∀ L' x, St L' l c is sg 8 rows good a b m → x ∉ sg → x < 128 → F (.nx, [w0, some (.ref l), some (.str sg), some (modW sg a b), some (.ref m), some (.str [x]), w6, w7, w8, w9, w10, w11, w12, w13]) L') :
    wp (exS C A5 [w0, some (.ref l), some (.str sg), some (modW sg a b), some (.ref m), w5, w6, w7, w8, w9, w10, w11, w12, w13]) L F E := by
  obtain ⟨x, r, e, hx, hlt⟩ := strange_ex (sg := sg) (by have := isA_small h.mo.al; omega)
  show wp (exS C (.asg (.nm 5) (.sub a5E (.ki 0))) _) L F E
  simp only [wp_asg, wp_sub]
  refine a5E_ok fun L1 z k1 gz => ?_
  rw [e] at gz
  simp only [wp_ki]
  show wp (itemAt (.ref z) (.int ((0 : Nat) : Int))) L1 _ _
  rw [item_ref (k := 0) gz rfl, wp_gnm]
  exact hq L1 x (h.ext k1) hx hlt
end
end Q

set_option maxRecDepth 100000
set_option maxHeartbeats 4000000
/-! K04b: a turn. -/
namespace Q
open PySem Dx
section
variable {L : Hh} {Q E : RQ} {F : FQ} {C : Dx.Env} {d l c a b m : Nat} {is : List Int} {sg t : Txt} {rows : List (List Nat)} {good : List Nat} {x s : Nat} {w0 w2 w3 w4 w5 w6 w7 w8 w9 w10 w11 w12 w13 : Option W}
theorem len_tW (h : L[a]? = some (.lst (tW rows))) : wp (callBX C .len [.ref a]) L Q E = Q (.int (rows.length : Int)) L := by
  simp [h, itemsOf_lst h, tW]
theorem len_txt (h : t.length < 1000) : wp (callBX C .len [.str t]) L Q E = Q (.int (t.length : Int)) L := by
  have lo : lenOk t.length = true := by unfold lenOk; rw [decide_eq_true_eq, sizeLine_eq]; omega
  simp [lo]
theorem t1_ok (h : St L l c is sg 8 rows good a b m) (hq : ∀ L' t s, St L' l c is sg 8 rows good a b m → wordB sg t = true → t.length ≤ 30 → s < rows.length → F (.nx, [w0, some (.ref l), some (.str sg), some (modW sg a b), some (.ref m), w5, w6, w7, some (.str t), some (.int (s : Int)), w10, w11, w12, w13]) L') :
    wp (exS (Cd (d + 3)) T1 [w0, some (.ref l), some (.str sg), some (modW sg a b), some (.ref m), w5, w6, w7, w8, w9, w10, w11, w12, w13]) L F E := by
  have hs := isA_small h.mo.al
  have h1 := h.mo.dr.one
  have h8 := h.mo.dr.most
  have lo2 : lenOk 2 = true := by decide
  simp only [T1, wp_asg, wp_tup, wp_es_cons, wp_es_nil, wp_call, wp_var, wp_ki, List.getElem?_cons_zero, List.getElem?_cons_succ, List.append_nil]
  rw [c_law_word]
  show wp (runD (Cd (d + 2)) f_law_word [.ref l, .str sg, .int ((30 : Nat) : Int)]) L _ _
  refine word_ok h.mo.hd (by omega) (by omega) (by omega) fun t L1 ht hl hh k1 => ?_
  have s1 := h.kp hh k1
  simp only [wp_bi, wp_sub, wp_var, wp_ki, wp_es_cons, wp_es_nil, List.getElem?_cons_zero, List.getElem?_cons_succ, mod_1, len_tW s1.mo.ra]
  obtain ⟨R, eR⟩ : ∃ R : Int, (rows.length : Int) = R := ⟨_, rfl⟩
  rw [eR]
  refine cpickI s1.mo.hd (by omega) (by omega) fun r k L2 hr hk h2 k2 => ?_
  subst hr
  simp only [List.length_cons, List.length_nil, lo2, if_true, wp_gtup, wp_gs_cons, wp_gs_nil, wp_gnm, List.set_cons_succ, List.set_cons_zero]
  exact hq L2 t k (s1.kp h2 k2) ht hl (by omega)
def toldWs (x y : Int) (bb : Bool) : List W := [.int x, .int y, .int x, .bl bb]
theorem t2_ok (h : St L l c is sg 8 rows good a b m) (ht : wordB sg t = true) (hz : t.length ≤ 30) (hs : s < rows.length) (hq : ∀ L' u, Ext L L' → L'[u]? = some (.lst (toldWs ((ledN rows sg s t : Nat) : Int) ((ledN rows sg 0 t : Nat) : Int) (decide (ledN rows sg 0 t ∈ good)))) → F (.nx, [w0, some (.ref l), some (.str sg), some (modW sg a b), some (.ref m), w5, w6, w7, some (.str t), some (.int (s : Int)), some (.ref u), w11, w12, w13]) L') :
    wp (exS (Cd (d + 4)) T2 [w0, some (.ref l), some (.str sg), some (modW sg a b), some (.ref m), w5, w6, w7, some (.str t), some (.int (s : Int)), w10, w11, w12, w13]) L F E := by
  have T := h.mo.tabl
  have g0 := h.gm
  have lo4 : lenOk 4 = true := by decide
  simp only [T2, wp_asg, wp_lst, wp_es_cons, wp_es_nil, wp_mcall, wp_var, List.getElem?_cons_zero, List.getElem?_cons_succ, clsM g0, Option.bind_some, mt_Machine_behind, List.append_nil, List.cons_append, List.nil_append]
  rw [c_Machine_behind]
  show wp (runD (Cd (d + 3)) f_Machine_behind [.ref m, .str t, .int (s : Int)]) L _ _
  refine beh_ok g0 T hs ht (by omega) fun L1 k1 => ?_
  have g1 := k1 _ _ g0
  simp only [clsM g1, Option.bind_some, mt_Machine_behind_1, wp_es_cons, wp_es_nil, wp_var, List.getElem?_cons_zero, List.getElem?_cons_succ, List.append_nil, List.cons_append, List.nil_append]
  rw [c_Machine_behind_2]
  show wp (runD (Cd (d + 3)) f_Machine_behind [.ref m, .str t, .int ((0 : Nat) : Int)]) L1 _ _
  refine beh_ok g1 T (by have := T.one; omega) ht (by omega) fun L2 k2 => ?_
  have g2 := k2 _ _ g1
  simp only [clsM g2, Option.bind_some, mt_Machine_behind_0_word_state, wp_es_cons, wp_es_nil, wp_var, List.getElem?_cons_zero, List.getElem?_cons_succ, List.append_nil, List.cons_append, List.nil_append]
  rw [c_Machine_behind_1_word_state]
  show wp (runD (Cd (d + 3)) f_Machine_behind [.ref m, .str t, .int (s : Int)]) L2 _ _
  refine beh_ok g2 T hs ht (by omega) fun L3 k3 => ?_
  have g3 := k3 _ _ g2
  simp only [wp_cmp, wp_var, List.getElem?_cons_zero, List.getElem?_cons_succ]
  refine m_in (d := d + 1) g3 (fun Q E hq => con_ok g3 T ht (by omega) hq) fun L4 k4 => ?_
  simp only [List.length_cons, List.length_nil, lo4, if_true, wp_gnm, List.set_cons_succ, List.set_cons_zero]
  exact hq _ _ ((k1.trans k2).trans ((k3.trans k4).trans (Ext.app _))) get_new
theorem t3_ok {u : Nat} (h : St L l c is sg 8 rows good a b m) (ht : wordB sg t = true) (hz : t.length ≤ 30) (hs : s < rows.length) (hu : L[u]? = some (.lst (toldWs ((ledN rows sg s t : Nat) : Int) ((ledN rows sg 0 t : Nat) : Int) (decide (ledN rows sg 0 t ∈ good)))))
    (hq : ∀ L', Ext L L' → F (.nx, [w0, some (.ref l), some (.str sg), some (modW sg a b), some (.ref m), w5, w6, w7, some (.str t), some (.int (s : Int)), some (.ref u), w11, w12, w13]) L') :
    wp (exS (Cd (d + 4)) T3 [w0, some (.ref l), some (.str sg), some (modW sg a b), some (.ref m), w5, w6, w7, some (.str t), some (.int (s : Int)), some (.ref u), w11, w12, w13]) L F E := by
  have T := h.mo.tabl
  have lo4 : lenOk 4 = true := by decide
  simp only [T3, wp_ifs, wp_tnt, wp_tval, wp_call, wp_lst, wp_es_cons, wp_es_nil, wp_var, wp_ki, List.getElem?_cons_zero, List.getElem?_cons_succ, List.append_nil]
  rw [c_law_led]
  show wp (runD (Cd (d + 3)) f_law_led [modW sg a b, .int (s : Int), .str t]) L _ _
  refine law_led_ok T h.mo.ra hs (wordB_iff.mp ht) (by omega) ?_
  rw [c_law_led]
  show wp (runD (Cd (d + 3)) f_law_led [modW sg a b, .int ((0 : Nat) : Int), .str t]) L _ _
  refine law_led_ok T h.mo.ra (by have := T.one; omega) (wordB_iff.mp ht) (by omega) ?_
  show wp (runD (Cd (d + 3)) f_law_led [modW sg a b, .int (s : Int), .str t]) L _ _
  refine law_led_ok T h.mo.ra hs (wordB_iff.mp ht) (by omega) ?_
  rw [c_law_has]
  show wp (runD (Cd (d + 3)) f_law_has [modW sg a b, .str t]) L _ _
  refine has_ok (d := d + 2) h.mo ht (by omega) ?_
  simp only [List.length_cons, List.length_nil, lo4, if_true]
  rw [c_law_same]
  have k1 : Ext L (L ++ [.lst (toldWs ((ledN rows sg s t : Nat) : Int) ((ledN rows sg 0 t : Nat) : Int) (decide (ledN rows sg 0 t ∈ good)))]) := Ext.app _
  have sm : SameR (L ++ [.lst (toldWs ((ledN rows sg s t : Nat) : Int) ((ledN rows sg 0 t : Nat) : Int) (decide (ledN rows sg 0 t ∈ good)))]) 2 (.ref u) (.ref L.length) := .lst (k1 _ _ hu) get_new rfl (fun i v w e1 e2 => by
    rw [e1] at e2
    cases e2
    rcases i with _ | _ | _ | _ | i
    · cases e1; exact .int _
    · cases e1; exact .int _
    · cases e1; exact .int _
    · cases e1; exact .bl _
    · simp [toldWs] at e1) (by simp [toldWs])
  show wp (runD (Cd (d + 3)) f_law_same [.ref u, .ref L.length]) _ _ _
  refine same_ok sm (d + 3) _ _ _ (Ext.refl _) (by omega) fun L2 k2 => ?_
  simp
  exact hq _ (k1.trans k2)
theorem t4_ok (h : St L l c is sg 8 rows good a b m) (hz : t.length ≤ 30) (hq : ∀ L' k, St L' l c is sg 8 rows good a b m → k ≤ t.length → F (.nx, [w0, some (.ref l), some (.str sg), some (modW sg a b), some (.ref m), w5, w6, w7, some (.str t), w9, w10, some (.int ((k : Nat) : Int)), w12, w13]) L') :
    wp (exS (Cd (d + 1)) T4 [w0, some (.ref l), some (.str sg), some (modW sg a b), some (.ref m), w5, w6, w7, some (.str t), w9, w10, w11, w12, w13]) L F E := by
  simp only [T4, wp_asg, wp_call, wp_bin, wp_bi, wp_es_cons, wp_es_nil, wp_var, wp_ki, List.getElem?_cons_zero, List.getElem?_cons_succ, List.append_nil, len_txt (t := t) (by omega), wp_addI]
  obtain ⟨R, eR⟩ : ∃ R : Int, (t.length : Int) + 1 = R := ⟨_, rfl⟩
  rw [eR]
  refine cpickI h.mo.hd (by omega) (by omega) fun r k L2 hr hk h2 k2 => ?_
  subst hr
  simp only [wp_gnm, List.set_cons_succ, List.set_cons_zero]
  exact hq L2 k (h.kp h2 k2) (by omega)
/-- what is no word, and told as data -/
inductive Bent (L : Hh) (sg : Txt) (l : Nat) : W → Prop
  | str {t : Txt} (h : wordB sg t = false) (hz : t.length < 1000) (ho : okT t = true) : Bent L sg l (.str t)
  | non : Bent L sg l .non
  | int (i : Int) : Bent L sg l (.int i)
  | t1 {x : Txt} (ho : okT x = true) : Bent L sg l (.tup [.str x])
  | l1 {z : Nat} {x : Txt} (n : z ≠ l) (e : L[z]? = some (.lst [.str x])) (ho : okT x = true) : Bent L sg l (.ref z)
theorem Bent.kp {L' : Hh} {w : W} (h : Bent L sg l w) (k : Keep l L L') : Bent L' sg l w := by
  cases h with
  | str h1 h2 h3 => exact .str h1 h2 h3
  | non => exact .non
  | int i => exact .int i
  | t1 h => exact .t1 h
  | l1 n e h => exact .l1 n (k _ _ n e) h
theorem Bent.bad {w : W} (h : Bent L sg l w) : BadW L sg w := by
  cases h with
  | str h1 h2 h3 => exact .inl ⟨_, rfl, h1, h2⟩
  | non => exact .inr ⟨"NoneType", rfl, by decide⟩
  | int i => exact .inr ⟨"int", rfl, by decide⟩
  | t1 h => exact .inr ⟨"tuple", rfl, by decide⟩
  | l1 n e h => exact .inr ⟨"list", by simp only [typeNm]; rw [e], by decide⟩
theorem Bent.dat {w : W} (h : Bent L sg l w) : ∃ dd, Dat L w dd := by
  cases h with
  | str h1 h2 h3 => exact ⟨_, dat_str h3⟩
  | non => exact ⟨_, dat_non⟩
  | int i => exact ⟨_, dat_int i⟩
  | t1 h => exact ⟨_, dat_t1s h⟩
  | l1 n e h => exact ⟨_, dat_l1s e h⟩
theorem cut_mem {lo hi : Option Int} {y : Nat} (h : y ∈ cutL t lo hi) : y ∈ t := List.mem_of_mem_drop (List.mem_of_mem_take h)
theorem cut_len {lo hi : Option Int} : (cutL t lo hi).length ≤ t.length := by
  unfold cutL
  rw [List.length_take, List.length_drop]
  omega
theorem slice_txt {lo hi : Option Int} (h : t.length < 1000) : wp (sliceOf (.str t) lo hi) L Q E = Q (.str (cutL t lo hi)) L := by
  have lo' : lenOk t.length = true := by unfold lenOk; rw [decide_eq_true_eq, sizeLine_eq]; omega
  show wp (if lenOk t.length = true then ret (.str (cutL t lo hi)) else fail) L Q E = _
  rw [if_pos lo']
  rfl
theorem add_txt {p q : Txt} (h : p.length + q.length < 1000) : wp (binop .add (.str p) (.str q)) L Q E = Q (.str (p ++ q)) L := by
  have lo' : lenOk (p.length + q.length) = true := by unfold lenOk; rw [decide_eq_true_eq, sizeLine_eq]; omega
  rw [wp_addS, if_pos lo']
theorem ok_of {p : Txt} (h : ∀ y ∈ p, y < 0x110000) : okT p = true := okT_of h
theorem bent_str {p q : Txt} {x : Nat} (hx : x ∉ sg) (hl : x < 128) (h1 : ∀ y ∈ p, y ∈ t) (h2 : ∀ y ∈ q, y ∈ t) (ht : ∀ y ∈ t, y < 0x110000) (z1 : p.length ≤ 30) (z2 : q.length ≤ 30) : Bent L sg l (.str (p ++ [x] ++ q)) := by
  refine .str ?_ (by simp; omega) (ok_of fun y hy => ?_)
  · cases e : wordB sg (p ++ [x] ++ q) with
    | false => rfl
    | true => exact absurd (wordB_iff.mp e x (by simp)) hx
  · simp at hy
    rcases hy with hy | hy | hy
    · exact ht y (h1 y hy)
    · omega
    · exact ht y (h2 y hy)
theorem t5_ok {k : Nat} (h : St L l c is sg 8 rows good a b m) (hx : x ∉ sg) (hxl : x < 128) (ht : wordB sg t = true) (hz : t.length ≤ 30) (hq : ∀ L' w, St L' l c is sg 8 rows good a b m → Bent L' sg l w → F (.nx, [w0, some (.ref l), some (.str sg), some (modW sg a b), some (.ref m), some (.str [x]), w6, w7, some (.str t), w9, w10, some (.int ((k : Nat) : Int)), some w, w13]) L') :
    wp (exS (Cd (d + 2)) T5 [w0, some (.ref l), some (.str sg), some (modW sg a b), some (.ref m), some (.str [x]), w6, w7, some (.str t), w9, w10, some (.int ((k : Nat) : Int)), w12, w13]) L F E := by
  have hs := isA_small h.mo.al
  have slt := isA_lt h.mo.al
  have tlt : ∀ y ∈ t, y < 0x110000 := fun y hy => slt y (wordB_iff.mp ht y hy)
  have lo1 : lenOk 1 = true := by decide
  have lo6 : lenOk 6 = true := by decide
  have c1 : ∀ {lo hi : Option Int}, (cutL t lo hi).length ≤ 30 := fun {lo hi} => Nat.le_trans cut_len hz
  obtain ⟨K, eK⟩ : ∃ K : Int, (k : Int) = K := ⟨_, rfl⟩
  rw [eK] at hq ⊢
  have a1 : ∀ y : Nat, (cutL t none (some K)).length + ([y] : Txt).length < 1000 := fun y => by have := c1 (lo := none) (hi := some K); simp; omega
  have a2 : ∀ y : Nat, (cutL t none (some K) ++ [y]).length + (cutL t (some K) none).length < 1000 := fun y => by have := c1 (lo := none) (hi := some K); have := c1 (lo := some K) (hi := none); simp; omega
  obtain ⟨s0, hs0⟩ : ∃ s0, sg[0]? = some s0 := ⟨_, List.getElem?_eq_getElem (by omega)⟩
  have los : lenOk sg.length = true := by unfold lenOk; rw [decide_eq_true_eq, sizeLine_eq]; omega
  have i0 : ∀ {L : Hh} {Q E : RQ}, wp (itemAt (.str sg) (.int 0)) L Q E = Q (.str [s0]) L := fun {L Q E} => by
    show wp (itemAt (.str sg) (.int ((0 : Nat) : Int))) L Q E = _
    rw [wp_itemS, if_pos los, atI_ofNat sg 0 (by omega), hs0]
  have s0lt : okT [s0] = true := ok_of fun y hy => by
    simp at hy
    rw [hy]
    exact slt s0 (List.mem_of_getElem? hs0)
  have hl := hand_lt h.mo.hd
  simp only [T5, wp_asg, wp_call, wp_lst, wp_es_cons, wp_es_nil, wp_bin, wp_slc, wp_var, wp_ki, wp_ks, wp_kn, wp_tup, wp_sub, wp_o_none, wp_o_some, List.getElem?_cons_zero, List.getElem?_cons_succ, List.append_nil, slice_txt (t := t) (by omega), add_txt (a1 _), add_txt (a2 _), i0, List.length_cons, List.length_nil, Nat.zero_add, lo1, if_true]
  simp only [List.length_cons, List.length_nil, Nat.reduceAdd, lo6, if_true]
  have k1 : Ext L ((L ++ [.lst [.str [s0]]]) ++ [.lst [.str (cutL t none (some K) ++ [x] ++ cutL t (some K) none), .str (cutL t none (some K) ++ [63] ++ cutL t (some K) none), .non, .int 3, .tup [.str [97]], .ref L.length]]) := (Ext.app _).trans (Ext.app _)
  refine lof_lst (hand_ext h.mo.hd k1) get_new (by simp; omega) (by simp) (by simp) fun w L2 hw h2 k2 => ?_
  have s2 : St L2 l c is sg 8 rows good a b m := (h.ext k1).kp h2 k2
  simp only [wp_gnm, List.set_cons_succ, List.set_cons_zero]
  refine hq L2 w s2 ?_
  simp only [List.mem_cons, List.not_mem_nil, or_false] at hw
  rcases hw with rfl | rfl | rfl | rfl | rfl | rfl
  · exact bent_str hx hxl (fun y => cut_mem) (fun y => cut_mem) tlt c1 c1
  · refine bent_str (fun z => ?_) (by omega) (fun y => cut_mem) (fun y => cut_mem) tlt c1 c1
    have := hs.1 63 z
    simp at this
  · exact .non
  · exact .int 3
  · exact .t1 (by decide)
  · exact .l1 (by omega) (k2 _ _ (by omega) (Ext.app _ _ _ get_new)) s0lt
end
end Q

set_option maxRecDepth 100000
set_option maxHeartbeats 4000000
/-! K04c: the errors; the plain law. -/
namespace Q
open PySem Dx
/-- what is no state, and told as data -/
inductive Odd (n : Nat) : W → Prop
  | int {i : Int} (h : ¬ (0 ≤ i ∧ i ≤ (n : Int) - 1)) : Odd n (.int i)
  | bl (b : Bool) : Odd n (.bl b)
  | non : Odd n .non
  | str {x : Txt} (ho : okT x = true) : Odd n (.str x)
  | t1 (i : Int) : Odd n (.tup [.int i])
theorem Odd.odds {L : Hh} {n : Nat} {w : W} (h : Odd n w) : OddS L n w := by
  cases h with
  | int h => exact .inl ⟨_, rfl, h⟩
  | bl b => exact .inr ⟨"bool", rfl, by decide⟩
  | non => exact .inr ⟨"NoneType", rfl, by decide⟩
  | str h => exact .inr ⟨"str", rfl, by decide⟩
  | t1 i => exact .inr ⟨"tuple", rfl, by decide⟩
theorem Odd.dat {L : Hh} {n : Nat} {w : W} (h : Odd n w) : ∃ dd, Dat L w dd := by
  cases h with
  | int h => exact ⟨_, dat_int _⟩
  | bl b => exact ⟨_, dat_bl b⟩
  | non => exact ⟨_, dat_non⟩
  | str h => exact ⟨_, dat_str h⟩
  | t1 i => exact ⟨_, dat_t1i⟩
section
variable {L : Hh} {Q E : RQ} {F : FQ} {C : Dx.Env} {d l c a b m : Nat} {is : List Int} {sg t : Txt} {rows : List (List Nat)} {good : List Nat} {x s : Nat} {w : W} {w0 w2 w3 w4 w5 w6 w7 w8 w9 w10 w11 w12 w13 : Option W}
theorem lamE_eq {e : Nat} {ρ : Fr} {y : Ex} : (Cd (e + 2)).lamE ρ y = evE (Cd e) ρ y := rfl
def eW : Ex := (.mcall M_behind (.var 4) [(.var 12)] [(.var 9)])
theorem eW_ok {ρ : Fr} {dd : Nat} (h4 : ρ[4]? = some (some (.ref m))) (h12 : ρ[12]? = some (some w)) (h9 : ρ[9]? = some (some (.int (s : Int)))) (g : L[m]? = some (macO sg rows good)) (hs : s < rows.length) (hw : BadW L sg w) (hq : ∀ L', Ext L L' → E (.exn X_InvalidWord [w]) L') : wp (evE (Cd (d + 4)) ρ eW) L Q E := by
  simp only [eW, wp_mcall, wp_var, h4, h12, h9, clsM g, Option.bind_some, mt_Machine_behind, wp_es_cons, wp_es_nil, List.append_nil, List.cons_append, List.nil_append]
  rw [c_Machine_behind]
  show wp (runD (Cd (d + 3)) f_Machine_behind [.ref m, w, .int (s : Int)]) L _ _
  exact beh_noW g hs hw hq
theorem t6_ok (h : St L l c is sg 8 rows good a b m) (hb : Bent L sg l w) (hs : s < rows.length) (hq : ∀ L', Ext L L' → F (.nx, [w0, some (.ref l), some (.str sg), some (modW sg a b), some (.ref m), w5, w6, w7, w8, some (.int (s : Int)), w10, w11, some w, w13]) L') :
    wp (exS (Cd (d + 6)) T6 [w0, some (.ref l), some (.str sg), some (modW sg a b), some (.ref m), w5, w6, w7, w8, some (.int (s : Int)), w10, w11, some w, w13]) L F E := by
  have g0 := h.gm
  have lo2 : lenOk 2 = true := by decide
  have ok11 : okT [73, 110, 118, 97, 108, 105, 100, 87, 111, 114, 100] = true := by decide
  show wp (exS (Cd (d + 6)) (.ifs (.any [(.bv (.cmp .inn (.var 12) (.var 4))), (.bv (.cmp .ne (.why eW) (.tup [(.ks [73, 110, 118, 97, 108, 105, 100, 87, 111, 114, 100]), (.var 12)])))]) [.rtn (.kb false)] []) _) L F E
  simp only [wp_ifs, wp_tany, wp_to_cons, wp_to_nil, wp_tbv, wp_cmp, wp_var, List.getElem?_cons_zero, List.getElem?_cons_succ]
  refine m_in (d := d + 3) g0 (fun Q E hq => con_no g0 hb.bad hq) fun L1 k1 => ?_
  have g1 := k1 _ _ g0
  have b1 := hb.kp k1.kp
  simp only [Bool.false_eq_true, if_false]
  rw [wp_why, lamE_eq]
  refine eW_ok (d := d) (dd := 0) rfl rfl rfl g1 hs b1.bad fun L2 k2 => ?_
  obtain ⟨dd, hd⟩ := (b1.kp k2.kp).dat
  simp only [whyW_exn, tag_InvalidWord, List.headD_cons, wp_tup, wp_es_cons, wp_es_nil, wp_ks, wp_var, List.getElem?_cons_zero, List.getElem?_cons_succ, List.length_cons, List.length_nil, Nat.zero_add, Nat.reduceAdd, lo2, if_true]
  refine neT_self ok11 hd ?_
  simp only [Bool.false_eq_true, if_false, wp_ss_nil]
  exact hq _ (k1.trans k2)
theorem t7_ok (h : St L l c is sg 8 rows good a b m) (hq : ∀ L' y, St L' l c is sg 8 rows good a b m → Keep l L L' → Odd rows.length y → F (.nx, [w0, some (.ref l), some (.str sg), some (modW sg a b), some (.ref m), w5, w6, w7, w8, w9, w10, w11, w12, some y]) L') :
    wp (exS (Cd (d + 2)) T7 [w0, some (.ref l), some (.str sg), some (modW sg a b), some (.ref m), w5, w6, w7, w8, w9, w10, w11, w12, w13]) L F E := by
  have lo1 : lenOk 1 = true := by decide
  have lo7 : lenOk 7 = true := by decide
  have h8 := h.mo.dr.most
  have hl := hand_lt h.mo.hd
  have pw : ∀ {L : Hh} {Q E : RQ}, wp (binop .pow (.int 10) (.int 20)) L Q E = Q (.int (10 ^ 20)) L := fun {L Q E} => by
    rw [wp_powI, if_pos (by decide)]
    rfl
  simp only [T7, wp_asg, wp_call, wp_lst, wp_es_cons, wp_es_nil, wp_bin, wp_neg, wp_kb, wp_kn, wp_ki, wp_ks, wp_tup, wp_bi, wp_sub, wp_var, List.getElem?_cons_zero, List.getElem?_cons_succ, List.append_nil, mod_1, len_tW h.mo.ra, pw, List.length_cons, List.length_nil, Nat.zero_add, Nat.reduceAdd, lo1, lo7, if_true]
  refine lof_lst (hand_ext h.mo.hd (Ext.app _)) get_new (by omega) (by simp) (by simp) fun y L2 hy h2 k2 => ?_
  simp only [wp_gnm, List.set_cons_succ, List.set_cons_zero]
  refine hq L2 y ((h.ext (Ext.app _)).kp h2 k2) ((Keep.app _).trans k2) ?_
  simp only [List.mem_cons, List.not_mem_nil, or_false] at hy
  rcases hy with rfl | rfl | rfl | rfl | rfl | rfl | rfl
  · exact .int (by omega)
  · exact .int (by omega)
  · exact .bl true
  · exact .non
  · exact .str (by decide)
  · exact .int (by omega)
  · exact .t1 0
def eS : Ex := (.mcall M_behind (.var 4) [(.call n_law_of [(.var 1), (.lst [(.var 8), (.var 12)])] [])] [(.var 13)])
theorem eS_ok {ρ : Fr} {y z w : W} (h : St L l c is sg 8 rows good a b m) (h1 : ρ[1]? = some (some (.ref l))) (h4 : ρ[4]? = some (some (.ref m))) (h8 : ρ[8]? = some (some y)) (h12 : ρ[12]? = some (some z)) (h13 : ρ[13]? = some (some w)) (ho : Odd rows.length w)
    (hq : ∀ L', St L' l c is sg 8 rows good a b m → E (.exn X_InvalidState [w]) L') : wp (evE (Cd (d + 4)) ρ eS) L Q E := by
  have lo2 : lenOk 2 = true := by decide
  have hl := hand_lt h.mo.hd
  simp only [eS, wp_mcall, wp_var, h1, h4, h8, h12, h13, clsM h.gm, Option.bind_some, mt_Machine_behind, wp_es_cons, wp_es_nil, wp_call, wp_lst, List.append_nil, List.cons_append, List.nil_append, List.length_cons, List.length_nil, Nat.zero_add, Nat.reduceAdd, lo2, if_true]
  refine lof_lst (d := d + 2) (hand_ext h.mo.hd (Ext.app _)) get_new (by omega) (by simp) (by simp) fun v L2 hv h2 k2 => ?_
  have s2 := (h.ext (Ext.app _)).kp h2 k2
  rw [c_Machine_behind]
  show wp (runD (Cd (d + 3)) f_Machine_behind [.ref m, v, w]) L2 _ _
  exact beh_noS s2.gm ho.odds (hq L2 s2)
theorem t8_ok {y z : W} (h : St L l c is sg 8 rows good a b m) (ho : Odd rows.length w) (hq : ∀ L', St L' l c is sg 8 rows good a b m → F (.nx, [w0, some (.ref l), some (.str sg), some (modW sg a b), some (.ref m), w5, w6, w7, some y, w9, w10, w11, some z, some w]) L') :
    wp (exS (Cd (d + 6)) T8 [w0, some (.ref l), some (.str sg), some (modW sg a b), some (.ref m), w5, w6, w7, some y, w9, w10, w11, some z, some w]) L F E := by
  have lo2 : lenOk 2 = true := by decide
  have ok12 : okT [73, 110, 118, 97, 108, 105, 100, 83, 116, 97, 116, 101] = true := by decide
  show wp (exS (Cd (d + 6)) (.ifs (.bv (.cmp .ne (.why eS) (.tup [(.ks [73, 110, 118, 97, 108, 105, 100, 83, 116, 97, 116, 101]), (.var 13)]))) [.rtn (.kb false)] []) _) L F E
  simp only [wp_ifs, wp_tbv, wp_cmp]
  rw [wp_why, lamE_eq]
  refine eS_ok (d := d) h rfl rfl rfl rfl rfl ho fun L2 s2 => ?_
  obtain ⟨dd, hd⟩ := ho.dat (L := L2)
  simp only [whyW_exn, tag_InvalidState, List.headD_cons, wp_tup, wp_es_cons, wp_es_nil, wp_ks, wp_var, List.getElem?_cons_zero, List.getElem?_cons_succ, List.length_cons, List.length_nil, Nat.zero_add, Nat.reduceAdd, lo2, if_true]
  refine neT_self ok12 hd ?_
  simp only [Bool.false_eq_true, if_false, wp_ss_nil]
  exact hq _ s2
theorem turn_ok (h : St L l c is sg 8 rows good a b m) (hx : x ∉ sg) (hxl : x < 128) (hq : ∀ L' b6 b7 b8 b9 b10 b11 b12 b13, St L' l c is sg 8 rows good a b m → F (.nx, [w0, some (.ref l), some (.str sg), some (modW sg a b), some (.ref m), some (.str [x]), b6, b7, b8, b9, b10, b11, b12, b13]) L') :
    wp (exSs (Cd (d + 6)) [T1, T2, T3, T4, T5, T6, T7, T8] [w0, some (.ref l), some (.str sg), some (modW sg a b), some (.ref m), some (.str [x]), w6, w7, w8, w9, w10, w11, w12, w13]) L F E := by
  rw [wp_ss_cons]
  refine t1_ok (d := d + 3) h fun L1 t s s1 ht hz hs => ?_
  rw [thenS_nx, wp_ss_cons]
  refine t2_ok (d := d + 2) s1 ht hz hs fun L2 u k2 hu => ?_
  rw [thenS_nx, wp_ss_cons]
  refine t3_ok (d := d + 2) (s1.ext k2) ht hz hs hu fun L3 k3 => ?_
  rw [thenS_nx, wp_ss_cons]
  refine t4_ok (d := d + 5) ((s1.ext k2).ext k3) hz fun L4 k s4 hk => ?_
  rw [thenS_nx, wp_ss_cons]
  refine t5_ok (d := d + 4) s4 hx hxl ht hz fun L5 w s5 hb => ?_
  rw [thenS_nx, wp_ss_cons]
  refine t6_ok (d := d) s5 hb hs fun L6 k6 => ?_
  rw [thenS_nx, wp_ss_cons]
  refine t7_ok (d := d + 4) (s5.ext k6) fun L7 y s7 k7 ho => ?_
  rw [thenS_nx, wp_ss_cons]
  refine t8_ok (d := d) s7 ho fun L8 s8 => ?_
  rw [thenS_nx, wp_ss_nil]
  exact hq _ _ _ _ _ _ _ _ _ s8
theorem tail_ok (h : St L l c is sg 8 rows good a b m) (hq : ∀ L' ρ, F (.rt (.bl true), ρ) L') : wp (exS (Cd (d + 4)) TL [w0, some (.ref l), some (.str sg), some (modW sg a b), some (.ref m), w5, w6, w7, w8, w9, w10, w11, w12, w13]) L F E := by
  have T := h.mo.tabl
  have g0 := h.gm
  have w0' : wordB sg [] = true := rfl
  have e0 : ledN rows sg 0 [] = 0 := rfl
  simp only [TL, wp_rtn, wp_band, wp_and2, wp_and1, wp_cmp, wp_mcall, wp_var, wp_ks, wp_ki, wp_sub, List.getElem?_cons_zero, List.getElem?_cons_succ, clsM g0, Option.bind_some, mt_Machine_behind_1, wp_es_cons, wp_es_nil, List.append_nil, List.cons_append, List.nil_append]
  rw [c_Machine_behind_2]
  show wp (runD (Cd (d + 3)) f_Machine_behind [.ref m, .str [], .int ((0 : Nat) : Int)]) L _ _
  refine beh_ok g0 T (by have := T.one; omega) w0' (by simp) fun L1 k1 => ?_
  have s1 := h.ext k1
  rw [e0, wpX_eq, clsOf_int, Option.isSome_none, if_neg Bool.false_ne_true, wp_eqI]
  simp only [Int.ofNat_zero, decide_true]
  refine m_in (d := d + 1) s1.gm (fun Q E hq => con_ok s1.gm T w0' (by simp) hq) fun L2 k2 => ?_
  have s2 := s1.ext k2
  rw [mod_2, wpX_inn, clsOf_ref, s2.mo.rb]
  dsimp only
  rw [Option.isSome_none, if_neg Bool.false_ne_true]
  show wp (cmpop .inn (.int ((0 : Nat) : Int)) (.ref b)) L2 _ _
  rw [wp_innL s2.mo.rb, wpX_eq, clsOf_bl, Option.isSome_none, if_neg Bool.false_ne_true, wp_eqB, e0]
  simp only [beq_self_eq_true]
  exact hq _ _
theorem plain : Plain := by
  intro ns hn
  rw [law_eq]
  refine wp_runD (by simp) ?_
  simp [-wp_ss_cons]
  rw [wp_ss_cons]
  simp [c_law_hand, arrW, hand_eq, -wp_ss_cons]
  refine hand_ok fun l c is L1 h1 _ => ?_
  rw [wp_ss_cons]
  refine a2_ok (d := 38) h1 fun sg L2 ha h2 => ?_
  rw [thenS_nx, wp_ss_cons]
  refine a3_ok (d := 38) h2 ha fun L3 rows good a b h3 => ?_
  rw [thenS_nx, wp_ss_cons]
  refine a4_ok (d := 34) h3 fun L4 m s4 => ?_
  rw [thenS_nx, wp_ss_cons]
  refine a5_ok s4 fun L5 x s5 hx hxl => ?_
  rw [thenS_nx, wp_ss_cons]
  have s8 : smallR 8 = true := by decide
  simp [s8, -wp_ss_cons]
  refine loopF_inv (n := 8) (fun i ρ L' => St L' l c is sg 8 rows good a b m ∧ ∃ a0 a6 a7 a8 a9 a10 a11 a12 a13 : Option W, ρ = [a0, some (.ref l), some (.str sg), some (modW sg a b), some (.ref m), some (.str [x]), a6, a7, a8, a9, a10, a11, a12, a13]) (fun i ρ L' hi ⟨h, a0, a6, a7, a8, a9, a10, a11, a12, a13, e⟩ => ?_) (fun ρ L' ⟨h, a0, a6, a7, a8, a9, a10, a11, a12, a13, e⟩ => ?_) _ 0 _ _ (lt_fuel (by omega)) (Nat.zero_le _) ⟨s5, _, _, _, _, _, _, _, _, _, rfl⟩
  · subst e
    refine ⟨.int i, by simp [srcAt, hi], ?_⟩
    rw [wp_gnm]
    simp only [List.set_cons_succ, List.set_cons_zero]
    refine turn_ok (d := 34) h hx hxl fun L2 b6 b7 b8 b9 b10 b11 b12 b13 h2 => ?_
    exact ⟨h2, _, _, _, _, _, _, _, _, _, rfl⟩
  · subst e
    refine ⟨by simp [srcAt], ?_⟩
    rw [thenS_nx, wp_ss_cons]
    refine tail_ok (d := 36) h fun L2 ρ2 => ?_
    rw [thenS_rt]
    rfl
end
theorem k04_holds : PySem.W.OpenLaw.Holds PySem.Challenge.rw_lastkept_k04_words_read := holds_of plain
end Q

theorem PySem.Challenge.cw_lastkept_k04_words_read_holds : PySem.Challenge.rw_lastkept_k04_words_read.Holds :=
  Q.k04_holds
